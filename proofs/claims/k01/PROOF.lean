import PyProof.Rows.All
import Wide.All
import OpenK.AllK
import Wide.FinOn
import HandS.ForMost
import HandS.Exc
import HandS.ExcOwn
import HandS.WordsExc
import HandS.Property
import HandS.TupAny
import HandS.Deep
import HandS.IsInst
import HandS.ReCall
import HandS.Lambda
import HandS.Flow
import HandS.Style
import KE.KSortTupG
import HandS.RaiseMore
import KE.KExcIs
import HandS.TryOnly
import HandS.EndBits
import HandS.Strs
import HandS.Defaults
import PyProof.Rows.ListMulArg
import HandS.TupMul
import KE.KRevSl
import HandS.More
import PyProof.InstNe
import HandS.SetFor
import PyProof.Rows.SortShellAny
import KE.KExcInit
import KE.KTryMore
import KE.KStateDown
import HandS.Head0
import HandS.Head1
import HandS.Head2
import HandS.HeadHook1
import HandS.HeadHook2
import HandS.EndTab
import PyProof.ListStr
import HandS.Conv
import PyProof.StrBlock2
import PyProof.NeKinds
import PyProof.Rows.CountFlat
import PyProof.EqKinds
import HandS.Text
import HandS.ClsMeth
import HandS.HeadNt
import KE.KCallOwn
import PyProof.Conv_bool
import HandS.OwnEq
import HandS.ExcValue
import PySem.Challenge.RW_switchhills_k01_limits_and_errors
set_option Elab.async false
set_option linter.all false
set_option maxRecDepth 100000
set_option maxHeartbeats 4000000
/-! The data layer, part 0: new tuples whose object is known to have no dict of its own (so that their methods may be called). -/
namespace DL
open PySem L2 PyProof.Rows
/-- a tuple without a dict of its own: known, or of the module -/
def TpT (K : PySem.W.Frag) (H : Hp) (a : Addr) (xs : List V) : Prop := (∃ o, H a = some (.frz o (.tup xs)) ∧ o.dict = none) ∨
  ∃ (o : Obj) (its : Array Value) (n : Nat), K.lookup a = some o ∧ o.cls = .type "tuple" ∧ o.dict = none ∧ o.data = .seq its n ∧ its.size ≤ sizeLine ∧ Vals xs its.toList
theorem TpT.sqt {K : PySem.W.Frag} {H : Hp} {a : Addr} {xs : List V} (h : TpT K H a xs) : SqT K H a xs := by
  rcases h with ⟨o, e, _⟩ | ⟨o, its, n, e, c, _, d, z, r⟩
  · exact .inl (.inr ⟨o, e⟩)
  · exact .inr ⟨o, its, n, e, c, d, z, r⟩
theorem tpT_sub {K : PySem.W.Frag} {H H' : Hp} {a : Addr} {xs : List V} (k : ∀ a o, H a = some o → H' a = some o) (h : TpT K H a xs) : TpT K H' a xs := h.imp (fun ⟨o, e, d⟩ => ⟨o, k _ _ e, d⟩) id
section
variable {X : Cx} {es : List Expr} {t : TA} {pos : Pos}
/-- a new tuple at p -/
abbrev NewT (H : Hp) (xs : List V) (Q : VK) : Prop := ∀ p o, H p = none → o.dict = none → Q (.ref p) (upd H p (.frz o (.tup xs)))
theorem laidT {pins : List (Addr × Obj)} {σ : L2.St} {H : Hp} {s : Shared} {xs : List V} {its : List Value} {Q : VK} (I : Inv X pins σ H s) (r : Vals xs its) (hz : xs.length ≤ sizeLine) (q : NewT H xs Q) :
    EP X pins σ Q (.ref s.heap.objs.size) { s with heap := s.heap.push { cls := .type "tuple", data := .seq its.toArray } } :=
  ⟨.ref s.heap.objs.size, _, I.laid (t' := s.toks) (o := .frz { cls := .type "tuple", data := .seq its.toArray } (.tup xs)) (fun _ _ q => Heap.get?_push_of_some _ q) (Nat.le_refl _)
    ⟨Heap.get?_push_size _ rfl, hz, its, r, IsTup.new _ _⟩, rfl, q _ _ (I.hok.fresh (Nat.le_refl _)) rfl⟩
def tTupF (t : TA) : TE := fun σ H Q => t σ H fun xs H1 => xs.length ≤ sizeLine ∧ NewT H1 xs Q
theorem pe_tupF {x1} (h : PA X es t) : PE X (.Tuple es x1 pos) (tTupF t) := by
  refine ⟨fun pins s σ H Q I hq => ?_⟩
  exact wpAny_Tuple_spliced (thn (h.run pos pins s σ H _ I hq) fun us s1 ⟨xs, H1, I1, r, z, q⟩ => ⟨by rw [← r.length]; exact z, laidT I1 r z q⟩)
def rCatF (K : PySem.W.Frag) : R2 := fun x y H Q => ∃ a b xs ys, x = .ref a ∧ y = .ref b ∧ SqT K H a xs ∧ SqT K H b ys ∧ xs.length + ys.length ≤ sizeLine ∧
  (xs = [] → Q (.ref b) H) ∧ (xs ≠ [] → ys = [] → Q (.ref a) H) ∧ (xs ≠ [] → ys ≠ [] → NewT H (xs ++ ys) Q)
theorem op_catF : OpR X (binaryOp .Add) (rCatF X.K) := by
  intro pins s σ H x y v u Q I rx ry h
  obtain ⟨a, b, xs, ys, rfl, rfl, ha, hb, hz, q0, q1, q2⟩ := h
  by_cases hx : xs = []
  · subst hx
    exact op_catA pins s σ H _ _ v u Q I rx ry ⟨a, b, [], ys, rfl, rfl, ha, hb, hz, q0, fun z => absurd rfl z, fun z => absurd rfl z⟩
  · cases rx
    cases ry
    obtain ⟨its, r1, p1, _⟩ := I.tuple ha
    obtain ⟨its2, r2, p2, _⟩ := I.tuple hb
    refine HT.cat_tup p1 p2 (fun z => hx (r1.nil_iff.mp z)) (fun z => ⟨.ref a, H, I, rfl, q1 hx (r2.nil_iff.mp z)⟩) (fun z => ?_) (by rw [← r1.length, ← r2.length]; exact hz)
    exact laidT I (r1.append r2) (by rw [List.length_append]; exact hz) (q2 hx fun w => z (r2.nil_iff.mpr w))
def rSlF (K : PySem.W.Frag) : V → Option Int → Option Int → Hp → VK → Prop := fun x lo hi H Q => ∃ a xs, x = .ref a ∧ SqT K H a xs ∧
  (HT.sIx xs.length 0 lo = 0 ∧ HT.sIx xs.length xs.length hi = xs.length → Q (.ref a) H) ∧ (¬ (HT.sIx xs.length 0 lo = 0 ∧ HT.sIx xs.length xs.length hi = xs.length) → NewT H (cutV xs lo hi) Q)
theorem sl_tupF : SlR X (rSlF X.K) := by
  intro pins s σ H x v vl vu lo hi sl Q I rx hs pl pu h
  obtain ⟨a, xs, rfl, hx, q1, q2⟩ := h
  by_cases hw : HT.sIx xs.length 0 lo = 0 ∧ HT.sIx xs.length xs.length hi = xs.length
  · exact sl_tupA pins s σ H _ v vl vu lo hi sl Q I rx hs pl pu ⟨a, xs, rfl, hx, q1, fun z => absurd hw z⟩
  · cases rx
    obtain ⟨its, r, ht, hz⟩ := I.tuple hx
    have hlen : its.toArray.size = xs.length := by rw [List.size_toArray]; exact r.length.symm
    refine ⟨"tuple", _, PyProof.Rows.slot_tuple_getitem.lookup, ht.typeIs, ?_⟩
    refine HT.getItem_tuple_cut ht hs pl pu (by rw [hlen]; exact hw) ?_ (by rw [hlen]; exact hz)
    rw [hlen]
    exact laidT I ((r.drop (HT.sIx xs.length 0 lo)).take (HT.sIx xs.length xs.length hi - HT.sIx xs.length 0 lo)) (Nat.le_trans (cutV_length xs lo hi) hz) (q2 hw)
end
end DL
/-! The data layer, part 1: data, worlds, frames, readings. -/
namespace DL
open PySem L2

/-- plain data, as a program that shares nothing sees it -/
inductive D where
  | non | bl (b : Bool) | int (i : Int) | str (s : Str)
  | tup (ds : List D) | lst (ds : List D)
  | dic (ks : List Key) (ds : List D)
  | obj (c : Nat) (ds : List D)
  | exc (c : Nat) (ds : List D)
  | jar

/-- what is fixed: the written part, the own classes' addresses and attributes -/
structure Gm where
  K : PySem.W.Frag
  pw : World
  cls : Nat → Addr
  fld : Nat → List Str
  tb : List (Addr × Str) := []

/-- a world: what of the heap is frozen; what changes outside of the frames (jr): the jars (ja), the tables of code objects (tb: the table, the name that its code objects bear) -/
structure Wd where
  hd : Hp
  jr : Addr → Prop
  ja : Addr → Prop
  tb : List (Addr × Str)

/-- a dict of the written part -/
def KEnt (w : World) : List DictEntry → List (Key × V) → Prop
  | [], [] => True
  | e :: r, (k, v) :: t => keyIs k e.key = true ∧ e.hash = keyH w k ∧ RelV v e.val ∧ KEnt w r t
  | _, _ => False
def KDic (K : PySem.W.Frag) (w : World) (a : Addr) (kvs : List (Key × V)) : Prop :=
  ∃ es n, K.lookup a = some ⟨.type "dict", none, .dict es n, #[]⟩ ∧ (a == sysModules) = false ∧ KEnt w es.toList kvs

/-- a list that may be read: tracked, known, or the module's own -/
def LsT (K : PySem.W.Frag) (H : Hp) (a : Addr) (xs : List V) : Prop := Rd H a (.lst xs) ∨ ∃ its n, K.lookup a = some { cls := .type "list", data := .seq its n } ∧ its.size ≤ sizeLine ∧ Vals xs its.toList
theorem LsT.sql {K : PySem.W.Frag} {H : Hp} {a : Addr} {xs : List V} (h : LsT K H a xs) : SqL K H a xs := by
  rcases h with h | ⟨its, n, e, z, r⟩
  · exact .inl h
  · exact .inr ⟨_, its, n, e, rfl, rfl, rfl, z, r⟩
/-- what stands at a is an exception of the class at C; its dict -/
def XcAt (o : HO) (C : Addr) (od : Option Addr) (a : Addr) : Prop := ∀ (P : Program) (w : World) (H : Hp) (h : Heap), ObjOk P w H h a o → ∃ (oe : Obj) (vs : Array Value), h.get? a = some oe ∧ oe.cls = .ref C ∧ oe.dict = od ∧ oe.data = .fields vs
mutual
def Rep (G : Gm) (w : Wd) : D → V → Prop
  | .non, v => v = .non
  | .bl b, v => v = .bl b
  | .int i, v => v = .int i
  | .str s, v => v = .str s
  | .tup ds, v => ∃ a vs, v = .ref a ∧ TpT G.K w.hd a vs ∧ Reps G w ds vs
  | .lst ds, v => ∃ a vs, v = .ref a ∧ LsT G.K w.hd a vs ∧ Reps G w ds vs
  | .dic ks ds, v => ∃ a vs, v = .ref a ∧ (w.hd a = some (.dK (ks.zip vs)) ∨ KDic G.K G.pw a (ks.zip vs)) ∧ ks.length = vs.length ∧ Reps G w ds vs
  | .obj c ds, v => ∃ a dx fs, v = .ref a ∧ w.hd a = some (.ins (G.cls c) dx fs) ∧ fs.map (·.1) = G.fld c ∧ Reps G w ds (fs.map (·.2)) ∧ w.tb = G.tb
  | .exc c ds, v => ∃ a o od vs, v = .ref a ∧ w.hd a = some o ∧ XcAt o (G.cls c) od a ∧ Reps G w ds vs ∧ ((od = none ∧ vs = []) ∨ ∃ dx nm u, od = some dx ∧ vs = [u] ∧ G.fld c = [nm] ∧ w.hd dx = some (.xd [(nm, u)]))
  | .jar, v => ∃ a, v = .ref a ∧ w.ja a
def Reps (G : Gm) (w : Wd) : List D → List V → Prop
  | [], vs => vs = []
  | d :: ds, vs => ∃ v r, vs = v :: r ∧ Rep G w d v ∧ Reps G w ds r
end

/-- more is frozen -/
structure Sub (w w' : Wd) : Prop where
  hd : ∀ a o, w.hd a = some o → w'.hd a = some o
  jr : ∀ a, w.jr a → w'.jr a
  ja : ∀ a, w.ja a → w'.ja a
  tb : w'.tb = w.tb
theorem Sub.refl (w : Wd) : Sub w w := ⟨fun _ _ h => h, fun _ h => h, fun _ h => h, rfl⟩
theorem Sub.trans {w1 w2 w3 : Wd} (a : Sub w1 w2) (b : Sub w2 w3) : Sub w1 w3 := ⟨fun x o h => b.hd x o (a.hd x o h), fun x h => b.jr x (a.jr x h), fun x h => b.ja x (a.ja x h), b.tb.trans a.tb⟩
theorem sqT_sub {K : PySem.W.Frag} {H H' : Hp} {a : Addr} {xs : List V} (k : ∀ a o, H a = some o → H' a = some o) (h : SqT K H a xs) : SqT K H' a xs := by
  rcases h with (h | ⟨o, h⟩) | h
  · exact .inl (.inl (k _ _ h))
  · exact .inl (.inr ⟨o, k _ _ h⟩)
  · exact .inr h
theorem rd_sub {H H' : Hp} {a : Addr} {u : HO} (k : ∀ a o, H a = some o → H' a = some o) (h : Rd H a u) : Rd H' a u := by
  rcases h with h | ⟨o, h⟩
  · exact .inl (k _ _ h)
  · exact .inr ⟨o, k _ _ h⟩
theorem lsT_sub {K : PySem.W.Frag} {H H' : Hp} {a : Addr} {xs : List V} (k : ∀ a o, H a = some o → H' a = some o) (h : LsT K H a xs) : LsT K H' a xs := h.imp (rd_sub k) id
mutual
theorem Rep.mono {G : Gm} {w w' : Wd} (k : Sub w w') : ∀ {d : D} {v : V}, Rep G w d v → Rep G w' d v
  | .non, v, h => by unfold Rep at h ⊢; exact h
  | .bl b, v, h => by unfold Rep at h ⊢; exact h
  | .int i, v, h => by unfold Rep at h ⊢; exact h
  | .str s, v, h => by unfold Rep at h ⊢; exact h
  | .tup ds, v, h => by
    unfold Rep at h ⊢
    obtain ⟨a, vs, e, hs, hr⟩ := h
    exact ⟨a, vs, e, tpT_sub k.hd hs, Reps.mono k hr⟩
  | .lst ds, v, h => by
    unfold Rep at h ⊢
    obtain ⟨a, vs, e, hs, hr⟩ := h
    exact ⟨a, vs, e, lsT_sub k.hd hs, Reps.mono k hr⟩
  | .dic ks ds, v, h => by
    unfold Rep at h ⊢
    obtain ⟨a, vs, e, hs, hl, hr⟩ := h
    exact ⟨a, vs, e, hs.imp (k.hd _ _) id, hl, Reps.mono k hr⟩
  | .obj c ds, v, h => by
    unfold Rep at h ⊢
    obtain ⟨a, dx, fs, e, hs, hl, hr, ht⟩ := h
    exact ⟨a, dx, fs, e, k.hd _ _ hs, hl, Reps.mono k hr, k.tb.trans ht⟩
  | .exc c ds, v, h => by
    unfold Rep at h ⊢
    obtain ⟨a, o, od, vs, e, ho, hx, hr, hd⟩ := h
    exact ⟨a, o, od, vs, e, k.hd _ _ ho, hx, Reps.mono k hr, hd.imp id fun ⟨dx, nm, u, h1, h2, h3, h4⟩ => ⟨dx, nm, u, h1, h2, h3, k.hd _ _ h4⟩⟩
  | .jar, v, h => by
    unfold Rep at h ⊢
    obtain ⟨a, e, hj⟩ := h
    exact ⟨a, e, k.ja a hj⟩
theorem Reps.mono {G : Gm} {w w' : Wd} (k : Sub w w') : ∀ {ds : List D} {vs : List V}, Reps G w ds vs → Reps G w' ds vs
  | [], vs, h => by unfold Reps at h ⊢; exact h
  | d :: ds, vs, h => by
    unfold Reps at h ⊢
    obtain ⟨v, r, e, h1, h2⟩ := h
    exact ⟨v, r, e, Rep.mono k h1, Reps.mono k h2⟩
end

/-! ### Reps as a relation of lists -/
section
variable {G : Gm} {w : Wd}
theorem Reps.nil : Reps G w [] [] := by unfold Reps; rfl
theorem Reps.cons {d : D} {ds : List D} {v : V} {vs : List V} (h : Rep G w d v) (t : Reps G w ds vs) : Reps G w (d :: ds) (v :: vs) := by
  unfold Reps; exact ⟨v, vs, rfl, h, t⟩
theorem Reps.of_nil {vs : List V} (h : Reps G w [] vs) : vs = [] := by unfold Reps at h; exact h
theorem Reps.of_cons {d : D} {ds : List D} {vs : List V} (h : Reps G w (d :: ds) vs) : ∃ v r, vs = v :: r ∧ Rep G w d v ∧ Reps G w ds r := by
  unfold Reps at h; exact h
theorem Reps.length : ∀ {ds : List D} {vs : List V}, Reps G w ds vs → ds.length = vs.length
  | [], vs, h => by rw [h.of_nil]; rfl
  | d :: ds, vs, h => by
    obtain ⟨v, r, e, _, h2⟩ := h.of_cons
    rw [e, List.length_cons, List.length_cons, Reps.length h2]
theorem Reps.append : ∀ {ds es : List D} {vs us : List V}, Reps G w ds vs → Reps G w es us → Reps G w (ds ++ es) (vs ++ us)
  | [], es, vs, us, h, k => by rw [h.of_nil]; exact k
  | d :: ds, es, vs, us, h, k => by
    obtain ⟨v, r, e, h1, h2⟩ := h.of_cons
    rw [e]
    exact Reps.cons h1 (Reps.append h2 k)
theorem Reps.get : ∀ {ds : List D} {vs : List V} {i : Nat} {v : V}, Reps G w ds vs → vs[i]? = some v → ∃ d, ds[i]? = some d ∧ Rep G w d v
  | [], vs, i, v, h, e => by rw [h.of_nil] at e; simp at e
  | d :: ds, vs, i, v, h, e => by
    obtain ⟨x, r, q, h1, h2⟩ := h.of_cons
    subst q
    cases i with
    | zero => simp at e; subst e; exact ⟨d, by simp, h1⟩
    | succ i =>
      obtain ⟨d', a, b⟩ := Reps.get (i := i) (v := v) h2 (by simpa using e)
      exact ⟨d', by simpa using a, b⟩
theorem Reps.getD : ∀ {ds : List D} {vs : List V} {i : Nat} {d : D}, Reps G w ds vs → ds[i]? = some d → ∃ v, vs[i]? = some v ∧ Rep G w d v
  | [], vs, i, d, h, e => by simp at e
  | x :: ds, vs, i, d, h, e => by
    obtain ⟨v, r, q, h1, h2⟩ := h.of_cons
    subst q
    cases i with
    | zero => simp at e; subst e; exact ⟨v, by simp, h1⟩
    | succ i =>
      obtain ⟨d', a, b⟩ := Reps.getD (i := i) (d := d) h2 (by simpa using e)
      exact ⟨d', by simpa using a, b⟩
theorem Reps.take : ∀ {ds : List D} {vs : List V} (n : Nat), Reps G w ds vs → Reps G w (ds.take n) (vs.take n)
  | [], vs, n, h => by rw [h.of_nil]; simp; exact Reps.nil
  | d :: ds, vs, n, h => by
    obtain ⟨v, r, e, h1, h2⟩ := h.of_cons
    subst e
    cases n with
    | zero => exact Reps.nil
    | succ n => exact Reps.cons h1 (Reps.take n h2)
theorem Reps.drop : ∀ {ds : List D} {vs : List V} (n : Nat), Reps G w ds vs → Reps G w (ds.drop n) (vs.drop n)
  | [], vs, n, h => by rw [h.of_nil]; simp; exact Reps.nil
  | d :: ds, vs, n, h => by
    obtain ⟨v, r, e, h1, h2⟩ := h.of_cons
    subst e
    cases n with
    | zero => exact Reps.cons h1 h2
    | succ n => exact Reps.drop n h2
theorem Reps.reverse : ∀ {ds : List D} {vs : List V}, Reps G w ds vs → Reps G w ds.reverse vs.reverse
  | [], vs, h => by rw [h.of_nil]; exact Reps.nil
  | d :: ds, vs, h => by
    obtain ⟨v, r, e, h1, h2⟩ := h.of_cons
    subst e
    rw [List.reverse_cons, List.reverse_cons]
    exact Reps.append (Reps.reverse h2) (Reps.cons h1 Reps.nil)
theorem Rep.int_of {i : Int} {v : V} (h : Rep G w (.int i) v) : v = .int i := by unfold Rep at h; exact h
theorem Rep.str_of {i : Str} {v : V} (h : Rep G w (.str i) v) : v = .str i := by unfold Rep at h; exact h
theorem Rep.bl_of {i : Bool} {v : V} (h : Rep G w (.bl i) v) : v = .bl i := by unfold Rep at h; exact h
theorem Rep.non_of {v : V} (h : Rep G w .non v) : v = .non := by unfold Rep at h; exact h
theorem Rep.tup_of {ds : List D} {v : V} (h : Rep G w (.tup ds) v) : ∃ a vs, v = .ref a ∧ TpT G.K w.hd a vs ∧ Reps G w ds vs := by unfold Rep at h; exact h
theorem Rep.lst_of {ds : List D} {v : V} (h : Rep G w (.lst ds) v) : ∃ a vs, v = .ref a ∧ LsT G.K w.hd a vs ∧ Reps G w ds vs := by unfold Rep at h; exact h
theorem Rep.dic_of {ks : List Key} {ds : List D} {v : V} (h : Rep G w (.dic ks ds) v) : ∃ a vs, v = .ref a ∧ (w.hd a = some (.dK (ks.zip vs)) ∨ KDic G.K G.pw a (ks.zip vs)) ∧ ks.length = vs.length ∧ Reps G w ds vs := by unfold Rep at h; exact h
theorem Rep.obj_of {c : Nat} {ds : List D} {v : V} (h : Rep G w (.obj c ds) v) : ∃ a dx fs, v = .ref a ∧ w.hd a = some (.ins (G.cls c) dx fs) ∧ fs.map (·.1) = G.fld c ∧ Reps G w ds (fs.map (·.2)) ∧ w.tb = G.tb := by unfold Rep at h; exact h
theorem Rep.exc_of {c : Nat} {ds : List D} {v : V} (h : Rep G w (.exc c ds) v) : ∃ a o od vs, v = .ref a ∧ w.hd a = some o ∧ XcAt o (G.cls c) od a ∧ Reps G w ds vs ∧ ((od = none ∧ vs = []) ∨ ∃ dx nm u, od = some dx ∧ vs = [u] ∧ G.fld c = [nm] ∧ w.hd dx = some (.xd [(nm, u)])) := by unfold Rep at h; exact h
theorem Rep.jar_of {v : V} (h : Rep G w .jar v) : ∃ a, v = .ref a ∧ w.ja a := by unfold Rep at h; exact h
theorem Rep.int {i : Int} : Rep G w (.int i) (.int i) := by unfold Rep; rfl
theorem Rep.str {i : Str} : Rep G w (.str i) (.str i) := by unfold Rep; rfl
theorem Rep.bl {i : Bool} : Rep G w (.bl i) (.bl i) := by unfold Rep; rfl
theorem Rep.non : Rep G w .non .non := by unfold Rep; rfl
theorem Rep.tup {ds : List D} {a : Addr} {vs : List V} (h : TpT G.K w.hd a vs) (r : Reps G w ds vs) : Rep G w (.tup ds) (.ref a) := by unfold Rep; exact ⟨a, vs, rfl, h, r⟩
theorem Rep.lst {ds : List D} {a : Addr} {vs : List V} (h : Rd w.hd a (.lst vs)) (r : Reps G w ds vs) : Rep G w (.lst ds) (.ref a) := by unfold Rep; exact ⟨a, vs, rfl, .inl h, r⟩
theorem Reps.ints : ∀ {ns : List Int} {vs : List V}, Reps G w (ns.map D.int) vs → vs = ns.map V.int
  | [], vs, h => h.of_nil
  | n :: ns, vs, h => by
    obtain ⟨v, r, e, h1, h2⟩ := Reps.of_cons (h : Reps G w (D.int n :: ns.map D.int) vs)
    rw [e, h1.int_of, Reps.ints h2]; rfl
theorem Reps.bls : ∀ {ns : List Bool} {vs : List V}, Reps G w (ns.map D.bl) vs → vs = ns.map V.bl
  | [], vs, h => h.of_nil
  | n :: ns, vs, h => by
    obtain ⟨v, r, e, h1, h2⟩ := Reps.of_cons (h : Reps G w (D.bl n :: ns.map D.bl) vs)
    rw [e, h1.bl_of, Reps.bls h2]; rfl
theorem Reps.of_ints : ∀ {ns : List Int}, Reps G w (ns.map D.int) (ns.map V.int)
  | [] => Reps.nil
  | _ :: _ => Reps.cons Rep.int Reps.of_ints
end

/-! ### worlds and heaps -/
/-- the table at P tells code objects of the name q alone, which are frozen -/
def TabD (w : Wd) (H : Hp) (P : Addr) (q : Str) : Prop := ∃ ps : Array Value, H P = some (.tbl ps) ∧ TriplesOk ps.toList ∧ ∀ (pos : Pos) (cv : Value), codeAmong pos ps.toList = some cv → ∃ c, cv = .ref c ∧ w.hd c = some (LamX.CodeO c q)
structure Ok (w : Wd) (H : Hp) : Prop where
  sub : ∀ a o, w.hd a = some o → H a = some o
  jn : ∀ a, w.jr a → w.hd a = none ∧ H a ≠ none
  jar : ∀ a, w.ja a → w.jr a ∧ ∃ d s c : Int, H a = some (.lst [.int d, .int s, .int c])
  tab : ∀ p ∈ w.tb, w.jr p.1 ∧ TabD w H p.1 p.2
theorem TabD.go {w w' : Wd} {H H' : Hp} {P : Addr} {q : Str} (t : TabD w H P q) (hH : H' P = H P) (hw : ∀ a o, w.hd a = some o → w'.hd a = some o) : TabD w' H' P q := by
  obtain ⟨ps, h1, h2, h3⟩ := t
  refine ⟨ps, hH.trans h1, h2, fun pos cv e => ?_⟩
  obtain ⟨c, e1, e2⟩ := h3 pos cv e
  exact ⟨c, e1, hw _ _ e2⟩
structure Le (w : Wd) (H : Hp) (w' : Wd) (H' : Hp) : Prop where
  sub : Sub w w'
  keep : ∀ a o, H a = some o → ¬ w.jr a → H' a = some o
  old : ∀ a, H a ≠ none → w'.jr a → w.jr a
  oldh : ∀ a, H a ≠ none → w'.hd a ≠ none → w.hd a ≠ none
  dom : ∀ a, H a ≠ none → H' a ≠ none
theorem Le.refl (w : Wd) (H : Hp) : Le w H w H := ⟨.refl w, fun _ _ h _ => h, fun _ _ h => h, fun _ _ h => h, fun _ h => h⟩
theorem Le.trans {w w1 w2 : Wd} {H H1 H2 : Hp} (a : Le w H w1 H1) (b : Le w1 H1 w2 H2) : Le w H w2 H2 where
  sub := a.sub.trans b.sub
  keep := fun x o h nj => b.keep x o (a.keep x o h nj) fun j => nj (a.old x (by rw [h]; exact fun z => by cases z) j)
  old := fun x h j => a.old x h (b.old x (a.dom x h) j)
  oldh := fun x h j => a.oldh x h (b.oldh x (a.dom x h) j)
  dom := fun x h => b.dom x (a.dom x h)
/-- a new object, not frozen -/
theorem Le.new {w : Wd} {H : Hp} {p : Addr} {o : HO} (h : H p = none) : Le w H w (upd H p o) where
  sub := .refl w
  keep := fun a u e _ => by rw [upd_ne (ne_of_none e h)]; exact e
  old := fun _ _ j => j
  oldh := fun _ _ j => j
  dom := fun a e => by
    by_cases z : a = p
    · subst z; exact absurd h e
    · rw [upd_ne z]; exact e
theorem Ok.none_hd {w : Wd} {H : Hp} (ok : Ok w H) {a : Addr} (h : H a = none) : w.hd a = none := by
  cases e : w.hd a with
  | none => rfl
  | some o => rw [ok.sub a o e] at h; cases h
theorem Ok.none_jr {w : Wd} {H : Hp} (ok : Ok w H) {a : Addr} (h : H a = none) : ¬ w.jr a := fun j => (ok.jn a j).2 h
theorem Ok.new {w : Wd} {H : Hp} {p : Addr} {o : HO} (ok : Ok w H) (h : H p = none) : Ok w (upd H p o) where
  sub := fun a u e => by
    have z := ok.sub a u e
    rw [upd_ne (ne_of_none z h)]; exact z
  jn := fun a j => by
    obtain ⟨e, z⟩ := ok.jn a j
    exact ⟨e, by rw [upd_ne (fun y => z (by rw [y]; exact h))]; exact z⟩
  jar := fun a j => by
    obtain ⟨e, d, s, c, z⟩ := ok.jar a j
    exact ⟨e, d, s, c, by rw [upd_ne (ne_of_none z h)]; exact z⟩
  tab := fun q m => by
    obtain ⟨e, t⟩ := ok.tab q m
    exact ⟨e, t.go (upd_ne fun y => (ok.jn q.1 e).2 (by rw [y]; exact h)) fun _ _ z => z⟩
/-- one object more is frozen, as it stands -/
def Wd.frz (w : Wd) (H : Hp) (p : Addr) : Wd := ⟨fun a => if a = p then H p else w.hd a, w.jr, w.ja, w.tb⟩
theorem frz_at {w : Wd} {H : Hp} {p : Addr} : (w.frz H p).hd p = H p := by show (if p = p then H p else _) = _; rw [if_pos rfl]
theorem frz_ne {w : Wd} {H : Hp} {p a : Addr} (h : a ≠ p) : (w.frz H p).hd a = w.hd a := by show (if a = p then H p else _) = _; rw [if_neg h]
theorem Sub.frz {w : Wd} {H : Hp} {p : Addr} (h : w.hd p = none) : Sub w (w.frz H p) where
  hd := fun a o e => by
    rw [frz_ne (ne_of_none e h)]; exact e
  jr := fun _ j => j
  ja := fun _ j => j
  tb := rfl
theorem Ok.frz {w : Wd} {H : Hp} {p : Addr} (ok : Ok w H) (nj : ¬ w.jr p) : Ok (w.frz H p) H where
  sub := fun a o e => by
    by_cases z : a = p
    · subst z; rw [frz_at] at e; exact e
    · rw [frz_ne z] at e; exact ok.sub a o e
  jn := fun a j => by
    obtain ⟨e, r⟩ := ok.jn a j
    have na : a ≠ p := fun z => by
      subst z; exact nj j
    exact ⟨by rw [frz_ne na]; exact e, r⟩
  jar := ok.jar
  tab := fun q m => by
    obtain ⟨e, t⟩ := ok.tab q m
    refine ⟨e, t.go rfl fun a o z => ?_⟩
    by_cases y : a = p
    · subst y; rw [frz_at]; exact ok.sub _ _ z
    · rw [frz_ne y]; exact z
/-- what is new behind (w0, H0) may be frozen -/
theorem Le.frz {w0 w : Wd} {H0 H : Hp} {p : Addr} (l : Le w0 H0 w H) (hn : w.hd p = none) (h0 : H0 p = none) : Le w0 H0 (w.frz H p) H where
  sub := l.sub.trans (.frz hn)
  keep := l.keep
  old := l.old
  oldh := fun a h j => by
    by_cases z : a = p
    · subst z; exact absurd h0 h
    · rw [frz_ne z] at j; exact l.oldh a h j
  dom := l.dom
/-- an unfrozen object that is no jar and new behind (w0, H0) is changed -/
theorem Le.put {w0 w : Wd} {H0 H : Hp} {p : Addr} {o : HO} (l : Le w0 H0 w H) (h0 : H0 p = none) : Le w0 H0 w (upd H p o) where
  sub := l.sub
  keep := fun a u e nj => by rw [upd_ne (ne_of_none e h0)]; exact l.keep a u e nj
  old := l.old
  oldh := l.oldh
  dom := fun a e => by
    by_cases z : a = p
    · subst z; rw [upd_same]; exact fun q => by cases q
    · rw [upd_ne z]; exact l.dom a e
theorem Ok.put {w : Wd} {H : Hp} {p : Addr} {o : HO} (ok : Ok w H) (hn : w.hd p = none) (nj : ¬ w.jr p) : Ok w (upd H p o) where
  sub := fun a u e => by
    rw [upd_ne (ne_of_none e hn)]; exact ok.sub a u e
  jn := fun a j => by
    obtain ⟨e, z⟩ := ok.jn a j
    exact ⟨e, by rw [upd_ne (fun y => by rw [y] at j; exact nj j)]; exact z⟩
  jar := fun a j => by
    obtain ⟨e, d, s, c, z⟩ := ok.jar a j
    exact ⟨e, d, s, c, by rw [upd_ne (fun y => by rw [y] at e; exact nj e)]; exact z⟩
  tab := fun q m => by
    obtain ⟨e, t⟩ := ok.tab q m
    exact ⟨e, t.go (upd_ne fun y => nj (by rw [← y]; exact e)) fun _ _ z => z⟩

/-! ### slots, frames -/
inductive Sl where
  | un
  | val (d : D)
  | own (ds : List D)
  | ownd (ks : List Key) (ds : List D)
  | slf (x : Addr) (c : Nat) (ds : List D)
def Sl.isOwn : Sl → Bool
  | .own _ => true | .ownd _ _ => true | .slf _ _ _ => true
  | _ => false
/-- a slot's value is an object of the frame's own -/
def Mine (H0 : Hp) (w : Wd) (a : Addr) : Prop := w.hd a = none ∧ ¬ w.jr a ∧ H0 a = none
def SlotOk (G : Gm) (H0 : Hp) (w : Wd) (H : Hp) : Sl → Option (Option V) → Prop
  | .un, _ => True
  | .val d, o => ∃ v, o = some (some v) ∧ Rep G w d v
  | .own ds, o => ∃ a vs, o = some (some (.ref a)) ∧ Mine H0 w a ∧ H a = some (.lst vs) ∧ Reps G w ds vs
  | .ownd ks ds, o => ∃ a vs, o = some (some (.ref a)) ∧ Mine H0 w a ∧ H a = some (.dK (ks.zip vs)) ∧ ks.length = vs.length ∧ Reps G w ds vs
  | .slf x c ds, o => ∃ a dx fs, o = some (some (.ref a)) ∧ Mine H0 w a ∧ H a = some (.ins (G.cls c) dx fs) ∧ (∃ l, G.fld c = fs.map (·.1) ++ l) ∧ fs.length < 1000 ∧ Reps G w ds (fs.map (·.2)) ∧ a = x
abbrev Env := List Sl
structure Fr (G : Gm) (w0 : Wd) (H0 : Hp) (r : Env) (s : St) (w : Wd) (H : Hp) : Prop where
  ok : Ok w H
  le : Le w0 H0 w H
  len : r.length = s.length
  slot : ∀ (i : Nat) x, r[i]? = some x → SlotOk G H0 w H x s[i]?
  dist : ∀ (i j : Nat) x y a, r[i]? = some x → r[j]? = some y → x.isOwn = true → y.isOwn = true → s[i]? = some (some (.ref a)) → s[j]? = some (some (.ref a)) → i = j
theorem Mine.le {H0 : Hp} {w w' : Wd} {H H' : Hp} {a : Addr} {o : HO} (m : Mine H0 w a) (h : H a = some o) (l : Le w H w' H') : Mine H0 w' a := by
  have hn : H a ≠ none := by rw [h]; exact fun z => by cases z
  refine ⟨?_, fun j => m.2.1 (l.old a hn j), m.2.2⟩
  cases e : w'.hd a with
  | none => rfl
  | some u => exact absurd m.1 (l.oldh a hn (by rw [e]; exact fun z => by cases z))
theorem SlotOk.le {G : Gm} {H0 : Hp} {w w' : Wd} {H H' : Hp} {x : Sl} {o : Option (Option V)} (l : Le w H w' H') (h : SlotOk G H0 w H x o) : SlotOk G H0 w' H' x o := by
  cases x with
  | un => trivial
  | val d => obtain ⟨v, e, r⟩ := h; exact ⟨v, e, r.mono l.sub⟩
  | own ds => obtain ⟨a, vs, e, m, h1, r⟩ := h; exact ⟨a, vs, e, m.le h1 l, l.keep _ _ h1 m.2.1, r.mono l.sub⟩
  | ownd ks ds => obtain ⟨a, vs, e, m, h1, hl, r⟩ := h; exact ⟨a, vs, e, m.le h1 l, l.keep _ _ h1 m.2.1, hl, r.mono l.sub⟩
  | slf x c ds => obtain ⟨a, dx, fs, e, m, h1, hl, hz, r, ax⟩ := h; exact ⟨a, dx, fs, e, m.le h1 l, l.keep _ _ h1 m.2.1, hl, hz, r.mono l.sub, ax⟩
theorem Fr.go {G : Gm} {w0 : Wd} {H0 : Hp} {r : Env} {s : St} {w w' : Wd} {H H' : Hp} (f : Fr G w0 H0 r s w H) (l : Le w H w' H') (ok : Ok w' H') : Fr G w0 H0 r s w' H' :=
  ⟨ok, f.le.trans l, f.len, fun i x e => (f.slot i x e).le l, f.dist⟩
/-- a slot takes a value that is no own object -/
theorem Fr.set {G : Gm} {w0 : Wd} {H0 : Hp} {r : Env} {s : St} {w : Wd} {H : Hp} {i : Nat} {x : Sl} {v : V} (f : Fr G w0 H0 r s w H) (hx : x.isOwn = false) (h : SlotOk G H0 w H x (some (some v))) :
    Fr G w0 H0 (r.set i x) (s.set i (some v)) w H where
  ok := f.ok
  le := f.le
  len := by simpa using f.len
  slot := fun j y e => by
    by_cases z : i = j
    · subst z
      have hi : i < r.length := by
        have q := (List.getElem?_eq_some_iff.mp e).1
        simpa using q
      rw [List.getElem?_set_self hi] at e
      rw [List.getElem?_set_self (f.len ▸ hi)]
      cases e
      exact h
    · rw [List.getElem?_set_ne z] at e
      rw [List.getElem?_set_ne z]
      exact f.slot j y e
  dist := fun j k y u a e1 e2 o1 o2 q1 q2 => by
    have hlt : ∀ {n : Nat} {y : Sl}, (r.set i x)[n]? = some y → y.isOwn = true → i ≠ n := fun {n y} e o z => by
      subst z
      have hi : i < r.length := by
        have q := (List.getElem?_eq_some_iff.mp e).1
        simpa using q
      rw [List.getElem?_set_self hi] at e
      cases e
      rw [hx] at o; cases o
    have n1 := hlt e1 o1
    have n2 := hlt e2 o2
    rw [List.getElem?_set_ne n1] at e1 q1
    rw [List.getElem?_set_ne n2] at e2 q2
    exact f.dist j k y u a e1 e2 o1 o2 q1 q2
/-- a slot takes a new own object -/
theorem Fr.setOwn {G : Gm} {w0 : Wd} {H0 : Hp} {r : Env} {s : St} {w : Wd} {H Hb : Hp} {i : Nat} {x : Sl} {p : Addr} (f : Fr G w0 H0 r s w H)
    (hb : ∀ (j : Nat) y a, r[j]? = some y → y.isOwn = true → s[j]? = some (some (.ref a)) → Hb a ≠ none) (hp : Hb p = none) (h : SlotOk G H0 w H x (some (some (.ref p)))) :
    Fr G w0 H0 (r.set i x) (s.set i (some (.ref p))) w H where
  ok := f.ok
  le := f.le
  len := by simpa using f.len
  slot := fun j y e => by
    by_cases z : i = j
    · subst z
      have hi : i < r.length := by
        have q := (List.getElem?_eq_some_iff.mp e).1
        simpa using q
      rw [List.getElem?_set_self hi] at e
      rw [List.getElem?_set_self (f.len ▸ hi)]
      cases e
      exact h
    · rw [List.getElem?_set_ne z] at e
      rw [List.getElem?_set_ne z]
      exact f.slot j y e
  dist := fun j k y u a e1 e2 o1 o2 q1 q2 => by
    by_cases z1 : i = j
    · by_cases z2 : i = k
      · exact z1.symm.trans z2
      · subst z1
        have hi : i < s.length := by
          have q := (List.getElem?_eq_some_iff.mp q1).1
          simpa using q
        rw [List.getElem?_set_self hi] at q1
        cases q1
        rw [List.getElem?_set_ne z2] at e2 q2
        exact absurd hp (hb k u _ e2 o2 q2)
    · by_cases z2 : i = k
      · subst z2
        have hi : i < s.length := by
          have q := (List.getElem?_eq_some_iff.mp q2).1
          simpa using q
        rw [List.getElem?_set_self hi] at q2
        cases q2
        rw [List.getElem?_set_ne z1] at e1 q1
        exact absurd hp (hb j y _ e1 o1 q1)
      · rw [List.getElem?_set_ne z1] at e1 q1
        rw [List.getElem?_set_ne z2] at e2 q2
        exact f.dist j k y u a e1 e2 o1 o2 q1 q2
theorem Fr.ownAt {G : Gm} {w0 : Wd} {H0 : Hp} {r : Env} {s : St} {w : Wd} {H : Hp} (f : Fr G w0 H0 r s w H) (j : Nat) (y : Sl) (a : Addr) (e : r[j]? = some y) (o : y.isOwn = true) (q : s[j]? = some (some (.ref a))) : H a ≠ none := by
  have h := f.slot j y e
  rw [q] at h
  cases y with
  | un => cases o
  | val d => cases o
  | own ds => obtain ⟨b, vs, e, _, h1, _⟩ := h; cases e; rw [h1]; exact fun z => by cases z
  | ownd ks ds => obtain ⟨b, vs, e, _, h1, _⟩ := h; cases e; rw [h1]; exact fun z => by cases z
  | slf x c ds => obtain ⟨b, dx, fs, e, _, h1, _⟩ := h; cases e; rw [h1]; exact fun z => by cases z
/-- an own object (in slot i) is changed -/
theorem Fr.chg {G : Gm} {w0 : Wd} {H0 : Hp} {r : Env} {s : St} {w : Wd} {H : Hp} {i : Nat} {x y : Sl} {p : Addr} {o : HO} (f : Fr G w0 H0 r s w H) (e : r[i]? = some x) (ox : x.isOwn = true) (q : s[i]? = some (some (.ref p)))
    (m : Mine H0 w p) (h : SlotOk G H0 w (upd H p o) y (some (some (.ref p)))) : Fr G w0 H0 (r.set i y) s w (upd H p o) where
  ok := f.ok.put m.1 m.2.1
  le := f.le.put m.2.2
  len := by simpa using f.len
  slot := fun j z e' => by
    by_cases zj : i = j
    · subst zj
      have hi : i < r.length := (List.getElem?_eq_some_iff.mp e).1
      rw [List.getElem?_set_self hi] at e'
      cases e'
      rw [q]
      exact h
    · rw [List.getElem?_set_ne zj] at e'
      have hz := f.slot j z e'
      have ne : ∀ a, z.isOwn = true → s[j]? = some (some (.ref a)) → a ≠ p := fun a oz qa za => by
        subst za
        exact zj (f.dist i j x z a e e' ox oz q qa)
      cases z with
      | un => trivial
      | val d => exact hz
      | own ds => obtain ⟨a, vs, e2, m2, h2, r2⟩ := hz; exact ⟨a, vs, e2, m2, by rw [upd_ne (ne a rfl e2)]; exact h2, r2⟩
      | ownd ks ds => obtain ⟨a, vs, e2, m2, h2, r2⟩ := hz; exact ⟨a, vs, e2, m2, by rw [upd_ne (ne a rfl e2)]; exact h2, r2⟩
      | slf x c ds => obtain ⟨a, dx, fs, e2, m2, h2, r2⟩ := hz; exact ⟨a, dx, fs, e2, m2, by rw [upd_ne (ne a rfl e2)]; exact h2, r2⟩
  dist := fun j k u v a e1 e2 o1 o2 q1 q2 => by
    have old : ∀ {n : Nat} {u : Sl}, (r.set i y)[n]? = some u → u.isOwn = true → ∃ u', r[n]? = some u' ∧ u'.isOwn = true := fun {n u} en on => by
      by_cases z : i = n
      · subst z; exact ⟨x, e, ox⟩
      · rw [List.getElem?_set_ne z] at en; exact ⟨u, en, on⟩
    obtain ⟨u', a1, b1⟩ := old e1 o1
    obtain ⟨v', a2, b2⟩ := old e2 o2
    exact f.dist j k u' v' a a1 a2 b1 b2 q1 q2
end DL
/-! The data layer, part 2: the readings over data, names, constants, operators. -/
namespace DL
open PySem L2

/-- an exception: its class by number, its attribute -/
structure XD where
  c : Nat
  d : Option D
abbrev XP := XD → Prop
abbrev FE := Env → (D → Prop) → XP → Prop
abbrev FT := Env → (Bool → Prop) → XP → Prop
abbrev FA := Env → (List D → Prop) → XP → Prop
/-- what is wanted behind a statement -/
structure DE where
  nx : Env → Prop
  rt : D → Prop
  bk : Env → Prop := fun _ => False
  ct : Env → Prop := fun _ => False
  rn : List D → Prop := fun _ => False
abbrev FS := DE → XP → Env → Prop

def ExAt (G : Gm) (w : Wd) (H : Hp) (x : XD) (od : Option Addr) : Prop :=
  match x.d with
  | none => od = none
  | some d => ∃ a nm v, od = some a ∧ G.fld x.c = [nm] ∧ w.hd a = some (.xd [(nm, v)]) ∧ Rep G w d v
def LkE (G : Gm) (E : XK) (w0 : Wd) (H0 : Hp) (EX : XP) : Prop := (∀ x od w H, Le w0 H0 w H → Ok w H → ExAt G w H x od → EX x → E (.ref (G.cls x.c)) od H) ∧ w0.tb = G.tb
theorem LkE.none {G : Gm} {E : XK} {w0 : Wd} {H0 : Hp} (ht : w0.tb = G.tb) : LkE G E w0 H0 (fun _ => False) := ⟨fun _ _ _ _ _ _ _ h => h.elim, ht⟩
/-- a value that may be an own list or dict -/
def See (G : Gm) (H0 : Hp) (w : Wd) (H : Hp) (d : D) (v : V) : Prop :=
  Rep G w d v ∨ (∃ a vs ds, v = .ref a ∧ d = .lst ds ∧ Mine H0 w a ∧ H a = some (.lst vs) ∧ Reps G w ds vs) ∨
    ∃ a vs ks ds, v = .ref a ∧ d = .dic ks ds ∧ Mine H0 w a ∧ H a = some (.dK (ks.zip vs)) ∧ ks.length = vs.length ∧ Reps G w ds vs
theorem See.go {G : Gm} {H0 : Hp} {w w' : Wd} {H H' : Hp} {d : D} {v : V} (h : See G H0 w H d v) (l : Le w H w' H') : See G H0 w' H' d v := by
  rcases h with h | ⟨a, vs, ds, e1, e2, m, h1, r⟩ | ⟨a, vs, ks, ds, e1, e2, m, h1, hl, r⟩
  · exact .inl (h.mono l.sub)
  · exact .inr (.inl ⟨a, vs, ds, e1, e2, m.le h1 l, l.keep _ _ h1 m.2.1, r.mono l.sub⟩)
  · exact .inr (.inr ⟨a, vs, ks, ds, e1, e2, m.le h1 l, l.keep _ _ h1 m.2.1, hl, r.mono l.sub⟩)
inductive Sees (G : Gm) (H0 : Hp) (w : Wd) (H : Hp) : List D → List V → Prop where
  | nil : Sees G H0 w H [] []
  | cons {d ds v vs} : See G H0 w H d v → Sees G H0 w H ds vs → Sees G H0 w H (d :: ds) (v :: vs)
theorem Sees.go {G : Gm} {H0 : Hp} {w w' : Wd} {H H' : Hp} (l : Le w H w' H') : ∀ {ds : List D} {vs : List V}, Sees G H0 w H ds vs → Sees G H0 w' H' ds vs
  | _, _, .nil => .nil
  | _, _, .cons h t => .cons (h.go l) (Sees.go l t)

/-! ### the readings -/
section
variable (G : Gm) (E : XK)
def tD (F : FE) : TE := fun s H Q => ∃ w0 H0 r w QD EX, Fr G w0 H0 r s w H ∧ LkE G E w0 H0 EX ∧ F r QD EX ∧ ∀ d v w' H', Le w H w' H' → Ok w' H' → Rep G w' d v → QD d → Q v H'
def bD (F : FE) : TE := fun s H Q => ∃ w0 H0 r w QD EX, Fr G w0 H0 r s w H ∧ LkE G E w0 H0 EX ∧ F r QD EX ∧ ∀ d v w' H', Le w H w' H' → Ok w' H' → See G H0 w' H' d v → QD d → Q v H'
/-- a new list -/
def fD (F : FA) : TE := fun s H Q => ∃ w0 H0 r w QD EX, Fr G w0 H0 r s w H ∧ LkE G E w0 H0 EX ∧ F r QD EX ∧
  ∀ ds a vs w' H', Le w H w' H' → Ok w' H' → H a = none → Mine H0 w' a → H' a = some (.lst vs) → Reps G w' ds vs → QD ds → Q (.ref a) H'
def ttD (F : FT) : TT := fun s H Q => ∃ w0 H0 r w QD EX, Fr G w0 H0 r s w H ∧ LkE G E w0 H0 EX ∧ F r QD EX ∧ ∀ b w' H', Le w H w' H' → Ok w' H' → QD b → Q b H'
def taD (F : FA) : TA := fun s H Q => ∃ w0 H0 r w QD EX, Fr G w0 H0 r s w H ∧ LkE G E w0 H0 EX ∧ F r QD EX ∧ ∀ ds vs w' H', Le w H w' H' → Ok w' H' → Reps G w' ds vs → QD ds → Q vs H'
def baD (F : FA) : TA := fun s H Q => ∃ w0 H0 r w QD EX, Fr G w0 H0 r s w H ∧ LkE G E w0 H0 EX ∧ F r QD EX ∧ ∀ ds vs w' H', Le w H w' H' → Ok w' H' → Sees G H0 w' H' ds vs → QD ds → Q vs H'
structure Lk (w0 : Wd) (H0 : Hp) (wk : Wd) (A : DE) (B : Ends) : Prop where
  nx : ∀ r s w H, Fr G w0 H0 r s w H → Sub wk w → A.nx r → B.nx s H
  rt : ∀ d v w H, Le w0 H0 w H → Ok w H → Rep G w d v → A.rt d → B.rt v H
  bk : ∀ r s w H, Fr G w0 H0 r s w H → Sub wk w → A.bk r → B.bk s H
  ct : ∀ r s w H, Fr G w0 H0 r s w H → Sub wk w → A.ct r → B.ct s H
  rn : ∀ ds a vs w H, Le w0 H0 w H → Ok w H → Mine H0 w a → H a = some (.lst vs) → Reps G w ds vs → A.rn ds → B.rt (.ref a) H
def sD (F : FS) : TS := fun B s H => ∃ w0 H0 wk r w A EX, Fr G w0 H0 r s w H ∧ Sub wk w ∧ LkE G E w0 H0 EX ∧ Lk G w0 H0 wk A B ∧ F A EX r
end
section
variable {X : Cx} {G : Gm} {E : XK} {e a b : Expr} {es : List Expr} {t t' : TE} {pos : Pos}
theorem _root_.L2.PE.weak (h : PE X e t) (k : ∀ s H Q, t' s H Q → t s H Q) : PE X e t' := ⟨fun p s σ H Q I q => h.run p s σ H Q I (k σ H Q q)⟩
theorem _root_.L2.PT.weak {t t' : TT} (h : PT X e t) (k : ∀ s H Q, t' s H Q → t s H Q) : PT X e t' := ⟨fun p s σ H Q I q => h.run p s σ H Q I (k σ H Q q)⟩
theorem _root_.L2.PW.weak {t t' : TT} (h : PW X e t) (k : ∀ s H Q, t' s H Q → t s H Q) : PW X e t' := ⟨fun wh p s σ H Q I q => h.run wh p s σ H Q I (k σ H Q q)⟩
theorem _root_.L2.PA.weak {t t' : TA} (h : PA X es t) (k : ∀ s H Q, t' s H Q → t s H Q) : PA X es t' := ⟨fun ps p s σ H Q I q => h.run ps p s σ H Q I (k σ H Q q)⟩
theorem _root_.L2.PS.weak {st : Stmt} {t t' : TS} (h : PS X st t) (k : ∀ B s H, t' B s H → t B s H) : PS X st t' := ⟨fun p s σ H B I q => h.run p s σ H B I (k B σ H q)⟩
theorem _root_.L2.PSs.weak {st : List Stmt} {t t' : TS} (h : PSs X st t) (k : ∀ B s H, t' B s H → t B s H) : PSs X st t' := ⟨fun p s σ H B I q => h.run p s σ H B I (k B σ H q)⟩

theorem see (h : PE X e (tD G E F)) : PE X e (bD G E F) := h.weak fun s H Q ⟨w0, H0, r, w, QD, EX, fr, lk, f, k⟩ =>
  ⟨w0, H0, r, w, QD, EX, fr, lk, f, fun d v w' H' l ok rp q => k d v w' H' l ok (.inl rp) q⟩
/-- a new list as a value -/
def fL (F : FA) : FE := fun r Q EX => F r (fun ds => Q (.lst ds)) EX
theorem val (h : PE X e (fD G E F)) : PE X e (tD G E (fL F)) := h.weak fun s H Q ⟨w0, H0, r, w, QD, EX, fr, lk, f, k⟩ =>
  ⟨w0, H0, r, w, fun ds => QD (.lst ds), EX, fr, lk, f, fun ds a vs w' H' l ok hn m h1 rp q => by
    refine k (.lst ds) (.ref a) (w'.frz H' a) H' (l.frz m.1 hn) (ok.frz m.2.1) (Rep.lst (Rd.of (by rw [frz_at]; exact h1)) (rp.mono (.frz m.1))) q⟩

/-! ### names, constants -/
def fVar (i : Nat) : FE := fun r Q _ => match r[i]? with
  | some (.val d) => Q d
  | _ => False
def fSee (i : Nat) : FE := fun r Q _ => match r[i]? with
  | some (.val d) => Q d
  | some (.own ds) => Q (.lst ds)
  | some (.ownd ks ds) => Q (.dic ks ds)
  | _ => False
def fC (d : D) : FE := fun _ Q _ => Q d
theorem ce_var (i : Nat) {x : Str} {pos : Pos} (hN : X.N[i]? = some x := by rfl) (hv : Vis X.env.scope x := by first | exact Or.inl rfl | exact Or.inr (Or.inl rfl) | exact Or.inr (Or.inr rfl)) (hd : (x == ("__debug__" : Str)) = false := by decide)
    (hcd : (x == ("__classdict__" : Str)) = false := by decide) : PE X (.Name x pos) (tD G E (fVar i)) := (pe_var hN hv hd hcd).weak fun s H Q ⟨w0, H0, r, w, QD, EX, fr, lk, f, k⟩ => by
  unfold fVar at f
  cases e : r[i]? with
  | none => rw [e] at f; exact f.elim
  | some x =>
    rw [e] at f
    cases x with
    | val d =>
      obtain ⟨v, q, rp⟩ := fr.slot i _ e
      exact ⟨v, q, k d v w H (.refl w H) fr.ok rp f⟩
    | un => exact f.elim
    | own _ => exact f.elim
    | ownd _ _ => exact f.elim
    | slf _ _ _ => exact f.elim
theorem cb_var (i : Nat) {x : Str} {pos : Pos} (hN : X.N[i]? = some x := by rfl) (hv : Vis X.env.scope x := by first | exact Or.inl rfl | exact Or.inr (Or.inl rfl) | exact Or.inr (Or.inr rfl)) (hd : (x == ("__debug__" : Str)) = false := by decide)
    (hcd : (x == ("__classdict__" : Str)) = false := by decide) : PE X (.Name x pos) (bD G E (fSee i)) := (pe_var hN hv hd hcd).weak fun s H Q ⟨w0, H0, r, w, QD, EX, fr, lk, f, k⟩ => by
  unfold fSee at f
  cases e : r[i]? with
  | none => rw [e] at f; exact f.elim
  | some x =>
    rw [e] at f
    cases x with
    | val d =>
      obtain ⟨v, q, rp⟩ := fr.slot i _ e
      exact ⟨v, q, k d v w H (.refl w H) fr.ok (.inl rp) f⟩
    | own ds =>
      obtain ⟨a, vs, q, m, h1, rp⟩ := fr.slot i _ e
      exact ⟨_, q, k (.lst ds) _ w H (.refl w H) fr.ok (.inr (.inl ⟨a, vs, ds, rfl, rfl, m, h1, rp⟩)) f⟩
    | ownd ks ds =>
      obtain ⟨a, vs, q, m, h1, hl, rp⟩ := fr.slot i _ e
      exact ⟨_, q, k (.dic ks ds) _ w H (.refl w H) fr.ok (.inr (.inr ⟨a, vs, ks, ds, rfl, rfl, m, h1, hl, rp⟩)) f⟩
    | un => exact f.elim
    | slf _ _ _ => exact f.elim
theorem ce_const {v : V} {d : D} (h : PE X e (tC v)) (rp : ∀ w, Rep G w d v) : PE X e (tD G E (fC d)) := h.weak fun s H Q ⟨w0, H0, r, w, QD, EX, fr, lk, f, k⟩ =>
  k d v w H (.refl w H) fr.ok (rp w) f
theorem ce_int {i j pos} : PE X (.Constant (.int i) j pos) (tD G E (fC (.int i))) := ce_const pe_int fun _ => Rep.int
theorem ce_bl {i j pos} : PE X (.Constant (.bool i) j pos) (tD G E (fC (.bl i))) := ce_const pe_bl fun _ => Rep.bl
theorem ce_non {j pos} : PE X (.Constant .none j pos) (tD G E (fC .non)) := ce_const pe_non fun _ => Rep.non
theorem ce_str {i j pos} : PE X (.Constant (.str i) j pos) (tD G E (fC (.str i))) := ce_const pe_str fun _ => Rep.str
/-- a module's int -/
theorem ce_gint {x : Str} {i : Int} {u : Value} {pos : Pos} (hm : X.mg x = some u) (r : RelV (.int i) u) (hg : Gl X x := by rfl) (hd : (x == ("__debug__" : Str)) = false := by decide) : PE X (.Name x pos) (tD G E (fC (.int i))) := ce_const (pe_glob hg hm r hd) fun _ => Rep.int

/-! ### two-place operators -/
abbrev G2 := D → D → (D → Prop) → Prop
def f2 (g : G2) (A B : FE) : FE := fun r Q EX => A r (fun x => B r (fun y => g x y Q) EX) EX
/-- an operator's rule over data -/
structure OpL (G : Gm) (X : Cx) (op : Value → Value → Sem Value) (g : G2) : Prop where
  ex : ∃ r, OpR X op r ∧ ∀ H0 w H x y v u Q (QD : D → Prop), Ok w H → See G H0 w H x v → See G H0 w H y u → g x y QD →
    (∀ d z w' H', Le w H w' H' → Ok w' H' → Rep G w' d z → QD d → Q z H') → r v u H Q
theorem OpL.link {op : Value → Value → Sem Value} {g : G2} {rr : R2} {A B : FE} (k0 : ∀ H0 w H x y v u Q (QD : D → Prop), Ok w H → See G H0 w H x v → See G H0 w H y u → g x y QD →
    (∀ d z w' H', Le w H w' H' → Ok w' H' → Rep G w' d z → QD d → Q z H') → rr v u H Q) (s : St) (H : Hp) (Q : VK) (h : tD G E (f2 g A B) s H Q) : tOp rr (bD G E A) (bD G E B) s H Q := by
  obtain ⟨w0, H0, r, w, QD, EX, fr, lk, f, k⟩ := h
  refine ⟨w0, H0, r, w, _, EX, fr, lk, f, fun x v w1 H1 l1 ok1 s1 q1 => ?_⟩
  refine ⟨w0, H0, r, w1, _, EX, fr.go l1 ok1, lk, q1, fun y u w2 H2 l2 ok2 s2 q2 => ?_⟩
  exact k0 H0 w2 H2 x y v u Q QD ok2 (s1.go l2) s2 q2 fun d z w3 H3 l3 ok3 r3 q3 => k d z w3 H3 ((l1.trans l2).trans l3) ok3 r3 q3
theorem ce_bin {op : Operator} {g : G2} {A B : FE} (ho : OpL G X (binaryOp op) g) (ha : PE X a (bD G E A)) (hb : PE X b (bD G E B)) : PE X (.BinOp a op b pos) (tD G E (f2 g A B)) := by
  obtain ⟨rr, hr, k0⟩ := ho.ex
  exact (pe_op hr ha hb).weak (OpL.link (op := binaryOp op) k0)
theorem ce_cmp {op : CmpOp} {g : G2} {A B : FE} (ho : OpL G X (compareOp op) g) (ha : PE X a (bD G E A)) (hb : PE X b (bD G E B)) (hm : behindInMarks op b = false := by first | exact nomark _ (by decide) (by decide) | rfl) : PE X (.Compare a [op] [b] pos) (tD G E (f2 g A B)) := by
  obtain ⟨rr, hr, k0⟩ := ho.ex
  exact (pe_cmpR hr ha hb hm).weak (OpL.link (op := compareOp op) k0)
/-- a value as a test: it is a bool -/
def fTb (F : FE) : FT := fun r Q EX => F r (fun d => ∃ b, d = .bl b ∧ Q b) EX
theorem ct_of_tTest {t : TE} {F : FE} (h : PT X e (tTest t)) (k0 : ∀ s H Q, tD G E F s H Q → t s H Q) : PT X e (ttD G E (fTb F)) := h.weak fun s H Q ⟨w0, H0, r, w, QD, EX, fr, lk, f, k⟩ =>
  k0 s H _ ⟨w0, H0, r, w, _, EX, fr, lk, f, fun d v w' H' l ok rp ⟨b, ed, qb⟩ => ⟨b, by rw [ed] at rp; exact rp.bl_of, k b w' H' l ok qb⟩⟩
theorem ct_cmp {op : CmpOp} {g : G2} {A B : FE} (ho : OpL G X (compareOp op) g) (ha : PE X a (bD G E A)) (hb : PE X b (bD G E B)) (hm : behindInMarks op b = false := by first | exact nomark _ (by decide) (by decide) | rfl) : PT X (.Compare a [op] [b] pos) (ttD G E (fTb (f2 g A B))) := by
  obtain ⟨rr, hr, k0⟩ := ho.ex
  exact ct_of_tTest (pt_cmpR hr ha hb hm) (OpL.link (op := compareOp op) k0)
/-- two comparisons in a chain -/
def fChain (g g' : G2) (A B C : FE) : FE := fun r Q EX => A r (fun x => B r (fun y => g x y fun z => ∃ b, z = .bl b ∧ if b = true then C r (fun u => g' y u Q) EX else Q (.bl false)) EX) EX
theorem chain_link {op op' : CmpOp} {g g' : G2} {A B C : FE} {rr rr' : R2} (k0 : ∀ H0 w H x y v u Q (QD : D → Prop), Ok w H → See G H0 w H x v → See G H0 w H y u → g x y QD →
    (∀ d z w' H', Le w H w' H' → Ok w' H' → Rep G w' d z → QD d → Q z H') → rr v u H Q)
    (k1 : ∀ H0 w H x y v u Q (QD : D → Prop), Ok w H → See G H0 w H x v → See G H0 w H y u → g' x y QD →
    (∀ d z w' H', Le w H w' H' → Ok w' H' → Rep G w' d z → QD d → Q z H') → rr' v u H Q) (s : St) (H : Hp) (Q : VK) (h : tD G E (fChain g g' A B C) s H Q) : tChain rr rr' (bD G E A) (bD G E B) (bD G E C) s H Q := by
  obtain ⟨w0, H0, r, w, QD, EX, fr, lk, f, k⟩ := h
  refine ⟨w0, H0, r, w, _, EX, fr, lk, f, fun x v w1 H1 l1 ok1 s1 q1 => ?_⟩
  refine ⟨w0, H0, r, w1, _, EX, fr.go l1 ok1, lk, q1, fun y u w2 H2 l2 ok2 s2 q2 => ?_⟩
  refine k0 H0 w2 H2 x y v u _ _ ok2 (s1.go l2) s2 q2 fun d z w3 H3 l3 ok3 r3 ⟨b, ed, q3⟩ => ?_
  rw [ed] at r3
  refine ⟨b, r3.bl_of, ?_⟩
  cases b with
  | false =>
    rw [if_neg Bool.false_ne_true] at q3 ⊢
    exact k _ _ w3 H3 ((l1.trans l2).trans l3) ok3 Rep.bl q3
  | true =>
    rw [if_pos rfl] at q3 ⊢
    refine ⟨w0, H0, r, w3, _, EX, ((fr.go l1 ok1).go l2 ok2).go l3 ok3, lk, q3, fun u' v' w4 H4 l4 ok4 s4 q4 => ?_⟩
    exact k1 H0 w4 H4 y u' u v' Q QD ok4 ((s2.go l3).go l4) s4 q4 fun d' z' w5 H5 l5 ok5 r5 q5 => k d' z' w5 H5 (((l1.trans l2).trans l3).trans (l4.trans l5)) ok5 r5 q5
theorem ct_chain {c : Expr} {op op' : CmpOp} {g g' : G2} {A B C : FE} (ho : OpL G X (compareOp op) g) (ho' : OpL G X (compareOp op') g') (ha : PE X a (bD G E A)) (hb : PE X b (bD G E B)) (hc : PE X c (bD G E C))
    (hm : lastMarks [op, op'] [b, c] = false := by with_unfolding_all rfl) : PT X (.Compare a [op, op'] [b, c] pos) (ttD G E (fTb (fChain g g' A B C))) := by
  obtain ⟨rr, hr, k0⟩ := ho.ex
  obtain ⟨rr', hr', k1⟩ := ho'.ex
  exact ct_of_tTest (pt_chain hr hr' ha hb hc hm) (chain_link (op := op) (op' := op') k0 k1)

/-! ### and, or, not, if else -/
def fAndT (A B : FT) : FT := fun r Q EX => A r (fun b => if b = true then B r Q EX else Q false) EX
def fOrT (A B : FT) : FT := fun r Q EX => A r (fun b => if b = true then Q true else B r Q EX) EX
def fAnd (A B : FE) : FE := fun r Q EX => A r (fun d => ∃ b, d = .bl b ∧ if b = true then B r Q EX else Q (.bl false)) EX
def fIf (T : FT) (A B : FE) : FE := fun r Q EX => T r (fun b => if b = true then A r Q EX else B r Q EX) EX
variable {rest : List Expr}
theorem cw_and1 {A : FT} (ha : PT X a (ttD G E A)) : PW X (.BoolOp .And [a] pos) (ttD G E A) := pw_and1 ha
theorem cw_or1 {A : FT} (ha : PT X a (ttD G E A)) : PW X (.BoolOp .Or [a] pos) (ttD G E A) := pw_or1 ha
theorem cw_and {A B : FT} (ha : PT X a (ttD G E A)) (hb : PW X (.BoolOp .And (b :: rest) pos) (ttD G E B)) : PW X (.BoolOp .And (a :: b :: rest) pos) (ttD G E (fAndT A B)) := (pw_and ha hb).weak fun s H Q ⟨w0, H0, r, w, QD, EX, fr, lk, f, k⟩ => by
  refine ⟨w0, H0, r, w, _, EX, fr, lk, f, fun c w1 H1 l1 ok1 q1 => ?_⟩
  cases c with
  | true =>
    rw [if_pos rfl] at q1 ⊢
    exact ⟨w0, H0, r, w1, QD, EX, fr.go l1 ok1, lk, q1, fun d w2 H2 l2 ok2 q2 => k d w2 H2 (l1.trans l2) ok2 q2⟩
  | false =>
    rw [if_neg Bool.false_ne_true] at q1 ⊢
    exact k false w1 H1 l1 ok1 q1
theorem cw_or {A B : FT} (ha : PT X a (ttD G E A)) (hb : PW X (.BoolOp .Or (b :: rest) pos) (ttD G E B)) : PW X (.BoolOp .Or (a :: b :: rest) pos) (ttD G E (fOrT A B)) := (pw_or ha hb).weak fun s H Q ⟨w0, H0, r, w, QD, EX, fr, lk, f, k⟩ => by
  refine ⟨w0, H0, r, w, _, EX, fr, lk, f, fun c w1 H1 l1 ok1 q1 => ?_⟩
  cases c with
  | true =>
    rw [if_pos rfl] at q1 ⊢
    exact k true w1 H1 l1 ok1 q1
  | false =>
    rw [if_neg Bool.false_ne_true] at q1 ⊢
    exact ⟨w0, H0, r, w1, QD, EX, fr.go l1 ok1, lk, q1, fun d w2 H2 l2 ok2 q2 => k d w2 H2 (l1.trans l2) ok2 q2⟩
theorem ce_one {op} {A : FE} (h : PE X a (tD G E A)) : PE X (.BoolOp op [a] pos) (tD G E A) := pe_one h
theorem ce_and {A B : FE} (ha : PE X a (tD G E A)) (hb : PE X (.BoolOp .And (b :: rest) pos) (tD G E B)) : PE X (.BoolOp .And (a :: b :: rest) pos) (tD G E (fAnd A B)) := (pe_and ha hb).weak fun s H Q ⟨w0, H0, r, w, QD, EX, fr, lk, f, k⟩ => by
  refine ⟨w0, H0, r, w, _, EX, fr, lk, f, fun x v w1 H1 l1 ok1 rp ⟨c, ex, q1⟩ => ?_⟩
  rw [ex] at rp
  refine ⟨c, rp.bl_of, ?_⟩
  cases c with
  | true =>
    rw [if_pos rfl] at q1 ⊢
    exact ⟨w0, H0, r, w1, QD, EX, fr.go l1 ok1, lk, q1, fun d u w2 H2 l2 ok2 r2 q2 => k d u w2 H2 (l1.trans l2) ok2 r2 q2⟩
  | false =>
    rw [if_neg Bool.false_ne_true] at q1 ⊢
    exact k _ _ w1 H1 l1 ok1 Rep.bl q1
theorem ce_if {c : Expr} {T : FT} {A B : FE} (hc : PT X c (ttD G E T)) (ha : PE X a (tD G E A)) (hb : PE X b (tD G E B)) : PE X (.IfExp c a b pos) (tD G E (fIf T A B)) := (pe_ifExp hc ha hb).weak fun s H Q ⟨w0, H0, r, w, QD, EX, fr, lk, f, k⟩ => by
  refine ⟨w0, H0, r, w, _, EX, fr, lk, f, fun c w1 H1 l1 ok1 q1 => ?_⟩
  cases c with
  | true =>
    rw [if_pos rfl] at q1 ⊢
    exact ⟨w0, H0, r, w1, QD, EX, fr.go l1 ok1, lk, q1, fun d u w2 H2 l2 ok2 r2 q2 => k d u w2 H2 (l1.trans l2) ok2 r2 q2⟩
  | false =>
    rw [if_neg Bool.false_ne_true] at q1 ⊢
    exact ⟨w0, H0, r, w1, QD, EX, fr.go l1 ok1, lk, q1, fun d u w2 H2 l2 ok2 r2 q2 => k d u w2 H2 (l1.trans l2) ok2 r2 q2⟩

/-! ### argument lists, displays -/
def fNil : FA := fun _ Q _ => Q []
def fCons (A : FE) (B : FA) : FA := fun r Q EX => A r (fun d => B r (fun ds => Q (d :: ds)) EX) EX
theorem ca_nil : PA X [] (taD G E fNil) := PA.weak pa_nil fun s H Q ⟨w0, H0, r, w, QD, EX, fr, lk, f, k⟩ => k [] [] w H (.refl w H) fr.ok Reps.nil f
theorem ca_cons {A : FE} {B : FA} (ha : PE X e (tD G E A)) (hr : PA X es (taD G E B)) (hs : starEach (e :: es) X.env = (false, eval e X.env) :: starEach es X.env := by rfl) : PA X (e :: es) (taD G E (fCons A B)) := (pa_cons ha hr hs).weak fun s H Q ⟨w0, H0, r, w, QD, EX, fr, lk, f, k⟩ =>
  ⟨w0, H0, r, w, _, EX, fr, lk, f, fun d v w1 H1 l1 ok1 r1 q1 => ⟨w0, H0, r, w1, _, EX, fr.go l1 ok1, lk, q1, fun ds vs w2 H2 l2 ok2 r2 q2 => k (d :: ds) (v :: vs) w2 H2 (l1.trans l2) ok2 (Reps.cons (r1.mono l2.sub) r2) q2⟩⟩
theorem cab_nil : PA X [] (baD G E fNil) := PA.weak pa_nil fun s H Q ⟨w0, H0, r, w, QD, EX, fr, lk, f, k⟩ => k [] [] w H (.refl w H) fr.ok .nil f
theorem cab_cons {A : FE} {B : FA} (ha : PE X e (bD G E A)) (hr : PA X es (baD G E B)) (hs : starEach (e :: es) X.env = (false, eval e X.env) :: starEach es X.env := by rfl) : PA X (e :: es) (baD G E (fCons A B)) := (pa_cons ha hr hs).weak fun s H Q ⟨w0, H0, r, w, QD, EX, fr, lk, f, k⟩ =>
  ⟨w0, H0, r, w, _, EX, fr, lk, f, fun d v w1 H1 l1 ok1 r1 q1 => ⟨w0, H0, r, w1, _, EX, fr.go l1 ok1, lk, q1, fun ds vs w2 H2 l2 ok2 r2 q2 => k (d :: ds) (v :: vs) w2 H2 (l1.trans l2) ok2 (.cons (r1.go l2) r2) q2⟩⟩
def fTup (A : FA) : FE := fun r Q EX => A r (fun ds => ds.length ≤ sizeLine ∧ Q (.tup ds)) EX
def fLst (A : FA) : FA := fun r Q EX => A r (fun ds => ds.length ≤ sizeLine ∧ Q ds) EX
theorem Mine.new {w0 w w1 : Wd} {H0 H H1 : Hp} {p : Addr} (l0 : Le w0 H0 w1 H1) (ok : Ok w1 H1) (h : H1 p = none) : Mine H0 w1 p := by
  refine ⟨ok.none_hd h, ok.none_jr h, ?_⟩
  cases q : H0 p with
  | none => rfl
  | some o => exact absurd h (l0.dom p (by rw [q]; exact fun z => by cases z))
theorem Le.none_of {w w1 : Wd} {H H1 : Hp} {p : Addr} (l : Le w H w1 H1) (h : H1 p = none) : H p = none := by
  cases q : H p with
  | none => rfl
  | some o => exact absurd h (l.dom p (by rw [q]; exact fun z => by cases z))
/-- a new tuple, frozen at once -/
theorem newTup {w1 : Wd} {H1 : Hp} {p : Addr} {ds : List D} {vs : List V} {o : Obj} (ok : Ok w1 H1) (h : H1 p = none) (hd : o.dict = none) (r : Reps G w1 ds vs) :
    ∃ w2, Le w1 H1 w2 (upd H1 p (.frz o (.tup vs))) ∧ Ok w2 (upd H1 p (.frz o (.tup vs))) ∧ Rep G w2 (.tup ds) (.ref p) := by
  have hn := ok.none_hd h
  have nj := ok.none_jr h
  refine ⟨w1.frz (upd H1 p (.frz o (.tup vs))) p, (Le.new h).frz hn h, (ok.new h).frz nj, Rep.tup (.inl ⟨o, by rw [frz_at, upd_same], hd⟩) (r.mono (.frz hn))⟩
theorem ce_tup {x1} {A : FA} (h : PA X es (taD G E A)) : PE X (.Tuple es x1 pos) (tD G E (fTup A)) := PE.weak (pe_tupF h) fun s H Q ⟨w0, H0, r, w, QD, EX, fr, lk, f, k⟩ =>
  ⟨w0, H0, r, w, _, EX, fr, lk, f, fun ds vs w1 H1 l1 ok1 r1 ⟨hz, q1⟩ => ⟨by rw [← r1.length]; exact hz, fun p o hp hd => by
    obtain ⟨w2, l2, ok2, r2⟩ := newTup (p := p) ok1 hp hd r1
    exact k _ _ w2 _ (l1.trans l2) ok2 r2 q1⟩⟩
theorem cf_lst {A : FA} (h : PA X es (taD G E A)) : PE X (.List es pos) (fD G E (fLst A)) := PE.weak (pe_lst h) fun s H Q ⟨w0, H0, r, w, QD, EX, fr, lk, f, k⟩ =>
  ⟨w0, H0, r, w, _, EX, fr, lk, f, fun ds vs w1 H1 l1 ok1 r1 ⟨hz, q1⟩ => ⟨by rw [← r1.length]; exact hz, fun p hp =>
    k ds p vs w1 _ (l1.trans (Le.new hp)) (ok1.new hp) (l1.none_of hp) (Mine.new (w := w) (H := H) (fr.le.trans l1) ok1 hp) upd_same r1 q1⟩⟩
end
end DL
/-! The data layer, part 3: what a seen value is; operators, comparisons, subscripts, slices. -/
namespace DL
open PySem L2

section
variable {G : Gm} {H0 : Hp} {w : Wd} {H : Hp} {v : V}
theorem See.int_of {i : Int} (h : See G H0 w H (.int i) v) : v = .int i := by
  rcases h with h | ⟨_, _, _, _, e, _⟩ | ⟨_, _, _, _, _, e, _⟩
  · exact h.int_of
  · cases e
  · cases e
theorem See.str_of {i : Str} (h : See G H0 w H (.str i) v) : v = .str i := by
  rcases h with h | ⟨_, _, _, _, e, _⟩ | ⟨_, _, _, _, _, e, _⟩
  · exact h.str_of
  · cases e
  · cases e
theorem See.bl_of {i : Bool} (h : See G H0 w H (.bl i) v) : v = .bl i := by
  rcases h with h | ⟨_, _, _, _, e, _⟩ | ⟨_, _, _, _, _, e, _⟩
  · exact h.bl_of
  · cases e
  · cases e
theorem See.non_of (h : See G H0 w H .non v) : v = .non := by
  rcases h with h | ⟨_, _, _, _, e, _⟩ | ⟨_, _, _, _, _, e, _⟩
  · exact h.non_of
  · cases e
  · cases e
theorem See.tup_of {ds : List D} (ok : Ok w H) (h : See G H0 w H (.tup ds) v) : ∃ a vs, v = .ref a ∧ SqT G.K H a vs ∧ Reps G w ds vs := by
  rcases h with h | ⟨_, _, _, _, e, _⟩ | ⟨_, _, _, _, _, e, _⟩
  · obtain ⟨a, vs, e, s, r⟩ := h.tup_of
    exact ⟨a, vs, e, sqT_sub ok.sub s.sqt, r⟩
  · cases e
  · cases e
theorem See.tup_rep {ds : List D} (h : See G H0 w H (.tup ds) v) : Rep G w (.tup ds) v := by
  rcases h with h | ⟨_, _, _, _, e, _⟩ | ⟨_, _, _, _, _, e, _⟩
  · exact h
  · cases e
  · cases e
theorem See.lst_of {ds : List D} (ok : Ok w H) (h : See G H0 w H (.lst ds) v) : ∃ a vs, v = .ref a ∧ LsT G.K H a vs ∧ Reps G w ds vs := by
  rcases h with h | ⟨a, vs, es, e1, e, m, h1, r⟩ | ⟨_, _, _, _, _, e, _⟩
  · obtain ⟨a, vs, e, s, r⟩ := h.lst_of
    exact ⟨a, vs, e, lsT_sub ok.sub s, r⟩
  · cases e
    exact ⟨a, vs, e1, .inl (.of h1), r⟩
  · cases e
theorem See.dic_of {ks : List Key} {ds : List D} (ok : Ok w H) (h : See G H0 w H (.dic ks ds) v) : ∃ a vs, v = .ref a ∧ (H a = some (.dK (ks.zip vs)) ∨ KDic G.K G.pw a (ks.zip vs)) ∧ ks.length = vs.length ∧ Reps G w ds vs := by
  rcases h with h | ⟨_, _, _, _, e, _⟩ | ⟨a, vs, k2, d2, e1, e, m, h1, hl, r⟩
  · obtain ⟨a, vs, e, s, hl, r⟩ := h.dic_of
    exact ⟨a, vs, e, s.imp (ok.sub _ _) id, hl, r⟩
  · cases e
  · cases e
    exact ⟨a, vs, e1, .inl h1, hl, r⟩
/-- a flat value, or a tuple: no own object -/
theorem See.rep {d : D} (h : See G H0 w H d v) (n1 : ∀ ds, d ≠ .lst ds) (n2 : ∀ ks ds, d ≠ .dic ks ds) : Rep G w d v := by
  rcases h with h | ⟨_, _, ds, _, e, _⟩ | ⟨_, _, ks, ds, _, e, _⟩
  · exact h
  · exact absurd e (n1 ds)
  · exact absurd e (n2 ks ds)
theorem SqL.rd {K : PySem.W.Frag} {a : Addr} {vs : List V} (h : Rd H a (.lst vs)) : SqL K H a vs := .inl h
/-- a new list, frozen at once -/
theorem newLst {w1 : Wd} {H1 : Hp} {p : Addr} {ds : List D} {vs : List V} (ok : Ok w1 H1) (h : H1 p = none) (r : Reps G w1 ds vs) :
    ∃ w2, Le w1 H1 w2 (upd H1 p (.lst vs)) ∧ Ok w2 (upd H1 p (.lst vs)) ∧ Rep G w2 (.lst ds) (.ref p) := by
  have hn := ok.none_hd h
  have nj := ok.none_jr h
  exact ⟨w1.frz (upd H1 p (.lst vs)) p, (Le.new h).frz hn h, (ok.new h).frz nj, Rep.lst (Rd.of (by rw [frz_at, upd_same])) (r.mono (.frz hn))⟩
end

/-! ### + - * // % ** -/
/-- lists: any that may be read -/
theorem LsT.at {X : Cx} {pins : List (Addr × Obj)} {σ : L2.St} {H : Hp} {s : Shared} {a : Addr} {xs : List V} (I : Inv X pins σ H s) (h : LsT X.K H a xs) : ∃ (its : List Value) (n : Nat), Vals xs its ∧ s.heap.get? a = some { cls := .type "list", data := .seq its.toArray n } := by
  rcases h with h | ⟨its, n, e, z, r⟩
  · obtain ⟨_, its, n, r, e⟩ := h.ok I.hok
    exact ⟨its, n, r, e⟩
  · exact ⟨its.toList, n, r, I.kIn _ _ e⟩
def rCatR (K : PySem.W.Frag) : R2 := fun x y H Q => ∃ l b xs zs, x = .ref l ∧ y = .ref b ∧ LsT K H l xs ∧ LsT K H b zs ∧ xs.length + zs.length ≤ sizeLine ∧ ∀ p, H p = none → Q (.ref p) (upd H p (.lst (xs ++ zs)))
theorem op_catR {X : Cx} : OpR X (binaryOp .Add) (rCatR X.K) := by
  intro pins s σ H x y v u Q I rx ry hyp
  obtain ⟨l, b, xs, zs, rfl, rfl, h1, h2, hz, q⟩ := hyp
  cases rx
  cases ry
  obtain ⟨its, n, r, e⟩ := h1.at I
  obtain ⟨its2, n2, r2, e2⟩ := h2.at I
  have l1 := r.length
  have l2 := r2.length
  refine PySem.P.add_list e e2 ?_ (by simp only [List.size_toArray]; omega)
  have glue : its.toArray ++ its2.toArray = (its ++ its2).toArray := by simp
  have len : (xs ++ zs).length ≤ sizeLine := by rw [List.length_append]; omega
  rw [glue]
  exact ⟨V.ref s.heap.objs.size, upd H s.heap.objs.size (.lst (xs ++ zs)), I.lnew (t' := s.toks) (Vals.append r r2) len, rfl, q _ I.fresh⟩
def addD : G2 := fun x y Q => match x, y with
  | .int i, .int j => Q (.int (i + j))
  | .str i, .str j => i.length + j.length ≤ sizeLine ∧ Q (.str (i ++ j))
  | .tup a, .tup b => a.length + b.length ≤ sizeLine ∧ Q (.tup (a ++ b))
  | .lst a, .lst b => a.length + b.length ≤ sizeLine ∧ Q (.lst (a ++ b))
  | _, _ => False
variable {G : Gm} {X : Cx}
theorem opl_add (hK : X.K = G.K := by rfl) : OpL G X (binaryOp .Add) addD := by
  refine ⟨_, op_add.or (op_add_str.or (op_catF.or op_catR)), fun H0 w H x y v u Q QD ok sx sy g k => ?_⟩
  cases x with
  | int i => cases y with
    | int j => exact .inl ⟨i, j, sx.int_of, sy.int_of, k _ _ w H (.refl w H) ok Rep.int g⟩
    | _ => exact g.elim
  | str i => cases y with
    | str j => exact .inr (.inl ⟨i, j, sx.str_of, sy.str_of, g.1, k _ _ w H (.refl w H) ok Rep.str g.2⟩)
    | _ => exact g.elim
  | tup a => cases y with
    | tup b =>
      obtain ⟨p, vs, rfl, s1, r1⟩ := sx.tup_of ok
      obtain ⟨q, us, rfl, s2, r2⟩ := sy.tup_of ok
      refine .inr (.inr (.inl ⟨p, q, vs, us, rfl, rfl, hK ▸ s1, hK ▸ s2, by rw [← r1.length, ← r2.length]; exact g.1, fun e => ?_, fun _ e => ?_, fun _ _ p o hp hd => ?_⟩))
      · subst e
        have ea : a = [] := List.length_eq_zero_iff.mp r1.length
        subst ea
        exact k _ _ w H (.refl w H) ok sy.tup_rep g.2
      · subst e
        have eb : b = [] := List.length_eq_zero_iff.mp r2.length
        subst eb
        refine k _ _ w H (.refl w H) ok sx.tup_rep ?_
        have := g.2
        rwa [List.append_nil] at this
      · obtain ⟨w2, l2, ok2, rp⟩ := newTup (p := p) ok hp hd (r1.append r2)
        exact k _ _ w2 _ l2 ok2 rp g.2
    | _ => exact g.elim
  | lst a => cases y with
    | lst b =>
      obtain ⟨p, vs, rfl, s1, r1⟩ := sx.lst_of ok
      obtain ⟨q, us, rfl, s2, r2⟩ := sy.lst_of ok
      refine .inr (.inr (.inr ⟨p, q, vs, us, rfl, rfl, hK ▸ s1, hK ▸ s2, by rw [← r1.length, ← r2.length]; exact g.1, fun p hp => ?_⟩))
      obtain ⟨w2, l2, ok2, rp⟩ := newLst (p := p) ok hp (r1.append r2)
      exact k _ _ w2 _ l2 ok2 rp g.2
    | _ => exact g.elim
  | _ => exact g.elim
/-- two ints under a condition -/
def intD (C : Int → Int → Prop) (f : Int → Int → D) : G2 := fun x y Q => match x, y with
  | .int i, .int j => C i j ∧ Q (f i j)
  | _, _ => False
theorem opl_int {op : Value → Value → Sem Value} {C : Int → Int → Prop} {f : Int → Int → Int} (h : OpR X op (rI C fun i j => .int (f i j))) : OpL G X op (intD C fun i j => .int (f i j)) := by
  refine ⟨_, h, fun H0 w H x y v u Q QD ok sx sy g k => ?_⟩
  cases x with
  | int i => cases y with
    | int j => exact ⟨i, j, sx.int_of, sy.int_of, g.1, k _ _ w H (.refl w H) ok Rep.int g.2⟩
    | _ => exact g.elim
  | _ => exact g.elim
abbrev mulD : G2 := intD CMul fun i j => .int (i * j)
abbrev divD : G2 := intD CDivN fun i j => .int (i.fdiv j)
abbrev modD : G2 := intD (fun _ j => j ≠ 0) fun i j => .int (i.fmod j)
abbrev powD : G2 := intD CPow fun i j => .int (i ^ j.toNat)
theorem opl_div : OpL G X (binaryOp .FloorDiv) divD := opl_int op_fdivN
theorem opl_mod : OpL G X (binaryOp .Mod) modD := opl_int op_modN
theorem opl_pow : OpL G X (binaryOp .Pow) powD := opl_int op_pow

/-! ### comparisons -/
/-- order: ints, texts -/
def ordD (p : Int → Int → Bool) (q : Str → Str → Bool) : G2 := fun x y Q => match x, y with
  | .int i, .int j => Q (.bl (p i j))
  | .str i, .str j => Q (.bl (q i j))
  | _, _ => False
theorem opl_ord {op : Value → Value → Sem Value} {p : Int → Int → Bool} {q : Str → Str → Bool} (h1 : OpR X op (rI0 fun i j => .bl (p i j))) (h2 : OpR X op (fun x y H Q => ∃ i j, x = .str i ∧ y = .str j ∧ Q (.bl (q i j)) H)) : OpL G X op (ordD p q) := by
  refine ⟨_, h1.or h2, fun H0 w H x y v u Q QD ok sx sy g k => ?_⟩
  cases x with
  | int i => cases y with
    | int j => exact .inl ⟨i, j, sx.int_of, sy.int_of, k _ _ w H (.refl w H) ok Rep.bl g⟩
    | _ => exact g.elim
  | str i => cases y with
    | str j => exact .inr ⟨i, j, sx.str_of, sy.str_of, k _ _ w H (.refl w H) ok Rep.bl g⟩
    | _ => exact g.elim
  | _ => exact g.elim
/-- texts: by code points -/
def ltS (i j : Str) : Bool := decide (i.cps.toList < j.cps.toList)
abbrev ltD : G2 := ordD (fun i j => decide (i < j)) ltS
abbrev gtD : G2 := ordD (fun i j => decide (j < i)) fun i j => ltS j i
abbrev geD : G2 := ordD (fun i j => decide (j ≤ i)) fun i j => !ltS i j
theorem opl_lt : OpL G X (compareOp .Lt) ltD := opl_ord op_lt op_lt_str
theorem opl_gt : OpL G X (compareOp .Gt) gtD := opl_ord op_gt op_gt_str
theorem opl_ge : OpL G X (compareOp .GtE) geD := opl_ord op_ge op_ge_str

/-! ### data as the library sees it -/
mutual
def pd : D → PyData
  | .non => .none
  | .bl b => .bool b
  | .int i => .int i
  | .str s => .str s
  | .tup ds => .tuple (pds ds)
  | .lst ds => .list (pds ds)
  | .dic _ _ => .dict []
  | .obj _ _ => .dict []
  | .exc _ _ => .dict []
  | .jar => .dict []
def pds : List D → List PyData
  | [] => []
  | d :: ds => pd d :: pds ds
end
mutual
/-- nothing but None, bools, ints, texts, tuples, lists -/
def plain : D → Bool
  | .tup ds => plains ds
  | .lst ds => plains ds
  | .dic _ _ => false
  | .obj _ _ => false
  | .exc _ _ => false
  | .jar => false
  | .non => true
  | .bl _ => true
  | .int _ => true
  | .str _ => true
def plains : List D → Bool
  | [] => true
  | d :: ds => plain d && plains ds
end
mutual
theorem Rep.dp {w : Wd} {H : Hp} (k : ∀ a o, w.hd a = some o → H a = some o) : ∀ (d : D) {v : V}, plain d = true → Rep G w d v → Dp G.K H v (pd d)
  | .non, v, _, h => by rw [h.non_of]; unfold pd; exact .non
  | .bl b, v, _, h => by rw [h.bl_of]; unfold pd; exact .bl b
  | .int i, v, _, h => by rw [h.int_of]; unfold pd; exact .int i
  | .str s, v, _, h => by rw [h.str_of]; unfold pd; exact .str s
  | .tup ds, v, p, h => by
    obtain ⟨a, vs, e, s, r⟩ := h.tup_of
    unfold plain at p
    unfold pd
    rw [e]
    exact .tup (sqT_sub k s.sqt) (Reps.dp k ds p r)
  | .lst ds, v, p, h => by
    obtain ⟨a, vs, e, s, r⟩ := h.lst_of
    unfold plain at p
    unfold pd
    rw [e]
    exact .lst (lsT_sub k s).sql (Reps.dp k ds p r)
  | .dic _ _, v, p, h => by unfold plain at p; cases p
  | .obj _ _, v, p, h => by unfold plain at p; cases p
  | .exc _ _, v, p, h => by unfold plain at p; cases p
  | .jar, v, p, h => by unfold plain at p; cases p
theorem Reps.dp {w : Wd} {H : Hp} (k : ∀ a o, w.hd a = some o → H a = some o) : ∀ (ds : List D) {vs : List V}, plains ds = true → Reps G w ds vs → DpAll G.K H vs (pds ds)
  | [], vs, _, h => by rw [h.of_nil]; unfold pds; exact .nil
  | d :: ds, vs, p, h => by
    obtain ⟨v, r, e, h1, h2⟩ := h.of_cons
    unfold plains at p
    rw [Bool.and_eq_true] at p
    unfold pds
    rw [e]
    exact .cons (Rep.dp k d p.1 h1) (Reps.dp k ds p.2 h2)
end
theorem See.dp {H0 : Hp} {w : Wd} {H : Hp} {d : D} {v : V} (ok : Ok w H) (p : plain d = true) (h : See G H0 w H d v) : Dp G.K H v (pd d) := by
  rcases h with h | ⟨a, vs, ds, e1, e2, m, h1, r⟩ | ⟨_, _, _, _, _, e, _⟩
  · exact h.dp ok.sub d p
  · subst e2
    unfold plain at p
    unfold pd
    rw [e1]
    exact .lst (SqL.of h1) (Reps.dp ok.sub ds p r)
  · subst e; unfold plain at p; cases p
/-- == of data -/
def shp (d : D) : Prop := plain d = true ∧ SeqAt.shaped (pd d) = true
def eqb (x y : D) : Bool := PyData.eqv (pd x) (pd y)
def bothS (x y : D) : Option Bool := match x, y with
  | .str a, .str b => some (decide (a.cps.toList = b.cps.toList))
  | _, _ => none
theorem bothS_some {x y : D} {b : Bool} (h : bothS x y = some b) : ∃ s t, x = .str s ∧ y = .str t ∧ b = decide (s.cps.toList = t.cps.toList) := by
  unfold bothS at h
  split at h
  · rename_i s t
    exact ⟨s, t, rfl, rfl, (Option.some.inj h).symm⟩
  · cases h
theorem dec_strs {s t : Str} : decide (V.str s = V.str t) = decide (s.cps.toList = t.cps.toList) := by
  refine decide_eq_decide.mpr ⟨fun h => ?_, fun h => ?_⟩
  · cases h; rfl
  · cases s; cases t
    exact congrArg (fun z => V.str ⟨z⟩) (Array.toList_inj.mp h)
def eqD : G2 := fun x y Q => match bothS x y with
  | some b => Q (.bl b)
  | none => shp x ∧ shp y ∧ Q (.bl (eqb x y))
def neD : G2 := fun x y Q => match bothS x y with
  | some b => Q (.bl (!b))
  | none => shp x ∧ shp y ∧ Q (.bl (!eqb x y))
theorem opl_eq (hu : X.A.units + 64 < cLine) (hK : X.K = G.K := by rfl) : OpL G X (compareOp .Eq) eqD := by
  refine ⟨_, op_eq.or (op_eqD hu), fun H0 w H x y v u Q QD ok sx sy g k => ?_⟩
  unfold eqD at g
  cases e : bothS x y with
  | some b =>
    rw [e] at g
    obtain ⟨s, t, rfl, rfl, rfl⟩ := bothS_some e
    refine .inl ?_
    rw [sx.str_of, sy.str_of]
    refine ⟨rfl, ?_⟩
    rw [dec_strs]
    exact k _ _ w H (.refl w H) ok Rep.bl g
  | none =>
    rw [e] at g
    obtain ⟨⟨p1, q1⟩, ⟨p2, q2⟩, g⟩ := g
    exact .inr ⟨pd x, pd y, hK ▸ sx.dp ok p1, hK ▸ sy.dp ok p2, q1, q2, k _ _ w H (.refl w H) ok Rep.bl g⟩
theorem opl_ne (hu : X.A.units + 64 < cLine) (hK : X.K = G.K := by rfl) : OpL G X (compareOp .NotEq) neD := by
  refine ⟨_, op_ne.or (op_neD hu), fun H0 w H x y v u Q QD ok sx sy g k => ?_⟩
  unfold neD at g
  cases e : bothS x y with
  | some b =>
    rw [e] at g
    obtain ⟨s, t, rfl, rfl, rfl⟩ := bothS_some e
    refine .inl ?_
    rw [sx.str_of, sy.str_of]
    refine ⟨rfl, ?_⟩
    rw [dec_strs]
    exact k _ _ w H (.refl w H) ok Rep.bl g
  | none =>
    rw [e] at g
    obtain ⟨⟨p1, q1⟩, ⟨p2, q2⟩, g⟩ := g
    exact .inr ⟨pd x, pd y, hK ▸ sx.dp ok p1, hK ▸ sy.dp ok p2, q1, q2, k _ _ w H (.refl w H) ok Rep.bl g⟩
end DL
/-! The data layer, part 4: in; subscripts, slices; dicts. -/
namespace DL
open PySem L2 PyProof.Rows
variable {G : Gm} {X : Cx}

/-! ### a written dict -/
theorem KEnt.keys {w : World} : ∀ {es : List DictEntry} {kvs : List (Key × V)}, KEnt w es kvs → ∀ e ∈ es, ∃ k, keyIs k e.key = true ∧ e.hash = keyH w k
  | [], [], _, e, he => by simp at he
  | e0 :: r, (k, v) :: t, h, e, he => by
    unfold KEnt at h
    obtain ⟨h1, h2, _, h4⟩ := h
    rcases List.mem_cons.mp he with q | q
    · rw [q]; exact ⟨k, h1, h2⟩
    · exact KEnt.keys h4 e q
  | [], _ :: _, h, _, _ => by unfold KEnt at h; exact h.elim
  | _ :: _, [], h, _, _ => by unfold KEnt at h; exact h.elim
theorem keyIs_iff {k k' : Key} {v : Value} (h : keyIs k v = true) : keyIs k' v = decide (k = k') := by
  by_cases e : k = k'
  · subst e; rw [h, decide_eq_true rfl]
  · rw [decide_eq_false e]
    cases q : keyIs k' v with
    | false => rfl
    | true =>
      rcases keyIs_shape h with ⟨i, t, r1, r2⟩ | ⟨x, t, r1, r2⟩ <;> rcases keyIs_shape q with ⟨j, u, r3, r4⟩ | ⟨y, u, r3, r4⟩
      · rw [r2] at r4; injection r4 with z _; exact absurd (by rw [r1, r3, z]) e
      · rw [r2] at r4; cases r4
      · rw [r2] at r4; cases r4
      · rw [r2] at r4; injection r4 with z _; exact absurd (by rw [r1, r3, z]) e
theorem KEnt.find {w : World} (k : Key) : ∀ {es : List DictEntry} {kvs : List (Key × V)}, KEnt w es kvs → RelO (valV kvs k) ((es.find? fun d => keyIs k d.key).map (·.val))
  | [], [], _ => True.intro
  | e0 :: r, (k0, v) :: t, h => by
    unfold KEnt at h
    obtain ⟨h1, h2, h3, h4⟩ := h
    rw [List.find?_cons, keyIs_iff h1]
    by_cases e : k0 = k
    · rw [decide_eq_true e, valV_pos (show (k0, v).1 = k from e)]
      exact h3
    · rw [decide_eq_false e, valV_neg (show ¬ (k0, v).1 = k from e)]
      exact KEnt.find k h4
  | [], _ :: _, h => by unfold KEnt at h; exact h.elim
  | _ :: _, [], h => by unfold KEnt at h; exact h.elim
theorem KDic.map {K : PySem.W.Frag} {P : Program} {w : World} {a : Addr} {kvs : List (Key × V)} {h : Heap} (d : KDic K w a kvs) (X : K.In h) : (a == sysModules) = false ∧ ∃ f, h.MapOf (mixKind P w) a f ∧ ∀ k, RelO (valV kvs k) (f k) := by
  obtain ⟨es, n, hl, hs, he⟩ := d
  refine ⟨hs, fun k => findBy (mixKind P w).is es k, ⟨_, es, n, X _ _ hl, ⟨rfl, rfl, rfl⟩, rfl, fun e m => he.keys e (Array.mem_toList_iff.mpr m), fun _ => rfl⟩, fun k => ?_⟩
  have q := he.find k
  obtain ⟨l⟩ := es
  show RelO (valV kvs k) (findBy (mixKind P w).is l.toArray k)
  unfold findBy
  rw [List.find?_toArray]
  exact q
/-- the value at a key over data -/
def dget (ks : List Key) (ds : List D) (k : Key) : Option D := ((ks.zip ds).find? fun p => decide (p.1 = k)).map (·.2)
theorem dget_rel {w : Wd} (k : Key) : ∀ {ks : List Key} {ds : List D} {vs : List V}, ks.length = vs.length → Reps G w ds vs →
    (∀ d, dget ks ds k = some d → ∃ v, valV (ks.zip vs) k = some v ∧ Rep G w d v) ∧ (dget ks ds k = none → valV (ks.zip vs) k = none)
  | [], ds, vs, hl, r => ⟨fun d h => by simp [dget] at h, fun _ => by simp [valV]⟩
  | k0 :: ks, [], vs, hl, r => by
    rw [r.of_nil] at hl
    simp at hl
  | k0 :: ks, d :: ds, vs, hl, r => by
    obtain ⟨v, t, e, h1, h2⟩ := r.of_cons
    subst e
    rw [List.length_cons, List.length_cons] at hl
    have ih := dget_rel (w := w) k (ks := ks) (ds := ds) (vs := t) (by omega) h2
    by_cases e : k0 = k
    · have z1 : dget (k0 :: ks) (d :: ds) k = some d := by simp [dget, e]
      have z2 : valV ((k0 :: ks).zip (v :: t)) k = some v := valV_pos (show (k0, v).1 = k from e)
      rw [z1, z2]
      exact ⟨fun d' q => ⟨v, rfl, by cases q; exact h1⟩, fun q => by cases q⟩
    · have z1 : dget (k0 :: ks) (d :: ds) k = dget ks ds k := by simp [dget, e]
      have z2 : valV ((k0 :: ks).zip (v :: t)) k = valV (ks.zip t) k := valV_neg (show ¬ (k0, v).1 = k from e)
      rw [z1, z2]
      exact ih
/-- a key as data -/
def keyD : D → Option Key
  | .int i => some (.inl i)
  | .str s => some (.inr s)
  | _ => none
theorem keyD_see {H0 : Hp} {w : Wd} {H : Hp} {d : D} {v : V} {k : Key} (h : See G H0 w H d v) (e : keyD d = some k) : v = kV k := by
  cases d with
  | int i => cases e; exact h.int_of
  | str i => cases e; exact h.str_of
  | _ => cases e
/-- reading of d[k] by values: a tracked or a written dict -/
def rDic (K : PySem.W.Frag) (w : World) : R2 := fun x y H Q => ∃ a kvs k v, x = .ref a ∧ y = kV k ∧ (H a = some (.dK kvs) ∨ KDic K w a kvs) ∧ valV kvs k = some v ∧ Q v H
theorem mixIs {P : Program} {w : World} {k : Key} {u : Value} (r : RelV (kV k) u) : (mixKind P w).is k u = true := by
  cases k with
  | inl i => obtain ⟨t, e⟩ := (show ∃ t, u = Value.int i t from r); rw [e]; exact mixKind_int P w i t
  | inr x => obtain ⟨t, e⟩ := (show ∃ t, u = Value.str x t from r); rw [e]; exact mixKind_str P w x t
theorem ix_dic (hu : X.A.units + 1 < cLine) : IxR X (rDic X.K X.w) := by
  intro value slice pins s σ H x y v u Q I rx ry hyp hs
  obtain ⟨a, kvs, k, z, rfl, rfl, hd, hv, q⟩ := hyp
  cases rx
  rcases hd with hd | hd
  · have g : DGet H a (kV k) (some z) := hv ▸ DGet.k hd
    exact tail_any (dict_typeIs I g) PySem.F.slot_dict_getitem.lookup (d_getItem hu I g ry fun w' s' I' r' => ⟨z, H, I', r', q⟩) hs
  · obtain ⟨_, f, hm, hf⟩ := hd.map (P := X.prog) I.kIn
    obtain ⟨w', hw, rw'⟩ := RelO.some_of (v := z) (o := f k) (by rw [← hv]; exact hf k)
    exact tail_any hm.typeIs PySem.F.slot_dict_getitem.lookup (wpAny_getItem_of (mixIs ry) hm hw ⟨z, H, I.tok _, rw', q⟩) hs
def rDicIn (K : PySem.W.Frag) (w : World) (neg : Bool) : R2 := fun y x H Q => ∃ a kvs k, x = .ref a ∧ y = kV k ∧ (H a = some (.dK kvs) ∨ KDic K w a kvs) ∧ Q (.bl (neg != (valV kvs k).isSome)) H
/-- the readings that serve in, by the operator -/
structure InRules (X : Cx) (op : CmpOp) (neg : Bool) : Prop where
  seq : OpR X (compareOp op) (rIn X.K neg)
  deep : ∃ r, OpR X (compareOp op) r ∧ ∀ x y H Q d ds, Dp X.K H x d → Dp X.K H y (.list ds) → SeqAt.shaped d = true → SeqAt.shaped (.list ds) = true → Q (.bl (neg != ds.any fun z => PyData.eqv z d)) H → r x y H Q
  sign : OpR X (compareOp op) (fun x y H Q => ∃ (c : Nat) (z : Str), x = .str ⟨#[c]⟩ ∧ y = .str z ∧ Q (.bl (neg != decide (c ∈ z.cps.toList))) H)
  dic : OpR X (compareOp op) (rDicIn X.K X.w neg)
/-! ### x[i] -/
def ixD : G2 := fun x y Q => match x with
  | .tup ds => ∃ i d, y = .int i ∧ atI ds i = some d ∧ Q d
  | .lst ds => ∃ i d, y = .int i ∧ atI ds i = some d ∧ Q d
  | .str z => ∃ i c, y = .int i ∧ z.length ≤ sizeLine ∧ atI z.cps.toList i = some c ∧ Q (.str ⟨#[c]⟩)
  | .dic ks ds => ∃ k d, keyD y = some k ∧ dget ks ds k = some d ∧ Q d
  | _ => False
theorem atI_rep {w : Wd} {ds : List D} {vs : List V} {i : Int} {d : D} (r : Reps G w ds vs) (h : atI ds i = some d) : ∃ v, atI vs i = some v ∧ Rep G w d v := by
  unfold atI at h ⊢
  rw [← r.length]
  cases e : ixN ds.length i with
  | none => rw [e] at h; cases h
  | some j =>
    rw [e] at h
    exact r.getD h
theorem ce_ix {a b : Expr} {pos : Pos} {E : XK} {A B : FE} (hu : X.A.units + 1 < cLine) (ha : PE X a (bD G E A)) (hb : PE X b (bD G E B)) (hs : PlainIx b := by exact fun _ _ => rfl) (hK : X.K = G.K := by rfl) (hW : X.w = G.pw := by rfl) :
    PE X (.Subscript a b pos) (tD G E (f2 ixD A B)) := by
  refine (pe_ix (ix_list.or (ix_tup.or (ix_str.or (ix_dic hu)))) ha hb hs).weak (OpL.link (op := binaryOp .Add) fun H0 w H x y v u Q QD ok sx sy g k => ?_)
  cases x with
  | tup ds =>
    obtain ⟨i, d, rfl, e, g⟩ := g
    obtain ⟨p, vs, rfl, s1, r1⟩ := sx.tup_of ok
    obtain ⟨z, e2, r2⟩ := atI_rep r1 e
    exact .inr (.inl ⟨p, vs, i, z, rfl, sy.int_of, hK ▸ s1, e2, k _ _ w H (.refl w H) ok r2 g⟩)
  | lst ds =>
    obtain ⟨i, d, rfl, e, g⟩ := g
    obtain ⟨p, vs, rfl, s1, r1⟩ := sx.lst_of ok
    obtain ⟨z, e2, r2⟩ := atI_rep r1 e
    exact .inl ⟨p, vs, i, z, rfl, sy.int_of, hK ▸ s1.sql, e2, k _ _ w H (.refl w H) ok r2 g⟩
  | str z =>
    obtain ⟨i, c, rfl, hz, e, g⟩ := g
    exact .inr (.inr (.inl ⟨z, i, c, sx.str_of, sy.int_of, hz, e, k _ _ w H (.refl w H) ok Rep.str g⟩))
  | dic ks ds =>
    obtain ⟨key, d, e1, e2, g⟩ := g
    obtain ⟨a, vs, rfl, hd, hl, r⟩ := sx.dic_of ok
    obtain ⟨z, e3, r3⟩ := (dget_rel (w := w) key hl r).1 d e2
    exact .inr (.inr (.inr ⟨a, ks.zip vs, key, z, rfl, keyD_see sy e1, hK ▸ hW ▸ hd, e3, k _ _ w H (.refl w H) ok r3 g⟩))
  | _ => exact g.elim

/-! ### x[a:b] -/
def cutD (ds : List D) (lo hi : Option Int) : List D := (ds.drop (HT.sIx ds.length 0 lo)).take (HT.sIx ds.length ds.length hi - HT.sIx ds.length 0 lo)
abbrev FO := Env → (Option Int → Prop) → XP → Prop
def fNone : FO := fun _ Q _ => Q none
def fSome (A : FE) : FO := fun r Q EX => A r (fun d => ∃ i, d = .int i ∧ Q (some i)) EX
def toD (G : Gm) (E : XK) (F : FO) : TO := fun s H Q => ∃ w0 H0 r w QD EX, Fr G w0 H0 r s w H ∧ LkE G E w0 H0 EX ∧ F r QD EX ∧ ∀ o w' H', Le w H w' H' → Ok w' H' → QD o → Q o H'
theorem co_none {E : XK} : PO X none (toD G E fNone) := ⟨fun p s σ H Q I ⟨w0, H0, r, w, QD, EX, fr, lk, f, k⟩ => po_none.run p s σ H Q I (k none w H (.refl w H) fr.ok f)⟩
theorem co_some {E : XK} {e : Expr} {A : FE} (h : PE X e (tD G E A)) : PO X (some e) (toD G E (fSome A)) := ⟨fun p s σ H Q I ⟨w0, H0, r, w, QD, EX, fr, lk, f, k⟩ =>
  (po_some h).run p s σ H Q I ⟨w0, H0, r, w, _, EX, fr, lk, f, fun d v w1 H1 l1 ok1 r1 ⟨i, ed, q⟩ => ⟨i, by rw [ed] at r1; exact r1.int_of, k _ w1 H1 l1 ok1 q⟩⟩⟩
def fSlice (A : FE) (L U : FO) : FE := fun r Q EX => A r (fun x => L r (fun lo => U r (fun hi => match x with
  | .tup ds => Q (.tup (cutD ds lo hi))
  | .lst ds => Q (.lst (cutD ds lo hi))
  | .str z => z.length ≤ sizeLine ∧ Q (.str (cutS z lo hi))
  | _ => False) EX) EX) EX
theorem cut_rep {w : Wd} {ds : List D} {vs : List V} {lo hi : Option Int} (r : Reps G w ds vs) : Reps G w (cutD ds lo hi) (cutV vs lo hi) := by
  unfold cutD cutV
  rw [r.length]
  exact (r.drop _).take _
theorem cut_whole {ds : List D} {lo hi : Option Int} (h : HT.sIx ds.length 0 lo = 0 ∧ HT.sIx ds.length ds.length hi = ds.length) : cutD ds lo hi = ds := by
  unfold cutD
  rw [h.1, h.2]
  simp
theorem ce_slice {a : Expr} {lo hi : Option Expr} {p2 pos : Pos} {E : XK} {A : FE} {L U : FO} (ha : PE X a (bD G E A)) (hl : PO X lo (toD G E L)) (hh : PO X hi (toD G E U)) (hK : X.K = G.K := by rfl) :
    PE X (.Subscript a (.Slice lo hi none p2) pos) (tD G E (fSlice A L U)) := PE.weak (pe_slice (sl_str.or (sl_tupF.or sl_list)) ha hl hh) fun s H Q ⟨w0, H0, r, w, QD, EX, fr, lk, f, k⟩ => by
  refine ⟨w0, H0, r, w, _, EX, fr, lk, f, fun x v w1 H1 l1 ok1 s1 q1 => ?_⟩
  refine ⟨w0, H0, r, w1, _, EX, fr.go l1 ok1, lk, q1, fun lo w2 H2 l2 ok2 q2 => ?_⟩
  refine ⟨w0, H0, r, w2, _, EX, (fr.go l1 ok1).go l2 ok2, lk, q2, fun hi w3 H3 l3 ok3 q3 => ?_⟩
  have s3 := (s1.go l2).go l3
  have l := (l1.trans l2).trans l3
  cases x with
  | str z => exact .inl ⟨z, s3.str_of, q3.1, k _ _ w3 H3 l ok3 Rep.str q3.2⟩
  | tup ds =>
    obtain ⟨p, vs, e, t1, r1⟩ := s3.tup_of ok3
    refine .inr (.inl ⟨p, vs, e, hK ▸ t1, fun hw => ?_, fun _ p' o hp hd => ?_⟩)
    · rw [← r1.length] at hw
      have q4 : QD (.tup (cutD ds lo hi)) := q3
      rw [cut_whole hw] at q4
      have rp := s3.tup_rep
      rw [e] at rp
      exact k _ _ w3 H3 l ok3 rp q4
    · obtain ⟨w4, l4, ok4, rp⟩ := newTup (p := p') ok3 hp hd (cut_rep (lo := lo) (hi := hi) r1)
      exact k _ _ w4 _ (l.trans l4) ok4 rp q3
  | lst ds =>
    obtain ⟨p, vs, e, t1, r1⟩ := s3.lst_of ok3
    refine .inr (.inr ⟨p, vs, e, hK ▸ t1.sql, fun p' hp => ?_⟩)
    obtain ⟨w4, l4, ok4, rp⟩ := newLst (p := p') ok3 hp (cut_rep (lo := lo) (hi := hi) r1)
    exact k _ _ w4 _ (l.trans l4) ok4 rp q3
  | _ => exact q3.elim
end DL
/-! The data layer, part 5: statements, loops, comprehensions. -/
namespace DL
open PySem L2
section
variable {X : Cx} {G : Gm} {E : XK} {e : Expr} {st : Stmt} {rest : List Stmt} {pos : Pos}

theorem Fr.setV {w0 : Wd} {H0 : Hp} {r : Env} {s : L2.St} {w : Wd} {H : Hp} {i : Nat} {d : D} {v : V} (f : Fr G w0 H0 r s w H) (rp : Rep G w d v) : Fr G w0 H0 (r.set i (.val d)) (s.set i (some v)) w H :=
  Fr.set (x := .val d) f rfl ⟨v, rfl, rp⟩
theorem SlotOk.own {H0 : Hp} {w : Wd} {H : Hp} {a : Addr} {vs : List V} {ds : List D} (m : Mine H0 w a) (h : H a = some (.lst vs)) (r : Reps G w ds vs) : SlotOk G H0 w H (.own ds) (some (some (.ref a))) := ⟨a, vs, rfl, m, h, r⟩

/-! ### blocks -/
def sNext : FS := fun A _ r => A.nx r
def sSeq (F F' : FS) : FS := fun A EX r => F { A with nx := fun r' => F' A EX r' } EX r
theorem css_nil : PSs X [] (sD G E sNext) := PSs.weak pss_nil fun B s H ⟨w0, H0, wk, r, w, A, EX, fr, sb, lk, ll, f⟩ => ll.nx r s w H fr sb f
theorem css_cons {F F' : FS} (h1 : PS X st (sD G E F)) (h2 : PSs X rest (sD G E F')) : PSs X (st :: rest) (sD G E (sSeq F F')) := PSs.weak (pss_cons h1 h2) fun B s H ⟨w0, H0, wk, r, w, A, EX, fr, sb, lk, ll, f⟩ =>
  ⟨w0, H0, wk, r, w, { A with nx := fun r' => F' A EX r' }, EX, fr, sb, lk, ⟨fun r' s' w' H' fr' sb' f' => ⟨w0, H0, wk, r', w', A, EX, fr', sb', lk, ll, f'⟩, ll.rt, ll.bk, ll.ct, ll.rn⟩, f⟩
theorem css_one {F : FS} (h1 : PS X st (sD G E F)) : PSs X [st] (sD G E F) := pss_one h1
def sIf (T : FT) (F F' : FS) : FS := fun A EX r => T r (fun b => if b = true then F A EX r else F' A EX r) EX
theorem cs_if {c : Expr} {a b : List Stmt} {T : FT} {F F' : FS} (hc : PT X c (ttD G E T)) (ha : PSs X a (sD G E F)) (hb : PSs X b (sD G E F')) : PS X (.If c a b pos) (sD G E (sIf T F F')) := (ps_if hc ha hb).weak fun B s H ⟨w0, H0, wk, r, w, A, EX, fr, sb, lk, ll, f⟩ =>
  ⟨w0, H0, r, w, _, EX, fr, lk, f, fun b w1 H1 l1 ok1 q1 => by
    cases b with
    | true =>
      rw [if_pos rfl] at q1 ⊢
      exact ⟨w0, H0, wk, r, w1, A, EX, fr.go l1 ok1, sb.trans l1.sub, lk, ll, q1⟩
    | false =>
      rw [if_neg Bool.false_ne_true] at q1 ⊢
      exact ⟨w0, H0, wk, r, w1, A, EX, fr.go l1 ok1, sb.trans l1.sub, lk, ll, q1⟩⟩
/-- what is seen may be kept as a value, frozen -/
theorem See.keep {H0 : Hp} {w : Wd} {H : Hp} {d : D} {v : V} {w0 : Wd} (ok : Ok w H) (l : Le w0 H0 w H) (h : See G H0 w H d v) : ∃ w', Le w0 H0 w' H ∧ Ok w' H ∧ Sub w w' ∧ Rep G w' d v := by
  rcases h with h | ⟨a, vs, ds, rfl, rfl, m, h1, r⟩ | ⟨a, vs, ks, ds, rfl, rfl, m, h1, hl, r⟩
  · exact ⟨w, l, ok, .refl w, h⟩
  · refine ⟨w.frz H a, l.frz m.1 m.2.2, ok.frz m.2.1, .frz m.1, Rep.lst (.of (by rw [frz_at]; exact h1)) (r.mono (.frz m.1))⟩
  · refine ⟨w.frz H a, l.frz m.1 m.2.2, ok.frz m.2.1, .frz m.1, ?_⟩
    unfold Rep
    exact ⟨a, vs, rfl, .inl (by rw [frz_at]; exact h1), hl, r.mono (.frz m.1)⟩
def sRet (F : FE) : FS := fun A EX r => F r A.rt EX
/-- return: an own list, dict may be handed out -/
theorem cs_ret {F : FE} (he : PE X e (bD G E F)) : PS X (.Return (some e) pos) (sD G E (sRet F)) := (ps_ret he).weak fun B s H ⟨w0, H0, wk, r, w, A, EX, fr, sb, lk, ll, f⟩ =>
  ⟨w0, H0, r, w, _, EX, fr, lk, f, fun d v w1 H1 l1 ok1 s1 q1 => by
    obtain ⟨w2, l2, ok2, _, rp⟩ := s1.keep ok1 (fr.le.trans l1)
    exact ll.rt d v w2 H1 l2 ok2 rp q1⟩
def sSet (i : Nat) (F : FE) : FS := fun A EX r => F r (fun d => A.nx (r.set i (.val d))) EX
theorem cs_set {i : Nat} {x : Str} {F : FE} {pos' : Pos} (he : PE X e (tD G E F)) (hN : X.N.Nodup) (hi : X.N[i]? = some x := by rfl) (hx : Loc X.env.scope x := by first | exact Or.inl rfl | exact Or.inr rfl) (hs : swapsWith e (some (.Name x pos')) pos.line X.env = pure false := by rfl)
    (hf : X.fn x = true ∨ X.env.scope.names.lookup x = some .local := by first | exact .inl rfl | exact .inr rfl | assumption) : PS X (.Assign [.Name x pos'] e pos) (sD G E (sSet i F)) := (ps_set hN hi hx he hs hf).weak fun B s H ⟨w0, H0, wk, r, w, A, EX, fr, sb, lk, ll, f⟩ =>
  ⟨w0, H0, r, w, _, EX, fr, lk, f, fun d v w1 H1 l1 ok1 r1 q1 => ll.nx _ _ w1 H1 ((fr.go l1 ok1).setV r1) (sb.trans l1.sub) q1⟩
/-- a new list, the frame's own -/
def sSetOwn (i : Nat) (F : FA) : FS := fun A EX r => F r (fun ds => A.nx (r.set i (.own ds))) EX
theorem cs_setOwn {i : Nat} {x : Str} {F : FA} {pos' : Pos} (he : PE X e (fD G E F)) (hN : X.N.Nodup) (hi : X.N[i]? = some x := by rfl) (hx : Loc X.env.scope x := by first | exact Or.inl rfl | exact Or.inr rfl) (hs : swapsWith e (some (.Name x pos')) pos.line X.env = pure false := by rfl)
    (hf : X.fn x = true ∨ X.env.scope.names.lookup x = some .local := by first | exact .inl rfl | exact .inr rfl | assumption) : PS X (.Assign [.Name x pos'] e pos) (sD G E (sSetOwn i F)) := (ps_set hN hi hx he hs hf).weak fun B s H ⟨w0, H0, wk, r, w, A, EX, fr, sb, lk, ll, f⟩ =>
  ⟨w0, H0, r, w, _, EX, fr, lk, f, fun ds a vs w1 H1 l1 ok1 hn m h1 r1 q1 => ll.nx _ _ w1 H1 ((fr.go l1 ok1).setOwn (fun j y b e1 e2 e3 => fr.ownAt j y b e1 e2 e3) hn (SlotOk.own m h1 r1)) (sb.trans l1.sub) q1⟩
/-! ### targets -/
abbrev TGd := D → Env → (Env → Prop) → Prop
/-- a store that only puts values which stand in w -/
def Cm (G : Gm) (w0 : Wd) (H0 : Hp) (w : Wd) (r : Env) (s : L2.St) (r' : Env) (s' : L2.St) : Prop := ∀ w' H', Sub w w' → Fr G w0 H0 r s w' H' → Fr G w0 H0 r' s' w' H'
structure TgL (G : Gm) (vs : List Nat) (tg : TG) (g : TGd) : Prop where
  go : ∀ w0 H0 r s w H d v K Q, Fr G w0 H0 r s w H → Rep G w d v → g d r K → (∀ r' s', Fr G w0 H0 r' s' w H → Cm G w0 H0 w r s r' s' → wipe s' vs = wipe s vs → K r' → Q s' H) → tg v s H Q
def gVar (i : Nat) : TGd := fun d r K => K (r.set i (.val d))
theorem wipe_set {s : St} {i : Nat} {x : Option V} : ∀ {vs : List Nat}, i ∈ vs → wipe (s.set i x) vs = wipe s vs
  | [], h => by simp at h
  | v :: vs, h => by
    unfold wipe
    by_cases e : v = i
    · subst e
      by_cases h2 : v ∈ vs
      · rw [wipe_set h2]
      · refine List.ext_getElem? fun j => ?_
        by_cases z : v = j
        · subst z
          have hl : (wipe (s.set v x) vs).length = (wipe s vs).length := by rw [wipe_length, wipe_length]; simp
          by_cases hv : v < (wipe s vs).length
          · rw [List.getElem?_set_self hv, List.getElem?_set_self (hl ▸ hv)]
          · rw [List.getElem?_eq_none (by rw [List.length_set, hl]; exact Nat.le_of_not_lt hv), List.getElem?_eq_none (by rw [List.length_set]; exact Nat.le_of_not_lt hv)]
        · rw [List.getElem?_set_ne z, List.getElem?_set_ne z]
          by_cases hj : j ∈ vs
          · have wj : ∀ {t : St} {us : List Nat}, j ∈ us → t.length = s.length → (wipe t us)[j]? = if j < s.length then some none else none := fun {t us} m hl => by
              induction us with
              | nil => simp at m
              | cons u us ih =>
                unfold wipe
                by_cases q : u = j
                · subst q
                  by_cases hu : u < s.length
                  · rw [List.getElem?_set_self (by rw [wipe_length, hl]; exact hu), if_pos hu]
                  · rw [List.getElem?_eq_none (by rw [List.length_set, wipe_length, hl]; exact Nat.le_of_not_lt hu), if_neg hu]
                · rw [List.getElem?_set_ne q]
                  exact ih ((List.mem_cons.mp m).resolve_left fun z => q z.symm)
            rw [wj hj (by simp), wj hj rfl]
          · rw [wipe_out hj, wipe_out hj, List.getElem?_set_ne z]
    · have h2 : i ∈ vs := (List.mem_cons.mp h).resolve_left fun z => e z.symm
      rw [wipe_set h2]
theorem tg_var {i : Nat} {vs : List Nat} (h : i ∈ vs := by decide) : TgL G vs (gName i) (gVar i) where
  go := fun w0 H0 r s w H d v K Q fr rp k q => q _ _ (fr.setV rp) (fun w' H' sb fr' => fr'.setV (rp.mono sb)) (wipe_set h) k
/-- a, b, .. = a tuple -/
abbrev TGds := List D → Env → (Env → Prop) → Prop
structure TgsL (G : Gm) (vs : List Nat) (tg : TGs) (g : TGds) : Prop where
  go : ∀ w0 H0 r s w H ds us K Q, Fr G w0 H0 r s w H → Reps G w ds us → g ds r K → (∀ r' s', Fr G w0 H0 r' s' w H → Cm G w0 H0 w r s r' s' → wipe s' vs = wipe s vs → K r' → Q s' H) → tg us s H Q
/-- a, b = e1, e2, plain local names: both are reckoned, then both stored -/
def sPar (i j : Nat) (F : FA) : FS := fun A EX r => F r (fun ds => ∃ d d', ds = [d, d'] ∧ A.nx ((r.set i (.val d)).set j (.val d'))) EX
theorem cs_par {i j : Nat} {x y : Str} {a b : Expr} {F : FA} {px py pt : Pos} {kt k2 pt2} (ha : PA X [a, b] (taD G E F)) (hN : X.N.Nodup) (hc : X.calm = true := by rfl) (hi : X.N[i]? = some x := by rfl) (hj : X.N[j]? = some y := by rfl) (hij : i ≠ j := by decide)
    (hx : X.env.scope.names.lookup x = some .local := by rfl) (hy : X.env.scope.names.lookup y = some .local := by rfl) 
    (hw : swappedStores [.Tuple [.Name x px, .Name y py] kt pt] (.Tuple [a, b] k2 pt2) X.env = pure (some [x, y]) := by rfl)
    (hs : swapsWithSole [.Tuple [.Name x px, .Name y py] kt pt] (.Tuple [a, b] k2 pt2) pos.line X.env = pure false := by rfl) :
    PS X (.Assign [.Tuple [.Name x px, .Name y py] kt pt] (.Tuple [a, b] k2 pt2) pos) (sD G E (sPar i j F)) := (ps_par hc hN hi hj hij hx hy ha hw hs).weak fun B s H ⟨w0, H0, wk, r, w, A, EX, fr, sb, lk, ll, f⟩ =>
  ⟨w0, H0, r, w, _, EX, fr, lk, f, fun ds vs w1 H1 l1 ok1 r1 ⟨d, d', e, q1⟩ => by
    subst e
    obtain ⟨v, t, e1, r2, r3⟩ := r1.of_cons
    obtain ⟨v', t', e2, r4, r5⟩ := r3.of_cons
    have e3 := r5.of_nil
    subst e1
    subst e2
    subst e3
    exact ⟨v, v', rfl, ll.nx _ _ w1 H1 (((fr.go l1 ok1).setV r2).setV r4) (sb.trans l1.sub) q1⟩⟩

/-! ### what is walked -/
/-- at turn i the i-th of ds comes, whatever else has become frozen -/
structure SrcS (G : Gm) (J : It) (w1 : Wd) (ds : List D) : Prop where
  stop : ∀ w H, Ok w H → Sub w1 w → J.stop ds.length H
  go : ∀ i d w H, Ok w H → Sub w1 w → ds[i]? = some d → J.go i H ∧ ∀ x H', J.yld i H x H' → ∃ w', Le w H w' H' ∧ Ok w' H' ∧ Rep G w' d x
/-- .. while nothing is changed -/
structure SrcE (G : Gm) (J : It) (w1 : Wd) (H1 : Hp) (ds : List D) : Prop where
  stop : ∀ w H, Ok w H → Le w1 H1 w H → J.stop ds.length H
  go : ∀ i d w H, Ok w H → Le w1 H1 w H → ds[i]? = some d → J.go i H ∧ ∀ x H', J.yld i H x H' → ∃ w', Le w H w' H' ∧ Ok w' H' ∧ Rep G w' d x
theorem SrcS.toE {J : It} {w1 : Wd} {H1 : Hp} {ds : List D} (h : SrcS G J w1 ds) : SrcE G J w1 H1 ds := ⟨fun w H ok l => h.stop w H ok l.sub, fun i d w H ok l e => h.go i d w H ok l.sub e⟩
abbrev FI := Env → (List D → Prop) → XP → Prop
def iS (G : Gm) (E : XK) (S : FI) : TI := fun s H R => ∃ w0 H0 r w QD EX, Fr G w0 H0 r s w H ∧ LkE G E w0 H0 EX ∧ S r QD EX ∧ ∀ ds J w' H', Le w H w' H' → Ok w' H' → SrcS G J w' ds → QD ds → R J H'
def iE (G : Gm) (E : XK) (S : FI) : TI := fun s H R => ∃ w0 H0 r w QD EX, Fr G w0 H0 r s w H ∧ LkE G E w0 H0 EX ∧ S r QD EX ∧ ∀ ds J w' H', Le w H w' H' → Ok w' H' → SrcE G J w' H' ds → QD ds → R J H'
theorem _root_.L2.PI.weak {tg iter : Expr} {t t' : TI} (h : PI X tg iter t) (k : ∀ s H R, t' s H R → t s H R) : PI X tg iter t' := ⟨fun p s σ H R I q => h.run p s σ H R I (k σ H R q)⟩
theorem iE_of {tg iter : Expr} {S : FI} (h : PI X tg iter (iS G E S)) : PI X tg iter (iE G E S) := h.weak fun s H R ⟨w0, H0, r, w, QD, EX, fr, lk, f, k⟩ =>
  ⟨w0, H0, r, w, QD, EX, fr, lk, f, fun ds J w' H' l ok sr q => k ds J w' H' l ok sr.toE q⟩
def signs (z : Str) : List D := z.cps.toList.map fun c => .str ⟨#[c]⟩
def rangeD (lo hi : Int) : List D := (List.range (hi - lo).toNat).map fun i => .int (lo + ((i : Nat) : Int))
def fRng1 (A : FA) : FI := fun r Q EX => A r (fun ds => ∃ n, ds = [.int n] ∧ (-(2 ^ 62) ≤ n ∧ n < 2 ^ 62) ∧ Q (rangeD 0 n)) EX
theorem src_list {K : PySem.W.Frag} {a : Addr} {vs : List V} {ds : List D} {w1 : Wd} (h : LsT K w1.hd a vs) (r : Reps G w1 ds vs) : SrcS G (Itl K a) w1 ds where
  stop := fun w H ok sb => ⟨vs, (lsT_sub (fun b o e => ok.sub b o (sb.hd b o e)) h).sql, by rw [r.length]; exact Nat.le_refl _⟩
  go := fun i d w H ok sb e => by
    obtain ⟨v, e1, r1⟩ := r.getD e
    have sq : SqL K H a vs := (lsT_sub (fun b o e => ok.sub b o (sb.hd b o e)) h).sql
    refine ⟨⟨vs, v, sq, e1⟩, fun x H' ⟨eH, y⟩ => ?_⟩
    subst eH
    have q := y vs sq
    rw [e1] at q
    cases q
    exact ⟨w, .refl w _, ok, r1.mono sb⟩
theorem src_listE {K : PySem.W.Frag} {a : Addr} {vs : List V} {ds : List D} {w1 : Wd} {H1 : Hp} (nj : ¬ w1.jr a) (h : H1 a = some (.lst vs)) (r : Reps G w1 ds vs) : SrcE G (Itl K a) w1 H1 ds where
  stop := fun w H ok l => ⟨vs, .inl (.of (l.keep _ _ h nj)), by rw [r.length]; exact Nat.le_refl _⟩
  go := fun i d w H ok l e => by
    obtain ⟨v, e1, r1⟩ := r.getD e
    have sq : SqL K H a vs := .inl (.of (l.keep _ _ h nj))
    refine ⟨⟨vs, v, sq, e1⟩, fun x H' ⟨eH, y⟩ => ?_⟩
    subst eH
    have q := y vs sq
    rw [e1] at q
    cases q
    exact ⟨w, .refl w _, ok, r1.mono l.sub⟩
theorem src_tup {K : PySem.W.Frag} {a : Addr} {vs : List V} {ds : List D} {w1 : Wd} (h : SqT K w1.hd a vs) (r : Reps G w1 ds vs) : SrcS G (Itt K a) w1 ds where
  stop := fun w H ok sb => ⟨vs, sqT_sub (fun b o e => ok.sub b o (sb.hd b o e)) h, by rw [r.length]; exact Nat.le_refl _⟩
  go := fun i d w H ok sb e => by
    obtain ⟨v, e1, r1⟩ := r.getD e
    have sq : SqT K H a vs := sqT_sub (fun b o e => ok.sub b o (sb.hd b o e)) h
    refine ⟨⟨vs, v, sq, e1⟩, fun x H' ⟨eH, y⟩ => ?_⟩
    subst eH
    have q := y vs sq
    rw [e1] at q
    cases q
    exact ⟨w, .refl w _, ok, r1.mono sb⟩
theorem src_str {z : Str} {w1 : Wd} : SrcS G (Its z) w1 (signs z) where
  stop := fun w H ok sb => by show z.cps.size ≤ (signs z).length; unfold signs; simp
  go := fun i d w H ok sb e => by
    unfold signs at e
    rw [List.getElem?_map] at e
    cases q : z.cps.toList[i]? with
    | none => rw [q] at e; cases e
    | some c =>
      rw [q] at e
      cases e
      have hi : i < z.cps.size := by
        have := (List.getElem?_eq_some_iff.mp q).1
        simpa using this
      refine ⟨hi, fun x H' ⟨eH, c', y, ex⟩ => ?_⟩
      subst eH
      subst ex
      rw [← Array.getElem?_toList, q] at y
      cases y
      exact ⟨w, .refl w _, ok, Rep.str⟩
theorem src_rng {lo hi : Int} {w1 : Wd} : SrcS G (Itr lo (hi - lo).toNat) w1 (rangeD lo hi) where
  stop := fun w H ok sb => by show (hi - lo).toNat ≤ (rangeD lo hi).length; unfold rangeD; simp
  go := fun i d w H ok sb e => by
    unfold rangeD at e
    rw [List.getElem?_map] at e
    cases q : (List.range (hi - lo).toNat)[i]? with
    | none => rw [q] at e; cases e
    | some c =>
      rw [q] at e
      cases e
      obtain ⟨h1, h2⟩ := List.getElem?_eq_some_iff.mp q
      rw [List.getElem_range] at h2
      subst h2
      refine ⟨by show i < (hi - lo).toNat; simpa using h1, fun x H' ⟨eH, ex⟩ => ?_⟩
      subst eH
      subst ex
      exact ⟨w, .refl w _, ok, Rep.int⟩
end
end DL
/-! The data layer, part 6: for, while, comprehensions. -/
namespace DL
open PySem L2
section
variable {X : Cx} {G : Gm} {E : XK} {e : Expr} {st : Stmt} {rest : List Stmt} {pos : Pos} {tg l : Expr} {A : FE}
theorem cis_rng1 {a : Expr} {F : FA} {p pos : Pos} (hm : X.mg "range" = none) (ha : PA X [a] (taD G E F)) (hg : Gl X "range" := by rfl) (hs : starEach [a] X.env = [(false, eval a X.env)] := by rfl) : PI X tg (.Call (.Name "range" p) [a] [] pos) (iS G E (fRng1 F)) := (pi_range1 hg hm ha hs).weak fun s H R ⟨w0, H0, r, w, QD, EX, fr, lk, f, k⟩ =>
  ⟨w0, H0, r, w, _, EX, fr, lk, f, fun ds vs w1 H1 l1 ok1 r1 ⟨n, ed, ⟨b1, b2⟩, q⟩ => by
    subst ed
    have ev := Reps.ints (ns := [n]) r1
    subst ev
    refine ⟨n, rfl, b1, b2, k (rangeD 0 n) (Itr 0 n.toNat) w1 H1 l1 ok1 ?_ q⟩
    have := src_rng (G := G) (lo := 0) (hi := n) (w1 := w1)
    rwa [show (n - 0).toNat = n.toNat by omega] at this⟩
/-! ### for -/
def forD (g : TGd) (B : FS) : List D → DE → XP → Env → Prop
  | [], A, _, r => A.nx r
  | d :: ds, A, EX, r => g d r fun r1 => B { A with nx := fun r2 => forD g B ds A EX r2, ct := fun r2 => forD g B ds A EX r2, bk := A.nx } EX r1
def sFor (S : FI) (g : TGd) (B : FS) : FS := fun A EX r => S r (fun ds => forD g B ds A EX r) EX
theorem drop_get {α : Type} {ds : List α} {i : Nat} {d : α} (h : ds[i]? = some d) : ds.drop i = d :: ds.drop (i + 1) := by
  obtain ⟨h1, h2⟩ := List.getElem?_eq_some_iff.mp h
  rw [List.drop_eq_getElem_cons h1, h2]
theorem cs_for {iter : Expr} {body : List Stmt} {S : FI} {t : TG} {g : TGd} {vs : List Nat} {B : FS} (hp : PassesOwn (model X.prog X.w) X.A X.env X.xe) (hi : PI X tg iter (iS G E S)) (hg : PG X tg t) (hl : TgL G vs t g) (hb : PSs X body (sD G E B)) (hc : X.calm = true := by rfl)
    (hs : ∀ x, foldedSetIterable iter X.env x = pure x := by intro _; rfl) : PS X (.For tg iter body [] pos) (sD G E (sFor S g B)) := PS.weak (ps_for hp hc hi hg hb hs) fun C s H ⟨w0, H0, wk, r, w, A, EX, fr, sb, lk, ll, f⟩ =>
  ⟨w0, H0, r, w, _, EX, fr, lk, f, fun ds J w1 H1 l1 ok1 src q => by
    let Pv : Nat → L2.St → Hp → Prop := fun i s H => ∃ r w, Fr G w0 H0 r s w H ∧ Sub w1 w ∧ forD g B (ds.drop i) A EX r
    refine ⟨fun i m s H => m = ds.length - i ∧ i ≤ ds.length ∧ Pv i s H, ⟨ds.length, by simp, Nat.zero_le _, r, w1, fr.go l1 ok1, .refl w1, q⟩, ?_⟩
    rintro i m s2 H2 ⟨rfl, hi, r2, w2, fr2, sb2, q2⟩
    have sbk : ∀ {w3 : Wd}, Sub w1 w3 → Sub wk w3 := fun z => (sb.trans l1.sub).trans z
    by_cases hlt : i < ds.length
    · have e : ds[i]? = some ds[i] := by simp [hlt]
      obtain ⟨g1, g2⟩ := src.go i _ w2 H2 fr2.ok sb2 e
      refine .inr ⟨g1, Pv (i + 1), fun s' H' p' => ⟨ds.length - (i + 1), by omega, rfl, hlt, p'⟩, fun x H' y => ?_⟩
      obtain ⟨w3, l3, ok3, r3⟩ := g2 x H' y
      rw [drop_get e] at q2
      refine hl.go w0 H0 r2 s2 w3 H' _ x _ _ (fr2.go l3 ok3) r3 q2 fun r' s' fr' _ _ k' => ?_
      have sb3 : Sub w1 w3 := sb2.trans l3.sub
      exact ⟨w0, H0, w1, r', w3, { A with nx := fun r2 => forD g B (ds.drop (i + 1)) A EX r2, ct := fun r2 => forD g B (ds.drop (i + 1)) A EX r2, bk := A.nx }, EX, fr', sb3, lk, ⟨fun r4 s4 w4 H4 f4 sb4 k4 => ⟨r4, w4, f4, sb4, k4⟩, ll.rt, fun r4 s4 w4 H4 f4 sb4 k4 => ll.nx r4 s4 w4 H4 f4 (sbk sb4) k4, fun r4 s4 w4 H4 f4 sb4 k4 => ⟨r4, w4, f4, sb4, k4⟩, ll.rn⟩, k'⟩
    · have e : i = ds.length := by omega
      subst e
      rw [List.drop_length] at q2
      exact .inl ⟨src.stop w2 H2 fr2.ok sb2, ll.nx r2 s2 w2 H2 fr2 (sbk sb2) q2⟩⟩

/-! ### comprehensions -/
theorem wipe_get {s : L2.St} {j : Nat} : ∀ vs : List Nat, (L2.wipe s vs)[j]? = if j ∈ vs then (if j < s.length then some none else none) else s[j]?
  | [] => by simp [L2.wipe]
  | v :: vs => by
    have ih := wipe_get (s := s) (j := j) vs
    unfold L2.wipe
    by_cases q : v = j
    · subst q
      rw [if_pos List.mem_cons_self]
      by_cases hv : v < s.length
      · rw [List.getElem?_set_self (by rw [wipe_length]; exact hv), if_pos hv]
      · rw [List.getElem?_eq_none (by rw [List.length_set, wipe_length]; exact Nat.le_of_not_lt hv), if_neg hv]
    · rw [List.getElem?_set_ne q, ih]
      by_cases m : j ∈ vs
      · rw [if_pos m, if_pos (List.mem_cons_of_mem _ m)]
      · rw [if_neg m, if_neg (fun z => m ((List.mem_cons.mp z).resolve_left fun y => q y.symm))]
theorem wipe_idem {s : L2.St} {vs : List Nat} : L2.wipe (L2.wipe s vs) vs = L2.wipe s vs := by
  refine List.ext_getElem? fun j => ?_
  rw [wipe_get, wipe_get, wipe_length]
  by_cases m : j ∈ vs
  · rw [if_pos m, if_pos m]
  · rw [if_neg m, if_neg m]
def wipeD (r : Env) : List Nat → Env
  | [] => r
  | v :: vs => (wipeD r vs).set v .un
theorem Fr.wipe {w0 : Wd} {H0 : Hp} {r : Env} {s : L2.St} {w : Wd} {H : Hp} (fr : Fr G w0 H0 r s w H) : ∀ vs : List Nat, Fr G w0 H0 (wipeD r vs) (wipe s vs) w H
  | [] => fr
  | v :: vs => by
    have ih := Fr.wipe fr vs
    unfold wipeD L2.wipe
    refine ⟨ih.ok, ih.le, by simpa using ih.len, fun j y e => ?_, fun j k y u a e1 e2 o1 o2 q1 q2 => ?_⟩
    · by_cases z : v = j
      · subst z
        have hv : v < (wipeD r vs).length := by
          have q := (List.getElem?_eq_some_iff.mp e).1
          simpa using q
        rw [List.getElem?_set_self hv] at e
        cases e
        trivial
      · rw [List.getElem?_set_ne z] at e
        rw [List.getElem?_set_ne z]
        exact ih.slot j y e
    · have nn : ∀ {n : Nat} {u : Sl}, ((wipeD r vs).set v .un)[n]? = some u → u.isOwn = true → v ≠ n := fun {n u} en on z => by
        subst z
        have hv : v < (wipeD r vs).length := by
          have q := (List.getElem?_eq_some_iff.mp en).1
          simpa using q
        rw [List.getElem?_set_self hv] at en
        cases en
        cases on
      have n1 := nn e1 o1
      have n2 := nn e2 o2
      rw [List.getElem?_set_ne n1] at e1 q1
      rw [List.getElem?_set_ne n2] at e2 q2
      exact ih.dist j k y u a e1 e2 o1 o2 q1 q2
abbrev NoX : XP := fun _ => False
def fYes : FT := fun _ Q _ => Q true
theorem cts_nil {X : Cx} : PTs X [] (ttD G E fYes) := ⟨fun p s σ H Q I ⟨w0, H0, r, w, QD, EX, fr, lk, f, k⟩ => pts_nil.run p s σ H Q I (k true w H (.refl w H) fr.ok f)⟩
def lcD (g : TGd) (T : FT) (F : FE) (r : Env) : List D → List D → (List D → Prop) → Prop
  | [], acc, Q => Q acc
  | d :: ds, acc, Q => g d r fun r1 => T r1 (fun b => if b = true then F r1 (fun y => acc.length < sizeLine ∧ lcD g T F r ds (acc ++ [y]) Q) NoX else lcD g T F r ds acc Q) NoX
def fLc (S : FI) (vs : List Nat) (g : TGd) (T : FT) (F : FE) : FA := fun r Q EX => S r (fun ds => lcD g T F (wipeD r vs) ds [] Q) EX
/-- behind a part of a comprehension: the list so far stands -/
theorem acc_keep {w w' : Wd} {H H' : Hp} {p : Addr} {o : HO} (l : Le w H w' H') (h : H p = some o) (hn : w.hd p = none) (nj : ¬ w.jr p) : H' p = some o ∧ w'.hd p = none ∧ ¬ w'.jr p := by
  have ne : H p ≠ none := by rw [h]; exact fun z => by cases z
  refine ⟨l.keep _ _ h nj, ?_, fun j => nj (l.old p ne j)⟩
  cases e : w'.hd p with
  | none => rfl
  | some u => exact absurd hn (l.oldh p ne (by rw [e]; exact fun z => by cases z))
structure SrcX (G : Gm) (J : It) (P : Wd → Hp → Prop) (ds : List D) : Prop where
  stop : ∀ w H, Ok w H → P w H → J.stop ds.length H
  go : ∀ i d w H, Ok w H → P w H → ds[i]? = some d → J.go i H ∧ ∀ x H', J.yld i H x H' → ∃ w', Le w H w' H' ∧ Ok w' H' ∧ Rep G w' d x
/-- the list so far stands at Dd -/
structure Acc (G : Gm) (w1 : Wd) (H1 : Hp) (w2 : Wd) (Dd : Addr) (w : Wd) (H : Hp) (acc : List D) (us : List V) : Prop where
  le : Le w1 H1 w H
  sub : Sub w2 w
  ok : Ok w H
  at_ : H Dd = some (.lst us)
  hn : w.hd Dd = none
  nj : ¬ w.jr Dd
  rep : Reps G w acc us
theorem Acc.go {w1 w2 w w' : Wd} {H1 H H' : Hp} {Dd : Addr} {acc : List D} {us : List V} (a : Acc G w1 H1 w2 Dd w H acc us) (l : Le w H w' H') (ok : Ok w' H') : Acc G w1 H1 w2 Dd w' H' acc us := by
  obtain ⟨h1, h2, h3⟩ := acc_keep l a.at_ a.hn a.nj
  exact ⟨a.le.trans l, a.sub.trans l.sub, ok, h1, h2, h3, a.rep.mono l.sub⟩
theorem Acc.add {w1 w2 w : Wd} {H1 H : Hp} {Dd : Addr} {acc : List D} {us : List V} {d : D} {v : V} (a : Acc G w1 H1 w2 Dd w H acc us) (hD : H1 Dd = none) (r : Rep G w d v) : Acc G w1 H1 w2 Dd w (upd H Dd (.lst (us ++ [v]))) (acc ++ [d]) (us ++ [v]) :=
  ⟨a.le.put hD, a.sub, a.ok.put a.hn a.nj, upd_same, a.hn, a.nj, a.rep.append (Reps.cons r Reps.nil)⟩
theorem lcX {w0 : Wd} {H0 : Hp} {r : Env} {s : L2.St} {w1 w2 : Wd} {H1 H2 : Hp} {ds : List D} {J : It} {Dd : Addr} {vs : List Nat} {t : TG} {g : TGd} {T : FT} {F : FE} {Q : List D → Prop} {Qd : Hp → Prop} {acc0 : List D} {us0 : List V}
    (htb : w0.tb = G.tb)
    (frw : ∀ w H, Ok w H → Le w1 H1 w H → Sub w2 w → Fr G w0 H0 (wipeD r vs) (L2.wipe s vs) w H) (src : SrcX G J (fun w H => Le w1 H1 w H ∧ Sub w2 w) ds) (hl : TgL G vs t g) (hD : H1 Dd = none) (a0 : Acc G w1 H1 w2 Dd w2 H2 acc0 us0) (q : lcD g T F (wipeD r vs) ds acc0 Q)
    (k : ∀ acc us w H, Acc G w1 H1 w2 Dd w H acc us → Q acc → Qd H) :
    ∃ W : Nat → Nat → Hp → Prop, (∃ m, W 0 m H2) ∧ ∀ i m H, W i m H →
      (J.stop i H ∧ Qd H) ∨ (J.go i H ∧ ∃ Nx : Hp → Prop, (∀ H', Nx H' → ∃ m', m' < m ∧ W (i + 1) m' H') ∧ ∀ x H', J.yld i H x H' → t x (L2.wipe s vs) H' fun s2 H2 => L2.wipe s2 vs = L2.wipe s vs ∧ ttD G E0 T s2 H2 fun b H3 =>
        if b = true then tD G E0 F s2 H3 fun y H4 => ∃ acc, H4 Dd = some (.lst acc) ∧ acc.length < sizeLine ∧ Nx (upd H4 Dd (.lst (acc ++ [y]))) else Nx H3) := by
  let Pv : Nat → Hp → Prop := fun i H => ∃ w acc us, Acc G w1 H1 w2 Dd w H acc us ∧ lcD g T F (wipeD r vs) (ds.drop i) acc Q
  refine ⟨fun i m H => m = ds.length - i ∧ i ≤ ds.length ∧ Pv i H, ⟨ds.length, by simp, Nat.zero_le _, w2, acc0, us0, a0, q⟩, ?_⟩
  rintro i m H ⟨rfl, hi, w, acc, us, a, q2⟩
  by_cases hlt : i < ds.length
  · have e : ds[i]? = some ds[i] := by simp [hlt]
    obtain ⟨g1, g2⟩ := src.go i _ w H a.ok ⟨a.le, a.sub⟩ e
    refine .inr ⟨g1, Pv (i + 1), fun H' p' => ⟨ds.length - (i + 1), by omega, rfl, hlt, p'⟩, fun x H' y => ?_⟩
    obtain ⟨w3, l3, ok3, r3⟩ := g2 x H' y
    have a3 := a.go l3 ok3
    rw [drop_get e] at q2
    refine hl.go w0 H0 _ _ w3 H' _ x _ _ (frw w3 H' ok3 a3.le a3.sub) r3 q2 fun r' s' fr' _ ew k' => ⟨?_, ?_⟩
    · rw [ew, wipe_idem]
    · refine ⟨w0, H0, r', w3, _, NoX, fr', (LkE.none htb), k', fun b w4 H4 l4 ok4 q4 => ?_⟩
      have a4 := a3.go l4 ok4
      cases b with
      | true =>
        rw [if_pos rfl] at q4
        refine iteT ?_
        refine ⟨w0, H0, r', w4, _, NoX, fr'.go l4 ok4, (LkE.none htb), q4, fun d v w5 H5 l5 ok5 r5 ⟨hz, q5⟩ => ?_⟩
        have a5 := a4.go l5 ok5
        exact ⟨us, a5.at_, by rw [← a5.rep.length]; exact hz, w5, acc ++ [d], us ++ [v], a5.add hD r5, q5⟩
      | false =>
        rw [if_neg Bool.false_ne_true] at q4
        refine iteF ?_
        exact ⟨w4, acc, us, a4, q4⟩
  · have e : i = ds.length := by omega
    subst e
    rw [List.drop_length] at q2
    exact .inl ⟨src.stop w H a.ok ⟨a.le, a.sub⟩, k acc us w H a q2⟩
theorem Acc.start {w1 : Wd} {H1 : Hp} {Dd : Addr} (ok : Ok w1 H1) (hD : H1 Dd = none) : Acc G w1 H1 w1 Dd w1 (upd H1 Dd (.lst [])) [] [] :=
  ⟨Le.new hD, .refl w1, ok.new hD, upd_same, ok.none_hd hD, ok.none_jr hD, Reps.nil⟩
theorem lc_link {S : FI} {t : TG} {g : TGd} {T : FT} {F : FE} {vs : List Nat} (hl : TgL G vs t g) (s : L2.St) (H : Hp) (Q : VK) (h : fD G E (fLc S vs g T F) s H Q) : tLc (iE G E S) t (ttD G E0 T) (tD G E0 F) vs s H Q := by
  obtain ⟨w0, H0, r, w, QD, EX, fr, lk, f, k⟩ := h
  refine ⟨w0, H0, r, w, _, EX, fr, lk, f, fun ds J w1 H1 l1 ok1 src q Dd hD => ?_⟩
  refine lcX lk.2 (fun w H ok l _ => ((fr.go l1 ok1).go l ok).wipe vs) ⟨fun w H ok p => src.stop w H ok p.1, fun i d w H ok p => src.go i d w H ok p.1⟩ hl hD (Acc.start ok1 hD) q fun acc us w2 H2 a qa => ?_
  refine k acc Dd us w2 H2 (l1.trans a.le) a.ok (l1.none_of hD) ⟨a.hn, a.nj, ?_⟩ a.at_ a.rep qa
  cases z : H0 Dd with
  | none => rfl
  | some o => exact absurd hD ((fr.le.trans l1).dom Dd (by rw [z]; exact fun y => by cases y))
theorem cf_lc {elt iter : Expr} {ifs : List Expr} {scope : Scope} {own : List (Str × Nat)} {S : FI} {t : TG} {g : TGd} {T : FT} {F : FE} (hN : X.N.Nodup) (hi : PI X tg iter (iE G E S)) (ok : BlkOk X.N X.env.scope scope own)
    (hg : ∀ (s : Shared) (H : Hp) (C : Addr) (cl : List (Str × Addr)) (fp : List Addr), PG (X.blk s H scope (compEnvC scope cl C X.env) fp) tg t) (hl : TgL G (own.map (·.2)) t g)
    (ht : ∀ (s : Shared) (H : Hp) (C : Addr) (cl : List (Str × Addr)) (fp : List Addr), PTs (X.blk s H scope (compEnvC scope cl C X.env) fp) ifs (ttD G E0 T))
    (he : ∀ (s : Shared) (H : Hp) (C : Addr) (cl : List (Str × Addr)) (fp : List Addr), PE (X.blk s H scope (compEnvC scope cl C X.env) fp) elt (tD G E0 F)) (hc : X.calm = true := by rfl) (hs : ∀ x, foldedSetIterable iter X.env x = pure x := by intro _; rfl) :
    PE X (.ListComp elt [⟨tg, iter, ifs, 0⟩] scope pos) (fD G E (fLc S (own.map (·.2)) g T F)) := PE.weak (pe_lc hc hN hi ok hg ht he hs) (lc_link hl)

end
end DL
/-! The data layer, part 7: defs and their promises over data; calls; objects; the law's call. -/
namespace DL
open PySem L2 PyProof.Rows

/-! ### a def's promise, where no text of an object is under way -/
structure FnG (P : Program) (w : World) (K : PySem.W.Frag) (mg : Str → Option Value) (base : Heap) (k : Nat) (f : Addr) (fd : FuncData) (ps : List Str) (sp : Sp) : Prop where
  len : ∀ vs H Q E, sp vs H Q E → vs.length = ps.length
  run : ∀ (A : Around) (outer : List PySem.Env) (s : Shared) (H : Hp) (args : Args) (us : List Value) (vs : List V) (Q : VK) (E : XK), A.guards = some [] → Room k A → Env0 P w K mg base A outer s H → BindsTo s fd args (ps.zip us) → Vals vs us → sp vs H Q E →
    codeAny (model P w) A (.call (.ref f) args) (CR (L2.CX P w) outer P w H s Q E) s
theorem FnG.mono {P : Program} {w : World} {K : PySem.W.Frag} {mg : Str → Option Value} {base : Heap} {j k : Nat} {f : Addr} {fd : FuncData} {ps : List Str} {sp : Sp} (F : FnG P w K mg base j f fd ps sp) (h : j ≤ k) : FnG P w K mg base k f fd ps sp :=
  ⟨F.len, fun A outer s H args us vs Q E hg hr => F.run A outer s H args us vs Q E hg (hr.mono h)⟩
theorem FnG.imp {P : Program} {w : World} {K : PySem.W.Frag} {mg : Str → Option Value} {base : Heap} {k : Nat} {f : Addr} {fd : FuncData} {ps : List Str} {sp sp' : Sp} (F : FnG P w K mg base k f fd ps sp)
    (h : ∀ vs H Q E, sp' vs H Q E → sp vs H Q E) : FnG P w K mg base k f fd ps sp' :=
  ⟨fun vs H Q E q => F.len vs H Q E (h _ _ _ _ q), fun A outer s H args us vs Q E hg hr he hb hv hs => F.run A outer s H args us vs Q E hg hr he hb hv (h _ _ _ _ hs)⟩

section
variable {P : Program} {w : World} {K : PySem.W.Frag} {mg : Str → Option Value} {base : Heap} {k : Nat} {f : Addr} {N ps : List Str} {sp : Sp}
/-- a def of the text keeps its promise, by its body -/
theorem Fun.okG {x qual : Str} {st : Stmt} {fd : FuncData} (F : Fun K x qual st f fd) (S : FnScope N ps (defScope st)) (len : ∀ vs H Q E, sp vs H Q E → vs.length = ps.length)
    (body : ∀ (cdv : Value) (A : Around) (outer : List PySem.Env) (s : Shared) (H : Hp) (vs : List V) (Q : VK) (E : XK), A.guards = some [] → Room k (A.deeper (envOfC qual (defScope st) s.heap.objs.size f cdv)) → sp vs H Q E →
      ∃ t, PSs (cxOf (L2.CX P w) P w K mg base N qual (defScope st) f cdv A outer s H E) (defBody st) t ∧ t { nx := fun _ H' => Q .non H', rt := Q } (L2.start N vs) H) : FnG P w K mg base (k + 1) f fd ps sp := by
  obtain ⟨oc, od, kV, doc, pm, an, cdv, ct, osl, rfl, lk, hcd⟩ := F.ex
  refine ⟨len, fun A outer s H args us vs Q E hg hr e0 hb rv hsp => ?_⟩
  have nl := len _ _ _ _ hsp
  have inK : K.In s.heap := e0.mod.kin.keeps fun b o e => (e0.bs b o e).1
  have lim : s.heap.NoLimit := e0.mod.nolimit.keeps fun b o e => (e0.bs b o e).1
  have kinds : ∀ y ∈ ps.zip us, (defScope st).names.lookup y.1 = some .local ∨ ((defScope st).names.lookup y.1 = some .cell ∧ ((cellsFrom (s.heap.objs.size + 1) (defScope st).names []).lookup y.1).isSome = true) := by
    rintro ⟨n, v⟩ hy
    exact (S.par n (List.of_mem_zip hy).1).imp id fun q => ⟨q, PySem.W.cellsFrom_some _ _ _ (.inl q)⟩
  refine codeAny_call_function hr.depth (inK _ _ lk) rfl S.co S.gen rfl (PySem.W.codeRec_of inK hcd) (hb _ _ _ _ ?_)
  refine wpAny_newFunctionEnv_cells S.kind kinds fun env he s1 x1 => ?_
  subst he
  refine ⟨lim.keeps x1.toInCall.keep, codeAny_func ?_⟩
  obtain ⟨t, ht, hq⟩ := body cdv A outer s H vs Q E hg (hr.deeper _) hsp
  have I := inv_start (CX := L2.CX P w) (E := E) (qual := qual) (f := f) (cd := cdv) S hr.hd e0 nl rv x1
  refine wpAny_mono (ht.run [] s1 (L2.start N vs) H _ I hq) (fun fl s' hs => ?_) (fun e s' hs => hs)
  cases fl with
  | ret u =>
    obtain ⟨v, _, H', J, r, q⟩ := hs
    exact ⟨v, H', J.os, J.bare, J.base, J.hok, r, q⟩
  | next =>
    obtain ⟨_, H', J, q⟩ := hs
    exact ⟨V.non, H', J.os, J.bare, J.base, J.hok, rfl, q⟩
  | brk => exact (hs.elim fun _ z => z.elim fun _ y => (show False from y.2).elim)
  | cont => exact (hs.elim fun _ z => z.elim fun _ y => (show False from y.2).elim)
end

section
variable {X : Cx} {k : Nat} {f C : Addr} {fd : FuncData} {ps : List Str} {sp : Sp} {dvs : List V} {ds : List Value} {E : XK} {x m : Str} {p pos apos : Pos} {e o : Expr} {es : List Expr} {ta : TE} {t : TA}
abbrev PassX (X : Cx) (E : XK) : Prop := Passes (L2.CX X.prog X.w) X E
theorem run_g {pins : List (Addr × Obj)} {σ : L2.St} {H : Hp} {s : Shared} {Q : VK} {us : List Value} {vs : List V} (F : FnG X.prog X.w X.K X.mg X.base k f fd ps sp) (hg : X.A.guards = some []) (hr : Room k X.A) (hb : Binds X.K fd ps ds) (hd : Vals dvs ds) (hx : PassX X E)
    (I : Inv X pins σ H s) (r : Vals vs us) (h : sp (vs ++ dvs) H Q E) : wpAny (model X.prog X.w) X.A (call (.ref f) us) (EP X pins σ Q) X.xe s := by
  have both := r.append hd
  have nl : (us ++ ds).length = ps.length := both.length.symm.trans (F.len _ _ _ _ h)
  refine wpAny_call (codeAny_mono (F.run X.A X.stack s H ⟨us, []⟩ (us ++ ds) (vs ++ dvs) Q E hg hr I.env0 (hb s us I.kIn nl) both h) ?_)
  rintro (er | fl) s' hq
  · exact hx pins σ H s er s' I hq
  · cases fl <;> first
      | exact I.after hq
      | exact hq.elim
theorem pe_g (F : FnG X.prog X.w X.K X.mg X.base k f fd ps sp) (hgd : X.A.guards = some []) (hr : Room k X.A) (hg : Gl X x) (hm : X.mg x = some (.ref f)) (hk : PySem.W.keepIn X.K (.ref f) = true) (hb : Binds X.K fd ps ds) (hd : Vals dvs ds) (hx : PassX X E)
    (ha : PA X (e :: es) t) (hdb : (x == ("__debug__" : Str)) = false) (he : starEach (e :: es) X.env = (false, eval e X.env) :: starEach es X.env) (hpl : (backTo pos (starEach es X.env)).any (·.1) = false) :
    PE X (.Call (.Name x p) (e :: es) [] pos) (tCall sp dvs E t) := ⟨fun pins s σ H Q I h => by
  refine wpAny_Call_Name_kw (ld_glob I hg hm (PySem.W.callWith_K (h₀ := X.base) I.ok.mod.kin hk (thn (ha.run pos pins s σ H _ I h) ?_) he hpl) hdb)
  rintro us s1 ⟨vs, H1, I1, r, q⟩
  exact ⟨I1.kIn, run_g F hgd hr hb hd hx I1 r q⟩⟩
end

/-! ### promises over data -/
abbrev DSp := List D → (D → Prop) → XP → Prop
variable {G : Gm}
def lift (G : Gm) (sp : DSp) : Sp := fun vs H Q E => ∃ w ds QD EX, Ok w H ∧ Reps G w ds vs ∧ sp ds QD EX ∧ (∀ d v w' H', Le w H w' H' → Ok w' H' → Rep G w' d v → QD d → Q v H') ∧ LkE G E w H EX
section
variable {X : Cx} {E : XK} {k : Nat} {f C : Addr} {fd : FuncData} {ps : List Str} {x m : Str} {p pos apos : Pos} {e o : Expr} {es : List Expr} {A : FE} {B : FA} {sp : DSp}
def fCall (sp : DSp) (B : FA) : FE := fun r Q EX => B r (fun ds => sp ds Q EX) EX
theorem LkE.go {w0 w : Wd} {H0 H : Hp} {EX : XP} (l : Le w0 H0 w H) (h : LkE G E w0 H0 EX) : LkE G E w H EX := ⟨fun x od w' H' l' ok' a q => h.1 x od w' H' (l.trans l') ok' a q, l.sub.tb.trans h.2⟩
theorem ce_call (F : FnG X.prog X.w X.K X.mg X.base k f fd ps (lift G sp)) (hm : X.mg x = some (.ref f)) (hk : PySem.W.keepIn X.K (.ref f) = true) (hb : Binds X.K fd ps []) (hgd : X.A.guards = some []) (hr : Room k X.A) (hx : PassX X E)
    (ha : PA X (e :: es) (taD G E B)) (hg : Gl X x := by rfl) (hdb : (x == ("__debug__" : Str)) = false := by decide) (he : starEach (e :: es) X.env = (false, eval e X.env) :: starEach es X.env := by rfl) (hpl : (backTo pos (starEach es X.env)).any (·.1) = false := by rfl) :
    PE X (.Call (.Name x p) (e :: es) [] pos) (tD G E (fCall sp B)) := (pe_g F hgd hr hg hm hk hb .nil hx ha hdb he hpl).weak fun s H Q ⟨w0, H0, r, w, QD, EX, fr, lk, f, k⟩ =>
  ⟨w0, H0, r, w, _, EX, fr, lk, f, fun ds vs w1 H1 l1 ok1 r1 q1 => ⟨w1, ds, QD, EX, ok1, by rw [List.append_nil]; exact r1, q1, fun d v w2 H2 l2 ok2 r2 q2 => k d v w2 H2 (l1.trans l2) ok2 r2 q2, lk.go (fr.le.trans l1)⟩⟩
end

/-! ### a def's body -/
/-- the slots at the entry -/
def startD (N : List Str) (ds : List D) : Env := ds.map Sl.val ++ List.replicate (N.length - ds.length) Sl.un
theorem fr_start {w : Wd} {H : Hp} {N : List Str} {ds : List D} {vs : List V} (ok : Ok w H) (r : Reps G w ds vs) : Fr G w H (startD N ds) (L2.start N vs) w H where
  ok := ok
  le := .refl w H
  len := by unfold startD L2.start; simp [r.length]
  slot := fun i x e => by
    unfold startD at e
    unfold L2.start
    by_cases hi : i < ds.length
    · rw [List.getElem?_append_left (by simpa using hi), List.getElem?_map] at e
      rw [List.getElem?_append_left (by rw [List.length_map, ← r.length]; exact hi), List.getElem?_map]
      have hd : ds[i]? = some ds[i] := by simp [hi]
      rw [hd] at e
      cases e
      obtain ⟨v, e2, r2⟩ := r.getD hd
      rw [e2]
      exact ⟨v, rfl, r2⟩
    · rw [List.getElem?_append_right (by simpa using hi), List.getElem?_replicate] at e
      split at e
      · cases e; trivial
      · cases e
  dist := fun i j x y a e1 e2 o1 o2 _ _ => by
    have no : ∀ {n : Nat} {x : Sl}, (startD N ds)[n]? = some x → x.isOwn = false := fun {n x} e => by
      unfold startD at e
      by_cases hn : n < ds.length
      · rw [List.getElem?_append_left (by simpa using hn), List.getElem?_map] at e
        have hd : ds[n]? = some ds[n] := by simp [hn]
        rw [hd] at e
        cases e
        rfl
      · rw [List.getElem?_append_right (by simpa using hn), List.getElem?_replicate] at e
        split at e
        · cases e; rfl
        · cases e
    rw [no e1] at o1
    cases o1
section
variable {P : Program} {w : World} {mg : Str → Option Value} {base : Heap} {k : Nat} {f : Addr} {N ps : List Str}
theorem okD {x qual : Str} {st : Stmt} {fd : FuncData} {sp : DSp} {B : FS} (F : Fun G.K x qual st f fd) (S : FnScope N ps (defScope st)) (len : ∀ ds Q EX, sp ds Q EX → ds.length = ps.length)
    (body : ∀ (cdv : Value) (A : Around) (outer : List PySem.Env) (s : Shared) (H : Hp) (E : XK), A.guards = some [] → Room k (A.deeper (envOfC qual (defScope st) s.heap.objs.size f cdv)) →
      PSs (cxOf (L2.CX P w) P w G.K mg base N qual (defScope st) f cdv A outer s H E) (defBody st) (sD G E B))
    (pure : ∀ ds Q EX, sp ds Q EX → B { nx := fun _ => Q .non, rt := Q } EX (startD N ds)) : FnG P w G.K mg base (k + 1) f fd ps (lift G sp) := by
  refine Fun.okG F S (fun vs H Q E ⟨w, ds, QD, EX, _, r, h, _⟩ => by rw [← r.length]; exact len _ _ _ h) fun cdv A outer s H vs Q E hg hr ⟨w, ds, QD, EX, ok, r, h, k, lk⟩ => ⟨_, body cdv A outer s H E hg hr, ?_⟩
  exact ⟨w, H, w, startD N ds, w, { nx := fun _ => QD .non, rt := QD }, EX, fr_start ok r, .refl w, lk, ⟨fun r s w' H' fr _ q => k .non .non w' H' fr.le fr.ok Rep.non q, fun d v w' H' l ok' rp q => k d v w' H' l ok' rp q, fun _ _ _ _ _ _ q => q.elim, fun _ _ _ _ _ _ q => q.elim, fun _ _ _ _ _ _ _ _ _ _ q => q.elim⟩, pure ds QD EX h⟩
end
section
variable {X : Cx} {E : XK} {k : Nat} {f C : Addr} {fd : FuncData} {ps : List Str} {x : Str} {p pos : Pos} {e : Expr} {es : List Expr} {B : FA} {sp : List D → (List D → Prop) → XP → Prop}
end
end DL
/-! The data layer, part 8: calls of builtins. -/
namespace DL
open PySem L2 PyProof.Rows

/-! ### sorting, as plain law -/
section
variable {α : Type} (lt : α → α → Bool)
def ins1 (x : α) : List α → List α
  | [] => [x]
  | y :: l => if lt y x = true then y :: ins1 x l else x :: y :: l
def isort : List α → List α
  | [] => []
  | x :: l => ins1 lt x (isort l)
structure Ord : Prop where
  irr : ∀ x, lt x x = false
  asym : ∀ x y, lt x y = true → lt y x = false
  tr : ∀ x y z, lt y x = false → lt z y = false → lt z x = false
variable {lt}
theorem ins1_perm {x : α} : ∀ {l : List α}, (ins1 lt x l).Perm (x :: l)
  | [] => .refl _
  | y :: l => by
    unfold ins1
    split
    · exact (List.Perm.cons y ins1_perm).trans (List.Perm.swap x y l)
    · exact .refl _
theorem isort_perm : ∀ {l : List α}, (isort lt l).Perm l
  | [] => .refl _
  | x :: l => ins1_perm.trans (List.Perm.cons x isort_perm)
end
end DL
/-! The data layer, part 9: sorted, calls of builtins over data. -/
namespace DL
open PySem L2 PyProof.Rows

/-! ### sorted, by values -/
section
variable {X : Cx}
end
end DL
/-! The data layer, part 10: calls of builtins over data. -/
namespace DL
open PySem L2 PyProof.Rows
variable {G : Gm} {X : Cx} {E : XK}
abbrev CG := List D → (D → Prop) → Prop
/-- a builtin whose answer is a value -/
def CaL (G : Gm) (X : Cx) (f : Value) (g : CG) : Prop := ∃ r, CallR X f r ∧ ∀ H0 w H ds vs Q (QD : D → Prop), Ok w H → Sees G H0 w H ds vs → g ds QD →
  (∀ d z w' H', Le w H w' H' → Ok w' H' → Rep G w' d z → QD d → Q z H') → r vs H Q
theorem Sees.one {H0 : Hp} {w : Wd} {H : Hp} {d : D} {vs : List V} (h : Sees G H0 w H [d] vs) : ∃ v, vs = [v] ∧ See G H0 w H d v := by
  cases h with
  | cons h t => cases t; exact ⟨_, rfl, h⟩
theorem Sees.two {H0 : Hp} {w : Wd} {H : Hp} {d d' : D} {vs : List V} (h : Sees G H0 w H [d, d'] vs) : ∃ v v', vs = [v, v'] ∧ See G H0 w H d v ∧ See G H0 w H d' v' := by
  cases h with
  | cons h t =>
    cases t with
    | cons h2 t2 => cases t2; exact ⟨_, _, rfl, h, h2⟩
def fCa (g : CG) (A : FA) : FE := fun r Q EX => A r (fun ds => g ds Q) EX
section
variable {x : Str} {id T : String} {e : Expr} {es : List Expr} {p pos : Pos} {g : CG} {A : FA}
theorem ca_link {r : List V → Hp → VK → Prop} (k0 : ∀ H0 w H ds vs Q (QD : D → Prop), Ok w H → Sees G H0 w H ds vs → g ds QD → (∀ d z w' H', Le w H w' H' → Ok w' H' → Rep G w' d z → QD d → Q z H') → r vs H Q)
    (s : L2.St) (H : Hp) (Q : VK) (h : tD G E (fCa g A) s H Q) : tCB r (baD G E A) s H Q := by
  obtain ⟨w0, H0, r, w, QD, EX, fr, lk, f, k⟩ := h
  exact ⟨w0, H0, r, w, _, EX, fr, lk, f, fun ds vs w1 H1 l1 ok1 s1 q1 => k0 H0 w1 H1 ds vs Q QD ok1 s1 q1 fun d z w2 H2 l2 ok2 r2 q2 => k d z w2 H2 (l1.trans l2) ok2 r2 q2⟩
theorem ce_callB (hc : CaL G X (.builtin id) g) (hm : X.mg x = none) (ha : PA X (e :: es) (baD G E A)) (hg : Gl X x := by rfl) (hv : bootBuiltins x = some (.builtin id) := by decide +kernel) (hn : x ≠ "__name__" := by decide) (hdb : (x == ("__debug__" : Str)) = false := by decide)
    (he : starEach (e :: es) X.env = (false, eval e X.env) :: starEach es X.env := by rfl) (hpl : (backTo pos (starEach es X.env)).any (·.1) = false := by rfl) : PE X (.Call (.Name x p) (e :: es) [] pos) (tD G E (fCa g A)) := by
  obtain ⟨r, hr, k0⟩ := hc
  exact (pe_callB hr hg hm hv ha hn hdb he hpl).weak (ca_link k0)
theorem ce_callTy (hc : CaL G X (.type T) g) (hm : X.mg x = none) (ha : PA X (e :: es) (baD G E A)) (hg : Gl X x := by rfl) (hv : bootBuiltins x = some (.type T) := by decide +kernel) (hn : x ≠ "__name__" := by decide) (hdb : (x == ("__debug__" : Str)) = false := by decide)
    (he : starEach (e :: es) X.env = (false, eval e X.env) :: starEach es X.env := by rfl) (hpl : (backTo pos (starEach es X.env)).any (·.1) = false := by rfl) : PE X (.Call (.Name x p) (e :: es) [] pos) (tD G E (fCa g A)) := by
  obtain ⟨r, hr, k0⟩ := hc
  exact (pe_callTy hr hg hm hv ha hn hdb he hpl).weak (ca_link k0)
end

/-! ### the builtins -/
def lenD : CG := fun ds Q => match ds with
  | [.tup xs] => Q (.int xs.length)
  | [.lst xs] => Q (.int xs.length)
  | [.str z] => z.length ≤ sizeLine ∧ Q (.int z.length)
  | _ => False
theorem cal_len (hK : X.K = G.K := by rfl) : CaL G X (.builtin "len") lenD := by
  refine ⟨_, call_len, fun H0 w H ds vs Q QD ok sx g k => ?_⟩
  match ds, g with
  | [.tup xs], g =>
    obtain ⟨v, rfl, s1⟩ := sx.one
    obtain ⟨a, us, rfl, sq, r⟩ := s1.tup_of ok
    exact ⟨_, _, rfl, .inr ⟨us, hK ▸ sq, rfl⟩, k _ _ w H (.refl w H) ok Rep.int (by rw [← r.length]; exact g)⟩
  | [.lst xs], g =>
    obtain ⟨v, rfl, s1⟩ := sx.one
    obtain ⟨a, us, rfl, sq, r⟩ := s1.lst_of ok
    exact ⟨_, _, rfl, .inl ⟨us, hK ▸ sq.sql, rfl⟩, k _ _ w H (.refl w H) ok Rep.int (by rw [← r.length]; exact g)⟩
  | [.str z], g =>
    obtain ⟨v, rfl, s1⟩ := sx.one
    rw [s1.str_of]
    exact ⟨_, z.length, rfl, ⟨g.1, rfl⟩, k _ _ w H (.refl w H) ok Rep.int g.2⟩
def i1D (f : Int → D) : CG := fun ds Q => match ds with
  | [.int i] => Q (f i)
  | _ => False
def i2D (f : Int → Int → D) : CG := fun ds Q => match ds with
  | [.int i, .int j] => Q (f i j)
  | _ => False
theorem cal_i1 {f : Value} {u : Int → Int} (h : CallR X f (fun xs H Q => ∃ i, xs = [.int i] ∧ Q (.int (u i)) H)) : CaL G X f (i1D fun i => .int (u i)) := by
  refine ⟨_, h, fun H0 w H ds vs Q QD ok sx g k => ?_⟩
  match ds, g with
  | [.int i], g =>
    obtain ⟨v, rfl, s1⟩ := sx.one
    rw [s1.int_of]
    exact ⟨i, rfl, k _ _ w H (.refl w H) ok Rep.int g⟩
theorem cal_i2 {f : Value} {u : Int → Int → Int} (h : CallR X f (fun xs H Q => ∃ i j, xs = [.int i, .int j] ∧ Q (.int (u i j)) H)) : CaL G X f (i2D fun i j => .int (u i j)) := by
  refine ⟨_, h, fun H0 w H ds vs Q QD ok sx g k => ?_⟩
  match ds, g with
  | [.int i, .int j], g =>
    obtain ⟨v, v', rfl, s1, s2⟩ := sx.two
    rw [s1.int_of, s2.int_of]
    exact ⟨i, j, rfl, k _ _ w H (.refl w H) ok Rep.int g⟩
theorem cal_abs : CaL G X (.builtin "abs") (i1D fun i => .int (if i < 0 then -i else i)) := cal_i1 call_abs
theorem cal_max2 (hc : X.calm = true := by rfl) : CaL G X (.builtin "max") (i2D fun i j => .int (if j > i then j else i)) := cal_i2 (call_max2 hc)
theorem cal_min2 (hc : X.calm = true := by rfl) : CaL G X (.builtin "min") (i2D fun i j => .int (if j < i then j else i)) := cal_i2 (call_min2 hc)
def intC : CG := fun ds Q => match ds with
  | [.int i] => Q (.int i)
  | [.bl b] => Q (.int (if b then 1 else 0))
  | _ => False
theorem cal_int : CaL G X (.type "int") intC := by
  refine ⟨_, call_int1, fun H0 w H ds vs Q QD ok sx g k => ?_⟩
  match ds, g with
  | [.int i], g =>
    obtain ⟨v, rfl, s1⟩ := sx.one
    rw [s1.int_of]
    exact .inl ⟨i, rfl, k _ _ w H (.refl w H) ok Rep.int g⟩
  | [.bl b], g =>
    obtain ⟨v, rfl, s1⟩ := sx.one
    rw [s1.bl_of]
    exact .inr ⟨b, rfl, k _ _ w H (.refl w H) ok Rep.int g⟩
def blsOf : List D → Option (List Bool)
  | [] => some []
  | .bl b :: ds => (blsOf ds).map (b :: ·)
  | _ => none
theorem blsOf_eq : ∀ {ds : List D} {bs : List Bool}, blsOf ds = some bs → ds = bs.map D.bl
  | [], bs, h => by cases h; rfl
  | d :: ds, bs, h => by
    cases d <;> first | (unfold blsOf at h; cases h; done) | skip
    unfold blsOf at h
    cases e : blsOf ds with
    | none => rw [e] at h; cases h
    | some l => rw [e] at h; cases h; rw [blsOf_eq e]; rfl
def blsD (f : List Bool → D) : CG := fun ds Q => match ds with
  | [.lst xs] => match blsOf xs with
    | some bs => Q (f bs)
    | none => False
  | _ => False
theorem cal_bls {f : Value} {u : List Bool → Bool} (h : CallR X f (fun vs H Q => ∃ (a : Addr) (bs : List Bool), vs = [V.ref a] ∧ SqL X.K H a (bs.map V.bl) ∧ Q (.bl (u bs)) H)) (hK : X.K = G.K) : CaL G X f (blsD fun bs => .bl (u bs)) := by
  refine ⟨_, h, fun H0 w H ds vs Q QD ok sx g k => ?_⟩
  match ds, g with
  | [.lst xs], g =>
    obtain ⟨v, rfl, s1⟩ := sx.one
    obtain ⟨a, us, rfl, sq, r⟩ := s1.lst_of ok
    cases e : blsOf xs with
    | none => simp only [blsD, e] at g
    | some bs =>
      simp only [blsD, e] at g
      rw [blsOf_eq e] at r
      rw [r.bls] at sq
      exact ⟨a, bs, rfl, hK ▸ sq.sql, k _ _ w H (.refl w H) ok Rep.bl g⟩
theorem cal_all (hc : X.calm = true := by rfl) (hK : X.K = G.K := by rfl) : CaL G X (.builtin "all") (blsD fun bs => .bl (bs.all id)) := cal_bls (cr_all hc) hK
/-- the greatest, the least of a list of ints -/
def maxI : List Int → Int
  | [] => 0
  | [x] => x
  | x :: l => if x < maxI l then maxI l else x
/-! ### repr -/
theorem repr_any {A : Around} {P : Program} {w : World} {E : Value → Shared → Prop} {s : Shared} {v : Value} {d : PyData} {as : List Addr} {Q : Value → Shared → Prop} (r : Reads s.heap v d as) (hs : d.showable = true) (hd : d.hasDict = false) (hg : A.guards = some []) (hu : A.units + (d.depth + 1) < cLine) (hz : d.shown.length ≤ sizeLine)
    (h : ∀ h' u tk, (∀ b o, s.heap.get? b = some o → h'.get? b = some o) → Q (.str d.shown u) { s with heap := h', toks := tk }) : wpAny (model P w) A (call (.builtin "repr") [v]) Q E s := by
  by_cases hv : ∃ a, v = .ref a
  · obtain ⟨a, rfl⟩ := hv
    exact repr_of_reads' r hs (PyData.noDict_hsm hd) hg hu (fun _ _ e => e) h hz
  · cases r with
    | none => exact PySem.P.repr_of_none (h _ _ _ fun _ _ e => e)
    | bool b => exact PySem.P.repr_of_bool (h _ _ _ fun _ _ e => e)
    | int i t => exact PySem.P.repr_of_int (by simpa [PyData.showable] using hs) (h _ _ _ fun _ _ e => e)
    | str x t => exact PySem.P.repr_of_str (h _ _ _ fun _ _ e => e)
    | _ => exact absurd ⟨_, rfl⟩ hv
end DL
/-! The data layer, part 11: repr, isinstance, sorted, list, fields, methods of lists and texts. -/
namespace DL
open PySem L2 PyProof.Rows
variable {G : Gm} {X : Cx} {E : XK}
mutual
theorem pd_noDict : ∀ d : D, plain d = true → (pd d).hasDict = false
  | .non, _ => by simp [pd, PyData.hasDict]
  | .bl _, _ => by simp [pd, PyData.hasDict]
  | .int _, _ => by simp [pd, PyData.hasDict]
  | .str _, _ => by simp [pd, PyData.hasDict]
  | .tup ds, h => by unfold plain at h; simp [pd, PyData.hasDict, pds_noDict ds h]
  | .lst ds, h => by unfold plain at h; simp [pd, PyData.hasDict, pds_noDict ds h]
  | .dic _ _, h => by unfold plain at h; cases h
  | .obj _ _, h => by unfold plain at h; cases h
  | .exc _ _, h => by unfold plain at h; cases h
  | .jar, h => by unfold plain at h; cases h
theorem pds_noDict : ∀ ds : List D, plains ds = true → PyData.hasDictAll (pds ds) = false
  | [], _ => by simp [pds, PyData.hasDictAll]
  | d :: ds, h => by
    unfold plains at h
    rw [Bool.and_eq_true] at h
    simp [pds, PyData.hasDictAll, pd_noDict d h.1, pds_noDict ds h.2]
end
/-- what may be shown -/
def shownOK (d : D) : Prop := plain d = true ∧ (pd d).showable = true ∧ (pd d).depth ≤ 60 ∧ (pd d).shown.length ≤ sizeLine
def reprD : CG := fun ds Q => match ds with
  | [d] => shownOK d ∧ Q (.str (pd d).shown)
  | _ => False
theorem call_reprD (hg : X.A.guards = some []) (hu : X.A.units + 64 < cLine) : CallR X (.builtin "repr") (fun xs H Q => ∃ x d, xs = [x] ∧ Dp X.K H x d ∧ d.showable = true ∧ d.hasDict = false ∧ d.depth ≤ 60 ∧ d.shown.length ≤ sizeLine ∧ Q (.str d.shown) H) := by
  intro pins s σ H xs us Q I r h
  obtain ⟨x, d, rfl, hd, h1, h2, h3, h4, q⟩ := h
  obtain ⟨u, rfl, rx⟩ := vals1 r
  obtain ⟨as, rd⟩ := Dp.reads I d x u hd rx
  exact repr_any rd h1 h2 hg (by omega) h4 fun h' u tk hk => ⟨.str _, H, I.kept hk, ⟨_, rfl⟩, q⟩
theorem cal_repr (hg : X.A.guards = some []) (hu : X.A.units + 64 < cLine) (hK : X.K = G.K := by rfl) : CaL G X (.builtin "repr") reprD := by
  refine ⟨_, call_reprD hg hu, fun H0 w H ds vs Q QD ok sx g k => ?_⟩
  match ds, g with
  | [d], g =>
    obtain ⟨v, rfl, s1⟩ := sx.one
    obtain ⟨⟨p, a, b, c⟩, q⟩ := g
    exact ⟨v, pd d, rfl, hK ▸ s1.dp ok p, a, pd_noDict d p, b, c, k _ _ w H (.refl w H) ok Rep.str q⟩

/-! ### isinstance -/
inductive Tag where
  | non | bl | int | str | tup | lst | dic | obj (c : Nat) | exc (c : Nat)
def tagD : D → Option Tag
  | .non => some .non | .bl _ => some .bl | .int _ => some .int | .str _ => some .str | .tup _ => some .tup | .lst _ => some .lst
  | .dic _ _ => some .dic | .obj c _ => some (.obj c) | .exc c _ => some (.exc c) | .jar => none
def tagV (G : Gm) : Tag → Value
  | .non => .type "NoneType" | .bl => .type "bool" | .int => .type "int" | .str => .type "str" | .tup => .type "tuple" | .lst => .type "list" | .dic => .type "dict"
  | .obj c => .ref (G.cls c)
  | .exc c => .ref (G.cls c)
/-- facts of an own class -/
structure ClsG (K : PySem.W.Frag) (C : Addr) : Prop where
  cl : Cls K C
  ca : PySem.W.findIn K (.ref C) "__class__" = some (some (.builtin "object.__class__"))
  cg : PySem.W.specialIn K (.builtin "object.__class__") "__get__" = some (some (.builtin "getset_descriptor.__get__"))
  ct : PySem.W.takesIn K (.builtin "object.__class__") = some true
  cm : PySem.W.mroIn K C (.type "object") = some true
def isiD (tbl : Tag → Option Bool) (A : FE) : FE := fun r Q EX => A r (fun d => match tagD d with
  | some t => match tbl t with
    | some b => Q (.bl b)
    | none => False
  | none => False) EX
/-- facts of an own class of exceptions -/
structure ExF (K : PySem.W.Frag) (C : Addr) : Prop where
  cl : (PySem.W.clsIn K C).isSome = true
  ga : PySem.W.findIn K (.ref C) "__getattribute__" = some (some (.builtin "BaseException.__getattribute__"))
  gt : PySem.W.findIn K (.ref C) "__getattr__" = some none
  sb : PySem.W.subIn K (.ref C) (.type "BaseException") = some true
  hd : PySem.W.hasDictIn K C = true
  ca : PySem.W.findIn K (.ref C) "__class__" = some (some (.builtin "object.__class__"))
  cg : PySem.W.specialIn K (.builtin "object.__class__") "__get__" = some (some (.builtin "getset_descriptor.__get__"))
  ct : PySem.W.takesIn K (.builtin "object.__class__") = some true
  cm : PySem.W.mroIn K C (.type "object") = some true
/-- what isinstance may be asked of -/
def KtV (K : PySem.W.Frag) (H : Hp) (v : V) (t : Value) : Prop := TyX K H v t ∨ ∃ a o C od, v = .ref a ∧ t = .ref C ∧ H a = some o ∧ XcAt o C od a ∧ (od = none ∨ ∃ dx fs, od = some dx ∧ H dx = some (.xd fs)) ∧ ExF K C
theorem exc_at {X : Cx} {pins : List (Addr × Obj)} {σ : L2.St} {H : Hp} {s : Shared} {a C : Addr} {o : HO} {od : Option Addr} (I : Inv X pins σ H s) (ho : H a = some o) (hx : XcAt o C od a) (hd : od = none ∨ ∃ dx fs, od = some dx ∧ H dx = some (.xd fs)) :
    ∃ (oe : Obj) (ob : Option Obj), PySem.W.InstAt s.heap a oe C ob ∧ ∀ dx fs, od = some dx → H dx = some (.xd fs) → ∃ (oD : Obj) (mA : Str → Option Value), ob = some oD ∧ s.heap.Ns1 dx mA ∧ s.heap.get? dx = some oD ∧ ∀ f, RelO (fs.lookup f) (mA f) := by
  obtain ⟨oe, vs, h1, h2, h3, h4⟩ := hx X.prog X.w H s.heap (I.hok a o ho)
  have nc : PySem.W.notCls oe = true := by
    unfold PySem.W.notCls
    rw [h4] <;> rfl
  rcases hd with rfl | ⟨dx, fs, rfl, hdx⟩
  · exact ⟨oe, none, ⟨h1, h2, nc, by rw [h3]; trivial⟩, fun dx fs z => by cases z⟩
  · obtain ⟨mA, hns, hr⟩ := (show ObjOk X.prog X.w H s.heap dx (.xd fs) from I.hok dx _ hdx)
    obtain ⟨oD, es, ep, hoD, hq⟩ := id hns
    refine ⟨oe, some oD, ⟨h1, h2, nc, by rw [h3]; exact hoD⟩, fun dx' fs' z hz => ?_⟩
    cases z
    rw [hdx] at hz
    cases hz
    exact ⟨oD, mA, rfl, hns, hoD, hr⟩
theorem kit_ofE {X : Cx} {pins : List (Addr × Obj)} {σ : L2.St} {H : Hp} {s : Shared} {x : V} {u t : Value} (I : Inv X pins σ H s) (rx : RelV x u) (ty : KtV X.K H x t) : ∃ P : Heap → Prop, PySem.W.KitX X.K u t P ∧ P s.heap ∧ u ≠ .builtin "__main__.__loader__#opaque" := by
  rcases ty with ty | ⟨a, o, C, od, rfl, rfl, ho, hx, hd, F⟩
  · exact kit_of I rx ty
  · cases (show u = Value.ref a from rx)
    obtain ⟨oe, ob, J, _⟩ := exc_at I ho hx hd
    exact ⟨_, PySem.W.kitx_exc F.cl F.ga F.gt F.sb F.ca F.cg F.ct F.cm, J, fun z => nomatch z⟩
/-- isinstance(x, c), x an exception, too -/
def rIsiE (K : PySem.W.Frag) : List V → Hp → VK → Prop := fun xs H Q => ∃ (x c : V) (t u : Value) (b : Bool), xs = [x, c] ∧ ClsV c u ∧ KtV K H x t ∧ PySem.W.kitOne K t u = some b ∧ Q (.bl b) H
theorem call_isiE {X : Cx} : CallR X (.builtin "isinstance") (rIsiE X.K) := by
  intro pins s σ H xs us Q I r ⟨x, c, t, u, b, ex, k, ty, e, q⟩
  subst ex
  obtain ⟨u1, u2, rfl, r1, r2⟩ := vals2 r
  obtain ⟨P, Z, p, hx⟩ := kit_ofE I r1 ty
  rw [k.eq r2]
  exact PySem.W.kia_one Z I.kIn p e hx fun tk => ⟨.bl b, H, I.tok tk, rfl, q⟩
theorem tyx_rep {w : Wd} {H : Hp} {d : D} {v : V} {t : Tag} (ok : Ok w H) (hc : ∀ c, t = .obj c → ClsG G.K (G.cls c)) (hx : ∀ c, t = .exc c → ExF G.K (G.cls c)) (ht : tagD d = some t) (h : Rep G w d v) : KtV G.K H v (tagV G t) := by
  cases d <;> cases ht
  · rw [h.non_of]; exact .inl (.base .non)
  · rw [h.bl_of]; exact .inl (.base (.bl _))
  · rw [h.int_of]; exact .inl (.base (.int _))
  · rw [h.str_of]; exact .inl (.base (.str _))
  · obtain ⟨a, vs, rfl, sq, _⟩ := h.tup_of
    rcases sqT_sub ok.sub sq.sqt with (e | ⟨o, e⟩) | ⟨o, its, n, e, c, _⟩
    · exact .inl (.base (.tup e))
    · exact .inl (.fTuple e)
    · exact .inl (.kTuple e c)
  · obtain ⟨a, vs, rfl, sq, _⟩ := h.lst_of
    rcases lsT_sub ok.sub sq with (e | ⟨o, e⟩) | ⟨its, n, e, _⟩
    · exact .inl (.base (.lst e))
    · exact .inl (.base (.frz e))
    · exact .inl (.kList e rfl)
  · obtain ⟨a, vs, rfl, sq, _⟩ := h.dic_of
    rcases sq with e | ⟨es, n, e, _⟩
    · exact .inl (.base (.dK (ok.sub _ _ e)))
    · exact .inl (.kDict e rfl)
  · obtain ⟨a, dx, fs, rfl, e, _⟩ := h.obj_of
    have c := hc _ rfl
    exact .inl (.base (.ins (ok.sub _ _ e) c.cl c.ca c.cg c.ct c.cm))
  · obtain ⟨a, o, od, vs, rfl, ho, hxa, _, hd⟩ := h.exc_of
    exact .inr ⟨a, o, _, od, rfl, rfl, ok.sub _ _ ho, hxa, hd.imp And.left fun ⟨dx, nm, u, e1, _, _, e4⟩ => ⟨dx, _, e1, ok.sub _ _ e4⟩, hx _ rfl⟩
theorem tyx_see {H0 : Hp} {w : Wd} {H : Hp} {d : D} {v : V} {t : Tag} (ok : Ok w H) (hc : ∀ c, t = .obj c → ClsG G.K (G.cls c)) (hx : ∀ c, t = .exc c → ExF G.K (G.cls c)) (ht : tagD d = some t) (h : See G H0 w H d v) : KtV G.K H v (tagV G t) := by
  rcases h with h | ⟨a, vs, ds, e1, e2, m, h1, r⟩ | ⟨a, vs, ks, ds, e1, e2, m, h1, hl, r⟩
  · exact tyx_rep ok hc hx ht h
  · subst e1; subst e2; cases ht; exact .inl (.base (.lst h1))
  · subst e1; subst e2; cases ht; exact .inl (.base (.dK h1))
theorem ce_isi {tbl : Tag → Option Bool} {o ce : Expr} {A : FE} {c : V} {u : Value} {p pos : Pos} (ho : PE X o (bD G E A)) (hce : PE X ce (tC c)) (hm : X.mg "isinstance" = none) (k : ClsV c u) (hc : ∀ c b, tbl (.obj c) = some b → ClsG G.K (G.cls c)) (ht : ∀ t b, tbl t = some b → PySem.W.kitOne X.K (tagV G t) u = some b)
    (hx : ∀ c b, tbl (.exc c) = some b → ExF G.K (G.cls c) := by first | assumption | (intro c b h; cases h; done))
    (hg : Gl X "isinstance" := by rfl) (hK : X.K = G.K := by rfl) (he : starEach [o, ce] X.env = (false, eval o X.env) :: starEach [ce] X.env := by rfl) (he2 : starEach [ce] X.env = (false, eval ce X.env) :: starEach [] X.env := by rfl) (hpl : (backTo pos (starEach [ce] X.env)).any (·.1) = false := by rfl) :
    PE X (.Call (.Name "isinstance" p) [o, ce] [] pos) (tD G E (isiD tbl A)) := PE.weak (pe_callB call_isiE hg hm (by decide +kernel) (pa_cons ho (pa_cons hce pa_nil he2) he) (by decide) (by decide) he hpl) fun s H Q ⟨w0, H0, r, w, QD, EX, fr, lk, f, k2⟩ =>
  ⟨w0, H0, r, w, _, EX, fr, lk, f, fun d v w1 H1 l1 ok1 s1 q1 => by
    show ∃ x c t u b, [v, _] = [x, c] ∧ ClsV c u ∧ KtV X.K H1 x t ∧ PySem.W.kitOne X.K t u = some b ∧ Q (.bl b) H1
    cases e1 : tagD d with
    | none => simp only [e1] at q1
    | some t =>
      simp only [e1] at q1
      cases e2 : tbl t with
      | none => simp only [e2] at q1
      | some b =>
        simp only [e2] at q1
        exact ⟨v, c, _, u, b, rfl, k, hK ▸ tyx_see ok1 (fun c hc' => hc c b (hc' ▸ e2)) (fun c hc' => hx c b (hc' ▸ e2)) e1 s1, ht t b e2, k2 _ _ w1 H1 l1 ok1 Rep.bl q1⟩⟩

end DL
/-! The data layer, part 12: the law's call. -/
namespace DL
open PySem L2 PyProof.Rows

/-- the law's def is called with the script, by its promise over data -/
theorem law_callD {P : Program} {w : World} {G : Gm} {mg mb : Str → Option Value} {k : Nat} {fa a : Addr} {fd : FuncData} {x : Str} {sp : DSp} {s₁ : Shared} {vs : List Value} {ns : List Int}
    (KX : G.K.In s₁.heap) (hG : G.tb = []) (hns : s₁.heap.Ns mainGlobals mg) (hb : s₁.heap.Ns builtinsNs mb) (hbb : ∀ x : Str, x ≠ "__name__" → mb x = bootBuiltins x) (hlim : s₁.heap.NoLimit) (hg : s₁.gens = #[])
    (ha : s₁.heap.get? a = some { cls := .type "list", data := .seq vs.toArray }) (hi : IntsAre vs ns) (hl : ns.length ≤ sizeLine) (hr : Room k callerA)
    (F : ∀ base : Heap, G.K.In base → base.Ns mainGlobals mg → FnG P w G.K mg base k fa fd [x] (lift G sp)) (hbind : ∀ (s : Shared) (u : Value), BindsTo s fd ⟨[u], []⟩ [(x, u)])
    (hsp : sp [.lst (ns.map D.int)] (fun d => d = .bl true) NoX) :
    codeAny (model P w) callerA (.call (.ref fa) ⟨[.ref a], []⟩) (fun r s' => r = .ok (.ret (.bool true)) ∧ OldK s₁.heap s'.heap ∧ s'.os = s₁.os ∧ AllBare s'.gens) s₁ := by
  have rv := vals_ints hi
  have lenV := hi.length
  have core : ∀ H : Hp, Only H → LsT G.K H a (ns.map V.int) → HOk P w H s₁.heap → (∀ b, H b ≠ none → b = a) → (H a ≠ none → G.K.lookup a = none) →
      codeAny (model P w) callerA (.call (.ref fa) ⟨[.ref a], []⟩) (fun r s' => r = .ok (.ret (.bool true)) ∧ OldK s₁.heap s'.heap ∧ s'.os = s₁.os ∧ AllBare s'.gens) s₁ := by
    intro H hO hS hok hA hK
    have base_of : ∀ {b : Addr} {o : Obj}, s₁.heap.get? b = some o → H b = none → (hidT s₁.heap H).get? b = some o := fun e n => hidT_get e n
    have noA : ∀ {b : Addr} {o : Obj} {es : Array DictEntry} {ep : Nat}, s₁.heap.get? b = some o → o.data = .dict es ep → H b = none := fun {b o es ep} e d => by
      cases q : H b with
      | none => rfl
      | some u =>
        have e' : b = a := hA b (by rw [q]; simp)
        subst e'
        rw [ha] at e; cases e
        have d' : Data.seq vs.toArray _ = Data.dict es ep := d
        cases d'
    have nsK : ∀ {b : Addr} {m : Str → Option Value}, s₁.heap.Ns b m → (hidT s₁.heap H).Ns b m := fun {b m} ⟨o, es, ep, e, d, r⟩ => ⟨o, es, ep, base_of e (noA e d), d, r⟩
    have hKb : G.K.In (hidT s₁.heap H) := fun b o e => base_of (KX b o e) (by
      cases q : H b with
      | none => rfl
      | some u =>
        have e' : b = a := hA b (by rw [q]; simp)
        subst e'
        rw [hK (by rw [q]; simp)] at e; cases e)
    have hM : Mod G.K mg (hidT s₁.heap H) := ⟨hKb, nsK hns, ⟨mb, nsK hb, hbb⟩, let ⟨mc, h1, h2⟩ := hlim; ⟨mc, nsK h1, h2⟩⟩
    have e0 : Env0 P w G.K mg (hidT s₁.heap H) callerA [] s₁ H := ⟨rfl, hM, fun b o e => of_hidT e, Nat.le_of_eq (hidT_size _ _), trivial, fun b hb => absurd (show b ∈ ([] : List Addr) from hb) (by simp), hok, .of_eq hg⟩
    have w0ok : Ok ⟨H, fun _ => False, fun _ => False, []⟩ H := ⟨fun _ _ h => h, fun _ h => h.elim, fun _ h => h.elim, fun _ h => by cases h⟩
    have hlift : lift G sp [.ref a] H (fun v _ => v = .bl true) (fun _ _ _ => False) :=
      ⟨⟨H, fun _ => False, fun _ => False, []⟩, [.lst (ns.map D.int)], _, NoX, w0ok, Reps.cons (by unfold Rep; exact ⟨a, _, rfl, hS, Reps.of_ints⟩) Reps.nil, hsp, fun d v w' H' _ _ rp q => by
        subst q
        exact rp.bl_of, LkE.none hG.symm⟩
    refine codeAny_mono ((F _ hKb (nsK hns)).run callerA [] s₁ H ⟨[.ref a], []⟩ [.ref a] [.ref a] _ _ rfl hr e0 (hbind s₁ (.ref a)) (.cons rfl .nil) hlift) fun r s' h => ?_
    cases r with
    | error e =>
      obtain ⟨_, _, _, _, _, _, _, _, _, _, _, _, z⟩ := h
      exact z.elim
    | ok fl =>
      cases fl with
      | next => exact False.elim h
      | brk => exact False.elim h
      | cont => exact False.elim h
      | ret u =>
        obtain ⟨v, H', os, bare, un, hok', r', q⟩ := h
        have q' : v = .bl true := q
        subst q'
        obtain rfl : u = Value.bool true := r'
        refine ⟨rfl, OldK.of_keep fun b o e => ?_, os, bare⟩
        cases q : H b with
        | none => exact un.keep b o e q (by intro z; exact absurd (show b ∈ ([] : List Addr) from z) (by simp)) (by simp)
        | some u =>
          rcases hO b with z | ⟨ob, xs, z⟩
          · rw [q] at z; cases z
          · have z2 := un.frzs b ob _ z
            obtain ⟨e1, _⟩ := hok b _ z
            obtain ⟨e2, _⟩ := hok' b _ z2
            rw [e] at e1; cases e1
            exact e2
  cases hk : G.K.lookup a with
  | some o =>
    have e := KX a o hk
    rw [ha] at e
    cases e
    refine core (fun _ => none) (fun _ => .inl rfl) (.inr ⟨vs.toArray, _, hk, by rw [List.size_toArray, lenV]; exact hl, by simpa using rv⟩) (fun b u z => by have z' : (none : Option HO) = some u := z; cases z') (fun b z => absurd rfl z) fun z => absurd rfl z
  | none =>
    refine core (fun b => if b = a then some (.frz { cls := .type "list", data := .seq vs.toArray } (.lst (ns.map V.int))) else none) (fun b => ?_) (.inl (.inr ⟨{ cls := .type "list", data := .seq vs.toArray }, if_pos rfl⟩)) (fun b u z => ?_) (fun b z => ?_) fun _ => hk
    · by_cases hb : b = a
      · exact .inr ⟨_, _, if_pos hb⟩
      · exact .inl (if_neg hb)
    · by_cases hb : b = a
      · have z' := (if_pos hb).symm.trans z
        cases z'
        subst hb
        exact ⟨ha, by rw [List.length_map]; exact hl, vs, _, rv, ha⟩
      · have z' := (if_neg hb).symm.trans z
        cases z'
    · by_cases hb : b = a
      · exact hb
      · exact absurd (if_neg hb) z
end DL
/-! The data layer, part 13: attributes, own lists, jars, methods. -/
namespace DL
open PySem L2 PyProof.Rows
variable {G : Gm} {X : Cx} {E : XK}

end DL
/-! The data layer, part 14: own lists changed, jars, methods of texts and lists, a list taken apart. -/
namespace DL
open PySem L2 PyProof.Rows
variable {G : Gm} {X : Cx} {E : XK}

/-! ### x.append(e) -/
def sAppC (i : Nat) (A : FE) : FS := fun B EX r => match r[i]? with
  | some (.own ds) => ds.length < sizeLine ∧ A r (fun d => B.nx (r.set i (.own (ds ++ [d])))) EX
  | _ => False
theorem cs_app {i : Nat} {x : Str} {e : Expr} {p apos cpos pos : Pos} {A : FE} (he : PE X e (tD G E A)) (hN : X.N[i]? = some x := by rfl) (hv : Vis X.env.scope x := by first | exact Or.inl rfl | exact Or.inr (Or.inl rfl) | exact Or.inr (Or.inr rfl))
    (hs : starEach [e] X.env = (false, eval e X.env) :: starEach [] X.env := by rfl) (hplain : (backTo cpos (starEach [] X.env)).any (·.1) = false := by rfl)
    (hfew : ((backTo cpos (starEach [e] X.env)).all (fun x => !x.1) && (backToKw cpos (keywordEach [] X.env)).all (fun x => x.1.isSome)
      && decide ([e].length + ([] : List Keyword).length + (if ([] : List Keyword).isEmpty then 0 else 1) < 30)) = true := by rfl)
    (hbase : attributeBase (.Name x p) "append" X.env (eval (.Name x p) X.env) = eval (.Name x p) X.env := by rfl) (hline : (apos.endLine == cpos.line) = true := by rfl) (hd : (x == ("__debug__" : Str)) = false := by decide) (hcd : (x == ("__classdict__" : Str)) = false := by decide)
    (hsw : swapsWith (.Call (.Attribute (.Name x p) "append" apos) [e] [] cpos) none pos.line X.env = pure false := by rfl) :
    PS X (.Expr (.Call (.Attribute (.Name x p) "append" apos) [e] [] cpos) pos) (sD G E (sAppC i A)) :=
  PS.weak (ps_expr (pe_bm PySem.F.plainAttrs_list PySem.F.slot_list_append PySem.F.type_list_append mt_append (pe_var hN hv hd hcd) (pa_cons he pa_nil hs) hbase hfew hline hs hplain) hsw) fun B s H ⟨w0, H0, wk, r, w, A', EX, fr, sb, lk, ll, f0⟩ => by
  unfold sAppC at f0
  cases e1 : r[i]? with
  | none => rw [e1] at f0; exact f0.elim
  | some sl =>
    rw [e1] at f0
    cases sl <;> try exact f0.elim
    rename_i ds
    obtain ⟨hz, f0⟩ := f0
    obtain ⟨a, vs, q, m, h1, rp⟩ := fr.slot i _ e1
    refine ⟨_, q, ⟨.inl ⟨rfl, vs, .inl (.of h1)⟩, w0, H0, r, w, _, EX, fr, lk, f0, fun d v w1 H1 l1 ok1 r1 q1 => ?_⟩⟩
    have fr1 := fr.go l1 ok1
    obtain ⟨a', vs', q', m', h1', rp'⟩ := fr1.slot i _ e1
    rw [q] at q'
    cases q'
    refine ⟨a, vs', v, rfl, rfl, h1', by rw [← rp'.length]; exact hz, ?_⟩
    have fr2 := fr1.chg (y := .own (ds ++ [d])) (o := .lst (vs' ++ [v])) e1 rfl q m' (SlotOk.own m' upd_same (rp'.append (Reps.cons r1 Reps.nil)))
    exact ll.nx _ _ w1 _ fr2 (sb.trans l1.sub) q1

/-! ### jars -/
def fJar (A : FE) : FE := fun r Q EX => A r (fun d => match d with
  | .jar => ∀ n : Int, Q (.int n)
  | _ => False) EX
theorem ce_jar {a : Expr} {n : Int} {ip pos : Pos} {A : FE} {kk} (ha : PE X a (tD G E A)) (hn : n = 0 ∨ n = 1 ∨ n = 2) (hs : PlainIx (.Constant (.int n) kk ip) := by exact fun _ _ => rfl) : PE X (.Subscript a (.Constant (.int n) kk ip) pos) (tD G E (fJar A)) :=
  (pe_ix ix_list ha pe_int hs).weak fun s H Q ⟨w0, H0, r, w, QD, EX, fr, lk, f0, k⟩ => ⟨w0, H0, r, w, _, EX, fr, lk, f0, fun d v w1 H1 l1 ok1 r1 q1 => by
    cases d <;> try exact q1.elim
    obtain ⟨a, rfl, j⟩ := r1.jar_of
    obtain ⟨_, x, y, z, h⟩ := ok1.jar a j
    have fin : ∀ (v : Int), atI [V.int x, .int y, .int z] n = some (.int v) → ∃ p vs i u, V.ref a = .ref p ∧ V.int n = .int i ∧ SqL X.K H1 p vs ∧ atI vs i = some u ∧ Q u H1 := fun v e =>
      ⟨a, _, n, _, rfl, rfl, .inl (.of h), e, k _ _ w1 H1 l1 ok1 Rep.int (q1 v)⟩
    rcases hn with rfl | rfl | rfl
    · exact fin x rfl
    · exact fin y rfl
    · exact fin z rfl⟩
theorem Fr.jar {w0 : Wd} {H0 : Hp} {r : Env} {s : L2.St} {w : Wd} {H : Hp} {a : Addr} {o : HO} (f : Fr G w0 H0 r s w H) (j : w.ja a) (ho : ∃ d t c : Int, o = .lst [.int d, .int t, .int c]) : Fr G w0 H0 r s w (upd H a o) where
  ok := by
    have jr := (f.ok.jar a j).1
    obtain ⟨hn, _⟩ := f.ok.jn a jr
    refine ⟨fun b u e => ?_, fun b jb => ?_, fun b jb => ?_, fun q m => ?_⟩
    · rw [upd_ne (ne_of_none e hn)]; exact f.ok.sub b u e
    · obtain ⟨e, z⟩ := f.ok.jn b jb
      refine ⟨e, ?_⟩
      by_cases q : b = a
      · subst q; rw [upd_same]; exact fun y => by cases y
      · rw [upd_ne q]; exact z
    · obtain ⟨e, d, t, c, z⟩ := f.ok.jar b jb
      by_cases q : b = a
      · subst q
        obtain ⟨d, t, c, eo⟩ := ho
        exact ⟨e, d, t, c, by rw [upd_same, eo]⟩
      · exact ⟨e, d, t, c, by rw [upd_ne q]; exact z⟩
    · obtain ⟨e, t⟩ := f.ok.tab q m
      refine ⟨e, t.go (upd_ne fun y => ?_) fun _ _ z => z⟩
      obtain ⟨ps, z, _⟩ := t
      obtain ⟨_, _, _, _, z2⟩ := f.ok.jar a j
      rw [y, z2] at z; cases z
  le := by
    refine ⟨f.le.sub, fun b u e nj => ?_, f.le.old, f.le.oldh, fun b e => ?_⟩
    · by_cases q : b = a
      · subst q
        exact absurd (f.le.old b (by rw [e]; exact fun z => by cases z) (f.ok.jar b j).1) nj
      · rw [upd_ne q]; exact f.le.keep b u e nj
    · by_cases q : b = a
      · subst q; rw [upd_same]; exact fun z => by cases z
      · rw [upd_ne q]; exact f.le.dom b e
  len := f.len
  slot := fun i x e => by
    have h := f.slot i x e
    have ne : ∀ b, Mine H0 w b → b ≠ a := fun b m e => m.2.1 (by rw [e]; exact (f.ok.jar a j).1)
    cases x with
    | un => trivial
    | val d => exact h
    | own ds => obtain ⟨b, vs, e2, m, h1, r1⟩ := h; exact ⟨b, vs, e2, m, by rw [upd_ne (ne b m)]; exact h1, r1⟩
    | ownd ks ds => obtain ⟨b, vs, e2, m, h1, r1⟩ := h; exact ⟨b, vs, e2, m, by rw [upd_ne (ne b m)]; exact h1, r1⟩
    | slf x c ds => obtain ⟨b, dx, fs, e2, m, h1, r1⟩ := h; exact ⟨b, dx, fs, e2, m, by rw [upd_ne (ne b m)]; exact h1, r1⟩
  dist := f.dist
def sJar (i : Nat) (A : FE) : FS := fun B EX r => A r (fun d => match d with
  | .int _ => (match r[i]? with
    | some (.val .jar) => B.nx r
    | _ => False)
  | _ => False) EX
theorem cs_jar {i : Nat} {x : Str} {e : Expr} {n : Int} {p ip spos pos : Pos} {kk} {A : FE} (he : PE X e (tD G E A)) (hn : n = 0 ∨ n = 1 ∨ n = 2) (hN : X.N[i]? = some x := by rfl) (hv : Vis X.env.scope x := by first | exact Or.inl rfl | exact Or.inr (Or.inl rfl) | exact Or.inr (Or.inr rfl))
    (hd : (x == ("__debug__" : Str)) = false := by decide) (hcd : (x == ("__classdict__" : Str)) = false := by decide)
    (ha : ∀ v, assign (.Subscript (.Name x p) (.Constant (.int n) kk ip) spos) X.env v = (do
      let ov ← holding [v] (eval (.Name x p) X.env)
      let iv ← holding [v, ov] (eval (.Constant (.int n) kk ip) X.env)
      standAt spos
      holding [v, ov, iv] (setItem ov iv v)
      release [v, ov, iv] []) := by intro _; rfl)
    (hs : swapsWithSole [.Subscript (.Name x p) (.Constant (.int n) kk ip) spos] e pos.line X.env = pure false := by rfl) (hw : swappedStores [.Subscript (.Name x p) (.Constant (.int n) kk ip) spos] e X.env = pure none := by rfl)
    (h1 : (assignEach [.Subscript (.Name x p) (.Constant (.int n) kk ip) spos] X.env).map (·.2) = [assign (.Subscript (.Name x p) (.Constant (.int n) kk ip) spos) X.env] := by rfl) :
    PS X (.Assign [.Subscript (.Name x p) (.Constant (.int n) kk ip) spos] e pos) (sD G E (sJar i A)) :=
  (ps_asg he (pg_sub (pe_var hN hv hd hcd) pe_int set_list ha) hs hw h1).weak fun B s H ⟨w0, H0, wk, r, w, A', EX, fr, sb, lk, ll, f0⟩ => ⟨w0, H0, r, w, _, EX, fr, lk, f0, fun d v w1 H1 l1 ok1 r1 q1 => by
    cases d <;> try exact q1.elim
    rename_i m
    dsimp only at q1
    have fr1 := fr.go l1 ok1
    cases e1 : r[i]? with
    | none => rw [e1] at q1; exact q1.elim
    | some sl =>
      rw [e1] at q1
      cases sl <;> try exact q1.elim
      rename_i d
      cases d <;> try exact q1.elim
      obtain ⟨u, e2, ru⟩ := fr1.slot i _ e1
      obtain ⟨a, rfl, j⟩ := ru.jar_of
      obtain ⟨_, x0, y0, z0, h⟩ := ok1.jar a j
      have ev := r1.int_of
      subst ev
      have fin : ∀ jn, ixN 3 n = some jn → (∃ d t c : Int, (HO.lst ([V.int x0, .int y0, .int z0].set jn (.int m))) = .lst [.int d, .int t, .int c]) → _ := fun jn e3 e4 =>
        (⟨.ref a, e2, ⟨a, [V.int x0, .int y0, .int z0], n, jn, rfl, rfl, h, e3, ll.nx _ _ w1 _ (fr1.jar j e4) (sb.trans l1.sub) q1⟩⟩ : gSub (tVar i) (tC (.int n)) rSetL (.int m) s H1 fun s' H' => B.nx s' H')
      rcases hn with rfl | rfl | rfl
      · exact fin 0 rfl ⟨_, _, _, rfl⟩
      · exact fin 1 rfl ⟨_, _, _, rfl⟩
      · exact fin 2 rfl ⟨_, _, _, rfl⟩⟩
/-- return [d, s, c]: a new jar -/
def sRetJar (F : FA) : FS := fun A EX r => F r (fun ds => match ds with
  | [.int _, .int _, .int _] => A.rt .jar
  | _ => False) EX
theorem cs_retJar {e : Expr} {pos : Pos} {F : FA} (he : PE X e (fD G E F)) : PS X (.Return (some e) pos) (sD G E (sRetJar F)) := (ps_ret he).weak fun B s H ⟨w0, H0, wk, r, w, A, EX, fr, sb, lk, ll, f⟩ =>
  ⟨w0, H0, r, w, _, EX, fr, lk, f, fun ds a vs w1 H1 l1 ok1 hn m h1 r1 q1 => by
    match ds, q1 with
    | [.int x, .int y, .int z], q1 =>
      have ev := Reps.ints (ns := [x, y, z]) r1
      subst ev
      have l := fr.le.trans l1
      refine ll.rt .jar _ ⟨w1.hd, fun b => b = a ∨ w1.jr b, fun b => b = a ∨ w1.ja b, w1.tb⟩ H1 ⟨⟨l.sub.hd, fun b j => .inr (l.sub.jr b j), fun b j => .inr (l.sub.ja b j), l.sub.tb⟩, l.keep, fun b h j => ?_, l.oldh, l.dom⟩ ⟨ok1.sub, fun b j => ?_, fun b j => ?_, fun q m => ?_⟩ ?_ q1
      · rcases j with rfl | j
        · exact absurd m.2.2 h
        · exact l.old b h j
      · rcases j with rfl | j
        · exact ⟨m.1, by rw [h1]; exact fun z => by cases z⟩
        · exact ok1.jn b j
      · rcases j with rfl | j
        · exact ⟨.inl rfl, x, y, z, h1⟩
        · obtain ⟨e, r⟩ := ok1.jar b j
          exact ⟨.inr e, r⟩
      · obtain ⟨e, t⟩ := ok1.tab q m
        exact ⟨.inr e, t.go rfl fun _ _ z => z⟩
      · unfold Rep
        exact ⟨a, rfl, .inl rfl⟩⟩

end DL
/-! What the readings compute: a run over data, part 1. -/
namespace DL
open PySem L2 PyProof.Rows

inductive R (α : Type) where
  | ok (a : α)
  | ex (x : XD)
  | no
def R.hold {α : Type} : R α → (α → Prop) → XP → Prop
  | .ok a, Q, _ => Q a
  | .ex x, _, EX => EX x
  | .no, _, _ => False
def R.bind {α β : Type} : R α → (α → R β) → R β
  | .ok a, f => f a
  | .ex x, _ => .ex x
  | .no, _ => .no
theorem hold_bind {α β : Type} {m : R α} {f : α → R β} {Q : β → Prop} {EX : XP} (h : (m.bind f).hold Q EX) : m.hold (fun a => (f a).hold Q EX) EX := by
  cases m <;> exact h
theorem R.hold.imp {α : Type} {m : R α} {Q Q' : α → Prop} {EX : XP} (h : m.hold Q EX) (k : ∀ a, Q a → Q' a) : m.hold Q' EX := by
  cases m with
  | ok a => exact k a h
  | ex x => exact h
  | no => exact h
def R.ofO {α : Type} : Option α → R α
  | some a => .ok a
  | none => .no
theorem hold_ofO {α : Type} {o : Option α} {Q : α → Prop} {EX : XP} (h : (R.ofO o).hold Q EX) : ∃ a, o = some a ∧ Q a := by
  cases o with
  | none => exact h.elim
  | some a => exact ⟨a, rfl, h⟩
/-! ### values made plain ahead of their use (no law is changed by it: it is how the kernel reckons) -/
section
variable {β : Type}
def frcN : List Nat → (List Nat → β) → β
  | [], k => k []
  | x :: xs, k => frcN xs fun ys => k (x :: ys)
theorem frcN_eq : ∀ (l : List Nat) (k : List Nat → β), frcN l k = k l
  | [], k => rfl
  | x :: xs, k => by unfold frcN; rw [frcN_eq xs]
def frcS : Str → (Str → β) → β
  | ⟨⟨l⟩⟩, k => frcN l fun l' => k ⟨⟨l'⟩⟩
theorem frcS_eq : ∀ (l : Str) (k : Str → β), frcS l k = k l
  | ⟨⟨l⟩⟩, k => by show (frcN l fun l' => k ⟨⟨l'⟩⟩) = _; rw [frcN_eq]
mutual
def frc : D → (D → β) → β
  | .non, k => k .non
  | .bl true, k => k (.bl true)
  | .bl false, k => k (.bl false)
  | .int (.ofNat n), k => k (.int (.ofNat n))
  | .int (.negSucc n), k => k (.int (.negSucc n))
  | .str s, k => frcS s fun t => k (.str t)
  | .tup ds, k => frcs ds fun es => k (.tup es)
  | .lst ds, k => frcs ds fun es => k (.lst es)
  | .dic ks ds, k => frcs ds fun es => k (.dic ks es)
  | .obj c ds, k => frcs ds fun es => k (.obj c es)
  | .exc c ds, k => frcs ds fun es => k (.exc c es)
  | .jar, k => k .jar
def frcs : List D → (List D → β) → β
  | [], k => k []
  | d :: ds, k => frc d fun e => frcs ds fun es => k (e :: es)
end
mutual
theorem frc_eq : ∀ (d : D) (k : D → β), frc d k = k d
  | .non, k => by unfold frc; rfl
  | .bl true, k => by unfold frc; rfl
  | .bl false, k => by unfold frc; rfl
  | .int (.ofNat n), k => by unfold frc; rfl
  | .int (.negSucc n), k => by unfold frc; rfl
  | .str s, k => by unfold frc; rw [frcS_eq]
  | .tup ds, k => by unfold frc; rw [frcs_eq]
  | .lst ds, k => by unfold frc; rw [frcs_eq]
  | .dic ks ds, k => by unfold frc; rw [frcs_eq]
  | .obj c ds, k => by unfold frc; rw [frcs_eq]
  | .exc c ds, k => by unfold frc; rw [frcs_eq]
  | .jar, k => by unfold frc; rfl
theorem frcs_eq : ∀ (d : List D) (k : List D → β), frcs d k = k d
  | [], k => by unfold frcs; rfl
  | d :: ds, k => by unfold frcs; rw [frc_eq, frcs_eq]
end
end
/-- order of code points, quick -/
def ltN : List Nat → List Nat → Bool
  | [], [] => false
  | [], _ :: _ => true
  | _ :: _, [] => false
  | a :: r, b :: t => match Nat.blt a b with
    | true => true
    | false => match Nat.beq a b with
      | true => ltN r t
      | false => false
theorem ltN_eq : ∀ a b : List Nat, ltN a b = decide (a < b)
  | [], [] => by simp [ltN]
  | [], _ :: _ => by simp [ltN]
  | _ :: _, [] => by simp [ltN]
  | a :: r, b :: t => by
    have ih := ltN_eq r t
    unfold ltN
    have e : decide (a :: r < b :: t) = (decide (a < b) || (decide (a = b) && decide (r < t))) := by
      rw [Bool.eq_iff_iff]
      simp [List.cons_lt_cons_iff]
    rw [e, ← ih]
    have h1 : Nat.blt a b = decide (a < b) := by
      rw [Bool.eq_iff_iff]; simp [Nat.blt_eq]
    have h2 : Nat.beq a b = decide (a = b) := by
      rw [Bool.eq_iff_iff]; simp
    rw [h1, h2]
    cases decide (a < b) <;> cases decide (a = b) <;> rfl
def ltF (i j : Str) : Bool := ltN i.cps.toList j.cps.toList
theorem ltF_eq : ltF = ltS := by
  funext i j
  exact ltN_eq _ _
/-- a place, quick -/
def atF {α : Type} (xs : List α) : Int → Option α
  | .ofNat n => xs[n]?
  | .negSucc n => if n < xs.length then xs[xs.length - 1 - n]? else none
theorem atF_eq {α : Type} (xs : List α) (i : Int) : atF xs i = atI xs i := by
  cases i with
  | ofNat n =>
    show xs[n]? = (ixN xs.length ((n : Nat) : Int)).bind fun j => xs[j]?
    unfold ixN
    rw [if_pos (Int.natCast_nonneg n)]
    by_cases h : n < xs.length
    · rw [if_pos (by omega)]
      simp
    · rw [if_neg (by omega), List.getElem?_eq_none (by omega)]
      rfl
  | negSucc n =>
    show (if n < xs.length then xs[xs.length - 1 - n]? else none) = (ixN xs.length (Int.negSucc n)).bind fun j => xs[j]?
    unfold ixN
    have e : (Int.negSucc n : Int) = -((n : Int) + 1) := by omega
    have neg : ¬ (0 ≤ Int.negSucc n) := by omega
    by_cases h : n < xs.length
    · rw [if_pos h, if_neg neg, if_pos (by omega)]
      show xs[xs.length - 1 - n]? = xs[(Int.negSucc n + (xs.length : Int)).toNat]?
      congr 1
      omega
    · rw [if_neg h, if_neg neg, if_neg (by omega)]
      rfl

/-- the same envs, the object that is being made at x -/
def adr (x : Addr) : Sl → Sl
  | .slf _ c ds => .slf x c ds
  | y => y
def Sim (x : Addr) (r r' : Env) : Prop := r' = r.map (adr x)
section
variable {x : Addr} {r r' : Env}
theorem Sim.at (h : Sim x r r') (i : Nat) : r'[i]? = (r[i]?).map (adr x) := by
  rw [show r' = r.map (adr x) from h, List.getElem?_map]
theorem Sim.set (h : Sim x r r') (i : Nat) (y : Sl) (hy : adr x y = y := by rfl) : Sim x (r.set i y) (r'.set i y) := by
  unfold Sim
  rw [List.map_set, hy, show r' = r.map (adr x) from h]
theorem Sim.val (h : Sim x r r') {i : Nat} {d : D} (e : r[i]? = some (.val d)) : r'[i]? = some (.val d) := by rw [h.at i, e]; rfl
theorem Sim.own (h : Sim x r r') {i : Nat} {ds : List D} (e : r[i]? = some (.own ds)) : r'[i]? = some (.own ds) := by rw [h.at i, e]; rfl
theorem Sim.ownd (h : Sim x r r') {i : Nat} {ks : List Key} {ds : List D} (e : r[i]? = some (.ownd ks ds)) : r'[i]? = some (.ownd ks ds) := by rw [h.at i, e]; rfl
theorem Sim.slf (h : Sim x r r') {i : Nat} {y : Addr} {c : Nat} {ds : List D} (e : r[i]? = some (.slf y c ds)) : r'[i]? = some (.slf x c ds) := by rw [h.at i, e]; rfl
theorem Sim.wipe (h : Sim x r r') : ∀ vs : List Nat, Sim x (wipeD r vs) (wipeD r' vs)
  | [] => h
  | v :: vs => (Sim.wipe h vs).set v .un
theorem map_adr_vals {ds : List D} {n : Nat} : (ds.map Sl.val ++ List.replicate n Sl.un).map (adr x) = ds.map Sl.val ++ List.replicate n Sl.un := by
  rw [List.map_append, List.map_map, List.map_replicate]
  rfl
theorem Sim.startD {N : List Str} {ds : List D} : Sim x (startD N ds) (startD N ds) := by
  unfold Sim DL.startD
  rw [map_adr_vals]
end
def CF {α : Type} (F : Env → (α → Prop) → XP → Prop) (c : Env → R α) : Prop := ∀ {x : Addr} r r' Q EX, Sim x r r' → (c r).hold Q EX → F r' Q EX

/-! ### names, constants -/
def xVar (i : Nat) (r : Env) : R D := match r[i]? with
  | some (.val d) => .ok d
  | _ => .no
def xSee (i : Nat) (r : Env) : R D := match r[i]? with
  | some (.val d) => .ok d
  | some (.own ds) => .ok (.lst ds)
  | some (.ownd ks ds) => .ok (.dic ks ds)
  | _ => .no
def xC (d : D) (_ : Env) : R D := .ok d
theorem f_var {i : Nat} : CF (fVar i) (xVar i) := fun r r' Q EX s h => by
  unfold xVar at h
  unfold fVar
  cases e : r[i]? with
  | none => rw [e] at h; exact h.elim
  | some x =>
    rw [e] at h
    cases x <;> try exact h.elim
    rw [s.val e]
    exact h
theorem f_see {i : Nat} : CF (fSee i) (xSee i) := fun r r' Q EX s h => by
  unfold xSee at h
  unfold fSee
  cases e : r[i]? with
  | none => rw [e] at h; exact h.elim
  | some x =>
    rw [e] at h
    cases x <;> try exact h.elim
    · rw [s.val e]; exact h
    · rw [s.own e]; exact h
    · rw [s.ownd e]; exact h
theorem f_c {d : D} : CF (fC d) (xC d) := fun r r' Q EX s h => h

/-! ### operators -/
def gd (p : Prop) [Decidable p] (a : D) : Option D := if p then some a else none
theorem gd_some {p : Prop} [Decidable p] {a d : D} (h : gd p a = some d) : p ∧ a = d := by
  unfold gd at h
  by_cases q : p
  · rw [if_pos q] at h; exact ⟨q, Option.some.inj h⟩
  · rw [if_neg q] at h; cases h
abbrev O2 := D → D → Option D
def CG2 (g : G2) (c : O2) : Prop := ∀ x y d Q, c x y = some d → Q d → g x y Q
def x2 (c : O2) (a b : Env → R D) (r : Env) : R D := (a r).bind fun x => (b r).bind fun y => R.ofO (c x y)
theorem f_2 {g : G2} {c : O2} {A B : FE} {a b : Env → R D} (hg : CG2 g c) (ha : CF A a) (hb : CF B b) : CF (f2 g A B) (x2 c a b) := fun r r' Q EX s h =>
  ha r r' _ EX s ((hold_bind h).imp fun x h1 => hb r r' _ EX s ((hold_bind h1).imp fun y h2 => by
    obtain ⟨d, e, q⟩ := hold_ofO h2
    exact hg x y d Q e q))
def addX : O2
  | .int i, .int j => some (.int (i + j))
  | .str i, .str j => gd (i.length + j.length ≤ sizeLine) (.str (i ++ j))
  | .tup a, .tup b => gd (a.length + b.length ≤ sizeLine) (.tup (a ++ b))
  | .lst a, .lst b => gd (a.length + b.length ≤ sizeLine) (.lst (a ++ b))
  | _, _ => none
theorem g_add : CG2 addD addX := fun x y d Q e q => by
  cases x <;> cases y <;> first | (cases e; done) | skip
  · cases e; exact q
  all_goals
    obtain ⟨h, rfl⟩ := gd_some e
    exact ⟨h, q⟩
def intX (C : Int → Int → Prop) [∀ i j, Decidable (C i j)] (f : Int → Int → D) : O2
  | .int i, .int j => gd (C i j) (f i j)
  | _, _ => none
theorem g_int {C : Int → Int → Prop} [∀ i j, Decidable (C i j)] {f : Int → Int → D} : CG2 (intD C f) (intX C f) := fun x y d Q e q => by
  cases x <;> cases y <;> first | (cases e; done) | skip
  obtain ⟨h, rfl⟩ := gd_some e
  exact ⟨h, q⟩
instance decMul (i j : Int) : Decidable (CMul i j) := by unfold CMul; exact inferInstance
instance decDivN (i j : Int) : Decidable (CDivN i j) := by unfold CDivN; exact inferInstance
instance decPow (i j : Int) : Decidable (CPow i j) := by unfold CPow; exact inferInstance
abbrev modX : O2 := intX (fun _ j => j ≠ 0) fun i j => .int (i.fmod j)
abbrev powX : O2 := intX CPow fun i j => .int (i ^ j.toNat)
theorem g_mod : CG2 modD modX := g_int
theorem g_pow : CG2 powD powX := g_int
def ordX (p : Int → Int → Bool) (q : Str → Str → Bool) : O2
  | .int i, .int j => some (.bl (p i j))
  | .str i, .str j => some (.bl (q i j))
  | _, _ => none
theorem g_ord {p : Int → Int → Bool} {q : Str → Str → Bool} : CG2 (ordD p q) (ordX p q) := fun x y d Q e h => by
  cases x <;> cases y <;> first | (cases e; done) | (cases e; exact h)
abbrev ltX : O2 := ordX (fun i j => decide (i < j)) ltF
theorem g_lt : CG2 ltD ltX := by
  unfold ltX
  rw [ltF_eq]
  exact g_ord
def shpB (d : D) : Bool := plain d && SeqAt.shaped (pd d)
theorem shpB_iff {d : D} (h : shpB d = true) : shp d := by
  unfold shpB at h
  rw [Bool.and_eq_true] at h
  exact h
def eqX : O2 := fun x y => match bothS x y with
  | some b => some (.bl b)
  | none => gd ((shpB x && shpB y) = true) (.bl (eqb x y))
def neX : O2 := fun x y => match bothS x y with
  | some b => some (.bl (!b))
  | none => gd ((shpB x && shpB y) = true) (.bl (!eqb x y))
theorem g_eq : CG2 eqD eqX := fun x y d Q e q => by
  unfold eqX at e
  unfold eqD
  cases z : bothS x y with
  | some b => rw [z] at e; cases e; exact q
  | none =>
    rw [z] at e
    obtain ⟨h, rfl⟩ := gd_some e
    rw [Bool.and_eq_true] at h
    exact ⟨shpB_iff h.1, shpB_iff h.2, q⟩
theorem g_ne : CG2 neD neX := fun x y d Q e q => by
  unfold neX at e
  unfold neD
  cases z : bothS x y with
  | some b => rw [z] at e; cases e; exact q
  | none =>
    rw [z] at e
    obtain ⟨h, rfl⟩ := gd_some e
    rw [Bool.and_eq_true] at h
    exact ⟨shpB_iff h.1, shpB_iff h.2, q⟩
def ixX : O2 := fun x y => match x, y with
  | .tup ds, .int i => atF ds i
  | .lst ds, .int i => atF ds i
  | .str z, .int i => (atF z.cps.toList i).bind fun c => if Nat.ble z.length 16777216 = true then some (.str ⟨#[c]⟩) else none
  | .dic ks ds, y => (keyD y).bind fun k => dget ks ds k
  | _, _ => none
theorem g_ix : CG2 ixD ixX := fun x y d Q e q => by
  cases x <;> first | (cases e; done) | (cases y <;> (cases e; done)) | skip
  · rename_i z
    cases y <;> first | (cases e; done) | skip
    rename_i i
    obtain ⟨c, h1, h2⟩ := Option.bind_eq_some_iff.mp (show (atF z.cps.toList i).bind (fun c => if Nat.ble z.length 16777216 = true then some (D.str ⟨#[c]⟩) else none) = some d from e)
    by_cases hz : Nat.ble z.length 16777216 = true
    · rw [if_pos hz] at h2
      cases h2
      rw [atF_eq] at h1
      exact ⟨i, c, rfl, by rw [sizeLine_eq]; exact Nat.le_of_ble_eq_true hz, h1, q⟩
    · rw [if_neg hz] at h2; cases h2
  · cases y <;> first | (cases e; done) | skip
    exact ⟨_, d, rfl, by rw [← atF_eq]; exact e, q⟩
  · cases y <;> first | (cases e; done) | skip
    exact ⟨_, d, rfl, by rw [← atF_eq]; exact e, q⟩
  · rename_i ks ds
    obtain ⟨k, h1, h2⟩ := Option.bind_eq_some_iff.mp (show (keyD y).bind (fun k => dget ks ds k) = some d from e)
    exact ⟨k, d, h1, h2, q⟩
end DL
/-! What the readings compute: a run over data, part 2. -/
namespace DL
open PySem L2 PyProof.Rows

/-! ### tests, chains, and or not if -/
def xTb (a : Env → R D) (r : Env) : R Bool := (a r).bind fun d => match d with
  | .bl b => .ok b
  | _ => .no
theorem f_tb {A : FE} {a : Env → R D} (ha : CF A a) : CF (fTb A) (xTb a) := fun r r' Q EX s h => ha r r' _ EX s ((hold_bind h).imp fun d h1 => by
  cases d <;> first | exact h1.elim | exact ⟨_, rfl, h1⟩)
def xChain (c c' : O2) (a b e : Env → R D) (r : Env) : R D := (a r).bind fun x => (b r).bind fun y => match c x y with
  | some (.bl true) => (e r).bind fun u => R.ofO (c' y u)
  | some (.bl false) => .ok (.bl false)
  | _ => .no
theorem f_chain {g g' : G2} {c c' : O2} {A B C : FE} {a b e : Env → R D} (hg : CG2 g c) (hg' : CG2 g' c') (ha : CF A a) (hb : CF B b) (he : CF C e) : CF (fChain g g' A B C) (xChain c c' a b e) := fun r r' Q EX s h =>
  ha r r' _ EX s ((hold_bind h).imp fun x h1 => hb r r' _ EX s ((hold_bind h1).imp fun y h2 => by
    cases z : c x y with
    | none => rw [z] at h2; exact h2.elim
    | some d =>
      rw [z] at h2
      cases d <;> try exact h2.elim
      rename_i v
      refine hg x y _ _ z ⟨v, rfl, ?_⟩
      cases v with
      | false => rw [if_neg Bool.false_ne_true]; exact h2
      | true =>
        rw [if_pos rfl]
        exact he r r' _ EX s ((hold_bind h2).imp fun u h3 => by
          obtain ⟨d, e2, q⟩ := hold_ofO h3
          exact hg' y u d Q e2 q)))
def xAndT (a b : Env → R Bool) (r : Env) : R Bool := (a r).bind fun v => if v = true then b r else .ok false
def xOrT (a b : Env → R Bool) (r : Env) : R Bool := (a r).bind fun v => if v = true then .ok true else b r
theorem f_andT {A B : FT} {a b : Env → R Bool} (ha : CF A a) (hb : CF B b) : CF (fAndT A B) (xAndT a b) := fun r r' Q EX s h => ha r r' _ EX s ((hold_bind h).imp fun v h1 => by
  cases v with
  | true => rw [if_pos rfl] at h1 ⊢; exact hb r r' Q EX s h1
  | false => rw [if_neg Bool.false_ne_true] at h1 ⊢; exact h1)
theorem f_orT {A B : FT} {a b : Env → R Bool} (ha : CF A a) (hb : CF B b) : CF (fOrT A B) (xOrT a b) := fun r r' Q EX s h => ha r r' _ EX s ((hold_bind h).imp fun v h1 => by
  cases v with
  | true => rw [if_pos rfl] at h1 ⊢; exact h1
  | false => rw [if_neg Bool.false_ne_true] at h1 ⊢; exact hb r r' Q EX s h1)
def xAnd (a b : Env → R D) (r : Env) : R D := (a r).bind fun d => match d with
  | .bl v => if v = true then b r else .ok (.bl false)
  | _ => .no
def xIf (t : Env → R Bool) (a b : Env → R D) (r : Env) : R D := (t r).bind fun v => if v = true then a r else b r
theorem f_and {A B : FE} {a b : Env → R D} (ha : CF A a) (hb : CF B b) : CF (fAnd A B) (xAnd a b) := fun r r' Q EX s h => ha r r' _ EX s ((hold_bind h).imp fun d h1 => by
  cases d <;> try exact h1.elim
  rename_i v
  refine ⟨v, rfl, ?_⟩
  cases v with
  | true => exact hb r r' Q EX s h1
  | false => exact h1)
theorem f_if {T : FT} {A B : FE} {t : Env → R Bool} {a b : Env → R D} (ht : CF T t) (ha : CF A a) (hb : CF B b) : CF (fIf T A B) (xIf t a b) := fun r r' Q EX s h => ht r r' _ EX s ((hold_bind h).imp fun v h1 => by
  cases v with
  | true => rw [if_pos rfl] at h1 ⊢; exact ha r r' Q EX s h1
  | false => rw [if_neg Bool.false_ne_true] at h1 ⊢; exact hb r r' Q EX s h1)

/-! ### argument lists, displays, calls -/
def xNil (_ : Env) : R (List D) := .ok []
def xCons (a : Env → R D) (b : Env → R (List D)) (r : Env) : R (List D) := (a r).bind fun d => (b r).bind fun ds => .ok (d :: ds)
def xTup (a : Env → R (List D)) (r : Env) : R D := (a r).bind fun ds => if ds.length ≤ sizeLine then .ok (.tup ds) else .no
def xLst (a : Env → R (List D)) (r : Env) : R (List D) := (a r).bind fun ds => if ds.length ≤ sizeLine then .ok ds else .no
def xL (a : Env → R (List D)) (r : Env) : R D := (a r).bind fun ds => .ok (.lst ds)
theorem f_nil : CF fNil xNil := fun r r' Q EX s h => h
theorem f_cons {A : FE} {B : FA} {a : Env → R D} {b : Env → R (List D)} (ha : CF A a) (hb : CF B b) : CF (fCons A B) (xCons a b) := fun r r' Q EX s h =>
  ha r r' _ EX s ((hold_bind h).imp fun d h1 => hb r r' _ EX s ((hold_bind h1).imp fun ds h2 => h2))
theorem f_tup {A : FA} {a : Env → R (List D)} (ha : CF A a) : CF (fTup A) (xTup a) := fun r r' Q EX s h => ha r r' _ EX s ((hold_bind h).imp fun ds h1 => by
  by_cases z : ds.length ≤ sizeLine
  · rw [if_pos z] at h1; exact ⟨z, h1⟩
  · rw [if_neg z] at h1; exact h1.elim)
theorem f_lst {A : FA} {a : Env → R (List D)} (ha : CF A a) : CF (fLst A) (xLst a) := fun r r' Q EX s h => ha r r' _ EX s ((hold_bind h).imp fun ds h1 => by
  by_cases z : ds.length ≤ sizeLine
  · rw [if_pos z] at h1; exact ⟨z, h1⟩
  · rw [if_neg z] at h1; exact h1.elim)
theorem f_L {A : FA} {a : Env → R (List D)} (ha : CF A a) : CF (fL A) (xL a) := fun r r' Q EX s h => ha r r' _ EX s (hold_bind h)
def CCG {α : Type} (g : List D → (α → Prop) → Prop) (c : List D → Option α) : Prop := ∀ ds d Q, c ds = some d → Q d → g ds Q
def xCa {α : Type} (c : List D → Option α) (a : Env → R (List D)) (r : Env) : R α := (a r).bind fun ds => R.ofO (c ds)
theorem f_ca {g : CG} {c : List D → Option D} {A : FA} {a : Env → R (List D)} (hg : CCG g c) (ha : CF A a) : CF (fCa g A) (xCa c a) := fun r r' Q EX s h => ha r r' _ EX s ((hold_bind h).imp fun ds h1 => by
  obtain ⟨d, e, q⟩ := hold_ofO h1
  exact hg ds d Q e q)
def intCX : List D → Option D
  | [.int i] => some (.int i)
  | [.bl b] => some (.int (if b then 1 else 0))
  | _ => none
theorem g_intC : CCG intC intCX := fun ds d Q e q => by
  match ds, e with
  | [.int i], e => cases e; exact q
  | [.bl i], e => cases e; exact q
def isiX (tbl : Tag → Option Bool) (a : Env → R D) (r : Env) : R D := (a r).bind fun d => match tagD d with
  | some t => (match tbl t with
    | some b => .ok (.bl b)
    | none => .no)
  | none => .no
theorem f_isi {tbl : Tag → Option Bool} {A : FE} {a : Env → R D} (ha : CF A a) : CF (isiD tbl A) (isiX tbl a) := fun r r' Q EX s h => ha r r' _ EX s ((hold_bind h).imp fun d h1 => by
  cases e1 : tagD d with
  | none => rw [e1] at h1; exact h1.elim
  | some t =>
    simp only [e1] at h1 ⊢
    cases e2 : tbl t with
    | none => rw [e2] at h1; exact h1.elim
    | some b => rw [e2] at h1; exact h1)
/-! ### repr -/
def shownB (d : D) : Bool := plain d && (pd d).showable && decide ((pd d).depth ≤ 60) && decide ((pd d).shown.length ≤ sizeLine)
def reprX : List D → Option D
  | [d] => gd (shownB d = true) (.str (pd d).shown)
  | _ => none
theorem g_repr : CCG reprD reprX := fun ds d Q e q => by
  match ds, e with
  | [x], e =>
    obtain ⟨h, rfl⟩ := gd_some e
    unfold shownB at h
    rw [Bool.and_eq_true, Bool.and_eq_true, Bool.and_eq_true, decide_eq_true_iff, decide_eq_true_iff] at h
    exact ⟨⟨h.1.1.1, h.1.1.2, h.1.2, h.2⟩, q⟩

/-! ### targets -/
def CT (g : TGd) (c : D → Env → Option Env) : Prop := ∀ {x : Addr} d r r' r1 K, Sim x r r' → c d r = some r1 → (∀ r2, Sim x r1 r2 → K r2) → g d r' K
def yVar (i : Nat) (d : D) (r : Env) : Option Env := some (r.set i (.val d))
theorem t_var {i : Nat} : CT (gVar i) (yVar i) := fun d r r' r1 K s e k => by
  cases e
  exact k _ (s.set i _)
def iRng1 (a : Env → R (List D)) (r : Env) : R (List D) := (a r).bind fun ds => match ds with
  | [.int n] => if -(2 ^ 62) ≤ n ∧ n < 2 ^ 62 then .ok (rangeD 0 n) else .no
  | _ => .no
theorem f_rng1 {A : FA} {a : Env → R (List D)} (ha : CF A a) : CF (fRng1 A) (iRng1 a) := fun r r' Q EX s h => ha r r' _ EX s ((hold_bind h).imp fun ds h1 => by
  match ds, h1 with
  | [.int n], h1 =>
    dsimp only at h1
    by_cases z : -(2 ^ 62) ≤ n ∧ n < 2 ^ 62
    · rw [if_pos z] at h1; exact ⟨n, rfl, z, h1⟩
    · rw [if_neg z] at h1; exact h1.elim)
/-! ### comprehensions -/
def xYes (_ : Env) : R Bool := .ok true
theorem f_yes : CF fYes xYes := fun r r' Q EX s h => h
/-- an answer without an exception -/
def R.cut {α : Type} : R α → R α
  | .ok a => .ok a
  | _ => .no
theorem hold_cut {α : Type} {m : R α} {Q : α → Prop} {EX : XP} (h : m.cut.hold Q EX) : m.hold Q NoX := by
  cases m <;> exact h
/-- the list so far, turned round, its length -/
def lcG (g : D → Env → Option Env) (t : Env → R Bool) (f : Env → R D) (r : Env) : List D → Nat → List D → R (Nat × List D)
  | [], n, acc => .ok (n, acc)
  | d :: ds, n, acc => match g d r with
    | none => .no
    | some r1 => (t r1).cut.bind fun b => if b = true then (f r1).cut.bind fun y => if Nat.blt n 16777216 = true then frc y fun y' => lcG g t f r ds (n + 1) (y' :: acc) else .no else lcG g t f r ds n acc
def xLc (s : Env → R (List D)) (vs : List Nat) (g : D → Env → Option Env) (t : Env → R Bool) (f : Env → R D) (r : Env) : R (List D) := (s r).bind fun ds => (lcG g t f (wipeD r vs) ds 0 []).bind fun p => .ok p.2.reverse
theorem lc_run {g : TGd} {T : FT} {F : FE} {cg : D → Env → Option Env} {t : Env → R Bool} {f : Env → R D} (hg : CT g cg) (ht : CF T t) (hf : CF F f) {x : Addr} {r r' : Env} (s : Sim x r r') {EX : XP} : ∀ (ds : List D) (n : Nat) (acc : List D) (Q : List D → Prop), n = acc.length →
    (lcG cg t f r ds n acc).hold (fun p => p.1 = p.2.length → Q p.2.reverse) EX → lcD g T F r' ds acc.reverse Q
  | [], n, acc, Q, hn, h => h hn
  | d :: ds, n, acc, Q, hn, h => by
    unfold lcG at h
    unfold lcD
    cases e : cg d r with
    | none => rw [e] at h; exact h.elim
    | some r1 =>
      rw [e] at h
      dsimp only at h
      refine hg d r r' r1 _ s e fun r2 s2 => ht r1 r2 _ NoX s2 (R.hold.imp (hold_cut (hold_bind h)) fun b h1 => ?_)
      cases b with
      | true =>
        rw [if_pos rfl] at h1 ⊢
        refine hf r1 r2 _ NoX s2 (R.hold.imp (hold_cut (hold_bind h1)) fun y h2 => ?_)
        by_cases z : Nat.blt n 16777216 = true
        · rw [if_pos z, frc_eq] at h2
          have hz : n < 16777216 := by simpa [Nat.blt_eq] using z
          refine ⟨by rw [List.length_reverse, sizeLine_eq, ← hn]; exact hz, ?_⟩
          have ih := lc_run hg ht hf s ds (n + 1) (y :: acc) Q (by rw [hn]; rfl) h2
          rwa [List.reverse_cons] at ih
        · rw [if_neg z] at h2; exact h2.elim
      | false =>
        rw [if_neg Bool.false_ne_true] at h1 ⊢
        exact lc_run hg ht hf s ds n acc Q hn h1
theorem f_lc {S : FI} {vs : List Nat} {g : TGd} {T : FT} {F : FE} {cs : Env → R (List D)} {cg : D → Env → Option Env} {t : Env → R Bool} {f : Env → R D} (hs : CF S cs) (hg : CT g cg) (ht : CF T t) (hf : CF F f) : CF (fLc S vs g T F) (xLc cs vs cg t f) := fun r r' Q EX s h =>
  hs r r' _ EX s ((hold_bind h).imp fun ds h1 => lc_run hg ht hf (s.wipe vs) ds 0 [] Q rfl ((hold_bind h1).imp fun p h2 _ => h2))
end DL
/-! What the readings compute: a run over data, part 3: statements, defs. -/
namespace DL
open PySem L2 PyProof.Rows

inductive RS where
  | nx (r : Env)
  | rt (d : D)
  | bk (r : Env)
  | ct (r : Env)
  | rn (ds : List D)
  | ex (x : XD)
  | no
def RS.hold (x : Addr) : RS → DE → XP → Prop
  | .nx r, A, _ => ∀ s, Sim x r s → A.nx s
  | .rt d, A, _ => A.rt d
  | .bk r, A, _ => ∀ s, Sim x r s → A.bk s
  | .ct r, A, _ => ∀ s, Sim x r s → A.ct s
  | .rn ds, A, _ => A.rn ds
  | .ex x, _, EX => EX x
  | .no, _, _ => False
def R.st {α : Type} (m : R α) (f : α → RS) : RS := match m with
  | .ok a => f a
  | .ex x => .ex x
  | .no => .no
theorem hold_st {α : Type} {m : R α} {f : α → RS} {x : Addr} {A : DE} {EX : XP} (h : (m.st f).hold x A EX) : m.hold (fun a => (f a).hold x A EX) EX := by
  cases m <;> exact h
def CS (F : FS) (c : Env → RS) : Prop := ∀ {x : Addr} r r' A EX, Sim x r r' → (c r).hold x A EX → F A EX r'
def yNext (r : Env) : RS := .nx r
theorem s_next : CS sNext yNext := fun r r' A EX s h => h r' s
def ySeq (a b : Env → RS) (r : Env) : RS := match a r with
  | .nx r1 => b r1
  | x => x
theorem s_seq {F F' : FS} {a b : Env → RS} (ha : CS F a) (hb : CS F' b) : CS (sSeq F F') (ySeq a b) := fun r r' A EX s h => by
  refine ha r r' _ EX s ?_
  unfold ySeq at h
  cases e : a r with
  | nx r1 => rw [e] at h; exact fun r2 s2 => hb r1 r2 A EX s2 h
  | rt d => rw [e] at h; exact h
  | bk r1 => rw [e] at h; exact h
  | ct r1 => rw [e] at h; exact h
  | rn d => rw [e] at h; exact h
  | ex x => rw [e] at h; exact h
  | no => rw [e] at h; exact h
def yIf (t : Env → R Bool) (a b : Env → RS) (r : Env) : RS := (t r).st fun v => if v = true then a r else b r
theorem s_if {T : FT} {F F' : FS} {t : Env → R Bool} {a b : Env → RS} (ht : CF T t) (ha : CS F a) (hb : CS F' b) : CS (sIf T F F') (yIf t a b) := fun r r' A EX s h => ht r r' _ EX s ((hold_st h).imp fun v h1 => by
  cases v with
  | true => rw [if_pos rfl] at h1 ⊢; exact ha r r' A EX s h1
  | false => rw [if_neg Bool.false_ne_true] at h1 ⊢; exact hb r r' A EX s h1)
def yRet (a : Env → R D) (r : Env) : RS := (a r).st fun d => .rt d
theorem s_ret {F : FE} {a : Env → R D} (ha : CF F a) : CS (sRet F) (yRet a) := fun r r' A EX s h => ha r r' _ EX s ((hold_st h).imp fun d h1 => h1)
def ySet (i : Nat) (a : Env → R D) (r : Env) : RS := (a r).st fun d => frc d fun d => .nx (r.set i (.val d))
theorem s_set {i : Nat} {F : FE} {a : Env → R D} (ha : CF F a) : CS (sSet i F) (ySet i a) := fun r r' A EX s h => ha r r' _ EX s ((hold_st h).imp fun d h1 => by
  rw [frc_eq] at h1
  exact h1 _ (s.set i _))
def ySetOwn (i : Nat) (a : Env → R (List D)) (r : Env) : RS := (a r).st fun d => frcs d fun d => .nx (r.set i (.own d))
theorem s_setOwn {i : Nat} {F : FA} {a : Env → R (List D)} (ha : CF F a) : CS (sSetOwn i F) (ySetOwn i a) := fun r r' A EX s h => ha r r' _ EX s ((hold_st h).imp fun d h1 => by
  rw [frcs_eq] at h1
  exact h1 _ (s.set i _))
/-- put together, the spine made plain -/
def frcp {β : Type} : List D → List D → (List D → β) → β
  | [], b, k => k b
  | x :: xs, b, k => frcp xs b fun ys => k (x :: ys)
theorem frcp_eq {β : Type} : ∀ (a b : List D) (k : List D → β), frcp a b k = k (a ++ b)
  | [], b, k => rfl
  | x :: xs, b, k => by unfold frcp; rw [frcp_eq xs]; rfl
def yApp (i : Nat) (a : Env → R D) (r : Env) : RS := match r[i]? with
  | some (.own ds) => if Nat.blt ds.length 16777216 = true then (a r).st fun d => frc d fun d => frcp ds [d] fun es => .nx (r.set i (.own es)) else .no
  | _ => .no
theorem s_app {i : Nat} {F : FE} {a : Env → R D} (ha : CF F a) : CS (sAppC i F) (yApp i a) := fun r r' A EX s h => by
  unfold yApp at h
  unfold sAppC
  cases e : r[i]? with
  | none => rw [e] at h; exact h.elim
  | some x =>
    rw [e] at h
    cases x <;> try exact h.elim
    rename_i ds
    rw [s.own e]
    dsimp only at h ⊢
    by_cases z : Nat.blt ds.length 16777216 = true
    · rw [if_pos z] at h
      have hz : ds.length < 16777216 := by simpa [Nat.blt_eq] using z
      exact ⟨by rw [sizeLine_eq]; exact hz, ha r r' _ EX s ((hold_st h).imp fun d h1 => by
        rw [frc_eq, frcp_eq] at h1
        exact h1 _ (s.set i _))⟩
    · rw [if_neg z] at h; exact h.elim
def forG (g : D → Env → Option Env) (b : Env → RS) : List D → Env → RS
  | [], r => .nx r
  | d :: ds, r => match g d r with
    | none => .no
    | some r1 => match b r1 with
      | .nx r2 => forG g b ds r2
      | .ct r2 => forG g b ds r2
      | .bk r2 => .nx r2
      | x => x
def yFor (s : Env → R (List D)) (g : D → Env → Option Env) (b : Env → RS) (r : Env) : RS := (s r).st fun ds => forG g b ds r
theorem for_run {g : TGd} {B : FS} {cg : D → Env → Option Env} {b : Env → RS} (hg : CT g cg) (hb : CS B b) {x : Addr} {A : DE} {EX : XP} : ∀ (ds : List D) (r r' : Env), Sim x r r' → (forG cg b ds r).hold x A EX → forD g B ds A EX r'
  | [], r, r', s, h => h r' s
  | d :: ds, r, r', s, h => by
    unfold forG at h
    unfold forD
    cases e : cg d r with
    | none => rw [e] at h; exact h.elim
    | some r1 =>
      rw [e] at h
      dsimp only at h
      refine hg d r r' r1 _ s e fun r2 s2 => hb r1 r2 _ EX s2 ?_
      cases e2 : b r1 with
      | nx r3 => rw [e2] at h; exact fun r4 s4 => for_run hg hb ds r3 r4 s4 h
      | ct r3 => rw [e2] at h; exact fun r4 s4 => for_run hg hb ds r3 r4 s4 h
      | bk r3 => rw [e2] at h; exact h
      | rt d => rw [e2] at h; exact h
      | rn d => rw [e2] at h; exact h
      | ex x => rw [e2] at h; exact h
      | no => rw [e2] at h; exact h
theorem s_for {S : FI} {g : TGd} {B : FS} {cs : Env → R (List D)} {cg : D → Env → Option Env} {b : Env → RS} (hs : CF S cs) (hg : CT g cg) (hb : CS B b) : CS (sFor S g B) (yFor cs cg b) := fun r r' A EX s h =>
  hs r r' _ EX s ((hold_st h).imp fun ds h1 => for_run hg hb ds r r' s h1)
/-! ### defs -/
def spOf (c : List D → R D) : DSp := fun ds Q EX => (c ds).hold Q EX
def cfOf (N : List Str) (n : Nat) (b : Env → RS) (ds : List D) : R D := if ds.length = n then (match b (startD N ds) with
  | .nx _ => .ok .non
  | .rt d => .ok d
  | .ex x => .ex x
  | _ => .no) else .no
theorem spOf_len {N : List Str} {n : Nat} {b : Env → RS} {ds : List D} {Q : D → Prop} {EX : XP} (h : spOf (cfOf N n b) ds Q EX) : ds.length = n := by
  unfold spOf cfOf at h
  by_cases z : ds.length = n
  · exact z
  · rw [if_neg z] at h; exact h.elim
theorem spOf_pure {N : List Str} {n : Nat} {B : FS} {b : Env → RS} (hb : CS B b) {ds : List D} {Q : D → Prop} {EX : XP} (h : spOf (cfOf N n b) ds Q EX) : B { nx := fun _ => Q .non, rt := Q } EX (startD N ds) := by
  have hl := spOf_len h
  unfold spOf cfOf at h
  rw [if_pos hl] at h
  refine hb (x := 0) _ _ _ EX Sim.startD ?_
  cases e : b (startD N ds) with
  | nx r => rw [e] at h; exact fun _ _ => h
  | rt d => rw [e] at h; exact h
  | rn d => rw [e] at h; exact h.elim
  | ex x => rw [e] at h; exact h
  | bk r => rw [e] at h; exact h.elim
  | ct r => rw [e] at h; exact h.elim
  | no => rw [e] at h; exact h.elim
/-- a call's exceptions and answer -/
def xCall (c : List D → R D) (a : Env → R (List D)) (r : Env) : R D := (a r).bind fun ds => frcs ds c
theorem f_call {c : List D → R D} {A : FA} {a : Env → R (List D)} (ha : CF A a) : CF (fCall (spOf c) A) (xCall c a) := fun r r' Q EX s h => ha r r' _ EX s ((hold_bind h).imp fun ds h1 => by
  rw [frcs_eq] at h1
  exact h1)
end DL
/-! The data layer, part 15: comprehensions as statements, globals, small words. -/
namespace DL
open PySem L2 PyProof.Rows
section
variable {X : Cx} {G : Gm} {E : XK} {pos : Pos} {tg : Expr}
section
variable {elt tg1 iter iter1 : Expr} {ifs ifs1 : List Expr} {scope : Scope} {own : List (Str × Nat)} {vs1 : List Nat} {S S1 : FI} {t t1 : TG} {g g1 : TGd} {T T1 : FT} {F : FE}
end
end
section
variable {X : Cx} {G : Gm} {E : XK} {pos : Pos} {i j : Nat} {x y : Str} {a b : Expr} {px py pt : Pos} {kt k2 pt2}
end
theorem hu64 {k : Nat} {A : Around} (hr : Room k A) : A.units + 64 < cLine := by have := hr.un; omega
theorem hu1 {k : Nat} {A : Around} (hr : Room k A) : A.units + 1 < cLine := by have := hr.un; omega
end DL
namespace DL
open PySem L2
/-- BlkOk, by a look -/
def blkB (N : List Str) (sc scope : Scope) (own : List (Str × Nat)) : Bool :=
  (match scope.kind with | .function => true | _ => false) && scope.names.all (fun y => match scope.names.lookup y.1 with | some k => decide (k = y.2) | none => false) && own.all (fun p => match N[p.2]? with | some n => decide (n = p.1) | none => false) &&
  scope.names.all (fun y => !(decide (y.2 = .free)) || (match sc.names.lookup y.1 with | some k => decide (k = .cell) || decide (k = .free) | none => false)) &&
  scope.names.all (fun y => !(decide (y.2 = .local) || decide (y.2 = .cell)) || (own.map (·.1)).contains y.1 || !(N.contains y.1))
theorem blk_mk {N : List Str} {sc scope : Scope} {own : List (Str × Nat)} (h : blkB N sc scope own = true) : BlkOk N sc scope own := by
  unfold blkB at h
  simp only [Bool.and_eq_true, List.all_eq_true] at h
  obtain ⟨⟨⟨⟨h1, h2⟩, h3⟩, h4⟩, h5⟩ := h
  refine ⟨?_, fun y hy => ?_, fun p hp => ?_, fun y hy hf => ?_, fun y hy hl => ?_⟩
  · cases e : scope.kind <;> rw [e] at h1 <;> first | rfl | cases h1
  · have q := h2 y hy
    cases e : scope.names.lookup y.1 with
    | none => rw [e] at q; cases q
    | some k => rw [e] at q; rw [of_decide_eq_true q]
  · have q := h3 p hp
    cases e : N[p.2]? with
    | none => rw [e] at q; cases q
    | some k => rw [e] at q; rw [of_decide_eq_true q]
  · have q := h4 y hy
    rw [hf] at q
    cases e : sc.names.lookup y.1 with
    | none => rw [e] at q; cases q
    | some k =>
      rw [e] at q
      have q' : (decide (k = .cell) || decide (k = .free)) = true := by simpa using q
      rw [Bool.or_eq_true] at q'
      exact q'.imp (fun z => by rw [of_decide_eq_true z]) fun z => by rw [of_decide_eq_true z]
  · have q := h5 y hy
    have z : (decide (y.2 = .local) || decide (y.2 = .cell)) = true := by
      rw [Bool.or_eq_true]
      exact hl.imp (fun e => decide_eq_true e) fun e => decide_eq_true e
    rw [z] at q
    simp only [Bool.not_true, Bool.false_or, Bool.or_eq_true] at q
    rcases q with q | q
    · exact .inl (List.contains_iff_mem.mp q)
    · refine .inr fun m => ?_
      rw [List.contains_iff_mem.mpr m] at q
      cases q
end DL
/-! Plain words for the laws: how long a text of data is, reprs compared, loops, places. -/
namespace DL
open PySem L2 PyProof.Rows
mutual
/-- no shorter than the text of d -/
def wt : D → Nat
  | .non => 4
  | .bl _ => 5
  | .int i => i.natAbs.log2 + 2
  | .str s => 10 * s.length + 2
  | .tup ds => wts ds + 3
  | .lst ds => wts ds + 3
  | _ => 0
def wts : List D → Nat
  | [] => 0
  | d :: ds => wt d + 2 + wts ds
end
mutual
/-- plain, of that depth at most, its ints not too long, its signs signs -/
def okd : Nat → D → Bool
  | _, .non => true
  | _, .bl _ => true
  | _, .int i => decide (i.natAbs.log2 < 1920)
  | _, .str s => s.cps.toList.all fun c => decide (c < 16 ^ 8)
  | n + 1, .tup ds => okds n ds
  | n + 1, .lst ds => okds n ds
  | _, _ => false
def okds : Nat → List D → Bool
  | _, [] => true
  | n, d :: ds => okd n d && okds n ds
end
mutual
theorem okd_plain : ∀ (n : Nat) (d : D), okd n d = true → plain d = true
  | _, .non, _ => rfl
  | _, .bl _, _ => rfl
  | _, .int _, _ => rfl
  | _, .str _, _ => rfl
  | 0, .tup _, h => by unfold okd at h; cases h
  | 0, .lst _, h => by unfold okd at h; cases h
  | n + 1, .tup ds, h => by unfold okd at h; unfold plain; exact okds_plain n ds h
  | n + 1, .lst ds, h => by unfold okd at h; unfold plain; exact okds_plain n ds h
  | _, .dic _ _, h => by unfold okd at h; cases h
  | _, .obj _ _, h => by unfold okd at h; cases h
  | _, .exc _ _, h => by unfold okd at h; cases h
  | _, .jar, h => by unfold okd at h; cases h
theorem okds_plain : ∀ (n : Nat) (ds : List D), okds n ds = true → plains ds = true
  | _, [], _ => rfl
  | n, d :: ds, h => by
    unfold okds at h
    rw [Bool.and_eq_true] at h
    unfold plains
    rw [okd_plain n d h.1, okds_plain n ds h.2]; rfl
end
mutual
theorem okd_showable : ∀ (n : Nat) (d : D), okd n d = true → (pd d).showable = true ∧ (pd d).depth ≤ n
  | _, .non, _ => ⟨by simp [pd, PyData.showable], by simp [pd, PyData.depth]⟩
  | _, .bl _, _ => ⟨by simp [pd, PyData.showable], by simp [pd, PyData.depth]⟩
  | _, .int i, h => ⟨by simpa [pd, PyData.showable, okd] using h, by simp [pd, PyData.depth]⟩
  | _, .str _, _ => ⟨by simp [pd, PyData.showable], by simp [pd, PyData.depth]⟩
  | 0, .tup _, h => by unfold okd at h; cases h
  | 0, .lst _, h => by unfold okd at h; cases h
  | n + 1, .tup ds, h => by
    unfold okd at h
    have := okds_showable n ds h
    exact ⟨by simp [pd, PyData.showable, this.1], by simp [pd, PyData.depth]; exact this.2⟩
  | n + 1, .lst ds, h => by
    unfold okd at h
    have := okds_showable n ds h
    exact ⟨by simp [pd, PyData.showable, this.1], by simp [pd, PyData.depth]; exact this.2⟩
  | _, .dic _ _, h => by unfold okd at h; cases h
  | _, .obj _ _, h => by unfold okd at h; cases h
  | _, .exc _ _, h => by unfold okd at h; cases h
  | _, .jar, h => by unfold okd at h; cases h
theorem okds_showable : ∀ (n : Nat) (ds : List D), okds n ds = true → PyData.showableAll (pds ds) = true ∧ PyData.depthAll (pds ds) ≤ n
  | _, [], _ => ⟨by simp [pds, PyData.showableAll], by simp [pds, PyData.depthAll]⟩
  | n, d :: ds, h => by
    unfold okds at h
    rw [Bool.and_eq_true] at h
    have a := okd_showable n d h.1
    have b := okds_showable n ds h.2
    exact ⟨by simp [pds, PyData.showableAll, a.1, b.1], by simp only [pds, PyData.depthAll]; exact Nat.max_le.mpr ⟨a.2, b.2⟩⟩
end
mutual
theorem shown_wt : ∀ (n : Nat) (d : D), okd n d = true → (pd d).shown.length ≤ wt d
  | _, .non, _ => by simp only [pd, PyData.shown, wt]; decide
  | _, .bl b, _ => by cases b <;> (simp only [pd, PyData.shown, wt]; decide)
  | _, .int i, h => by
    simp only [pd, PyData.shown, wt]
    rw [PySem.ofString_length]
    exact int_text_length_le (a := i) (k := i.natAbs.log2 + 1) (by omega) (by omega)
  | _, .str s, h => by
    simp only [pd, PyData.shown, wt]
    refine StrLaws.reprText_len s fun c hc => ?_
    unfold okd at h
    exact of_decide_eq_true (List.all_eq_true.mp h c hc)
  | 0, .tup _, h => by unfold okd at h; cases h
  | 0, .lst _, h => by unfold okd at h; cases h
  | n + 1, .tup ds, h => by
    unfold okd at h
    have h1 := showns_wt n ds h
    have h2 := tupleText_len_le (PyData.shownAll (pds ds))
    simp only [pd, PyData.shown, wt]
    omega
  | n + 1, .lst ds, h => by
    unfold okd at h
    have h1 := showns_wt n ds h
    have h2 := listText_len_le (PyData.shownAll (pds ds))
    simp only [pd, PyData.shown, wt]
    omega
  | _, .dic _ _, h => by unfold okd at h; cases h
  | _, .obj _ _, h => by unfold okd at h; cases h
  | _, .exc _ _, h => by unfold okd at h; cases h
  | _, .jar, h => by unfold okd at h; cases h
theorem showns_wt : ∀ (n : Nat) (ds : List D), okds n ds = true → ((PyData.shownAll (pds ds)).map (·.length)).sum + 2 * (PyData.shownAll (pds ds)).length ≤ wts ds
  | _, [], _ => by simp [pds, PyData.shownAll]
  | n, d :: ds, h => by
    unfold okds at h
    rw [Bool.and_eq_true] at h
    have a := shown_wt n d h.1
    have b := showns_wt n ds h.2
    simp only [pds, PyData.shownAll, List.map_cons, List.sum_cons, List.length_cons, wts]
    omega
end
theorem shownOK_of {d : D} (h : okd 60 d = true) (hw : wt d ≤ sizeLine) : shownOK d :=
  ⟨okd_plain _ d h, (okd_showable _ d h).1, (okd_showable _ d h).2, Nat.le_trans (shown_wt _ d h) hw⟩
theorem bothS_refl (z : Str) : bothS (.str z) (.str z) = some true := by
  unfold bothS
  simp
theorem CF.use {F : FE} {c : List Sl → R D} (h : CF F c) {r : List Sl} {d : D} (hr : r.map (adr 0) = r) (e : c r = .ok d) {Q : D → Prop} {EX : XP} (q : Q d) : F r Q EX := h (x := 0) r r Q EX hr.symm (by rw [e]; exact q)
theorem CS.use {F : FS} {c : List Sl → RS} (h : CS F c) {r r1 : List Sl} (hr : r.map (adr 0) = r) (e : c r = .nx r1) (hr1 : r1.map (adr 0) = r1) {A : DE} {EX : XP} (k : A.nx r1) : F A EX r := h (x := 0) r r A EX hr.symm (by
  rw [e]
  intro s hs
  rw [show s = r1.map (adr 0) from hs, hr1]
  exact k)
theorem atI_nat {α : Type} {xs : List α} {i : Nat} (h : i < xs.length) : atI xs (i : Int) = some xs[i] := by
  have e : ixN xs.length (i : Int) = some i := by
    unfold ixN
    rw [if_pos (by omega), if_pos (by omega)]
    simp
  unfold atI
  rw [e]
  simp [h]
theorem fmod_lt (n : Int) {m : Int} (h : 0 < m) : 0 ≤ n.fmod m ∧ n.fmod m < m := ⟨Int.fmod_nonneg_of_pos n h, Int.fmod_lt_of_pos n h⟩
theorem rangeD_int {lo hi : Int} {d : D} (h : d ∈ rangeD lo hi) : ∃ k : Int, d = .int k ∧ lo ≤ k ∧ k < hi := by
  unfold rangeD at h
  obtain ⟨i, hi', rfl⟩ := List.mem_map.mp h
  have := List.mem_range.mp hi'
  exact ⟨_, rfl, by omega, by omega⟩
theorem rangeD_len {lo hi : Int} : (rangeD lo hi).length = (hi - lo).toNat := by
  unfold rangeD
  rw [List.length_map, List.length_range]
end DL
/-! The data layer, part 17: what an own class answers to len, in, str, ==. -/
namespace DL
open PySem L2 PyProof.Rows
section
variable {G : Gm} {X : Cx} {E : XK} {k : Nat} {f C : Addr} {fd : FuncData} {ps : List Str} {sp : Sp}
end

/-! ### the same over data -/
section
variable {G : Gm} {X : Cx} {k : Nat} {f : Addr} {fd : FuncData} {ps : List Str} {sp : DSp}
end

end DL
/-! The data layer, part 18: index, pop. -/
namespace DL
open PySem L2 PyProof.Rows
variable {G : Gm} {X : Cx} {E : XK}

end DL
/-! The data layer, part 19: calls with keywords and defaults. -/
namespace DL
open PySem L2 PyProof.Rows

/-- where a parameter's value comes from: a place, a keyword, a default -/
inductive Src where
  | p (i : Nat) | k (i : Nat) | d (i : Nat)
/-! ### the written arguments -/
structure CW (X : Cx) (es : List Expr) (kws : List Keyword) (ks : List Str) (t : L2.St → Hp → (List V → List V → Hp → Prop) → Prop) : Prop where
  run : ∀ (pos : Pos) (pins : List (Addr × Obj)) (s : Shared) (σ : L2.St) (H : Hp) (f : Value) (first : List Value) (Qv : Value → Shared → Prop) (R : List V → List V → Hp → Prop), PySem.W.keepIn X.K f = true → Inv X pins σ H s → t σ H R →
    (∀ us ws vs zs s' H', Inv X pins σ H' s' → Vals vs us → Vals zs ws → R vs zs H' → wpAny (model X.prog X.w) X.A (call f (first ++ us) (ks.zip ws)) Qv X.xe s') →
    wpAny (model X.prog X.w) X.A (callWith pos f first (backTo pos (starEach es X.env)) (backToKw pos (keywordEach kws X.env))) Qv X.xe s
section
variable {X : Cx} {e : Expr} {es : List Expr} {kws : List Keyword} {ks : List Str} {t tk : TA}
theorem cw_kw0 (hk : PK X kws tk) (hall : ∀ pos, (backToKw pos (keywordEach kws X.env)).all (·.1.isSome) = true := by intro _; rfl) (hks : ∀ pos, (backToKw pos (keywordEach kws X.env)).filterMap (·.1) = ks := by intro _; rfl)
    (hpl : ∀ pos, ((backTo pos (starEach [] X.env)).any (·.1) || (backToKw pos (keywordEach kws X.env)).any (·.1.isNone)) = false := by intro _; rfl) :
    CW X [] kws ks (fun σ H R => tk σ H fun zs H2 => R [] zs H2) := ⟨fun pos pins s σ H f first Qv R hf I h k => by
  refine PySem.W.callWith_KW0 (h₀ := X.base) I.ok.mod.kin hf (hall pos) ?_ (hpl pos)
  refine thn (hk.run pos pins s σ H _ I h) fun ws s2 ⟨zs, H2, I2, rz, q2⟩ => ⟨I2.kIn, ?_⟩
  rw [hks pos]
  exact k [] ws [] zs s2 H2 I2 .nil rz q2⟩
end

/-! ### over data -/
abbrev FK := Env → (List D → List D → Prop) → XP → Prop
def tkD (G : Gm) (E : XK) (F : FK) : L2.St → Hp → (List V → List V → Hp → Prop) → Prop := fun s H R => ∃ w0 H0 r w QD EX, Fr G w0 H0 r s w H ∧ LkE G E w0 H0 EX ∧ F r QD EX ∧ ∀ ds es vs zs w' H', Le w H w' H' → Ok w' H' → Reps G w' ds vs → Reps G w' es zs → QD ds es → R vs zs H'
def fKw (A B : FA) : FK := fun r Q EX => A r (fun ds => B r (fun es => Q ds es) EX) EX
section
variable {X : Cx} {G : Gm} {E : XK} {k n : Nat} {f C : Addr} {fd : FuncData} {ps ks : List Str} {sel : List Src} {dd : List D} {x m : Str} {p pos apos kpos : Pos} {e o : Expr} {es : List Expr} {kws : List Keyword} {A : FE} {B B2 : FA} {F : FK} {sp : DSp} {nm : Option Str}
theorem _root_.L2.PK.weak {t t' : TA} (h : PK X kws t) (k : ∀ s H Q, t' s H Q → t s H Q) : PK X kws t' := ⟨fun ps p s σ H Q I q => h.run ps p s σ H Q I (k σ H Q q)⟩
theorem ck_nil : PK X [] (taD G E fNil) := PK.weak pk_nil fun s H Q ⟨w0, H0, r, w, QD, EX, fr, lk, f, k⟩ => k [] [] w H (.refl w H) fr.ok Reps.nil f
theorem ck_cons (ha : PE X e (tD G E A)) (hr : PK X kws (taD G E B)) : PK X (⟨nm, e, kpos⟩ :: kws) (taD G E (fCons A B)) := (pk_cons ha hr).weak fun s H Q ⟨w0, H0, r, w, QD, EX, fr, lk, f, k⟩ =>
  ⟨w0, H0, r, w, _, EX, fr, lk, f, fun d v w1 H1 l1 ok1 r1 q1 => ⟨w0, H0, r, w1, _, EX, fr.go l1 ok1, lk, q1, fun ds vs w2 H2 l2 ok2 r2 q2 => k (d :: ds) (v :: vs) w2 H2 (l1.trans l2) ok2 (Reps.cons (r1.mono l2.sub) r2) q2⟩⟩
theorem _root_.DL.CW.weak {t t' : L2.St → Hp → (List V → List V → Hp → Prop) → Prop} (h : CW X es kws ks t) (k : ∀ s H R, t' s H R → t s H R) : CW X es kws ks t' := ⟨fun pos pins s σ H f first Qv R hf I q => h.run pos pins s σ H f first Qv R hf I (k σ H R q)⟩
theorem ck_kw0 (hk : PK X kws (taD G E B2)) (hall : ∀ pos, (backToKw pos (keywordEach kws X.env)).all (·.1.isSome) = true := by intro _; rfl) (hks : ∀ pos, (backToKw pos (keywordEach kws X.env)).filterMap (·.1) = ks := by intro _; rfl)
    (hpl : ∀ pos, ((backTo pos (starEach [] X.env)).any (·.1) || (backToKw pos (keywordEach kws X.env)).any (·.1.isNone)) = false := by intro _; rfl) :
    CW X [] kws ks (tkD G E (fKw fNil B2)) := (cw_kw0 hk hall hks hpl).weak fun s H R ⟨w0, H0, r, w, QD, EX, fr, lk, f, k⟩ =>
  ⟨w0, H0, r, w, _, EX, fr, lk, f, fun es zs w2 H2 l2 ok2 r2 q2 => k [] es [] zs w2 H2 l2 ok2 Reps.nil r2 q2⟩
end
end DL
/-! The data layer, part 20: how calls bind; defs with defaults; objects made with keywords; what they compute. -/
namespace DL
open PySem L2 PyProof.Rows
section
variable {K : PySem.W.Frag} {x qual : Str} {st : Stmt} {f : Addr} {fd : FuncData} {ps : List Str}
end
section
variable {P : Program} {w : World} {K : PySem.W.Frag} {mg : Str → Option Value} {base : Heap} {k : Nat} {f : Addr} {N ps : List Str} {sp : Sp}
theorem FunD.okG {x qual : Str} {params : Arguments} {bd : List Stmt} {scope : Scope} {dvs : List V} {kws : List (Str × V)} {fd : FuncData} (F : FunD K x qual params bd scope dvs kws f fd) (S : FnScope N ps scope) (len : ∀ vs H Q E, sp vs H Q E → vs.length = ps.length)
    (body : ∀ (cdv : Value) (A : Around) (outer : List PySem.Env) (s : Shared) (H : Hp) (vs : List V) (Q : VK) (E : XK), A.guards = some [] → Room k (A.deeper (envOfC qual scope s.heap.objs.size f cdv)) → sp vs H Q E →
      ∃ t, PSs (cxOf (L2.CX P w) P w K mg base N qual scope f cdv A outer s H E) bd t ∧ t { nx := fun _ H' => Q .non H', rt := Q } (L2.start N vs) H) : FnG P w K mg base (k + 1) f fd ps sp := by
  obtain ⟨oc, od, dV, kV, doc, pm, an, cdv, ct, osl, rfl, lk, hcd, _, _⟩ := F.ex
  refine ⟨len, fun A outer s H args us vs Q E hg hr e0 hb rv hsp => ?_⟩
  have nl := len _ _ _ _ hsp
  have inK : K.In s.heap := e0.mod.kin.keeps fun b o e => (e0.bs b o e).1
  have lim : s.heap.NoLimit := e0.mod.nolimit.keeps fun b o e => (e0.bs b o e).1
  have kinds : ∀ y ∈ ps.zip us, scope.names.lookup y.1 = some .local ∨ (scope.names.lookup y.1 = some .cell ∧ ((cellsFrom (s.heap.objs.size + 1) scope.names []).lookup y.1).isSome = true) := by
    rintro ⟨n, v⟩ hy
    exact (S.par n (List.of_mem_zip hy).1).imp id fun q => ⟨q, PySem.W.cellsFrom_some _ _ _ (.inl q)⟩
  refine codeAny_call_function hr.depth (inK _ _ lk) rfl S.co S.gen rfl (PySem.W.codeRec_of inK hcd) (hb _ _ _ _ ?_)
  refine wpAny_newFunctionEnv_cells S.kind kinds fun env he s1 x1 => ?_
  subst he
  refine ⟨lim.keeps x1.toInCall.keep, codeAny_func ?_⟩
  obtain ⟨t, ht, hq⟩ := body cdv A outer s H vs Q E hg (hr.deeper _) hsp
  have I := inv_start (CX := L2.CX P w) (E := E) (qual := qual) (f := f) (cd := cdv) S hr.hd e0 nl rv x1
  refine wpAny_mono (ht.run [] s1 (L2.start N vs) H _ I hq) (fun fl s' hs => ?_) (fun e s' hs => hs)
  cases fl with
  | ret u =>
    obtain ⟨v, _, H', J, r, q⟩ := hs
    exact ⟨v, H', J.os, J.bare, J.base, J.hok, r, q⟩
  | next =>
    obtain ⟨_, H', J, q⟩ := hs
    exact ⟨V.non, H', J.os, J.bare, J.base, J.hok, rfl, q⟩
  | brk => exact (hs.elim fun _ z => z.elim fun _ y => (show False from y.2).elim)
  | cont => exact (hs.elim fun _ z => z.elim fun _ y => (show False from y.2).elim)
end
section
variable {X : Cx} {G : Gm} {E : XK} {k n : Nat} {f C : Addr} {fd : FuncData} {ps ks : List Str} {sel : List Src} {dd : List D} {x : Str} {p pos : Pos} {es : List Expr} {kws : List Keyword} {F : FK}
end
/-! ### what they compute -/
def xKw (a b : List Sl → R (List D)) (r : List Sl) : R (List D × List D) := (a r).bind fun ds => (b r).bind fun es => .ok (ds, es)
def CK (F : FK) (c : List Sl → R (List D × List D)) : Prop := ∀ {x : Addr} r r' Q EX, Sim x r r' → (c r).hold (fun p => Q p.1 p.2) EX → F r' Q EX
theorem f_kw {A B : FA} {a b : List Sl → R (List D)} (ha : CF A a) (hb : CF B b) : CK (fKw A B) (xKw a b) := fun r r' Q EX s h =>
  ha r r' _ EX s ((hold_bind h).imp fun ds h1 => hb r r' _ EX s ((hold_bind h1).imp fun es h2 => h2))
end DL
namespace DL
open PySem L2
/-- a def of the text with its promise, and how it stands -/
def DefU (P : Program) (w : World) (G : Gm) (mg : Str → Option Value) (base : Heap) (k : Nat) (f : Addr) (ps : List Str) (U : FuncData → Prop) (sp : Sp) : Prop := ∃ fd, FnG P w G.K mg base k f fd ps sp ∧ U fd
end DL
/-! The data layer, part 21: own lists: by +, moved, walked. -/
namespace DL
open PySem L2 PyProof.Rows
section
variable {X : Cx} {G : Gm} {E : XK} {a b e : Expr} {pos : Pos} {A B : FE}
/-- a + b of lists, as a new list -/
def fAddN (A B : FE) : FA := fun r Q EX => A r (fun x => B r (fun y => match x, y with
  | .lst xs, .lst ys => xs.length + ys.length ≤ sizeLine ∧ Q (xs ++ ys)
  | _, _ => False) EX) EX
theorem cf_add (ha : PE X a (bD G E A)) (hb : PE X b (bD G E B)) (hK : X.K = G.K := by rfl) : PE X (.BinOp a .Add b pos) (fD G E (fAddN A B)) := (pe_op op_catR ha hb).weak fun s H Q ⟨w0, H0, r, w, QD, EX, fr, lk, f, k⟩ => by
  refine ⟨w0, H0, r, w, _, EX, fr, lk, f, fun x v w1 H1 l1 ok1 s1 q1 => ?_⟩
  refine ⟨w0, H0, r, w1, _, EX, fr.go l1 ok1, lk, q1, fun y u w2 H2 l2 ok2 s2 q2 => ?_⟩
  cases x <;> try exact q2.elim
  cases y <;> try exact q2.elim
  rename_i xs ys
  obtain ⟨hz, q2⟩ := q2
  obtain ⟨p, vs, rfl, t1, r1⟩ := (s1.go l2).lst_of ok2
  obtain ⟨q, us, rfl, t2, r2⟩ := s2.lst_of ok2
  refine ⟨p, q, vs, us, rfl, rfl, hK ▸ t1, hK ▸ t2, by rw [← r1.length, ← r2.length]; exact hz, fun n hn => ?_⟩
  exact k _ n _ w2 _ ((l1.trans l2).trans (Le.new hn)) (ok2.new hn) ((l1.trans l2).none_of hn) (Mine.new (w := w) (H := H) (fr.le.trans (l1.trans l2)) ok2 hn) upd_same (r1.append r2) q2
def xAddN (a b : List Sl → R D) (r : List Sl) : R (List D) := (a r).bind fun x => (b r).bind fun y => match x, y with
  | .lst xs, .lst ys => if Nat.ble (xs.length + ys.length) 16777216 = true then .ok (xs ++ ys) else .no
  | _, _ => .no
theorem f_addN {a b : List Sl → R D} (ha : CF A a) (hb : CF B b) : CF (fAddN A B) (xAddN a b) := fun r r' Q EX s h => ha r r' _ EX s ((hold_bind h).imp fun x h1 => hb r r' _ EX s ((hold_bind h1).imp fun y h2 => by
  cases x <;> try exact h2.elim
  cases y <;> try exact h2.elim
  rename_i xs ys
  dsimp only at h2 ⊢
  by_cases z : Nat.ble (xs.length + ys.length) 16777216 = true
  · rw [if_pos z] at h2
    exact ⟨by rw [sizeLine_eq]; exact Nat.le_of_ble_eq_true z, h2⟩
  · rw [if_neg z] at h2; exact h2.elim))
theorem Fr.un {w0 : Wd} {H0 : Hp} {r : Env} {s : L2.St} {w : Wd} {H : Hp} (f : Fr G w0 H0 r s w H) (j : Nat) : Fr G w0 H0 (r.set j .un) s w H where
  ok := f.ok
  le := f.le
  len := by rw [List.length_set]; exact f.len
  slot := fun i x e => by
    by_cases z : j = i
    · subst z
      have hj : j < r.length := by
        have q := (List.getElem?_eq_some_iff.mp e).1
        simpa using q
      rw [List.getElem?_set_self hj] at e
      cases e
      trivial
    · rw [List.getElem?_set_ne z] at e
      exact f.slot i x e
  dist := fun i k x y a e1 e2 o1 o2 q1 q2 => by
    have nn : ∀ {n : Nat} {u : Sl}, (r.set j .un)[n]? = some u → u.isOwn = true → r[n]? = some u := fun {n u} en on => by
      by_cases z : j = n
      · subst z
        have hj : j < r.length := by
          have q := (List.getElem?_eq_some_iff.mp en).1
          simpa using q
        rw [List.getElem?_set_self hj] at en
        cases en
        cases on
      · rw [List.getElem?_set_ne z] at en; exact en
    exact f.dist i k x y a (nn e1 o1) (nn e2 o2) o1 o2 q1 q2
end
end DL
/-! The data layer, part 22: {k: v, ..}, a new dict as a value. -/
namespace DL
open PySem L2 PyProof.Rows
section
variable {X : Cx} {G : Gm} {E : XK} {a b e : Expr} {pos : Pos} {A B : FE}
def fPs : List (FE × FE) → Env → (List D → List D → Prop) → XP → Prop
  | [], _, Q, _ => Q [] []
  | (A, B) :: ps, r, Q, EX => A r (fun k => B r (fun d => fPs ps r (fun ks ds => Q (k :: ks) (d :: ds)) EX) EX) EX
def trsD (G : Gm) (E : XK) (ps : List (FE × FE)) : List (TE × TE) := ps.map fun p => (tD G E p.1, tD G E p.2)
theorem ps_walk {w0 : Wd} {H0 : Hp} {r : Env} {s : L2.St} {EX : XP} (lk : LkE G E w0 H0 EX) : ∀ (ps : List (FE × FE)) {w : Wd} {H : Hp} {QD : List D → List D → Prop} {Q : List (V × V) → Hp → Prop}, Fr G w0 H0 r s w H → fPs ps r QD EX →
    (∀ ks ds us vs w' H', Le w H w' H' → Ok w' H' → Reps G w' ks us → Reps G w' ds vs → us.length = vs.length → QD ks ds → Q (us.zip vs) H') → tPairs (trsD G E ps) s H Q
  | [], w, H, QD, Q, fr, f, k => k [] [] [] [] w H (.refl w H) fr.ok Reps.nil Reps.nil rfl f
  | (A, B) :: ps, w, H, QD, Q, fr, f, k => by
    refine ⟨w0, H0, r, w, _, EX, fr, lk, f, fun x v w1 H1 l1 ok1 r1 q1 => ?_⟩
    refine ⟨w0, H0, r, w1, _, EX, fr.go l1 ok1, lk, q1, fun y u w2 H2 l2 ok2 r2 q2 => ?_⟩
    refine ps_walk lk ps ((fr.go l1 ok1).go l2 ok2) q2 fun ks ds us vs w3 H3 l3 ok3 r3 r4 el q3 => ?_
    exact k _ _ (v :: us) (u :: vs) w3 H3 ((l1.trans l2).trans l3) ok3 (Reps.cons (r1.mono (l2.sub.trans l3.sub)) r3) (Reps.cons (r2.mono l3.sub) r4) (by rw [List.length_cons, List.length_cons, el]) q3
def kD : Key → D
  | .inl n => .int n
  | .inr s => .str s
theorem reps_keys {w : Wd} : ∀ {ks : List Key} {us : List V}, Reps G w (ks.map kD) us → us = ks.map kV
  | [], us, h => h.of_nil
  | k :: ks, us, h => by
    obtain ⟨v, r, e, h1, h2⟩ := Reps.of_cons h
    subst e
    rw [List.map_cons, reps_keys h2]
    cases k with
    | inl n => rw [h1.int_of]; rfl
    | inr s => rw [h1.str_of]; rfl
theorem merge_new : ∀ (more acc : List (Key × V)), ((acc ++ more).map (·.1)).Nodup → mergeK acc more = acc ++ more
  | [], acc, _ => by rw [List.append_nil]; rfl
  | p :: more, acc, h => by
    have hn : valV acc p.1 = none := by
      unfold valV
      rw [Option.map_eq_none_iff, List.find?_eq_none]
      intro q hq hc
      rw [List.map_append, List.map_cons, List.nodup_append] at h
      exact h.2.2 _ (List.mem_map_of_mem hq) _ List.mem_cons_self (by simpa using hc)
    show mergeK (putK acc p.1 p.2) more = _
    rw [putK_new _ hn, merge_new more _ (by rw [List.append_assoc]; exact h), List.append_assoc]
    rfl
/-- {k: v, ..}: keys apart, no more than fifteen -/
def fDic (ks : List Key) (ps : List (FE × FE)) : FE := fun r Q EX => fPs ps r (fun kd ds => kd = ks.map kD ∧ Q (.dic ks ds)) EX
theorem ce_dic {keys : List (Option Expr)} {values : List Expr} (ks : List Key) {ps : List (FE × FE)} (h : PPs X pos keys values (trsD G E ps)) (hd : ks.Nodup := by decide) (h15 : ks.length ≤ 15 := by decide) (hall : keys.all (·.isSome) = true := by rfl) (hl : keys.length = values.length := by rfl)
    (h0 : keys ≠ [] := by simp) (h16 : keys.length ≤ 15 := by decide) : PE X (.Dict keys values pos) (tD G E (fDic ks ps)) := (pe_disp h hall hl h0 h16).weak fun s H Q ⟨w0, H0, r, w, QD, EX, fr, lk, f, k⟩ => by
  intro p hp
  have fr1 := fr.go (Le.new (w := w) (o := .dK []) hp) (fr.ok.new hp)
  refine ps_walk lk ps fr1 f fun kd ds us vs w1 H1 l1 ok1 r1 r2 el ⟨ek, q⟩ => ?_
  subst ek
  have eu := reps_keys r1
  have hlv : ks.length = vs.length := by rw [← el, eu, List.length_map]
  have m0 : Mine H0 w p := ⟨fr.ok.none_hd hp, fr.ok.none_jr hp, fr.le.none_of hp⟩
  have hat : H1 p = some (.dK []) := l1.keep p _ upd_same m0.2.1
  have m1 : Mine H0 w1 p := m0.le upd_same l1
  refine ⟨hat, ks.zip vs, ?_, ?_, ?_⟩
  · rw [eu]
    rw [List.zip_map_left]
    rfl
  · rw [List.length_zip]; omega
  · have em : mergeK [] (ks.zip vs) = ks.zip vs := by
      rw [merge_new _ _ (by rw [List.nil_append, List.map_fst_zip (by omega)]; exact hd)]
      rfl
    rw [em]
    have l2 := (((Le.new (w := w) (o := .dK []) hp).trans l1).put (o := .dK (ks.zip vs)) hp).frz m1.1 hp
    refine k _ _ _ _ l2 ((ok1.put m1.1 m1.2.1).frz m1.2.1) ?_ q
    unfold Rep
    exact ⟨p, vs, rfl, .inl (by rw [frz_at, upd_same]), hlv, r2.mono (.frz m1.1)⟩
def xPs : List ((DL.Env → R D) × (DL.Env → R D)) → DL.Env → (List D → List D → R D) → R D
  | [], _, q => q [] []
  | (a, b) :: ps, r, q => (a r).bind fun k => (b r).bind fun d => xPs ps r fun ks ds => q (k :: ks) (d :: ds)
def eqK : List D → List Key → Bool
  | [], [] => true
  | .int n :: ds, .inl m :: ks => decide (n = m) && eqK ds ks
  | .str n :: ds, .inr m :: ks => decide (n = m) && eqK ds ks
  | _, _ => false
theorem eqK_of : ∀ {ds : List D} {ks : List Key}, eqK ds ks = true → ds = ks.map kD
  | [], [], _ => rfl
  | d :: ds, [], h => by cases d <;> cases h
  | [], k :: ks, h => by cases k <;> cases h
  | d :: ds, k :: ks, h => by
    cases d <;> cases k <;> try (unfold eqK at h; cases h)
    all_goals
      unfold eqK at h
      rw [Bool.and_eq_true, decide_eq_true_iff] at h
      obtain ⟨h1, h2⟩ := h
      subst h1
      rw [eqK_of h2]
      rfl
def xDic (ks : List Key) (ps : List ((DL.Env → R D) × (DL.Env → R D))) (r : DL.Env) : R D := xPs ps r fun kd ds => if eqK kd ks = true then .ok (.dic ks ds) else .no
inductive CPs : List (FE × FE) → List ((DL.Env → R D) × (DL.Env → R D)) → Prop where
  | nil : CPs [] []
  | cons {A B : FE} {a b : DL.Env → R D} {ps qs} (ha : CF A a) (hb : CF B b) (h : CPs ps qs) : CPs ((A, B) :: ps) ((a, b) :: qs)
theorem xPs_run {x : Addr} {ps qs} (h : CPs ps qs) : ∀ {r r' : DL.Env} {q : List D → List D → R D} {Q : D → Prop} {F : List D → List D → Prop} {EX : XP}, Sim x r r' → (xPs qs r q).hold Q EX → (∀ ks ds, (q ks ds).hold Q EX → F ks ds) → fPs ps r' F EX := by
  induction h with
  | nil => intro r r' q Q F EX s h k; exact k _ _ h
  | cons ha hb _ ih =>
    intro r r' q Q F EX s h k
    exact ha r r' _ EX s ((hold_bind h).imp fun x h1 => hb r r' _ EX s ((hold_bind h1).imp fun y h2 => ih s h2 fun ks ds h3 => k _ _ h3))
theorem f_dic {ks : List Key} {ps qs} (h : CPs ps qs) : CF (fDic ks ps) (xDic ks qs) := fun r r' Q EX s h0 => xPs_run h s h0 fun kd ds h1 => by
  by_cases z : eqK kd ks = true
  · rw [if_pos z] at h1; exact ⟨eqK_of z, h1⟩
  · rw [if_neg z] at h1; exact h1.elim
end
end DL
/-! The data layer, part 23: -x. -/
namespace DL
open PySem L2 PyProof.Rows
section
variable {X : Cx} {G : Gm} {E : XK} {a b e : Expr} {pos : Pos} {A B : FE}
def fNeg (A : FE) : FE := fun r Q EX => A r (fun d => match d with
  | .int n => Q (.int (-n))
  | _ => False) EX
theorem ce_neg (ha : PE X a (tD G E A)) : PE X (.UnaryOp .USub a pos) (tD G E (fNeg A)) := (pe_un un_neg ha).weak fun s H Q ⟨w0, H0, r, w, QD, EX, fr, lk, f, k⟩ =>
  ⟨w0, H0, r, w, _, EX, fr, lk, f, fun x v w1 H1 l1 ok1 rp q1 => by
    cases x <;> try exact q1.elim
    rw [rp.int_of]
    exact ⟨_, rfl, k _ _ w1 H1 l1 ok1 Rep.int q1⟩⟩
def xNeg (a : DL.Env → R D) (r : DL.Env) : R D := (a r).bind fun d => match d with
  | .int n => .ok (.int (-n))
  | _ => .no
theorem f_neg {a : DL.Env → R D} (ha : CF A a) : CF (fNeg A) (xNeg a) := fun r r' Q EX s h => ha r r' _ EX s ((hold_bind h).imp fun d h1 => by
  cases d <;> first | exact h1.elim | exact h1)
end
end DL
/-! The data layer, part 24: a, b = e, [..] where a name is a cell: the tuple is made and taken apart. -/
namespace DL
open PySem L2 PyProof.Rows
section
variable {X : Cx} {G : Gm} {E : XK} {pos : Pos} {i j : Nat} {x y : Str} {a b : Expr} {px py pt : Pos} {kt k2 pt2}
end
end DL
/-! A walk over a list, a tuple or a text, whichever it is. -/
namespace DL
open PySem L2 PyProof.Rows
/-- what is walked of a list, a tuple, a text -/
def seqD : D → Option (List D)
  | .lst ds => some ds
  | .tup ds => some ds
  | .str z => some (signs z)
  | _ => none
def fItA (A : FE) : FI := fun r Q EX => A r (fun d => ∃ ds, seqD d = some ds ∧ Q ds) EX
section
variable {X : Cx} {G : Gm} {E : XK} {tg l : Expr} {A : FE}
def iAnyT (K : PySem.W.Frag) (tl : TE) : TI := fun σ H R => tl σ H fun x H1 =>
  (∃ a, x = .ref a ∧ (∃ xs, SqL K H1 a xs) ∧ R (Itl K a) H1) ∨ (∃ a, x = .ref a ∧ (∃ xs, SqT K H1 a xs) ∧ R (Itt K a) H1) ∨ (∃ z, x = .str z ∧ R (Its z) H1)
theorem pi_anyT {tl : TE} (hl : PE X l tl) : PI X tg l (iAnyT X.K tl) := by
  refine ⟨fun pins s σ H R I h => ?_⟩
  refine thn (hl.run pins s σ H _ I h) fun v s1 ⟨x, H1, I1, r1, q1⟩ => ?_
  rcases q1 with ⟨a, e, ⟨xs, hq⟩, q⟩ | ⟨a, e, ⟨xs, hq⟩, q⟩ | ⟨z, e, q⟩
  · subst e
    cases r1
    obtain ⟨its, rv, p, hz⟩ := I1.list hq
    refine wpAny_pyIter_list p.isList ?_
    refine ⟨s1.heap.objs.size, [s1.heap.objs.size], _, _, H1, rfl, I1.kept (t' := s1.toks) fun b o e => Heap.get?_push_of_some _ e, turn_list a _, ⟨_, Heap.get?_push_size _ rfl, rfl, rfl⟩, fun b hb => ?_, q⟩
    have e : b = s1.heap.objs.size := by simpa using hb
    subst e
    exact I1.fpOk (Nat.le_refl _) (I1.hok.fresh (Nat.le_refl _))
  · subst e
    cases r1
    obtain ⟨its, rv, p, hz⟩ := I1.tuple hq
    refine wpAny_pyIter_tuple (show s1.heap.IsTuple a its.toArray from p) ?_
    refine ⟨s1.heap.objs.size, [s1.heap.objs.size], _, _, H1, rfl, I1.kept (t' := s1.toks) fun b o e => Heap.get?_push_of_some _ e, turn_tuple a _, ⟨_, Heap.get?_push_size _ rfl, rfl, rfl⟩, fun b hb => ?_, q⟩
    have e : b = s1.heap.objs.size := by simpa using hb
    subst e
    exact I1.fpOk (Nat.le_refl _) (I1.hok.fresh (Nat.le_refl _))
  · subst e
    obtain ⟨t, rfl⟩ := r1
    cases ha : z.cps.all (· < 128)
    · exact wpAny_pyIter_wide ha (pi_one (tk := s1.toks) I1 _ (turn_str _ z t "str_iterator" (.inr rfl)) ⟨_, Heap.get?_push_size _ rfl, rfl, rfl⟩ q)
    · exact wpAny_pyIter_ascii ha (pi_one (tk := s1.toks) I1 _ (turn_str _ z t "str_ascii_iterator" (.inl rfl)) ⟨_, Heap.get?_push_size _ rfl, rfl, rfl⟩ q)
theorem cis_any (h : PE X l (tD G E A)) (hK : X.K = G.K := by rfl) : PI X tg l (iS G E (fItA A)) := (pi_anyT h).weak fun s H R ⟨w0, H0, r, w, QD, EX, fr, lk, f, k⟩ =>
  ⟨w0, H0, r, w, _, EX, fr, lk, f, fun d v w1 H1 l1 ok1 r1 ⟨ds, ed, q⟩ => by
    cases d <;> first | (cases ed; done) | skip
    · rename_i z zz
      cases ed
      exact .inr (.inr ⟨z, r1.str_of, k (signs z) _ w1 H1 l1 ok1 src_str q⟩)
    · cases ed
      obtain ⟨a, vs, ev, h1, r2⟩ := r1.tup_of
      exact .inr (.inl ⟨a, ev, ⟨vs, hK ▸ sqT_sub ok1.sub h1.sqt⟩, k _ _ w1 H1 l1 ok1 (src_tup (hK ▸ h1.sqt) r2) q⟩)
    · cases ed
      obtain ⟨a, vs, ev, h1, r2⟩ := r1.lst_of
      exact .inl ⟨a, ev, ⟨vs, hK ▸ (lsT_sub ok1.sub h1).sql⟩, k _ _ w1 H1 l1 ok1 (src_list (hK ▸ h1) r2) q⟩⟩
theorem cie_any (h : PE X l (bD G E A)) (hK : X.K = G.K := by rfl) : PI X tg l (iE G E (fItA A)) := (pi_anyT h).weak fun s H R ⟨w0, H0, r, w, QD, EX, fr, lk, f, k⟩ =>
  ⟨w0, H0, r, w, _, EX, fr, lk, f, fun d v w1 H1 l1 ok1 r1 ⟨ds, ed, q⟩ => by
    cases d <;> first | (cases ed; done) | skip
    · rename_i z zz
      cases ed
      rcases r1 with r1 | ⟨_, _, _, _, e2, _⟩ | ⟨_, _, _, _, _, e2, _⟩
      · exact .inr (.inr ⟨z, r1.str_of, k (signs z) _ w1 H1 l1 ok1 src_str.toE q⟩)
      · cases e2
      · cases e2
    · cases ed
      rcases r1 with r1 | ⟨_, _, _, _, e2, _⟩ | ⟨_, _, _, _, _, e2, _⟩
      · obtain ⟨a, vs, ev, h1, r2⟩ := r1.tup_of
        exact .inr (.inl ⟨a, ev, ⟨vs, hK ▸ sqT_sub ok1.sub h1.sqt⟩, k _ _ w1 H1 l1 ok1 (src_tup (hK ▸ h1.sqt) r2).toE q⟩)
      · cases e2
      · cases e2
    · cases ed
      rcases r1 with r1 | ⟨a, vs, es, ev, e2, m, h1, r2⟩ | ⟨_, _, _, _, _, e2, _⟩
      · obtain ⟨a, vs, ev, h1, r2⟩ := r1.lst_of
        exact .inl ⟨a, ev, ⟨vs, hK ▸ (lsT_sub ok1.sub h1).sql⟩, k _ _ w1 H1 l1 ok1 (src_list (hK ▸ h1) r2).toE q⟩
      · cases e2
        exact .inl ⟨a, ev, ⟨vs, .inl (.of h1)⟩, k _ _ w1 H1 l1 ok1 (src_listE m.2.1 h1 r2) q⟩
      · cases e2⟩
end
def iA (a : Env → R D) (r : Env) : R (List D) := (a r).bind fun d => match seqD d with
  | some ds => .ok ds
  | none => .no
theorem f_itA {A : FE} {a : Env → R D} (ha : CF A a) : CF (fItA A) (iA a) := fun r r' Q EX s h => ha r r' _ EX s ((hold_bind h).imp fun d h1 => by
  cases e : seqD d with
  | none => rw [e] at h1; exact h1.elim
  | some ds => rw [e] at h1; exact ⟨ds, rfl, h1⟩)
end DL
/-! list * int. -/
namespace DL
open PySem L2 PyProof.Rows
variable {G : Gm} {X : Cx}
theorem vals_rep {xs : List V} {its : List Value} (r : Vals xs its) : ∀ n : Nat, Vals (List.replicate n xs).flatten (List.replicate n its).flatten
  | 0 => .nil
  | n + 1 => by
    rw [List.replicate_succ, List.replicate_succ, List.flatten_cons, List.flatten_cons]
    exact Vals.append r (vals_rep r n)
theorem op_mulL : OpR X (binaryOp .Mult) (fun x y H Q => ∃ l xs n, x = V.ref l ∧ y = V.int n ∧ LsT X.K H l xs ∧ 0 ≤ n ∧ n ≤ 16777216 ∧ xs.length * n.toNat ≤ 16777216 ∧ ∀ p, H p = none → Q (.ref p) (upd H p (.lst (List.replicate n.toNat xs).flatten))) := by
  intro pins s σ H x y v u Q I rx ry h
  obtain ⟨l, xs, n, rfl, rfl, hs, h0, h1, hz, q⟩ := h
  obtain rfl : v = Value.ref l := rx
  obtain ⟨k, rfl⟩ := ry
  obtain ⟨its, m, rv, ho⟩ := hs.at I
  have hsl := sizeLine_eq
  have hl : its.length = xs.length := rv.length.symm
  have hz' : its.toArray.size * n.toNat ≤ 16777216 := by rw [List.size_toArray, hl]; exact hz
  refine wpAny_binaryOp_repeat_ref (T := "list") (U := "int") (by decide) ⟨_, ho, rfl⟩ (fun s' => typeIs_int s' n k) noFill_list_mul F.fills_int_mul F.slot_int_rmul repeat_list F.slot_int_index.lookup
    (call_meets F.slot_int_rmul (typeIs_int s n k) F.entry_int_rmul (F.args_int_rmul_2 _ _) (int___rmul___int_list n k l its.toArray m)
      ⟨ho, rfl, ⟨_, ho, rfl⟩, call_meets F.slot_list_mul ⟨_, ho, rfl⟩ F.entry_list_mul (F.args_list_mul_2 _ _)
        (AutoListH.list___mul___list_int_3 l its.toArray m n k (by simp [Builtin.List.listFitsIndex]; omega) (by omega) (by simp only [Builtin.List.listTooLong, decide_eq_true_eq]; omega))
        ⟨ho, ?_⟩⟩)
  rw [listMul_foldl_if]
  refine ⟨V.ref s.heap.objs.size, upd H s.heap.objs.size (.lst (List.replicate n.toNat xs).flatten), I.lnew (t' := s.toks) (vals_rep rv n.toNat) ?_, rfl, q _ I.fresh⟩
  rw [List.length_flatten, List.map_replicate, List.sum_replicate_nat, Nat.mul_comm, sizeLine_eq]
  exact hz
theorem tuple_mul1 (l : Addr) (items : Array Value) (n : Nat) (dd : Option Addr) (sl : Array (Option Value)) (u : Tok) :
    Meets (Builtin.«tuple.__mul__» ⟨[.ref l, .int 1 u], []⟩) (fun _ R s => s.heap.get? l = some { cls := .type "tuple", dict := dd, data := .seq items n, slots := sl } ∧ R (.ok (.ret (Value.ref l))) s) :=
  .of_wp fun prog w A R s h => by
    obtain ⟨hp, g, d, tk, os⟩ := s
    obtain ⟨hl, h⟩ := h
    have f1 := AutoSeq1.idx_int
    have c0 : (decide ((1 : Int) < -(2 ^ 63)) || decide ((1 : Int) ≥ 2 ^ 63)) = false := by decide
    have c1 : (items.isEmpty || (1 : Int) == 1) = true := by simp
    wp_walk using wpAny_loadPart' hl
    repeat (first
      | (refine wpAny_ite_false (decide_eq_false (by rw [c0]; exact Bool.false_ne_true)) ?_; wp_walk using wpAny_loadPart' hl)
      | (refine wpAny_ite_true (decide_eq_true c1) ?_; wp_walk using wpAny_loadPart' hl))
    exact ⟨_, rfl, h⟩
def rRepA (K : PySem.W.Frag) : R2 := fun x y H Q => ∃ l k xs, x = .ref l ∧ y = .int k ∧ SqT K H l xs ∧ ((k = 1 ∧ Q (.ref l) H) ∨ (xs ≠ [] ∧ 2 ≤ k ∧ k ≤ 1000 ∧ xs.length ≤ 1000 ∧ NewT H (List.replicate k.toNat xs).flatten Q))
theorem op_repA : OpR X (binaryOp .Mult) (rRepA X.K) := by
  intro pins s σ H x y v u Q I rx ry h
  obtain ⟨l, k, xs, rfl, rfl, hT, h⟩ := h
  cases rx
  obtain ⟨t, rfl⟩ := ry
  obtain ⟨its, r, ⟨⟨cls, dd, data, sl⟩, ho, hc, n, hd⟩, hs⟩ := I.tuple hT
  simp only at hc hd
  subst hc hd
  rcases h with ⟨rfl, q⟩ | ⟨hne, h1, h2, hz, q⟩
  · exact wpAny_binaryOp_repeat_ref (T := "tuple") (U := "int") (by decide) ⟨_, ho, rfl⟩ (fun s' => typeIs_int s' 1 t) noFill_tuple_mul F.fills_int_mul F.slot_int_rmul repeat_tuple F.slot_int_index.lookup
      (call_meets F.slot_int_rmul (typeIs_int s 1 t) F.entry_int_rmul (F.args_int_rmul_2 _ _) (int_rmul_tuple 1 t l its.toArray n dd sl)
        ⟨ho, rfl, ⟨_, ho, rfl⟩, call_meets F.slot_tuple_mul ⟨_, ho, rfl⟩ F.entry_tuple_mul (F.args_tuple_mul_2 _ _) (tuple_mul1 l its.toArray n dd sl t) ⟨ho, ⟨.ref l, H, I, rfl, q⟩⟩⟩)
  have hle : its.length = xs.length := r.length.symm
  have hn : its ≠ [] := fun e => hne (by
    rw [e] at hle
    exact List.eq_nil_of_length_eq_zero hle.symm)
  have hi : its.toArray.isEmpty = false := by
    cases its with
    | nil => exact absurd rfl hn
    | cons a b => rfl
  have hsz0 : its.toArray.size = xs.length := by rw [List.size_toArray, hle]
  have hm : ((its.toArray.size : Nat) : Int) * k ≤ 1000000 := by
    rw [hsz0]
    have a1 : ((xs.length : Nat) : Int) * k ≤ 1000 * k := Int.mul_le_mul_of_nonneg_right (by omega) (by omega)
    omega
  have flen : (List.replicate k.toNat its).flatten.length ≤ sizeLine := by
    rw [PyProof.Rows.lm_len_rep_flat, hle, sizeLine_eq]
    have a1 : k.toNat * xs.length ≤ 1000 * 1000 := Nat.mul_le_mul (by omega) hz
    omega
  have c0 : (decide (k < -(2 ^ 63)) || decide (k ≥ 2 ^ 63)) = false := by
    rw [decide_eq_false (by omega), decide_eq_false (by omega)] <;> rfl
  have c1 : (its.toArray.isEmpty || k == 1) = false := by
    rw [hi, Bool.false_or]
    exact beq_eq_false_iff_ne.mpr (by omega)
  have c2 : (decide (k ≤ 0) || its.toArray.isEmpty) = false := by
    rw [hi, Bool.or_false]
    exact decide_eq_false (by omega)
  have c4 : Builtin.Tuple.tupleTooMany (((its.toArray.size : Nat) : Int) * k) = false := by
    unfold Builtin.Tuple.tupleTooMany
    rw [sizeLine_eq]
    exact decide_eq_false (by omega)
  refine wpAny_binaryOp_repeat_ref (T := "tuple") (U := "int") (by decide) ⟨_, ho, rfl⟩ (fun s' => typeIs_int s' k t) noFill_tuple_mul F.fills_int_mul F.slot_int_rmul repeat_tuple F.slot_int_index.lookup
    (call_meets F.slot_int_rmul (typeIs_int s k t) F.entry_int_rmul (F.args_int_rmul_2 _ _) (int_rmul_tuple k t l its.toArray n dd sl)
      ⟨ho, rfl, ⟨_, ho, rfl⟩, call_meets F.slot_tuple_mul ⟨_, ho, rfl⟩ F.entry_tuple_mul (F.args_tuple_mul_2 _ _) (tuple_mulW l its.toArray n dd sl k t c0 c1 c2 (by omega) c4 (by rw [size_rep, List.size_toArray]; exact flen)) ⟨ho, ?_⟩⟩)
  rw [size_rep]
  refine laidT I (vals_rep r k.toNat) ?_ q
  rw [PyProof.Rows.lm_len_rep_flat, sizeLine_eq]
  have a1 : k.toNat * xs.length ≤ 1000 * 1000 := Nat.mul_le_mul (by omega) hz
  omega
def mulAD : G2 := fun x y Q => match x, y with
  | .int i, .int j => CMul i j ∧ Q (.int (i * j))
  | .lst a, .int n => (0 ≤ n ∧ n ≤ 16777216 ∧ a.length * n.toNat ≤ 16777216) ∧ Q (.lst (List.replicate n.toNat a).flatten)
  | .tup a, .int n => (a ≠ [] ∧ 1 ≤ n ∧ n ≤ 1000 ∧ a.length ≤ 1000) ∧ Q (.tup (List.replicate n.toNat a).flatten)
  | _, _ => False
theorem Reps.repl {w : Wd} {ds : List D} {vs : List V} (r : Reps G w ds vs) : ∀ n : Nat, Reps G w (List.replicate n ds).flatten (List.replicate n vs).flatten
  | 0 => Reps.nil
  | n + 1 => by
    rw [List.replicate_succ, List.replicate_succ, List.flatten_cons, List.flatten_cons]
    exact r.append (Reps.repl r n)
theorem opl_mulA (hK : X.K = G.K := by rfl) : OpL G X (binaryOp .Mult) mulAD := by
  refine ⟨_, op_mul.or (op_mulL.or op_repA), fun H0 w H x y v u Q QD ok sx sy g k => ?_⟩
  cases x with
  | int i => cases y with
    | int j => exact .inl ⟨i, j, sx.int_of, sy.int_of, g.1, k _ _ w H (.refl w H) ok Rep.int g.2⟩
    | _ => exact g.elim
  | lst a => cases y with
    | int n =>
      obtain ⟨p, vs, rfl, s1, r1⟩ := sx.lst_of ok
      refine .inr (.inl ⟨p, vs, n, rfl, sy.int_of, hK ▸ s1, g.1.1, g.1.2.1, by rw [← r1.length]; exact g.1.2.2, fun p hp => ?_⟩)
      obtain ⟨w2, l2, ok2, rp⟩ := newLst (p := p) ok hp (r1.repl n.toNat)
      exact k _ _ w2 _ l2 ok2 rp g.2
    | _ => exact g.elim
  | tup a => cases y with
    | int n =>
      obtain ⟨p, vs, rfl, s1, r1⟩ := sx.tup_of ok
      refine .inr (.inr ⟨p, n, vs, rfl, sy.int_of, hK ▸ s1, ?_⟩)
      by_cases h1 : n = 1
      · subst h1
        refine .inl ⟨rfl, k _ _ w H (.refl w H) ok sx.tup_rep ?_⟩
        have := g.2
        simpa using this
      · refine .inr ⟨fun e => ?_, by have := g.1.2.1; omega, g.1.2.2.1, by rw [← r1.length]; exact g.1.2.2.2, fun p o hp hd => ?_⟩
        · subst e
          exact g.1.1 (List.length_eq_zero_iff.mp r1.length)
        · obtain ⟨w2, l2, ok2, rp⟩ := newTup (p := p) ok hp hd (r1.repl n.toNat)
          exact k _ _ w2 _ l2 ok2 rp g.2
    | _ => exact g.elim
  | _ => exact g.elim
end DL
/-! isinstance of an own class: what the text's top must have written. -/
namespace DL
open PySem L2 PyProof.Rows
end DL
/-! xs[::-1] of a tuple or a list. -/
namespace HTR
open PySem PySem.Spec PyProof.Rows L2 HT
section
variable {prog : Program} {w : World} {A : Around} {E : Value → Shared → Prop} {s : Shared}
end
end HTR
namespace DL
open PySem L2 PyProof.Rows
variable {G : Gm} {X : Cx} {E : XK}
end DL
/-! Own dicts: {}, {k: v}, d[k] = v; x = xs.pop(). -/
namespace DL
open PySem L2 PyProof.Rows
def putA {α : Type} (ks : List Key) (ds : List α) (k : Key) (d : α) : List α := if (ks.any fun x => decide (x = k)) = true then (ks.zip ds).map fun p => if p.1 = k then d else p.2 else ds ++ [d]
section
variable {G : Gm}
theorem Reps.zipMap {w : Wd} {k : Key} {d : D} {v : V} (r : Rep G w d v) : ∀ {ks : List Key} {ds : List D} {vs : List V}, Reps G w ds vs → Reps G w ((ks.zip ds).map fun p => if p.1 = k then d else p.2) ((ks.zip vs).map fun p => if p.1 = k then v else p.2)
  | [], ds, vs, h => Reps.nil
  | x :: ks, [], vs, h => by rw [h.of_nil]; exact Reps.nil
  | x :: ks, e :: ds, vs, h => by
    obtain ⟨u, t, rfl, h1, h2⟩ := h.of_cons
    simp only [List.zip_cons_cons, List.map_cons]
    refine Reps.cons ?_ (Reps.zipMap r h2)
    split
    · exact r
    · exact h1
theorem Reps.put {w : Wd} {k : Key} {d : D} {v : V} (r : Rep G w d v) {ks : List Key} {ds : List D} {vs : List V} (h : Reps G w ds vs) : Reps G w (putA ks ds k d) (putA ks vs k v) := by
  unfold putA
  split
  · exact Reps.zipMap r h
  · exact h.append (Reps.cons r Reps.nil)
end
section
variable {X : Cx} {G : Gm} {E : XK} {pos : Pos} {e : Expr}
end
section
variable {X : Cx} {G : Gm} {E : XK} {pos : Pos} {e : Expr}
theorem SlotOk.ownd {H0 : Hp} {w : Wd} {H : Hp} {ks : List Key} {ds : List D} {a : Addr} {vs : List V} (m : Mine H0 w a) (h : H a = some (.dK (ks.zip vs))) (hl : ks.length = vs.length) (r : Reps G w ds vs) : SlotOk G H0 w H (.ownd ks ds) (some (some (.ref a))) := ⟨a, vs, rfl, m, h, hl, r⟩
end
end DL
/-! xs.insert(i, e) of an own list. -/
namespace DL
open PySem L2 PyProof.Rows
section
variable {X : Cx} {G : Gm} {E : XK}
end
end DL
/-! in, not in of a tuple whose items are data of any depth. -/
namespace DL
open PySem L2 PyProof.Rows
section
variable {X : Cx} {G : Gm}
end
/-! ### a, b = e, {..} where a name is a cell -/
section
variable {X : Cx} {G : Gm} {E : XK} {pos : Pos} {i j : Nat} {x y : Str} {a b : Expr} {px py pt : Pos} {kt k2 pt2}
end
end DL
/-! != of own objects (their class has __eq__, no __ne__). -/
namespace OwnNe
open PySem PySem.Spec PySem.W PyProof.Rows
section
variable {prog : Program} {w : World} {A : Around} {E : Value → Shared → Prop} {s : Shared} {K : Frag} {x C L f : Addr} {h₀ : Heap} {m : Str → Option Value} {ox : Obj} {od : Option Obj} {name : Str} {b tb : Value}
end
end OwnNe
namespace DL
open PySem L2 PyProof.Rows
section
variable {X : Cx} {G : Gm} {E : XK} {k : Nat} {f C : Addr} {fd : FuncData} {ps : List Str} {sp : Sp}
end
section
variable {G : Gm} {X : Cx} {k : Nat} {f : Addr} {fd : FuncData} {ps : List Str} {sp : DSp}
end
end DL
/-! set(xs) and sorted(set(xs)), xs a list of texts. -/
namespace SetStr
open PySem PySem.Spec PyProof.Rows L2
open PySem.W (Frag)
def kS (e : Int × Value) : Str := match e.2 with
  | .str k _ => k
  | _ => Str.empty
def GS (P : Program) (w : World) (e : Int × Value) : Prop := ∃ k tk, e.2 = Value.str k tk ∧ e.1 = (strKind P w).hash k
/-- a set whose members are the texts of L, laid out so that it can be walked -/
def SSt (P : Program) (w : World) (h : Heap) (a : Addr) (L : List Str) (n : Nat) : Prop :=
  ∃ o es ep t, h.get? a = some o ∧ o.ExactSet ∧ o.data = .set es ep t ∧ (∀ e ∈ es.toList, GS P w e) ∧ (es.toList.map kS).Nodup ∧ (∀ k, k ∈ L ↔ k ∈ es.toList.map kS) ∧
    es.size < scanBound ∧ t.fits es.size = true ∧ es.size = n ∧ Ris t.place.toList ∧ (w.params.followText "set-order" = true ∨ t.led = true)
section
variable {P : Program} {w : World} {A : Around} {E : Value → Shared → Prop} {s : Shared} {a : Addr} {L : List Str} {n : Nat}
theorem SSt.keep {h h' : Heap} (R : SSt P w h a L n) (k : ∀ o, h.get? a = some o → h'.get? a = some o) : SSt P w h' a L n := by
  obtain ⟨o, es, ep, t, ho, r⟩ := R
  exact ⟨o, es, ep, t, k o ho, r⟩
end
end SetStr
/-! set(xs), xs a list of texts: the call. -/
namespace SetStr
open PySem PySem.Spec PyProof.Rows L2
section
variable {P : Program} {w : World} {A : Around} {R : Result → Shared → Prop} {I : Addr} {fp wr : List Addr} {G : Array GenState → Array GenState → Prop} {n : Nat} {Pv : Nat → Value → Prop} {St : Nat → Shared → Prop}
end
section
variable {P : Program} {w : World} {A : Around} {E : Value → Shared → Prop} {s : Shared}
open SS in
end
end SetStr
/-! sorted(s), s a set of texts. -/
namespace SetStr
open PySem PySem.Spec PyProof.Rows L2
section
variable {P : Program} {w : World} {A : Around} {E : Value → Shared → Prop} {s : Shared} {a : Addr} {L : List Str} {n : Nat}
end
end SetStr
/-! sorted(set(xs)) over data: the texts of xs, each once, in their order. -/
namespace DL
open PySem PySem.Spec L2 PyProof.Rows
section
variable {X : Cx}
end
section
variable {X : Cx} {G : Gm} {E : XK} {e : Expr} {A : FE} {p p2 pos pos2 : Pos}
end
end DL
/-! An __init__ with defaults. -/
namespace DL
open PySem L2 PyProof.Rows
section
variable {G : Gm}
end
end DL
/-! dict([(text, value), ..]), a new dict as a value; the texts are told once each. -/
namespace DL
open PySem L2 PyProof.Rows
variable {G : Gm} {X : Cx} {E : XK}
end DL
/-! The attribute of an exception that is a value. -/
namespace DL
open PySem L2 PyProof.Rows
/-- e.nm, e an exception that is tracked -/
def tXat (K : PySem.W.Frag) (nm : Str) (te : TE) : TE := fun σ H Q => te σ H fun x H1 => ∃ (a : Addr) (o : HO) (C dx : Addr) (u : V), x = .ref a ∧ H1 a = some o ∧ XcAt o C (some dx) a ∧ H1 dx = some (.xd [(nm, u)]) ∧ ExF K C ∧ PySem.W.findIn K (.ref C) nm = some none ∧ Q u H1
theorem pe_xat {X : Cx} {nm : Str} {e : Expr} {te : TE} {pos : Pos} (he : PE X e te) (hab : attributeBase e nm X.env (eval e X.env) = eval e X.env) : PE X (.Attribute e nm pos) (tXat X.K nm te) := by
  refine ⟨fun pins s σ H Q I h => attr_of hab (thn (he.run pins s σ H _ I h) fun v s1 hh => ?_)⟩
  obtain ⟨x, H1, I1, rx, a, o, C, dx, u, ex, ho, hx, hdx, F, hno, q⟩ := hh
  subst ex
  cases (show v = Value.ref a from rx)
  obtain ⟨oe, ob, J, hd⟩ := exc_at I1 ho hx (.inr ⟨dx, _, rfl, hdx⟩)
  obtain ⟨oD, mA, rfl, hns, hoD, hr⟩ := hd dx _ rfl hdx
  obtain ⟨oD2, hoD2, hl⟩ := lookIn_ns hns
  rw [hoD] at hoD2
  cases hoD2
  have l1 : List.lookup nm [(nm, u)] = some u := by rw [List.lookup_cons, beq_self_eq_true]
  have r1 : RelO (some u) (mA nm) := by rw [← l1]; exact hr nm
  obtain ⟨w, hw, rw1⟩ := RelO.some_of r1
  exact HandSPX.exc_get I1.kIn J F.ga F.gt F.sb (PySem.W.findObj_own F.hd hno rfl (by rw [hl, hw])) (handed_of rw1) ⟨u, H1, I1.tok _, rw1, q⟩
section
variable {X : Cx} {G : Gm} {E : XK} {e : Expr} {A : FE} {nm : Str} {pos : Pos}
/-- e.nm over data: e is of a class of the table -/
def fXat (tbl : Nat → Bool) (A : FE) : FE := fun r Q EX => A r (fun d => match d with
  | .exc c [x] => tbl c = true ∧ Q x
  | _ => False) EX
theorem ce_xat {tbl : Nat → Bool} (ho : PE X e (tD G E A)) (hf : ∀ c, tbl c = true → G.fld c = [nm] ∧ ExF X.K (G.cls c) ∧ PySem.W.findIn X.K (.ref (G.cls c)) nm = some none) (hab : attributeBase e nm X.env (eval e X.env) = eval e X.env := by rfl) :
    PE X (.Attribute e nm pos) (tD G E (fXat tbl A)) := (pe_xat ho hab).weak fun s H Q ⟨w0, H0, r, w, QD, EX, fr, lk, f, k⟩ =>
  ⟨w0, H0, r, w, _, EX, fr, lk, f, fun d v w1 H1 l1 ok1 r1 q1 => by
    match d, q1, r1 with
    | .exc c [x], q1, r1 =>
      obtain ⟨ht, q1⟩ := q1
      obtain ⟨hfl, F, hno⟩ := hf c ht
      obtain ⟨a, o, od, vs, rfl, ho, hxa, rx, hd⟩ := r1.exc_of
      obtain ⟨v, vr, rfl, rx, rn⟩ := rx.of_cons
      rw [rn.of_nil] at hd
      rcases hd with ⟨_, z⟩ | ⟨dx, nm', u, e1, e2, e3, e4⟩
      · cases z
      · cases e1
        cases e2
        rw [hfl] at e3
        cases e3
        exact ⟨a, o, _, dx, v, rfl, ok1.sub _ _ ho, hxa, ok1.sub _ _ e4, F, hno, k x v w1 H1 l1 ok1 rx q1⟩⟩
def xXat (tbl : Nat → Bool) (a : Env → R D) (r : Env) : R D := (a r).bind fun d => match d with
  | .exc c [x] => if tbl c = true then .ok x else .no
  | _ => .no
theorem f_xat {tbl : Nat → Bool} {a : Env → R D} (ha : CF A a) : CF (fXat tbl A) (xXat tbl a) := fun r r' Q EX s h => ha r r' _ EX s ((hold_bind h).imp fun d h1 => by
  match d, h1 with
  | .exc c [x], h1 =>
    by_cases z : tbl c = true
    · have h2 : (if tbl c = true then R.ok x else R.no).hold Q EX := h1
      rw [if_pos z] at h2
      exact ⟨z, h2⟩
    · have h2 : (if tbl c = true then R.ok x else R.no).hold Q EX := h1
      rw [if_neg z] at h2
      exact h2.elim)
end
end DL
/-! Own exceptions that keep one value: made, raised. -/
namespace ExL
open PySem PySem.W PySem.Calls PyProof.Rows PySem.HandSPX
/-- an exception of the class at C, not filled -/
abbrev emptyX (C t : Addr) : Obj := { cls := .ref C, data := .fields #[.ref t, .none, .none, .none, .bool false, .none] }
theorem one_fits (v : Value) : [v].length ≤ sizeLine := by rw [sizeLine_eq]; exact (by decide : 1 ≤ 16777216)
section
open Builtin Builtin.ObjectAttr
variable {prog : Program} {w : World} {A : Around} {R : Result → Shared → Prop} {hp : Heap} {g : Array GenState} {d : Drawn} {t : Nat} {os : OsState} {K : Frag} {B : String} {bmB : List Value}
/-- self.name = v where the exception has no dict yet -/
theorem store_first {name : Str} {tk : Tok} {v : Value} {x C t0 : Addr} {cd : ClassData} (SF : StoreFacts B bmB "object.__setattr__" "object") (X : K.In hp) (hx : hp.get? x = some (emptyX C t0)) (hcd : clsIn K C = some cd) (hov : excOver K C bmB = true) (hh : cd.hasDict = true) (ha : takerIn K C name = some none)
    (hq : ∀ h' tk' dx, (∀ b o, b ≠ x → hp.get? b = some o → h'.get? b = some o) → hp.objs.size ≤ dx → dx ≠ x → h'.get? x = some { emptyX C t0 with dict := some dx } → h'.Ns1 dx (fun y => if y = name then some v else none) → R (.ok (.ret .none)) ⟨h', g, d, tk', os⟩) :
    codeAny (model prog w) A (.call (.builtin "object.__setattr__") ⟨[.ref x, .str name tk, v], []⟩) R ⟨hp, g, d, t, os⟩ := by
  have J : InstAt hp x (emptyX C t0) C none := ⟨hx, rfl, rfl, trivial⟩
  have Lc : Looks (model prog w) hp (classData C) cd := looks_clsIn X hcd
  have xn : x ≠ hp.objs.size := Nat.ne_of_lt (Heap.lt_size hx)
  refine osa_openX (s := ⟨hp, g, d, t, os⟩) SF X J hov ha fun b => ?_
  obtain ⟨nm, bs, mro, ns, qn, hd, sn, sb, ab, col, del⟩ := cd
  cases (show hd = true from hh)
  show wpAny _ _ (storeInOwnDict (.ref x) (.ref C) (.str name tk) name v b) _ _ _
  unfold storeInOwnDict ownDictForStores
  repeat (first | with_reducible refine store_in_new ?_ ?_ | with_reducible refine wpAny_loadPart_at hx ?_ | with_reducible refine Lc.at ?_ | wp_step)
  · exact ⟨_, #[], _, (Heap.get?_update_ne _ _ _ _ xn.symm).trans (Heap.get?_push_at rfl rfl), rfl, fun e he => absurd he (by simp), fun _ => rfl⟩
  · intro h' tk' hn' hs
    have x1 : (hp.push { cls := .type "dict", data := .dict #[] }).get? x = some (emptyX C t0) := Heap.get?_push_of_some _ hx
    refine hq h' tk' hp.objs.size (fun b o hb ho => (hs.2 b (Nat.ne_of_lt (Heap.lt_size ho))).trans ((Heap.get?_update_ne _ _ _ _ hb).trans (Heap.get?_push_of_some _ ho))) (Nat.le_refl _) xn.symm ((hs.2 x xn).trans (Heap.get?_update_self _ x1 rfl)) hn'
end
/-- what is made -/
structure Made1 (nm : Str) (h h' : Heap) (e C d : Addr) (v : Value) : Prop where
  keep : ∀ b o, h.get? b = some o → h'.get? b = some o
  new : h.objs.size ≤ e
  obj : ∃ oe vs, h'.get? e = some oe ∧ oe.cls = .ref C ∧ oe.dict = some d ∧ oe.data = .fields vs ∧ vs[1]? = some .none
  dbig : h.objs.size ≤ d
  dne : d ≠ e
  ns : h'.Ns1 d (fun y => if y = nm then some v else none)
/-! ### given -/
def argsG (p1 p2 : Pos) : Arguments := { posonlyargs := [], args := [{ arg := "self", annotation := none, pos := p1 }, { arg := "given", annotation := none, pos := p2 }], vararg := none, kwonlyargs := [], kw_defaults := [], kwarg := none, defaults := [] }
def bodyG (q1 q2 q3 q4 : Pos) : List Stmt := [.Assign [.Attribute (.Name "self" q1) "given" q2] (.Name "given" q3) q4]
def scopeG : Scope := { kind := .function, names := [(PySem.Str.ofString "self", .local), (PySem.Str.ofString "given", .local)], isGenerator := false, isCoroutine := false, more := [] }
/-- what the written part says of such a class x at C, over the base B, and of its __init__ at f -/
structure ClG (K : Frag) (mg : Str → Option Value) (x : Str) (C f : Addr) (bmB : List Value) (newId : String) : Prop where
  gl : mg x = some (.ref C)
  cls : ∃ nm q N bs bm sn sub ab col dd k0 k1 k2 k3 k5, K.lookup C = some (excClassObj nm q C N bs bm true sn sub ab col dd k0 k1 k2 k3 k5 newId) ∧ excTail bmB bm = true
  sa : findIn K (.ref C) "__setattr__" = some (some (.builtin "object.__setattr__"))
  tk : takerIn K C "given" = some none
  it : findIn K (.ref C) "__init__" = some (some (.ref f))
  ty : typeIn K (.ref f) = some (.type "function")
  kp : keepIn K (.ref C) = true
  sb : subIn K (.ref C) (.type "BaseException") = some true
  tc : typeIn K (.ref C) = some (.type "type")
  fn : ∃ (q : Str) (oc : Value) (od : Option Addr) (doc pm : Value) (an : Option Addr) (cdv ct : Value) (osl : Array (Option Value)) (p1 p2 q1 q2 q3 q4 : Pos), K.lookup f = some ⟨oc, od, .func (fnOf "__init__" q (argsG p1 p2) (bodyG q1 q2 q3 q4) scopeG .none .none doc pm an cdv ct), osl⟩ ∧ codeIn K cdv q = true
section
variable {prog : Program} {w : World} {A : Around} {R : Result → Shared → Prop} {s : Shared} {K : Frag} {mg : Str → Option Value} {x : Str} {C f : Addr} {B newId initId : String} {bmB : List Value}
theorem runs_initG (SF : StoreFacts B bmB "object.__setattr__" "object") (T : ClG K mg x C f bmB newId) {e t0 : Addr} {v : Value} (X : K.In s.heap) (lim : s.heap.NoLimit) (he : s.heap.get? e = some (emptyX C t0)) (room : A.depth < recursionLimit)
    (hq : ∀ h' tk dx, (∀ b o, b ≠ e → s.heap.get? b = some o → h'.get? b = some o) → h'.get? e = some { emptyX C t0 with dict := some dx } → s.heap.objs.size ≤ dx → dx ≠ e → h'.Ns1 dx (fun y => if y = "given" then some v else none) → R (.ok (.ret .none)) { s with heap := h', toks := tk }) :
    codeAny (model prog w) A (.call (.ref f) ⟨[.ref e, v], []⟩) R s := by
  obtain ⟨qq, oc, od, doc, pm, an, cdv, ct, osl, p1, p2, q1, q2, q3, q4, ho, hcd⟩ := T.fn
  obtain ⟨nm, q, N, bs, bm, sn, sub, ab, col, dd, k0, k1, k2, k3, k5, hC, hbm⟩ := T.cls
  have hcl : clsIn K C = some { name := nm, bases := bs, mro := .ref C :: bm, ns := N, qualname := q, hasDict := true, slotNames := sn, subclasses := sub, abstract := ab, collection := col, hasDel := false } := by unfold clsIn; rw [hC] <;> rfl
  have hov : excOver K C bmB = true := by
    unfold excOver
    rw [hcl]
    show (C == C && excTail bmB bm) = true
    rw [hbm, beq_self_eq_true]; rfl
  refine Att.call_fn (binds := [("self", .ref e), ("given", v)]) X lim ho hcd room (BindsTo.of_eq (by first | rfl | with_unfolding_all rfl)) (by first | rfl | decide | with_unfolding_all rfl) (fun s1 IC => ?_) rfl rfl rfl
  obtain ⟨h1, t1, rfl⟩ := IC.toInCall.same
  have kp : ∀ b o, s.heap.get? b = some o → h1.get? b = some o := IC.toInCall.keep
  have hn := IC.toInCall.ns
  have he1 := kp _ _ he
  have big : s.heap.objs.size < h1.objs.size := hn.lt
  have ld : ∀ {y : Str} {u : Value} {pos : Pos} {Q : Value → Shared → Prop} {A' : Around} {E : Value → Shared → Prop} {m : Str → Option Value}, h1.Ns s.heap.objs.size m → m y = some u → (envOfC qq scopeG s.heap.objs.size f cdv).kindOf y = some .local → (y == ("__debug__" : Str)) = false → Q u ⟨h1, s.gens, s.drawn, t1, s.os⟩ → wpAny (model prog w) A' (eval (.Name y pos) (envOfC qq scopeG s.heap.objs.size f cdv)) Q E ⟨h1, s.gens, s.drawn, t1, s.os⟩ := fun a1 a2 a3 a4 a5 => wpAny_Name (wpAny_loadName_local rfl a3 a1 a2 a5) a4
  show wpAny _ _ (execs _ _) _ _ _
  refine wpAny_execs_cons (plainObj_wpAny_Assign_Attribute ?_)
  refine ld (y := "given") hn (by first | rfl | with_unfolding_all rfl | kernel_rfl) (by first | rfl | with_unfolding_all rfl | kernel_rfl) (by decide) ?_
  refine ld (y := "self") (u := .ref e) hn (by first | rfl | with_unfolding_all rfl | kernel_rfl) (by first | rfl | with_unfolding_all rfl | kernel_rfl) (by decide) ?_
  refine set_plain (X.keeps kp) (ox := emptyX C t0) (od := none) ⟨he1, rfl, rfl, trivial⟩ T.sa ?_
  refine store_first SF (X.keeps kp) he1 hcl hov rfl T.tk fun h3 tk3 dx k3 dn dne hx3 hn3 => ?_
  show wpAny _ _ (execs _ _) _ _ _
  exact wpAny_execs_nil (hq h3 tk3 dx (fun b o hb z => k3 b o hb (kp b o z)) hx3 (Nat.le_of_lt (Nat.lt_of_lt_of_le big dn)) dne hn3)
theorem makesG (SF : StoreFacts B bmB "object.__setattr__" "object") (FB : ExcBaseFacts B newId initId bmB) (T : ClG K mg x C f bmB newId) {v : Value} (X : K.In s.heap) (lim : s.heap.NoLimit) (room : A.depth + 1 < recursionLimit)
    (hq : ∀ h' tk e d, Made1 "given" s.heap h' e C d v → R (.ok (.ret (.ref e))) { s with heap := h', toks := tk }) : codeAny (model prog w) A (.call (.ref C) ⟨[v], []⟩) R s := by
  obtain ⟨nm, q, N, bs, bm, sn, sub, ab, col, dd, k0, k1, k2, k3, k5, hC, hbm⟩ := T.cls
  obtain ⟨hp, g, dr, tk, os⟩ := s
  have kp : ∀ b o, hp.get? b = some o → ((hp.push (kdv_tup [v])).push (emptyX C hp.objs.size)).get? b = some o := fun b o z => Heap.get?_push_of_some _ (Heap.get?_push_of_some _ z)
  have at_ : ((hp.push (kdv_tup [v])).push (emptyX C hp.objs.size)).get? (hp.objs.size + 1) = some (emptyX C hp.objs.size) := by heap_get
  refine call_own FB (fun Y => excTail_contains Y bm hbm) (X _ _ hC) (looks_findIn X T.it) (fun self => bind_fn X self T.ty) (one_fits v) ?_
  refine runs_initG (s := ⟨(hp.push (kdv_tup [v])).push (emptyX C hp.objs.size), g, dr, tk, os⟩) SF T (X.keeps kp) (lim.keeps kp) at_ room fun h' tk' dx k' hx dn dne hns => ?_
  have old : ∀ b o, hp.get? b = some o → h'.get? b = some o := fun b o z => k' b o (Nat.ne_of_lt (Nat.lt_succ_of_lt (Heap.lt_size z))) (kp b o z)
  have big : hp.objs.size + 1 + 1 ≤ dx := by
    have z := dn
    first
      | exact z
      | (rw [Heap.size_push, Heap.size_push] at z; exact z)
  exact ⟨rfl, hq h' tk' (hp.objs.size + 1) dx ⟨old, Nat.le_succ _, ⟨_, _, hx, rfl, rfl, rfl, rfl⟩, by show hp.objs.size ≤ dx; omega, dne, hns⟩⟩
end
/-! ### index -/
def argsI (p1 p2 : Pos) : Arguments := { posonlyargs := [], args := [{ arg := "self", annotation := none, pos := p1 }, { arg := "index", annotation := none, pos := p2 }], vararg := none, kwonlyargs := [], kw_defaults := [], kwarg := none, defaults := [] }
def bodyI (q1 q2 q3 q4 : Pos) : List Stmt := [.Assign [.Attribute (.Name "self" q1) "index" q2] (.Name "index" q3) q4]
def scopeI : Scope := { kind := .function, names := [(PySem.Str.ofString "self", .local), (PySem.Str.ofString "index", .local)], isGenerator := false, isCoroutine := false, more := [] }
/-- what the written part says of such a class x at C, over the base B, and of its __init__ at f -/
structure ClI (K : Frag) (mg : Str → Option Value) (x : Str) (C f : Addr) (bmB : List Value) (newId : String) : Prop where
  gl : mg x = some (.ref C)
  cls : ∃ nm q N bs bm sn sub ab col dd k0 k1 k2 k3 k5, K.lookup C = some (excClassObj nm q C N bs bm true sn sub ab col dd k0 k1 k2 k3 k5 newId) ∧ excTail bmB bm = true
  sa : findIn K (.ref C) "__setattr__" = some (some (.builtin "object.__setattr__"))
  tk : takerIn K C "index" = some none
  it : findIn K (.ref C) "__init__" = some (some (.ref f))
  ty : typeIn K (.ref f) = some (.type "function")
  kp : keepIn K (.ref C) = true
  sb : subIn K (.ref C) (.type "BaseException") = some true
  tc : typeIn K (.ref C) = some (.type "type")
  fn : ∃ (q : Str) (oc : Value) (od : Option Addr) (doc pm : Value) (an : Option Addr) (cdv ct : Value) (osl : Array (Option Value)) (p1 p2 q1 q2 q3 q4 : Pos), K.lookup f = some ⟨oc, od, .func (fnOf "__init__" q (argsI p1 p2) (bodyI q1 q2 q3 q4) scopeI .none .none doc pm an cdv ct), osl⟩ ∧ codeIn K cdv q = true
section
variable {prog : Program} {w : World} {A : Around} {R : Result → Shared → Prop} {s : Shared} {K : Frag} {mg : Str → Option Value} {x : Str} {C f : Addr} {B newId initId : String} {bmB : List Value}
theorem runs_initI (SF : StoreFacts B bmB "object.__setattr__" "object") (T : ClI K mg x C f bmB newId) {e t0 : Addr} {v : Value} (X : K.In s.heap) (lim : s.heap.NoLimit) (he : s.heap.get? e = some (emptyX C t0)) (room : A.depth < recursionLimit)
    (hq : ∀ h' tk dx, (∀ b o, b ≠ e → s.heap.get? b = some o → h'.get? b = some o) → h'.get? e = some { emptyX C t0 with dict := some dx } → s.heap.objs.size ≤ dx → dx ≠ e → h'.Ns1 dx (fun y => if y = "index" then some v else none) → R (.ok (.ret .none)) { s with heap := h', toks := tk }) :
    codeAny (model prog w) A (.call (.ref f) ⟨[.ref e, v], []⟩) R s := by
  obtain ⟨qq, oc, od, doc, pm, an, cdv, ct, osl, p1, p2, q1, q2, q3, q4, ho, hcd⟩ := T.fn
  obtain ⟨nm, q, N, bs, bm, sn, sub, ab, col, dd, k0, k1, k2, k3, k5, hC, hbm⟩ := T.cls
  have hcl : clsIn K C = some { name := nm, bases := bs, mro := .ref C :: bm, ns := N, qualname := q, hasDict := true, slotNames := sn, subclasses := sub, abstract := ab, collection := col, hasDel := false } := by unfold clsIn; rw [hC] <;> rfl
  have hov : excOver K C bmB = true := by
    unfold excOver
    rw [hcl]
    show (C == C && excTail bmB bm) = true
    rw [hbm, beq_self_eq_true]; rfl
  refine Att.call_fn (binds := [("self", .ref e), ("index", v)]) X lim ho hcd room (BindsTo.of_eq (by first | rfl | with_unfolding_all rfl)) (by first | rfl | decide | with_unfolding_all rfl) (fun s1 IC => ?_) rfl rfl rfl
  obtain ⟨h1, t1, rfl⟩ := IC.toInCall.same
  have kp : ∀ b o, s.heap.get? b = some o → h1.get? b = some o := IC.toInCall.keep
  have hn := IC.toInCall.ns
  have he1 := kp _ _ he
  have big : s.heap.objs.size < h1.objs.size := hn.lt
  have ld : ∀ {y : Str} {u : Value} {pos : Pos} {Q : Value → Shared → Prop} {A' : Around} {E : Value → Shared → Prop} {m : Str → Option Value}, h1.Ns s.heap.objs.size m → m y = some u → (envOfC qq scopeI s.heap.objs.size f cdv).kindOf y = some .local → (y == ("__debug__" : Str)) = false → Q u ⟨h1, s.gens, s.drawn, t1, s.os⟩ → wpAny (model prog w) A' (eval (.Name y pos) (envOfC qq scopeI s.heap.objs.size f cdv)) Q E ⟨h1, s.gens, s.drawn, t1, s.os⟩ := fun a1 a2 a3 a4 a5 => wpAny_Name (wpAny_loadName_local rfl a3 a1 a2 a5) a4
  show wpAny _ _ (execs _ _) _ _ _
  refine wpAny_execs_cons (plainObj_wpAny_Assign_Attribute ?_)
  refine ld (y := "index") hn (by first | rfl | with_unfolding_all rfl | kernel_rfl) (by first | rfl | with_unfolding_all rfl | kernel_rfl) (by decide) ?_
  refine ld (y := "self") (u := .ref e) hn (by first | rfl | with_unfolding_all rfl | kernel_rfl) (by first | rfl | with_unfolding_all rfl | kernel_rfl) (by decide) ?_
  refine set_plain (X.keeps kp) (ox := emptyX C t0) (od := none) ⟨he1, rfl, rfl, trivial⟩ T.sa ?_
  refine store_first SF (X.keeps kp) he1 hcl hov rfl T.tk fun h3 tk3 dx k3 dn dne hx3 hn3 => ?_
  show wpAny _ _ (execs _ _) _ _ _
  exact wpAny_execs_nil (hq h3 tk3 dx (fun b o hb z => k3 b o hb (kp b o z)) hx3 (Nat.le_of_lt (Nat.lt_of_lt_of_le big dn)) dne hn3)
theorem makesI (SF : StoreFacts B bmB "object.__setattr__" "object") (FB : ExcBaseFacts B newId initId bmB) (T : ClI K mg x C f bmB newId) {v : Value} (X : K.In s.heap) (lim : s.heap.NoLimit) (room : A.depth + 1 < recursionLimit)
    (hq : ∀ h' tk e d, Made1 "index" s.heap h' e C d v → R (.ok (.ret (.ref e))) { s with heap := h', toks := tk }) : codeAny (model prog w) A (.call (.ref C) ⟨[v], []⟩) R s := by
  obtain ⟨nm, q, N, bs, bm, sn, sub, ab, col, dd, k0, k1, k2, k3, k5, hC, hbm⟩ := T.cls
  obtain ⟨hp, g, dr, tk, os⟩ := s
  have kp : ∀ b o, hp.get? b = some o → ((hp.push (kdv_tup [v])).push (emptyX C hp.objs.size)).get? b = some o := fun b o z => Heap.get?_push_of_some _ (Heap.get?_push_of_some _ z)
  have at_ : ((hp.push (kdv_tup [v])).push (emptyX C hp.objs.size)).get? (hp.objs.size + 1) = some (emptyX C hp.objs.size) := by heap_get
  refine call_own FB (fun Y => excTail_contains Y bm hbm) (X _ _ hC) (looks_findIn X T.it) (fun self => bind_fn X self T.ty) (one_fits v) ?_
  refine runs_initI (s := ⟨(hp.push (kdv_tup [v])).push (emptyX C hp.objs.size), g, dr, tk, os⟩) SF T (X.keeps kp) (lim.keeps kp) at_ room fun h' tk' dx k' hx dn dne hns => ?_
  have old : ∀ b o, hp.get? b = some o → h'.get? b = some o := fun b o z => k' b o (Nat.ne_of_lt (Nat.lt_succ_of_lt (Heap.lt_size z))) (kp b o z)
  have big : hp.objs.size + 1 + 1 ≤ dx := by
    have z := dn
    first
      | exact z
      | (rw [Heap.size_push, Heap.size_push] at z; exact z)
  exact ⟨rfl, hq h' tk' (hp.objs.size + 1) dx ⟨old, Nat.le_succ _, ⟨_, _, hx, rfl, rfl, rfl, rfl⟩, by show hp.objs.size ≤ dx; omega, dne, hns⟩⟩
end
end ExL
namespace ExL
open PySem PySem.Spec PyProof.Rows L2
theorem rel_one {nm : Str} {v : V} {u : Value} (r : RelV v u) (f : Str) : RelO (List.lookup f [(nm, v)]) (if f = nm then some u else none) := by
  by_cases e : f = nm
  · rw [if_pos e, e, show List.lookup nm [(nm, v)] = some v by rw [List.lookup_cons, beq_self_eq_true]]
    exact r
  · have q : (f == nm) = false := by simpa using e
    rw [if_neg e, show List.lookup f [(nm, v)] = none by rw [List.lookup_cons, q]; rfl]
    trivial
/-- X(e), to be raised: its own dict d is new -/
def tMk1 (C : Addr) (nm : Str) (ta : TA) : L2.St → Hp → XK → Prop := fun σ H Q => ta σ H fun vs H1 => ∃ v, vs = [v] ∧ ∀ d, H1 d = none → Q (.ref C) (some d) (upd H1 d (.xd [(nm, v)]))
section
variable {X : Cx} {C f : Addr} {x : Str} {B newId initId : String} {bmB : List Value}
theorem pmkG {a : Expr} {ta : TA} {p pos : Pos} {k : Nat} (SF : StoreFacts B bmB "object.__setattr__" "object") (FB : ExcBaseFacts B newId initId bmB) (T : ClG X.K X.mg x C f bmB newId) (hr : Room k X.A) (ha : PA X [a] ta) (hg : Gl X x := by rfl) (hdb : (x == ("__debug__" : Str)) = false := by decide)
    (he : starEach (a :: []) X.env = (false, eval a X.env) :: starEach [] X.env := by rfl) (hpl : (backTo pos (starEach [] X.env)).any (·.1) = false := by rfl) : PMk X (.Call (.Name x p) [a] [] pos) (tMk1 C "given" ta) := by
  intro pins s σ H Q I h
  refine wpAny_Call_Name_kw (ld_glob I hg T.gl ?_ hdb)
  refine PySem.W.callWith_K (h₀ := X.base) I.ok.mod.kin T.kp (thn (ha.run pos pins s σ H _ I h) fun us s1 hh => ?_) he hpl
  obtain ⟨vs, H1, I1, r1, v, rfl, q1⟩ := hh
  refine ⟨I1.kIn, ?_⟩
  obtain ⟨u, rfl, ru⟩ := vals1 r1
  show wpAny _ _ (call (.ref C) [u]) _ _ _
  have lim := I1.nolimit
  obtain ⟨hp, g, dr, tk, os⟩ := s1
  refine wpAny_call (makesG SF FB T I1.kIn lim (by have := hr.dp; omega) fun h' tk' e d M => ?_)
  show MkP X pins σ Q (.ref e) ⟨h', g, dr, tk', os⟩
  obtain ⟨oe, fv, hoe, hc, hd, hdat, h1⟩ := M.obj
  obtain ⟨G', g1, g2⟩ := restrict h' fun b => decide (b ≠ e)
  have gk : ∀ b, b ≠ e → G'.get? b = h'.get? b := fun b hb => g1 b (decide_eq_true hb)
  have ge : G'.get? e = none := g2 e (by simp)
  have old : ∀ b o, hp.get? b = some o → G'.get? b = some o := fun b o z => (gk b (Nat.ne_of_lt (Nat.lt_of_lt_of_le (Heap.lt_size z) M.new))).trans (M.keep b o z)
  have ob : ObjOk X.prog X.w (upd H1 d (.xd [(("given" : Str), v)])) G' d (.xd [(("given" : Str), v)]) := ⟨_, M.ns.at (fun o z => (gk d M.dne).trans z), fun y => rel_one ru y⟩
  have J : Inv X pins σ (upd H1 d (.xd [(("given" : Str), v)])) ⟨G', g, dr, tk', os⟩ := I1.laid (t' := tk') old M.dbig ob
  refine ⟨e, oe, fv, ⟨G', g, dr, tk', os⟩, _, .ref C, some d, rfl, J, fun b o z => ?_, ge, hoe, ⟨hc, hd⟩, hdat, h1, ?_, rfl, I1.bare, raises_own T.sb T.tc, q1 d (I1.hok.fresh M.dbig)⟩
  · by_cases hb : b = e
    · have z' : G'.get? b = some o := z
      rw [hb, ge] at z'; cases z'
    · exact (gk b hb).symm.trans z
  · rw [upd_ne (Ne.symm M.dne)]
    exact I1.hok.fresh M.new
end
section
variable {X : Cx} {C f : Addr} {x : Str} {B newId initId : String} {bmB : List Value}
theorem pmkI {a : Expr} {ta : TA} {p pos : Pos} {k : Nat} (SF : StoreFacts B bmB "object.__setattr__" "object") (FB : ExcBaseFacts B newId initId bmB) (T : ClI X.K X.mg x C f bmB newId) (hr : Room k X.A) (ha : PA X [a] ta) (hg : Gl X x := by rfl) (hdb : (x == ("__debug__" : Str)) = false := by decide)
    (he : starEach (a :: []) X.env = (false, eval a X.env) :: starEach [] X.env := by rfl) (hpl : (backTo pos (starEach [] X.env)).any (·.1) = false := by rfl) : PMk X (.Call (.Name x p) [a] [] pos) (tMk1 C "index" ta) := by
  intro pins s σ H Q I h
  refine wpAny_Call_Name_kw (ld_glob I hg T.gl ?_ hdb)
  refine PySem.W.callWith_K (h₀ := X.base) I.ok.mod.kin T.kp (thn (ha.run pos pins s σ H _ I h) fun us s1 hh => ?_) he hpl
  obtain ⟨vs, H1, I1, r1, v, rfl, q1⟩ := hh
  refine ⟨I1.kIn, ?_⟩
  obtain ⟨u, rfl, ru⟩ := vals1 r1
  show wpAny _ _ (call (.ref C) [u]) _ _ _
  have lim := I1.nolimit
  obtain ⟨hp, g, dr, tk, os⟩ := s1
  refine wpAny_call (makesI SF FB T I1.kIn lim (by have := hr.dp; omega) fun h' tk' e d M => ?_)
  show MkP X pins σ Q (.ref e) ⟨h', g, dr, tk', os⟩
  obtain ⟨oe, fv, hoe, hc, hd, hdat, h1⟩ := M.obj
  obtain ⟨G', g1, g2⟩ := restrict h' fun b => decide (b ≠ e)
  have gk : ∀ b, b ≠ e → G'.get? b = h'.get? b := fun b hb => g1 b (decide_eq_true hb)
  have ge : G'.get? e = none := g2 e (by simp)
  have old : ∀ b o, hp.get? b = some o → G'.get? b = some o := fun b o z => (gk b (Nat.ne_of_lt (Nat.lt_of_lt_of_le (Heap.lt_size z) M.new))).trans (M.keep b o z)
  have ob : ObjOk X.prog X.w (upd H1 d (.xd [(("index" : Str), v)])) G' d (.xd [(("index" : Str), v)]) := ⟨_, M.ns.at (fun o z => (gk d M.dne).trans z), fun y => rel_one ru y⟩
  have J : Inv X pins σ (upd H1 d (.xd [(("index" : Str), v)])) ⟨G', g, dr, tk', os⟩ := I1.laid (t' := tk') old M.dbig ob
  refine ⟨e, oe, fv, ⟨G', g, dr, tk', os⟩, _, .ref C, some d, rfl, J, fun b o z => ?_, ge, hoe, ⟨hc, hd⟩, hdat, h1, ?_, rfl, I1.bare, raises_own T.sb T.tc, q1 d (I1.hok.fresh M.dbig)⟩
  · by_cases hb : b = e
    · have z' : G'.get? b = some o := z
      rw [hb, ge] at z'; cases z'
    · exact (gk b hb).symm.trans z
  · rw [upd_ne (Ne.symm M.dne)]
    exact I1.hok.fresh M.new
end
end ExL
/-! raise over data; the state of an except suite, its exception tracked. -/
namespace DL
open PySem L2 PyProof.Rows
section
variable {X : Cx} {G : Gm} {E : XK} {e : Expr} {pos : Pos}
end
/-! ### an exception, tracked -/
def XO (cls : Value) (od : Option Addr) (a : Addr) : HO := .ext fun h => ∃ (oe : Obj) (vs : Array Value), h.get? a = some oe ∧ oe.cls = cls ∧ oe.dict = od ∧ oe.data = .fields vs
theorem XO.at {C : Addr} {od : Option Addr} {a : Addr} : XcAt (XO (.ref C) od a) C od a := fun P w H h x => x.1
theorem XO.ok {P : Program} {w : World} {H : Hp} {h : Heap} {cls : Value} {od : Option Addr} {a : Addr} {oe : Obj} {vs : Array Value} (ha : h.get? a = some oe) (hz : Zc cls od oe) (hd : oe.data = .fields vs) : ObjOk P w H h a (XO cls od a) :=
  ⟨⟨oe, vs, ha, hz.1, hz.2, hd⟩, ⟨oe, ha⟩, fun h1 h2 ⟨o, u, e, r⟩ k => ⟨o, u, k o e, r⟩⟩
section
variable {X : Cx} {pins : List (Addr × Obj)} {σ : L2.St} {H : Hp} {s : Shared}
end
end DL
/-! try .. except over data: what is caught is tracked in the suite. -/
namespace DL
open PySem L2 PyProof.Rows
/-! ### the tests of the clauses -/
/-- the test ty says ex of an exception's class -/
def TstOk (X : Cx) (ty : Expr) (ex : Value → Option Bool) : Prop := ∀ (a : Addr) (pn ps : List (Addr × Obj)) (σ : L2.St) (H : Hp) (s : Shared) (oe : Obj) (b : Bool) (R : Bool → Shared → Prop) (E1 : Value → Shared → Prop),
  Inv (X.suite a pn) ps σ H s → s.heap.get? a = some oe → ex oe.cls = some b → (∀ h1, (∀ c o, s.heap.get? c = some o → h1.get? c = some o) → R b { s with heap := h1 }) →
    wpAny (model X.prog X.w) (X.A.mark (some (.ref a))) (eval ty X.env) (fun c s1 => wpAny (model X.prog X.w) (X.A.mark (some (.ref a))) (excMatches (.ref a) c) R E1 s1) E1 s
section
variable {X : Cx} {p p1 p2 p3 : Pos} {x x1 x2 x3 : Str} {c c1 c2 c3 : Value} {kk : Nat}
end
/-! ### the clauses -/
structure Clz where
  ex : Value → Option Bool
  io : Option Nat
  ts : TS
inductive ClsOk (X : Cx) : List ExceptHandler → List Clz → Prop
  | nil : ClsOk X [] []
  | bare {ty : Expr} {ex : Value → Option Bool} {u : Stmt} {su : List Stmt} {q : Pos} {hd : List ExceptHandler} {l : List Clz} {ts : TS} (ht : TstOk X ty ex) (hu : ∀ a pn, PSs (X.suite a pn) (u :: su) ts) (r : ClsOk X hd l) :
      ClsOk X (.ExceptHandler (some ty) none (u :: su) q :: hd) (⟨ex, none, ts⟩ :: l)
  | named {ty : Expr} {ex : Value → Option Bool} {u : Stmt} {su : List Stmt} {q : Pos} {hd : List ExceptHandler} {l : List Clz} {ts : TS} {i : Nat} {n : Str} (hi : X.N[i]? = some n) (hk : X.env.kindOf n = some .local) (ht : TstOk X ty ex)
      (hu : ∀ a pn, PSs (X.suite a pn) (u :: su) ts) (r : ClsOk X hd l) : ClsOk X (.ExceptHandler (some ty) (some n) (u :: su) q :: hd) (⟨ex, some i, ts⟩ :: l)
section
variable {X : Cx} {body : List Stmt} {h₀ : ExceptHandler} {hds : List ExceptHandler} {l : List Clz} {pos : Pos} {tb : XK → TS}
end
end DL
/-! try .. except over data: clauses that return. -/
namespace DL
open PySem L2 PyProof.Rows
/-- a clause: which classes it takes, the slot of its name, its suite -/
structure Hdl where
  ex : Nat → Option Bool
  io : Option Nat
  S : FS
abbrev NoE : XK := fun _ _ _ => False
inductive HdsD (X : Cx) (G : Gm) : List ExceptHandler → List Hdl → Prop
  | nil : HdsD X G [] []
  | bare {ty : Expr} {ex : Nat → Option Bool} {ev : Value → Option Bool} {u : Stmt} {su : List Stmt} {q : Pos} {hd : List ExceptHandler} {l : List Hdl} {S : FS} (hx : ∀ c b, ex c = some b → ev (.ref (G.cls c)) = some b) (ht : TstOk X ty ev)
      (hu : ∀ a pn, PSs (X.suite a pn) (u :: su) (sD G NoE S)) (r : HdsD X G hd l) : HdsD X G (.ExceptHandler (some ty) none (u :: su) q :: hd) (⟨ex, none, S⟩ :: l)
  | named {ty : Expr} {ex : Nat → Option Bool} {ev : Value → Option Bool} {u : Stmt} {su : List Stmt} {q : Pos} {hd : List ExceptHandler} {l : List Hdl} {S : FS} {i : Nat} {n : Str} (hi : X.N[i]? = some n) (hk : X.env.kindOf n = some .local)
      (hx : ∀ c b, ex c = some b → ev (.ref (G.cls c)) = some b) (ht : TstOk X ty ev) (hu : ∀ a pn, PSs (X.suite a pn) (u :: su) (sD G NoE S)) (r : HdsD X G hd l) : HdsD X G (.ExceptHandler (some ty) (some n) (u :: su) q :: hd) (⟨ex, some i, S⟩ :: l)
inductive Zs (G : Gm) : List Hdl → List Clz → Prop
  | nil : Zs G [] []
  | cons {h : Hdl} {z : Clz} {l : List Hdl} {k : List Clz} (hx : ∀ c b, h.ex c = some b → z.ex (.ref (G.cls c)) = some b) (hi : z.io = h.io) (ht : z.ts = sD G NoE h.S) (r : Zs G l k) : Zs G (h :: l) (z :: k)
theorem HdsD.zs {X : Cx} {G : Gm} {hs : List ExceptHandler} {l : List Hdl} (h : HdsD X G hs l) : ∃ k, ClsOk X hs k ∧ Zs G l k := by
  induction h with
  | nil => exact ⟨[], .nil, .nil⟩
  | bare hx ht hu r ih =>
    obtain ⟨k, h1, h2⟩ := ih
    exact ⟨_ :: k, .bare ht hu h1, .cons hx rfl rfl h2⟩
  | named hi hk hx ht hu r ih =>
    obtain ⟨k, h1, h2⟩ := ih
    exact ⟨_ :: k, .named hi hk ht hu h1, .cons hx rfl rfl h2⟩
section
variable {G : Gm} {w0 w1 wk : Wd} {H0 H1 : Hp} {n : Nat} {A : DE} {D : Ends}
end
section
variable {X : Cx} {G : Gm} {E : XK} {body : List Stmt} {h₀ : ExceptHandler} {hds : List ExceptHandler} {l : List Hdl} {pos : Pos} {B : FS} {n : Nat}
end
structure HdY where
  ex : Nat → Option Bool
  io : Option Nat
  s : Env → RS
def RS.fin : RS → RS
  | .rt d => .rt d
  | .rn ds => .rn ds
  | _ => .no
inductive HdsY : List Hdl → List HdY → Prop
  | nil : HdsY [] []
  | cons {ex : Nat → Option Bool} {io : Option Nat} {S : FS} {s : Env → RS} {l : List Hdl} {k : List HdY} (h : CS S s) (r : HdsY l k) : HdsY (⟨ex, io, S⟩ :: l) (⟨ex, io, s⟩ :: k)
end DL
/-! Defs that may be called within an except suite. -/
namespace DL
open PySem L2 PyProof.Rows
/-- room, whatever is handled -/
structure RmW (k : Nat) (A : Around) : Prop where
  dp : A.depth + 3 * k + 5 < recursionLimit
  un : A.units + 16 * k + 200 < cLine
theorem RmW.of {k : Nat} {A : Around} (r : Room k A) : RmW k A := ⟨r.dp, r.un⟩
theorem RmW.mono {j k : Nat} {A : Around} (r : RmW k A) (h : j ≤ k) : RmW j A := ⟨by have := r.dp; omega, by have := r.un; omega⟩
theorem RmW.deeper {k : Nat} {A : Around} (r : RmW (k + 1) A) (env : PySem.Env) : RmW k (A.deeper env) :=
  ⟨by have := r.dp; show A.depth + 1 + 3 * k + 5 < recursionLimit; omega, by have := r.un; show A.units + 3 + 16 * k + 200 < cLine; omega⟩
theorem RmW.depth {k : Nat} {A : Around} (r : RmW k A) : A.depth < recursionLimit := by have := r.dp; omega
theorem RmW.mark {k : Nat} {A : Around} {v : Option Value} (r : RmW k A) : RmW k (A.mark v) := ⟨r.dp, r.un⟩
structure FnW (P : Program) (w : World) (K : PySem.W.Frag) (mg : Str → Option Value) (base : Heap) (k : Nat) (f : Addr) (fd : FuncData) (ps : List Str) (sp : Sp) : Prop where
  len : ∀ vs H Q E, sp vs H Q E → vs.length = ps.length
  run : ∀ (A : Around) (outer : List PySem.Env) (s : Shared) (H : Hp) (args : Args) (us : List Value) (vs : List V) (Q : VK) (E : XK), A.guards = some [] → RmW k A → Env0 P w K mg base A outer s H → BindsTo s fd args (ps.zip us) → Vals vs us → sp vs H Q E →
    codeAny (model P w) A (.call (.ref f) args) (CR (L2.CX P w) outer P w H s Q E) s
theorem FnW.mono {P : Program} {w : World} {K : PySem.W.Frag} {mg : Str → Option Value} {base : Heap} {j k : Nat} {f : Addr} {fd : FuncData} {ps : List Str} {sp : Sp} (F : FnW P w K mg base j f fd ps sp) (h : j ≤ k) : FnW P w K mg base k f fd ps sp :=
  ⟨F.len, fun A outer s H args us vs Q E hg hr => F.run A outer s H args us vs Q E hg (hr.mono h)⟩
section
variable {P : Program} {w : World} {K : PySem.W.Frag} {mg : Str → Option Value} {base : Heap} {k : Nat} {f : Addr} {N ps : List Str} {sp : Sp}
end
section
variable {G : Gm} {P : Program} {w : World} {mg : Str → Option Value} {base : Heap} {k : Nat} {f : Addr} {N ps : List Str}
end
section
variable {X : Cx} {G : Gm} {E : XK} {k : Nat} {f : Addr} {fd : FuncData} {ps : List Str} {sp : DSp} {x : Str} {p pos : Pos} {e : Expr} {es : List Expr} {B : FA}
end
end DL
/-! The head by one run of the kernel: a part of the heap is looked at behind the top, by tests on it. -/
namespace HdM
open PySem PySem.Spec PyProof.Rows L2 DL
/-! ### the part: the module's names xs, what they name in four steps -/
def refsAt (g : Addr → Option Obj) (l : List Addr) : List Addr := l.flatMap fun a => match g a with
  | some o => He.refsO o
  | none => []
def lev (g : Addr → Option Obj) : Nat → List Addr → List Addr
  | 0, l => l
  | n + 1, l => l ++ lev g n (refsAt g l)
def partG (xs : List Str) (g : Addr → Option Obj) : PySem.W.Frag := He.frG g (mainGlobals :: cStatics :: lev g 4 (xs.map (He.ga (He.frG g [mainGlobals]))))
def partH (xs : List Str) (h : Heap) : PySem.W.Frag := partG xs h.get?
def partT (xs : List Str) (s : PySem.W.SharedT) : PySem.W.Frag := partG xs (HandSHeadRun.getT s)
theorem part_eq (xs : List Str) (s : PySem.W.SharedT) : partT xs s = partH xs s.abs.heap := by
  have e : HandSHeadRun.getT s = s.abs.heap.get? := funext fun a => HandSHeadRun.getT_eq s a
  unfold partT partH
  rw [e]
/-! ### a def -/
structure DfM where
  ad : PySem.W.Frag → Addr
  name : Str
  qual : Str
  params : Arguments
  body : List Stmt
  scope : Scope
  dfl : List He.Dv := []
def fnAt (K : PySem.W.Frag) (a : Addr) : He.FnW := match K.lookup a with
  | some ⟨_, _, .func d, _⟩ => some (d.name, d.qualname, d.params, d.body, d.scope, d.globals, d.closure, d.builtins)
  | _ => none
def DfM.val (d : DfM) : He.FnW := some (d.name, d.qual, d.params, .stmts d.body, d.scope, mainGlobals, [], builtinsNs)
def DfM.dvs (K : PySem.W.Frag) (d : DfM) : List V := d.dfl.map (He.Dv.v K)
def DfM.ok (K : PySem.W.Frag) (d : DfM) : Bool := PySem.W.keepIn K (.ref (d.ad K)) && (match K.lookup (d.ad K) with
  | some ⟨_, _, .func e, _⟩ => PySem.W.codeIn K e.code d.qual && He.dflB K e.defaults (d.dvs K)
  | _ => false)
theorem DfM.funD {K : PySem.W.Frag} {d : DfM} (e : fnAt K (d.ad K) = d.val) (c : d.ok K = true) : ∃ fd, FunD K d.name d.qual d.params d.body d.scope (d.dvs K) [] (d.ad K) fd := by
  obtain ⟨kp, c2⟩ := Bool.and_eq_true_iff.mp c
  cases q : K.lookup (d.ad K) with
  | none => rw [q] at c2; cases c2
  | some o =>
    obtain ⟨oc, od, dt, osl⟩ := o
    unfold fnAt at e
    rw [q] at c2 e
    cases dt with
    | func fd =>
      obtain ⟨m1, m2, m3, m4, m5, m6, m7, m8, m9, m10, m11, m12, m13, m14, m15⟩ := fd
      have z : (some (m1, m2, m3, m4, m5, m6, m7, m15) : He.FnW) = some (d.name, d.qual, d.params, .stmts d.body, d.scope, mainGlobals, [], builtinsNs) := e
      simp only [Option.some.injEq, Prod.mk.injEq] at z
      obtain ⟨z1, z2, z3, z4, z5, z6, z7, z8⟩ := z
      subst z1 z2 z3 z4 z5 z6 z7 z8
      obtain ⟨k1, k2⟩ := Bool.and_eq_true_iff.mp (show (PySem.W.codeIn K m13 d.qual && He.dflB K m8 (d.dvs K)) = true from c2)
      exact ⟨_, ⟨oc, od, m8, m9, m10, m11, m12, m13, m14, osl, rfl, q, k1, He.dflB_ok k2, .inl rfl⟩, kp⟩
    | _ => cases c2
theorem fun_of {K : PySem.W.Frag} {x q : Str} {st : Stmt} {f : Addr} (h : ∃ fd, FunD K x q (defArgs st) (defBody st) (defScope st) [] [] f fd) : ∃ fd, L2.Fun K x q st f fd := by
  obtain ⟨fd, ⟨oc, od, dV, kV, doc, pm, an, cdv, ct, osl, rfl, lk, cd, df, _⟩, kp⟩ := h
  rcases df with ⟨_, rfl⟩ | ⟨n, _⟩
  · exact ⟨_, ⟨oc, od, kV, doc, pm, an, cdv, ct, osl, rfl, lk, cd⟩, kp⟩
  · exact absurd rfl n
def intB (K : PySem.W.Frag) (x : Str) (i : Int) : Bool := match PySem.W.nsIn K mainGlobals x with
  | some (some (.int j _)) => decide (j = i)
  | _ => false
theorem int_ok {K : PySem.W.Frag} {x : Str} {i : Int} (h : intB K x i = true) : ∃ t, PySem.W.nsIn K mainGlobals x = some (some (.int i t)) := by
  unfold intB at h
  split at h
  · rename_i j t e
    have ej : j = i := of_decide_eq_true h
    exact ⟨t, by rw [e, ej]⟩
  · cases h
def hashesAt (K : PySem.W.Frag) (a : Addr) : List Int := match K.lookup a with
  | some ⟨_, _, .dict es _, _⟩ => es.toList.map (·.hash)
  | _ => []
/-! ### the Hook -/
abbrev AlM : Type := Bool × List He.FnW × List (List Int)
def lookM (fs : List (PySem.W.Frag → Bool)) (fn : List DfM) (dc : List (PySem.W.Frag → Addr)) (K : PySem.W.Frag) : AlM :=
  ((fs.all fun f => f K) && fn.all fun d => d.ok K, fn.map fun d => fnAt K (d.ad K), dc.map fun a => hashesAt K (a K))
def wantM (fn : List DfM) (hs : List (List Key)) (w : World) : AlM := (true, fn.map DfM.val, hs.map fun l => l.map (keyH w))
def SaysM (fs : List (PySem.W.Frag → Bool)) (fn : List DfM) (dc : List (PySem.W.Frag → Addr)) (hs : List (List Key)) (w : World) (K : PySem.W.Frag) : Prop := lookM fs fn dc K = wantM fn hs w
def hookM (xs : List Str) (fs : List (PySem.W.Frag → Bool)) (fn : List DfM) (dc : List (PySem.W.Frag → Addr)) (hs : List (List Key)) : PySem.W.Hook where
  α := AlM
  obs := fun s => lookM fs fn dc (partH xs s.heap)
  val := wantM fn hs
  says := fun w h => ∃ K : PySem.W.Frag, K.In h ∧ SaysM fs fn dc hs w K
  of := fun _ _ e => ⟨_, He.frG_in, e⟩
  keeps := fun _ _ _ ⟨K, hK, c⟩ k => ⟨K, PySem.W.Frag.In.keeps hK k, c⟩
def obM (xs : List Str) (fs : List (PySem.W.Frag → Bool)) (fn : List DfM) (dc : List (PySem.W.Frag → Addr)) (s : PySem.W.SharedT) : AlM := lookM fs fn dc (partT xs s)
theorem obM_eq {xs : List Str} {fs : List (PySem.W.Frag → Bool)} {fn : List DfM} {dc : List (PySem.W.Frag → Addr)} {hs : List (List Key)} (s : PySem.W.SharedT) : obM xs fs fn dc s = (hookM xs fs fn dc hs).obs s.abs := by
  unfold obM
  rw [part_eq]; rfl
section
variable {fs : List (PySem.W.Frag → Bool)} {fn : List DfM} {dc : List (PySem.W.Frag → Addr)} {hs : List (List Key)} {w : World} {K : PySem.W.Frag}
theorem SaysM.fact (c : SaysM fs fn dc hs w K) (i : Nat) {f : PySem.W.Frag → Bool} (h : fs[i]? = some f := by rfl) : f K = true := by
  have c1 : ((fs.all fun f => f K) && fn.all fun d => d.ok K) = true := congrArg (fun z : AlM => z.1) c
  exact List.all_eq_true.mp (Bool.and_eq_true_iff.mp c1).1 f (List.mem_of_getElem? h)
theorem SaysM.def_ (c : SaysM fs fn dc hs w K) (i : Nat) {d : DfM} (h : fn[i]? = some d := by rfl) : ∃ fd, FunD K d.name d.qual d.params d.body d.scope (d.dvs K) [] (d.ad K) fd := by
  have c1 : ((fs.all fun f => f K) && fn.all fun d => d.ok K) = true := congrArg (fun z : AlM => z.1) c
  have e : (fn.map fun d => fnAt K (d.ad K)) = fn.map DfM.val := congrArg (fun z : AlM => z.2.1) c
  have e2 : (fn.map fun d => fnAt K (d.ad K))[i]? = (fn.map DfM.val)[i]? := by rw [e]
  rw [List.getElem?_map, List.getElem?_map, h] at e2
  exact DfM.funD (Option.some.inj e2) (List.all_eq_true.mp (Bool.and_eq_true_iff.mp c1).2 d (List.mem_of_getElem? h))
theorem SaysM.hash (c : SaysM fs fn dc hs w K) (i : Nat) {a : PySem.W.Frag → Addr} {l : List Key} (h : dc[i]? = some a := by rfl) (h2 : hs[i]? = some l := by rfl) : hashesAt K (a K) = l.map (keyH w) := by
  have e : (dc.map fun a => hashesAt K (a K)) = hs.map fun l => l.map (keyH w) := congrArg (fun z : AlM => z.2.2) c
  have e2 : (dc.map fun a => hashesAt K (a K))[i]? = (hs.map fun l => l.map (keyH w))[i]? := by rw [e]
  rw [List.getElem?_map, List.getElem?_map, h, h2] at e2
  exact Option.some.inj e2
end
/-! ### the end -/
theorem walk_ofM {l : PySem.W.OpenLaw} {n k : Nat} {q : Program} {loose : List Str} {XP : (Str → Option Value) → Heap → Prop} {d : DefRec} {sp : DSp} {x : Str} {xs : List Str} {fs : List (PySem.W.Frag → Bool)} {fn : List DfM} {dc : List (PySem.W.Frag → Addr)} {hs : List (List Key)}
    (hn : l.most = some n) (hn2 : n ≤ sizeLine) (hdf : d.params.defaults = []) (hr : Room k callerA)
    (F : ∀ (w : World) (K : PySem.W.Frag) (mg : Str → Option Value) (fa : Addr) (h : Heap), K.In h → SaysM fs fn dc hs w K → h.Ns mainGlobals mg → mg d.name = some (.ref fa) →
      ∃ (G : Gm) (fd : FuncData), G.K = K ∧ G.tb = [] ∧ (∀ (s : Shared) (u : Value), BindsTo s fd ⟨[u], []⟩ [(x, u)]) ∧
        ∀ base : Heap, K.In base → base.Ns mainGlobals mg → FnG l.prog w K mg base k fa fd [x] (lift G sp))
    (hsp : ∀ (ns : List Int), ns.length ≤ n → (∀ z ∈ ns, Builtin.Int.intBits z ≤ 1048576) → sp [.lst (ns.map D.int)] (fun d => d = .bl true) NoX) :
    PySem.W.WalkO q loose XP (hookM xs fs fn dc hs).says l.row.toRowW d [] (fun f vs => PySem.call f vs) := by
  refine Att.attach_callB hn hdf fun w s₀ s₁ mg mb fa o pm cd doc a vs ns G' Y ho hd hcd hmg hobj hints hlen hbits hg => ?_
  obtain ⟨K, KX, c⟩ := Y
  obtain ⟨G, fd, rfl, et, hb, hF⟩ := F w K mg fa _ KX c G'.T.g hmg
  exact law_callD KX et G'.T.g G'.T.b G'.T.builtins G'.T.nolimit hg hobj hints (Nat.le_trans hlen hn2) hr hF hb (hsp ns hlen hbits)
end HdM
/-! A lambda that is handed to a def which calls it in a try: over data. -/
namespace DL
open PySem L2 PyProof.Rows
section
variable {X : Cx} {pins : List (Addr × Obj)} {σ : L2.St} {H : Hp} {s : Shared}
end
/-! ### the maker's names, as the lambda sees them -/
def Sl.seen : Sl → Sl
  | .val d => .val d
  | _ => .un
theorem Fr.seen {G : Gm} {w0 w w1 : Wd} {H0 H H1 : Hp} {r : Env} {t : L2.St} (f : Fr G w0 H0 r t w H) (l : Le w H w1 H1) (ok : Ok w1 H1) : Fr G w1 H1 (r.map Sl.seen) t w1 H1 where
  ok := ok
  le := .refl w1 H1
  len := by rw [List.length_map]; exact f.len
  slot := fun i x e => by
    rw [List.getElem?_map] at e
    cases q : r[i]? with
    | none => rw [q] at e; cases e
    | some y =>
      rw [q] at e
      cases e
      have h := f.slot i y q
      cases y with
      | val d =>
        obtain ⟨v, e2, rv⟩ := h
        exact ⟨v, e2, rv.mono l.sub⟩
      | _ => trivial
  dist := fun i j x y a e1 e2 o1 o2 _ _ => by
    rw [List.getElem?_map] at e1
    cases q : r[i]? with
    | none => rw [q] at e1; cases e1
    | some y =>
      rw [q] at e1
      cases e1
      cases y <;> cases o1
end DL
/-! x(lambda: ..), x a def that calls what it got first in a try: over data. -/
namespace DL
open PySem L2 PyProof.Rows
section
variable {X : Cx} {pins : List (Addr × Obj)} {σ : L2.St} {H : Hp} {s : Shared}
end
section
variable {X : Cx} {G : Gm} {E : XK} {k n it : Nat} {x a told : Str} {st : Stmt} {g c P : Addr} {fd : FuncData} {Ng : List Str} {params : Arguments} {body : Expr} {scope : Scope} {p lpos pos p1 p2 p3 p4 p5 : Pos} {h₀ : ExceptHandler} {hds : List ExceptHandler} {rest : List Stmt} {l : List Hdl} {R : FS} {A : FE}
end
end DL
/-! A def that calls what it got in a try: its run. -/
namespace DL
open PySem L2 PyProof.Rows
end DL
/-! The law's call where tables of code objects are written (defs that make lambdas). -/
namespace DL
open PySem PySem.Spec L2 PyProof.Rows
/-- what is known of a code object and its table, ahead of the law's call -/
structure TabI (K : PySem.W.Frag) (h : Heap) (c P : Addr) : Prop where
  code : PySem.W.CodeHd h c P
  out : K.lookup P = none
  empty : h.get? P = some { cls := .none, data := .fields #[] }
section
variable {P : Program} {w : World} {G : Gm} {mg mb : Str → Option Value} {k : Nat} {fa a : Addr} {fd : FuncData} {x : Str} {sp : DSp} {s₁ : Shared} {vs : List Value} {ns : List Int}
end
end DL
/-! The head's Hook where defs make lambdas: their code objects and tables. -/
namespace HdM
open PySem PySem.Spec PyProof.Rows L2 DL
end HdM
/-! Own exceptions: the facts of a class, from tests on the part. -/
namespace ExL
open PySem PySem.Spec PyProof.Rows L2
/-- the class's object, from the test of the kit -/
theorem cls_of {K : PySem.W.Frag} {C : Addr} {bmB : List Value} {newId : String} (q : PySem.W.excInitIn K C bmB newId = true) (hd : PySem.W.hasDictIn K C = true) :
    ∃ nm q N bs bm sn sub ab col dd k0 k1 k2 k3 k5, K.lookup C = some (excClassObj nm q C N bs bm true sn sub ab col dd k0 k1 k2 k3 k5 newId) ∧ PySem.W.excTail bmB bm = true := by
  unfold PySem.W.excInitIn at q
  split at q
  · rename_i dd cd sl lk
    split at q
    · rename_i C1 bm k0 k1 k2 k3 n k5 em es
      simp only [Bool.and_eq_true, beq_iff_eq, Bool.not_eq_true'] at q
      obtain ⟨⟨⟨e1, e2⟩, e3⟩, e4⟩ := q
      subst e1 e2
      have hd2 : cd.hasDict = true := by
        unfold PySem.W.hasDictIn PySem.W.clsIn at hd
        rw [lk] at hd
        exact hd
      obtain ⟨nm, bs, mro, ns, qn, hdc, sn, sub, ab, col, del⟩ := cd
      dsimp only at em e3 hd2
      subst em e3 hd2
      cases sl with
      | mk l =>
        have es : l = [k0, k1, k2, k3, some (.builtin n), k5] := es
        subst es
        exact ⟨nm, qn, ns, bs, bm, sn, sub, ab, col, dd, k0, k1, k2, k3, k5, lk, e4⟩
    · cases q
  · cases q
/-- no keyword-only defaults -/
def kwB (K : PySem.W.Frag) (f : Addr) : Bool := match K.lookup f with
  | some ⟨_, _, .func d, _⟩ => decide (d.kwdefaults = .none)
  | _ => false
section
variable {K : PySem.W.Frag} {mg : Str → Option Value} {x : Str} {C f : Addr} {bmB : List Value} {newId : String}
theorem fn_of {q : Str} {params : Arguments} {body : List Stmt} {scope : Scope} (F : ∃ fd, FunD K "__init__" q params body scope [] [] f fd) (kw : kwB K f = true) :
    ∃ (oc : Value) (od : Option Addr) (doc pm : Value) (an : Option Addr) (cdv ct : Value) (osl : Array (Option Value)), K.lookup f = some ⟨oc, od, .func (PySem.W.fnOf "__init__" q params body scope .none .none doc pm an cdv ct), osl⟩ ∧ PySem.W.codeIn K cdv q = true := by
  obtain ⟨fd, ⟨oc, od, dV, kV, doc, pm, an, cdv, ct, osl, rfl, lk, cd, df, _⟩, _⟩ := F
  have e1 : dV = .none := by
    rcases df with ⟨_, e⟩ | ⟨n, _⟩
    · exact e
    · exact absurd rfl n
  have e2 : kV = .none := by
    unfold kwB at kw
    rw [lk] at kw
    exact of_decide_eq_true kw
  subst e1 e2
  exact ⟨oc, od, doc, pm, an, cdv, ct, osl, lk, cd⟩
theorem clG_of {q : Str} {p1 p2 q1 q2 q3 q4 : Pos} (gl : mg x = some (.ref C)) (h1 : PySem.W.excInitIn K C bmB newId = true) (h2 : PySem.W.hasDictIn K C = true) (h3 : PySem.W.findIn K (.ref C) "__setattr__" = some (some (.builtin "object.__setattr__"))) (h4 : PySem.W.takerIn K C "given" = some none)
    (h5 : PySem.W.findIn K (.ref C) "__init__" = some (some (.ref f))) (h6 : PySem.W.typeIn K (.ref f) = some (.type "function")) (h7 : PySem.W.keepIn K (.ref C) = true) (h8 : PySem.W.subIn K (.ref C) (.type "BaseException") = some true) (h9 : PySem.W.typeIn K (.ref C) = some (.type "type"))
    (F : ∃ fd, FunD K "__init__" q (argsG p1 p2) (bodyG q1 q2 q3 q4) scopeG [] [] f fd) (kw : kwB K f = true) : ClG K mg x C f bmB newId := by
  obtain ⟨oc, od, doc, pm, an, cdv, ct, osl, lk, cd⟩ := fn_of F kw
  exact ⟨gl, cls_of h1 h2, h3, h4, h5, h6, h7, h8, h9, q, oc, od, doc, pm, an, cdv, ct, osl, p1, p2, q1, q2, q3, q4, lk, cd⟩
theorem clI_of {q : Str} {p1 p2 q1 q2 q3 q4 : Pos} (gl : mg x = some (.ref C)) (h1 : PySem.W.excInitIn K C bmB newId = true) (h2 : PySem.W.hasDictIn K C = true) (h3 : PySem.W.findIn K (.ref C) "__setattr__" = some (some (.builtin "object.__setattr__"))) (h4 : PySem.W.takerIn K C "index" = some none)
    (h5 : PySem.W.findIn K (.ref C) "__init__" = some (some (.ref f))) (h6 : PySem.W.typeIn K (.ref f) = some (.type "function")) (h7 : PySem.W.keepIn K (.ref C) = true) (h8 : PySem.W.subIn K (.ref C) (.type "BaseException") = some true) (h9 : PySem.W.typeIn K (.ref C) = some (.type "type"))
    (F : ∃ fd, FunD K "__init__" q (argsI p1 p2) (bodyI q1 q2 q3 q4) scopeI [] [] f fd) (kw : kwB K f = true) : ClI K mg x C f bmB newId := by
  obtain ⟨oc, od, doc, pm, an, cdv, ct, osl, lk, cd⟩ := fn_of F kw
  exact ⟨gl, cls_of h1 h2, h3, h4, h5, h6, h7, h8, h9, q, oc, od, doc, pm, an, cdv, ct, osl, p1, p2, q1, q2, q3, q4, lk, cd⟩
end
end ExL
/-! A def that makes lambdas: its body knows its code object. -/
namespace DL
open PySem PySem.Spec L2 PyProof.Rows
section
variable {P : Program} {w : World} {K : PySem.W.Frag} {mg : Str → Option Value} {base : Heap} {k : Nat} {f c : Addr} {N ps : List Str} {sp : Sp}
end
section
variable {G : Gm} {P : Program} {w : World} {mg : Str → Option Value} {base : Heap} {k : Nat} {f c : Addr} {N ps : List Str}
end
/-! ### the context of a lambda's body -/
section
variable {X : Cx} {A1 : Around} {outer : List PySem.Env} {s2 : Shared} {H2 : Hp} {E1 : XK} {scope : Scope} {f c1 : Addr}
end
end DL
/-! {} as a value. -/
namespace DL
open PySem L2 PyProof.Rows
section
variable {X : Cx} {G : Gm} {E : XK} {pos : Pos}
theorem ce_emp : PE X (.Dict [] [] pos) (tD G E (fC (.dic [] []))) := PE.weak pe_dnewK fun s H Q ⟨w0, H0, r, w, QD, EX, fr, lk, f, k⟩ => fun p hp => by
  refine k (.dic [] []) (.ref p) (w.frz (upd H p (.dK [])) p) _ ((Le.new hp).frz (fr.ok.none_hd hp) hp) ((fr.ok.new hp).frz (fr.ok.none_jr hp)) ?_ f
  unfold Rep
  exact ⟨p, [], rfl, .inl (by rw [frz_at, upd_same]; rfl), rfl, Reps.nil⟩
end
end DL
/-! repr of a dict of flat values. -/
namespace DL
open PySem L2 PyProof.Rows
def kPd : Key → PyData
  | .inl i => .int i
  | .inr s => .str s
def dkv : List Key → List D → List (PyData × PyData)
  | k :: ks, d :: ds => (kPd k, pd d) :: dkv ks ds
  | _, _ => []
def flatB : D → Bool
  | .non => true
  | .bl _ => true
  | .int _ => true
  | .str _ => true
  | _ => false
def EntR : List DictEntry → List (Key × V) → Prop
  | [], [] => True
  | e :: r, (k, v) :: t => keyIs k e.key = true ∧ RelV v e.val ∧ EntR r t
  | _, _ => False
theorem entR_k {w : World} : ∀ {es : List DictEntry} {kvs : List (Key × V)}, KEnt w es kvs → EntR es kvs
  | [], [], _ => trivial
  | e :: r, (k, v) :: t, h => by
    unfold KEnt at h
    exact ⟨h.1, h.2.2.1, entR_k h.2.2.2⟩
  | [], _ :: _, h => by unfold KEnt at h; exact h.elim
  | _ :: _, [], h => by unfold KEnt at h; exact h.elim
theorem entR_p {P : Program} {w : World} : ∀ {kvs : List (Key × V)} {ys : List (Key × Value)} {es : List DictEntry}, KV kvs ys → Pairs (mixKind P w) es ys → EntR es kvs
  | [], _, _, .nil, .nil => trivial
  | (k, v) :: t, _, _, .cons h1 h2, .cons h3 h4 h5 => ⟨by rw [show k = _ from h1.1]; exact h3, by rw [h4]; exact h1.2, entR_p h2 h5⟩
theorem reads_key {h : Heap} {k : Key} {v : Value} (e : keyIs k v = true) : Reads h v (kPd k) [] := by
  rcases keyIs_shape e with ⟨i, t, rfl, rfl⟩ | ⟨x, t, rfl, rfl⟩
  · exact Reads.int i t
  · exact Reads.str x t
section
variable {G : Gm}
theorem reads_flat {w : Wd} {h : Heap} {d : D} {v : V} {u : Value} (r : Rep G w d v) (f : flatB d = true) (e : RelV v u) : Reads h u (pd d) [] := by
  cases d <;> first | (cases f; done) | skip
  · cases r.non_of
    cases e
    unfold pd
    exact Reads.none
  · cases r.bl_of
    cases e
    unfold pd
    exact Reads.bool _
  · cases r.int_of
    obtain ⟨t, rfl⟩ := e
    unfold pd
    exact Reads.int _ t
  · cases r.str_of
    obtain ⟨t, rfl⟩ := e
    unfold pd
    exact Reads.str _ t
theorem reads_dk {w : Wd} {h : Heap} : ∀ {ks : List Key} {vs : List V} {ds : List D} {es : List DictEntry}, ks.length = vs.length → EntR es (ks.zip vs) → Reps G w ds vs → ds.all flatB = true →
    ReadsAll h (es.map (·.key)) ((dkv ks ds).map (·.1)) [] ∧ ReadsAll h (es.map (·.val)) ((dkv ks ds).map (·.2)) []
  | [], [], ds, es, _, e, r, _ => by
    cases ds with
    | nil =>
      cases es with
      | nil => exact ⟨.nil, .nil⟩
      | cons _ _ => exact e.elim
    | cons d t => obtain ⟨_, _, z, _⟩ := r.of_cons; cases z
  | [], _ :: _, _, _, hl, _, _, _ => by cases hl
  | _ :: _, [], _, _, hl, _, _, _ => by cases hl
  | k :: ks, v :: vs, ds, es, hl, e, r, f => by
    cases ds with
    | nil => cases r.of_nil
    | cons d t =>
      obtain ⟨_, _, z, r1, r2⟩ := r.of_cons
      cases z
      cases es with
      | nil => exact e.elim
      | cons e0 es =>
        rw [List.zip_cons_cons] at e
        obtain ⟨e1, e2, e3⟩ := e
        rw [List.all_cons, Bool.and_eq_true] at f
        have ih := reads_dk (h := h) (Nat.succ.inj hl) e3 r2 f.2
        exact ⟨.cons (reads_key e1) ih.1, .cons (reads_flat r1 f.1 e2) ih.2⟩
end
def dicOK (ks : List Key) (ds : List D) : Prop := ds.all flatB = true ∧ (PyData.dict (dkv ks ds)).showable = true ∧ (PyData.dict (dkv ks ds)).depth ≤ 60 ∧ (PyData.dict (dkv ks ds)).shown.length ≤ sizeLine
instance (ks : List Key) (ds : List D) : Decidable (dicOK ks ds) := by unfold dicOK; exact inferInstance
def reprD2 : CG := fun xs Q => reprD xs Q ∨ ∃ ks ds, xs = [.dic ks ds] ∧ dicOK ks ds ∧ Q (.str (PyData.dict (dkv ks ds)).shown)
section
variable {G : Gm} {X : Cx}
theorem cal_repr2 (hg : X.A.guards = some []) (hu : X.A.units + 64 < cLine) (hK : X.K = G.K := by rfl) : CaL G X (.builtin "repr") reprD2 := by
  obtain ⟨r1, c1, k1⟩ := cal_repr (G := G) hg hu hK
  refine ⟨fun xs H Q => r1 xs H Q ∨ ∃ a w ks vs ds, xs = [.ref a] ∧ (H a = some (.dK (ks.zip vs)) ∨ KDic G.K G.pw a (ks.zip vs)) ∧ ks.length = vs.length ∧ Reps G w ds vs ∧ dicOK ks ds ∧ Q (.str (PyData.dict (dkv ks ds)).shown) H, ?_, fun H0 w H ds vs Q QD ok sx g k => ?_⟩
  · intro pins s σ H xs us Q I r h
    rcases h with h | ⟨a, w, ks, vs, ds, rfl, hd, hl, rr, ⟨o1, o2, o3, o4⟩, q⟩
    · exact c1 pins s σ H xs us Q I r h
    · obtain ⟨u, rfl, rx⟩ := vals1 r
      cases (show u = Value.ref a from rx)
      have rd : ∃ as, Reads s.heap (.ref a) (PyData.dict (dkv ks ds)) as ∧ sysModules ∉ as := by
        have ns : ∀ {p : Addr}, (p == sysModules) = false → sysModules ∉ (p :: [] ++ [] : List Addr) := fun z m => by
          rw [List.append_nil, List.mem_singleton] at m
          rw [← m] at z
          simp at z
        rcases hd with hd | ⟨es, n, lk, hs, he⟩
        · obtain ⟨_, hs, ys, kv, o, es, ep, ho, hc, hda, _, pp, _⟩ := (show ObjOk X.prog X.w H s.heap a (.dK (ks.zip vs)) from I.hok a _ hd)
          obtain ⟨x1, x2⟩ := reads_dk (h := s.heap) hl (entR_p kv pp) rr o1
          exact ⟨_, Reads.dict ho hc.1 hda x1 x2, ns hs⟩
        · obtain ⟨x1, x2⟩ := reads_dk (h := s.heap) hl (entR_k he) rr o1
          exact ⟨_, Reads.dict (I.kIn _ _ (hK ▸ lk)) rfl rfl x1 x2, ns hs⟩
      obtain ⟨as, rd, hn⟩ := rd
      exact repr_of_reads' rd o2 (fun _ => hn) hg (by omega) (fun _ _ e => e) (fun h' u tk hk => ⟨.str _, H, I.kept hk, ⟨_, rfl⟩, q⟩) o4
  · rcases g with g | ⟨ks, es, rfl, o, q⟩
    · exact .inl (k1 H0 w H ds vs Q QD ok sx g k)
    · obtain ⟨v, rfl, s1⟩ := sx.one
      obtain ⟨a, us, rfl, hd, hl, rr⟩ := s1.dic_of ok
      exact .inr ⟨a, w, ks, us, es, rfl, hd, hl, rr, o, k _ _ w H (.refl w H) ok Rep.str q⟩
end
def reprX2 (xs : List D) : Option D := match reprX xs with
  | some d => some d
  | none => match xs with
    | [.dic ks ds] => if dicOK ks ds then some (.str (PyData.dict (dkv ks ds)).shown) else none
    | _ => none
theorem g_repr2 : CCG reprD2 reprX2 := fun xs d Q e q => by
  unfold reprX2 at e
  cases z : reprX xs with
  | some d2 =>
    rw [z] at e
    cases e
    exact .inl (g_repr xs _ Q z q)
  | none =>
    rw [z] at e
    match xs, e with
    | [.dic ks ds], e =>
      have e : (if dicOK ks ds then some (D.str (PyData.dict (dkv ks ds)).shown) else none) = some d := e
      by_cases o : dicOK ks ds
      · rw [if_pos o] at e
        cases e
        exact .inr ⟨ks, ds, rfl, o, q⟩
      · rw [if_neg o] at e; cases e
/-- what is shown of a value, of dicts too -/
def shw : D → Str
  | .dic ks ds => (PyData.dict (dkv ks ds)).shown
  | d => (pd d).shown
def shwOK : D → Prop
  | .dic ks ds => dicOK ks ds
  | d => shownOK d
theorem reprX2_ok {d : D} (h : shwOK d) : reprX2 [d] = some (.str (shw d)) := by
  have pl : ∀ d : D, shownOK d → reprX [d] = some (.str (pd d).shown) := fun d h => by
    show gd (shownB d = true) _ = _
    unfold gd
    rw [if_pos]
    unfold shownB
    rw [h.1, h.2.1, decide_eq_true h.2.2.1, decide_eq_true h.2.2.2]; rfl
  cases d with
  | dic ks ds =>
    have h : dicOK ks ds := h
    unfold reprX2
    rw [show reprX [.dic ks ds] = none from rfl]
    show (if dicOK ks ds then some (D.str (PyData.dict (dkv ks ds)).shown) else none) = _
    rw [if_pos h]; rfl
  | non => unfold reprX2; rw [pl _ h]; rfl
  | bl b => unfold reprX2; rw [pl _ h]; rfl
  | int i => unfold reprX2; rw [pl _ h]; rfl
  | str s => unfold reprX2; rw [pl _ h]; rfl
  | tup ds => unfold reprX2; rw [pl _ h]; rfl
  | lst ds => unfold reprX2; rw [pl _ h]; rfl
  | obj c ds => unfold reprX2; rw [pl _ h]; rfl
  | exc c ds => unfold reprX2; rw [pl _ h]; rfl
  | jar => unfold reprX2; rw [pl _ h]; rfl
end DL
/-! list(x), x a text too. -/
namespace DL
open PySem L2 PyProof.Rows
section
variable {X : Cx} {G : Gm}
end
end DL
/-! x in o, both values (x of any kind). -/
namespace DL
open PySem L2 PyProof.Rows
section
variable {X : Cx} {G : Gm} {E : XK} {a b : Expr} {pos : Pos}
/-- an operator's rule over values -/
structure OpV (G : Gm) (X : Cx) (op : Value → Value → Sem Value) (g : G2) : Prop where
  ex : ∃ r, OpR X op r ∧ ∀ w H x y v u Q (QD : D → Prop), Ok w H → Rep G w x v → Rep G w y u → g x y QD →
    (∀ d z w' H', Le w H w' H' → Ok w' H' → Rep G w' d z → QD d → Q z H') → r v u H Q
theorem OpV.link {op : Value → Value → Sem Value} {g : G2} {rr : R2} {A B : FE} (k0 : ∀ w H x y v u Q (QD : D → Prop), Ok w H → Rep G w x v → Rep G w y u → g x y QD →
    (∀ d z w' H', Le w H w' H' → Ok w' H' → Rep G w' d z → QD d → Q z H') → rr v u H Q) (s : L2.St) (H : Hp) (Q : VK) (h : tD G E (f2 g A B) s H Q) : tOp rr (tD G E A) (tD G E B) s H Q := by
  obtain ⟨w0, H0, r, w, QD, EX, fr, lk, f, k⟩ := h
  refine ⟨w0, H0, r, w, _, EX, fr, lk, f, fun x v w1 H1 l1 ok1 s1 q1 => ?_⟩
  refine ⟨w0, H0, r, w1, _, EX, fr.go l1 ok1, lk, q1, fun y u w2 H2 l2 ok2 s2 q2 => ?_⟩
  exact k0 w2 H2 x y v u Q QD ok2 (s1.mono l2.sub) s2 q2 fun d z w3 H3 l3 ok3 r3 q3 => k d z w3 H3 ((l1.trans l2).trans l3) ok3 r3 q3
end
section
variable {G : Gm} {X : Cx} {k : Nat} {f : Addr} {fd : FuncData} {ps : List Str} {sp : DSp}
end
section
variable {G : Gm} {X : Cx}
end
end DL
/-! text * int. -/
namespace DL
open PySem L2 PyProof.Rows
section
variable {G : Gm} {X : Cx}
end
instance (z : Str) (n : Int) : Decidable (MulOk z n) := by unfold MulOk; exact inferInstance
end DL
/-! str(x), x a tuple or a list. -/
namespace DL
open PySem L2 PyProof.Rows
section
variable {G : Gm} {X : Cx}
end
end DL
/-! x == (), x != (), x a tuple of anything. -/
namespace DL
open PySem L2 PyProof.Rows
section
variable {G : Gm} {X : Cx}
end
end DL
/-! xs.count(True), xs.index(True): lists of bools. -/
namespace DL
open PySem L2 PyProof.Rows
section
variable {G : Gm} {X : Cx} {E : XK}
variable {o e : Expr} {apos cpos : Pos} {A B : FE}
end
end DL
/-! x in xs, xs a list of tuples, x a dict too. -/
namespace DL
open PySem L2 PyProof.Rows
section
variable {A : Around} {s : Shared}
end
section
variable {G : Gm} {X : Cx}
end
end DL
/-! int(text). -/
namespace DL
open PySem L2 PyProof.Rows
section
variable {G : Gm} {X : Cx}
end
end DL
/-! Classmethods: their defs (the class in an unread slot), their calls by position. -/
namespace DL
open PySem L2 PyProof.Rows
section
variable {P : Program} {w : World} {mg : Str → Option Value} {base : Heap} {k : Nat} {f C : Addr} {c : Str} {N ps : List Str} {G : Gm}
end
section
variable {X : Cx} {G : Gm} {E : XK} {k : Nat} {f C p g : Addr} {mc : Value} {fd : FuncData} {ps : List Str} {dvs : List V} {dsv : List Value} {x m : Str} {pos apos npos : Pos} {e o : Expr} {es : List Expr} {B : FA} {sp : DSp} {pl : Sem Bool}
end
end DL
/-! x == o, x of a type of the language, o an own object: o's own __eq__ answers. -/
namespace DL
open PySem PySem.Spec PyProof.Rows PySem.W PySem.SeqAt
section
variable {prog : Program} {w : World} {A : Around} {E : Value → Shared → Prop} {s : Shared} {K : Frag} {x C f : Addr} {ox : Obj} {od : Option Obj} {a : Value} {Ta id : String}
end
end DL
/-! x == o, x a text, an int, None, a tuple, a list, a dict, o an own object. -/
namespace DL
open PySem L2 PyProof.Rows PySem.SeqAt
/-- C is no subclass of these -/
structure OffB (K : PySem.W.Frag) (C : Addr) : Prop where
  str : PySem.W.subIn K (.ref C) (.type "str") = some false
  int : PySem.W.subIn K (.ref C) (.type "int") = some false
  non : PySem.W.subIn K (.ref C) (.type "NoneType") = some false
  tup : PySem.W.subIn K (.ref C) (.type "tuple") = some false
  lst : PySem.W.subIn K (.ref C) (.type "list") = some false
  dic : PySem.W.subIn K (.ref C) (.type "dict") = some false
section
variable {X : Cx} {k : Nat} {f C : Addr} {fd : FuncData} {ps : List Str} {sp : Sp}
end
end DL
/-! o == x, o != x: o an own object, x a text, an int, None, a tuple, a list, a dict. -/
namespace DL
open PySem L2 PyProof.Rows PySem.SeqAt
/-- the language's types are no subclasses of C -/
structure SideB (K : PySem.W.Frag) (C : Addr) : Prop where
  str : PySem.W.notFirst K C (.type "str") = true
  int : PySem.W.notFirst K C (.type "int") = true
  non : PySem.W.notFirst K C (.type "NoneType") = true
  tup : PySem.W.notFirst K C (.type "tuple") = true
  lst : PySem.W.notFirst K C (.type "list") = true
  dic : PySem.W.notFirst K C (.type "dict") = true
section
variable {X : Cx} {k : Nat} {f C : Addr} {fd : FuncData} {ps : List Str} {sp : Sp}
end
end DL
/-! ==, != between an own object and a text, an int, None, a tuple, a list, a dict: rules over values. -/
namespace DL
open PySem L2 PyProof.Rows
section
variable {G : Gm} {X : Cx} {k : Nat} {f : Addr} {fd : FuncData} {ps : List Str} {sp : DSp}
end
end DL
/-! bool(o), o an own object with __bool__. -/
namespace PySem.W
open PySem PySem.Calls PyProof.Rows
section
variable {prog : Program} {w : World} {A : Around} {E : Value → Shared → Prop} {s : Shared} {K : Frag} {x C L f : Addr} {h₀ : Heap} {m : Str → Option Value} {ox : Obj} {od : Option Obj}
end
end PySem.W
namespace DL
open PySem L2 PyProof.Rows
section
variable {X : Cx} {k : Nat} {f C : Addr} {fd : FuncData} {ps : List Str} {sp : Sp}
end
section
variable {G : Gm} {X : Cx} {k : Nat} {f : Addr} {fd : FuncData} {ps : List Str} {sp : DSp}
end
end DL
/-! (o, t) == (o2, t2): o, o2 own objects of a class with __eq__. -/
namespace DL
open PySem L2 PyProof.Rows PySem.SeqAt
section
variable {prog : Program} {w : World} {A : Around} {R : Result → Shared → Prop}
end
section
variable {G : Gm} {X : Cx} {pins : List (Addr × Obj)} {σ : L2.St} {H : Hp} {s : Shared} {w : Wd}
end
section
variable {X : Cx} {k : Nat} {f C : Addr} {fd : FuncData} {ps : List Str} {sp : Sp}
end
section
variable {G : Gm} {X : Cx} {k : Nat} {f : Addr} {fd : FuncData} {ps : List Str} {sp : DSp}
end
end DL
/-! ==, != of an own object with any kind: own objects of other classes, too. -/
namespace DL
open PySem L2 PyProof.Rows PySem.SeqAt
section
variable {X : Cx} {k : Nat} {f C : Addr} {fd : FuncData} {ps : List Str} {sp : Sp}
end
section
variable {G : Gm} {X : Cx} {k k2 : Nat} {f f2 : Addr} {fd fd2 : FuncData} {ps ps2 : List Str} {sp sp2 : DSp}
end
end DL
/-! C.read(text = ..), a classmethod asked by name; x.split(sep). -/
namespace DL
open PySem L2 PyProof.Rows
section
variable {X : Cx} {G : Gm} {E : XK} {k : Nat} {f C p g : Addr} {mc : Value} {fd : FuncData} {ps ks : List Str} {sel : List Src} {dd : List D} {x m : Str} {pos apos npos : Pos} {kws : List Keyword} {B : FA} {sp : DSp} {pl : Sem Bool}
end
/-! ### x.split(sep) -/
section
variable {X : Cx} {G : Gm} {E : XK}
end
end DL
/-! Names of the module that stand for texts. -/
namespace DL
open PySem L2 PyProof.Rows
section
variable {X : Cx} {G : Gm} {E : XK}
end
end DL
namespace HdM
open PySem
end HdM
/-! isinstance(x, (A, B, ..)). -/
namespace DL
open PySem L2 PyProof.Rows
section
variable {X : Cx} {G : Gm} {E : XK}
end
end DL
/-! J[1], f = divmod(J[1], m), J a jar. -/
namespace DL
open PySem L2 PyProof.Rows
section
variable {X : Cx} {G : Gm} {E : XK}
end
end DL
/-! xs.index(z): a list of texts. -/
namespace DL
open PySem L2 PyProof.Rows
section
variable {G : Gm} {X : Cx} {E : XK}
variable {o e : Expr} {apos cpos : Pos} {A B : FE}
end
end DL
/-! Own exceptions as values: X(e), X(given=e), X(). -/
namespace ExL
open PySem PySem.HandSPX
section
variable {M : Model} {prog : Program} {w : World} {A : Around} {E : Value → Shared → Prop} {R : Result → Shared → Prop} {h : Heap} {g : Array GenState} {d : Drawn} {t : Nat} {os : OsState}
variable {nm q : Str} {C N : Addr} {bs bm bmB : List Value} {hdct : Bool} {sn : List Str} {sub : List Value} {ab : Bool} {col : Option Bool} {dd : Option Addr} {k0 k1 k2 k3 k5 : Option Value} {B newId initId : String} {kw : List (Str × Value)}
/-- the class's own new one, whatever the keywords -/
theorem newCheckK (F : ExcBaseFacts B newId initId bmB) (same : ∀ X : String, bm.contains (.type X) = bmB.contains (.type X)) {Q : Unit → Shared → Prop}
    (hC : h.get? C = some (excClassObj nm q C N bs bm hdct sn sub ab col dd k0 k1 k2 k3 k5 newId)) (hq : Q () ⟨h, g, d, t, os⟩) : wpAny M A (checkBuiltinCall newId ⟨[.ref C], kw⟩) Q E ⟨h, g, d, t, os⟩ := by
  have up : (Value.ref C :: bm).contains (.type B) = true := by rw [List.contains_cons, same, F.hasB, Bool.or_true]
  have star := F.noStar
  simp only [checkBuiltinCall, F.newKind, F.newSplit, F.newRow]
  repeat (first | refine wpAny_loadPart_at hC ?_ | (refine wpAny_isSubtype_exc hC ?_; rw [up]) | refine wpAny_staticBase_exc hC ?_ | refine wpAny_madeBy_exc hC ?_ | simp only [bne_self_eq_false, Bool.false_eq_true, if_false] | wp_step)
  exact hq
theorem newRunK (F : ExcBaseFacts B newId initId bmB) (same : ∀ X : String, bm.contains (.type X) = bmB.contains (.type X))
    (hC : h.get? C = some (excClassObj nm q C N bs bm hdct sn sub ab col dd k0 k1 k2 k3 k5 newId))
    (hq : R (.ok (.ret (.ref (h.objs.size + 1)))) ⟨(h.push (W.kdv_tup [])).push (emptyX C h.objs.size), g, d, t, os⟩) :
    codeAny (model prog w) A (.builtin newId ⟨[.ref C], kw⟩) R ⟨h, g, d, t, os⟩ := by
  have ends := F.ends
  have c1 : (Value.ref C :: bm).contains (.type B) = true := by rw [List.contains_cons, same, F.hasB, Bool.or_true]
  have c2 : (Value.ref C :: bm).contains (.type "AttributeError") = false := by rw [List.contains_cons, same, F.noAttr]; rfl
  have c3 : (Value.ref C :: bm).contains (.type "NameError") = false := by rw [List.contains_cons, same, F.noName]; rfl
  have small : ([] : List Value).length ≤ sizeLine := Nat.zero_le _
  refine codeAny_builtinAt F.entry ?_
  unfold Builtin.«BaseException.__new__»
  refine wpAt_bind ?_
  show wpAt _ _ _ (stack >>= _) _ _ _
  refine wpAt_bind (wpAt_stack fun p below => wpAt_of_wpAny ?_)
  wp_walk
  refine wpAt_of_wpAny ?_
  rw [F.owner]
  repeat (first | with_reducible refine wpAny_madeHere_exc F.canon hC ?_ | with_reducible refine wpAny_loadPart_at hC ?_ | (with_reducible refine wpAny_isSubtype_exc hC ?_; first | rw [c1] | rw [c2] | rw [c3]) | wp_step)
  show R _ _
  rw [Heap.size_push]
  exact hq
/-- type.__call__ with keywords alone: a new one, then the class's own __init__ -/
theorem typeCallK (F : ExcBaseFacts B newId initId bmB) (same : ∀ X : String, bm.contains (.type X) = bmB.contains (.type X)) {fI : Addr} {Q : Fin → Shared → Prop}
    (hC : h.get? C = some (excClassObj nm q C N bs bm hdct sn sub ab col dd k0 k1 k2 k3 k5 newId))
    (hi : W.Looks (model prog w) h (typeLookup (.ref C) "__init__") (some (.ref fI))) (hb : ∀ self, W.Looks (model prog w) h (bindSpecial (.ref fI) self) (.ref fI, [self]))
    (hq : codeAny (model prog w) A (.call (.ref fI) ⟨[.ref (h.objs.size + 1)], kw⟩)
      (fun r s' => match r with | .ok (.ret v) => v = .none ∧ Q (.done (.ret (.ref (h.objs.size + 1)))) s' | .ok _ => False | .error e => E e s')
      ⟨(h.push (W.kdv_tup [])).push (emptyX C h.objs.size), g, d, t, os⟩) :
    wpAny (model prog w) A (Builtin.«type.__call__» ⟨[.ref C], kw⟩) Q E ⟨h, g, d, t, os⟩ := by
  repeat (first | with_reducible refine wpAny_loadPart_at hC ?_ | with_reducible refine wpAny_madeBy_exc hC ?_ | wp_step)
  refine codeAny_call_builtin_code (Code.quiet_builtin _ F.quiet) (newCheckK F same hC ?_)
  refine newRunK F same hC ?_
  show wpAny _ _ _ _ _ _
  have k : ∀ b o, h.get? b = some o → ((h.push (W.kdv_tup [])).push (emptyX C h.objs.size)).get? b = some o := fun b o e => Heap.get?_push_of_some _ (Heap.get?_push_of_some _ e)
  have hC1 := k _ _ hC
  have mine : ((h.push (W.kdv_tup [])).push (emptyX C h.objs.size)).get? (h.objs.size + 1) = some (emptyX C h.objs.size) := by heap_get
  have self_ : (Value.ref C :: bm).contains (.ref C) = true := by simp
  have i1 := hi.keeps k
  have b1 := (hb (.ref (h.objs.size + 1))).keeps k
  unfold isInstance
  repeat (first | with_reducible refine wpAny_loadPart_at mine ?_ | (with_reducible refine wpAny_isSubtype_exc hC1 ?_; rw [self_]) | wp_step)
  show wpAny _ _ (typeLookup (.ref C) _) _ _ _
  refine i1.at ?_
  refine wpAny_holding (wpAny_bind (b1.at ?_))
  refine wpAny_bind (wpAny_call (codeAny_mono hq fun r s' z => ?_))
  rcases r with e | (v | _ | _ | _) <;> first | exact z | exact z.elim | skip
  obtain ⟨rfl, z⟩ := z
  first
    | exact wpAny_pure (wpAny_pure z)
    | (wp_walk; exact z)
theorem checkCallK {Q : Unit → Shared → Prop} (hC : h.get? C = some (excClassObj nm q C N bs bm hdct sn sub ab col dd k0 k1 k2 k3 k5 newId))
    (hq : Q () ⟨h, g, d, t, os⟩) : wpAny M A (checkBuiltinCall "type.__call__" ⟨[.ref C], kw⟩) Q E ⟨h, g, d, t, os⟩ := by
  have f3 := tc_sub
  have hT : (⟨h, g, d, t, os⟩ : Shared).TypeIs (.ref C) "type" := ⟨_, hC, rfl⟩
  simp only [checkBuiltinCall, tc_kind, tc_split]
  repeat (any_goals (first | assumption | with_reducible refine wpAny_loadPart_at hC ?_ | with_reducible refine wpAny_onRaise ?_ | with_reducible refine wpAny_map ?_ | wp_step))
theorem callK (F : ExcBaseFacts B newId initId bmB) (same : ∀ X : String, bm.contains (.type X) = bmB.contains (.type X)) {fI : Addr}
    (hC : h.get? C = some (excClassObj nm q C N bs bm hdct sn sub ab col dd k0 k1 k2 k3 k5 newId))
    (hi : W.Looks (model prog w) h (typeLookup (.ref C) "__init__") (some (.ref fI))) (hb : ∀ self, W.Looks (model prog w) h (bindSpecial (.ref fI) self) (.ref fI, [self]))
    (hq : codeAny (model prog w) (A.under (.builtin "type.__call__" ⟨[.ref C], kw⟩)) (.call (.ref fI) ⟨[.ref (h.objs.size + 1)], kw⟩) (W.InitBack (h.objs.size + 1) R)
      ⟨(h.push (W.kdv_tup [])).push (emptyX C h.objs.size), g, d, t, os⟩) :
    codeAny (model prog w) A (.call (.ref C) ⟨[], kw⟩) R ⟨h, g, d, t, os⟩ := by
  have f1 := tc_lookup
  have f2 := tc_bind (.ref C)
  have hTy : (⟨h, g, d, t, os⟩ : Shared).TypeIs (.ref C) "type" := ⟨_, hC, rfl⟩
  refine codeAny_of_tree ?_
  show wpAny _ _ (callAny (.ref C) _) _ _ _
  repeat (any_goals (first | assumption | with_reducible refine wpAny_loadPart_at hC ?_ | wp_step))
  refine ⟨rfl, ?_⟩
  refine codeAny_call_builtin_at (Code.quiet_builtin _ (by decide +kernel)) entry_typeCall (checkCallK hC (typeCallK F same hC hi hb ?_))
  refine codeAny_mono hq fun r s' z => ?_
  rcases r with e | (v | _ | _ | _) <;> exact z
end
end ExL

namespace ExL
open PySem PySem.W PySem.Calls PyProof.Rows PySem.HandSPX
section
variable {prog : Program} {w : World} {A : Around} {R : Result → Shared → Prop} {s : Shared} {K : Frag} {mg : Str → Option Value} {x : Str} {C f : Addr} {B newId initId : String} {bmB : List Value}
theorem runs_initGK (SF : StoreFacts B bmB "object.__setattr__" "object") (T : ClG K mg x C f bmB newId) {e t0 : Addr} {v : Value} (X : K.In s.heap) (lim : s.heap.NoLimit) (he : s.heap.get? e = some (emptyX C t0)) (room : A.depth < recursionLimit)
    (hq : ∀ h' tk dx, (∀ b o, b ≠ e → s.heap.get? b = some o → h'.get? b = some o) → h'.get? e = some { emptyX C t0 with dict := some dx } → s.heap.objs.size ≤ dx → dx ≠ e → h'.Ns1 dx (fun y => if y = "given" then some v else none) → R (.ok (.ret .none)) { s with heap := h', toks := tk }) :
    codeAny (model prog w) A (.call (.ref f) ⟨[.ref e], [("given", v)]⟩) R s := by
  obtain ⟨qq, oc, od, doc, pm, an, cdv, ct, osl, p1, p2, q1, q2, q3, q4, ho, hcd⟩ := T.fn
  obtain ⟨nm, q, N, bs, bm, sn, sub, ab, col, dd, k0, k1, k2, k3, k5, hC, hbm⟩ := T.cls
  have hcl : clsIn K C = some { name := nm, bases := bs, mro := .ref C :: bm, ns := N, qualname := q, hasDict := true, slotNames := sn, subclasses := sub, abstract := ab, collection := col, hasDel := false } := by unfold clsIn; rw [hC] <;> rfl
  have hov : excOver K C bmB = true := by
    unfold excOver
    rw [hcl]
    show (C == C && excTail bmB bm) = true
    rw [hbm, beq_self_eq_true]; rfl
  refine Att.call_fn (binds := [("self", .ref e), ("given", v)]) X lim ho hcd room (BindsTo.of_eq (by first | rfl | with_unfolding_all rfl)) (by first | rfl | decide | with_unfolding_all rfl) (fun s1 IC => ?_) rfl rfl rfl
  obtain ⟨h1, t1, rfl⟩ := IC.toInCall.same
  have kp : ∀ b o, s.heap.get? b = some o → h1.get? b = some o := IC.toInCall.keep
  have hn := IC.toInCall.ns
  have he1 := kp _ _ he
  have big : s.heap.objs.size < h1.objs.size := hn.lt
  have ld : ∀ {y : Str} {u : Value} {pos : Pos} {Q : Value → Shared → Prop} {A' : Around} {E : Value → Shared → Prop} {m : Str → Option Value}, h1.Ns s.heap.objs.size m → m y = some u → (envOfC qq scopeG s.heap.objs.size f cdv).kindOf y = some .local → (y == ("__debug__" : Str)) = false → Q u ⟨h1, s.gens, s.drawn, t1, s.os⟩ → wpAny (model prog w) A' (eval (.Name y pos) (envOfC qq scopeG s.heap.objs.size f cdv)) Q E ⟨h1, s.gens, s.drawn, t1, s.os⟩ := fun a1 a2 a3 a4 a5 => wpAny_Name (wpAny_loadName_local rfl a3 a1 a2 a5) a4
  show wpAny _ _ (execs _ _) _ _ _
  refine wpAny_execs_cons (plainObj_wpAny_Assign_Attribute ?_)
  refine ld (y := "given") hn (by first | rfl | with_unfolding_all rfl | kernel_rfl) (by first | rfl | with_unfolding_all rfl | kernel_rfl) (by decide) ?_
  refine ld (y := "self") (u := .ref e) hn (by first | rfl | with_unfolding_all rfl | kernel_rfl) (by first | rfl | with_unfolding_all rfl | kernel_rfl) (by decide) ?_
  refine set_plain (X.keeps kp) (ox := emptyX C t0) (od := none) ⟨he1, rfl, rfl, trivial⟩ T.sa ?_
  refine store_first SF (X.keeps kp) he1 hcl hov rfl T.tk fun h3 tk3 dx k3 dn dne hx3 hn3 => ?_
  show wpAny _ _ (execs _ _) _ _ _
  exact wpAny_execs_nil (hq h3 tk3 dx (fun b o hb z => k3 b o hb (kp b o z)) hx3 (Nat.le_of_lt (Nat.lt_of_lt_of_le big dn)) dne hn3)
theorem makesGK (SF : StoreFacts B bmB "object.__setattr__" "object") (FB : ExcBaseFacts B newId initId bmB) (T : ClG K mg x C f bmB newId) {v : Value} (X : K.In s.heap) (lim : s.heap.NoLimit) (room : A.depth + 1 < recursionLimit)
    (hq : ∀ h' tk e d, Made1 "given" s.heap h' e C d v → R (.ok (.ret (.ref e))) { s with heap := h', toks := tk }) : codeAny (model prog w) A (.call (.ref C) ⟨[], [("given", v)]⟩) R s := by
  obtain ⟨nm, q, N, bs, bm, sn, sub, ab, col, dd, k0, k1, k2, k3, k5, hC, hbm⟩ := T.cls
  obtain ⟨hp, g, dr, tk, os⟩ := s
  have kp : ∀ b o, hp.get? b = some o → ((hp.push (kdv_tup [])).push (emptyX C hp.objs.size)).get? b = some o := fun b o z => Heap.get?_push_of_some _ (Heap.get?_push_of_some _ z)
  have at_ : ((hp.push (kdv_tup [])).push (emptyX C hp.objs.size)).get? (hp.objs.size + 1) = some (emptyX C hp.objs.size) := by heap_get
  refine callK FB (fun Y => excTail_contains Y bm hbm) (X _ _ hC) (looks_findIn X T.it) (fun self => bind_fn X self T.ty) ?_
  refine runs_initGK (s := ⟨(hp.push (kdv_tup [])).push (emptyX C hp.objs.size), g, dr, tk, os⟩) SF T (X.keeps kp) (lim.keeps kp) at_ room fun h' tk' dx k' hx dn dne hns => ?_
  have old : ∀ b o, hp.get? b = some o → h'.get? b = some o := fun b o z => k' b o (Nat.ne_of_lt (Nat.lt_succ_of_lt (Heap.lt_size z))) (kp b o z)
  have big : hp.objs.size + 1 + 1 ≤ dx := by
    have z := dn
    first
      | exact z
      | (rw [Heap.size_push, Heap.size_push] at z; exact z)
  exact ⟨rfl, hq h' tk' (hp.objs.size + 1) dx ⟨old, Nat.le_succ _, ⟨_, _, hx, rfl, rfl, rfl, rfl⟩, by show hp.objs.size ≤ dx; omega, dne, hns⟩⟩
theorem runs_initIK (SF : StoreFacts B bmB "object.__setattr__" "object") (T : ClI K mg x C f bmB newId) {e t0 : Addr} {v : Value} (X : K.In s.heap) (lim : s.heap.NoLimit) (he : s.heap.get? e = some (emptyX C t0)) (room : A.depth < recursionLimit)
    (hq : ∀ h' tk dx, (∀ b o, b ≠ e → s.heap.get? b = some o → h'.get? b = some o) → h'.get? e = some { emptyX C t0 with dict := some dx } → s.heap.objs.size ≤ dx → dx ≠ e → h'.Ns1 dx (fun y => if y = "index" then some v else none) → R (.ok (.ret .none)) { s with heap := h', toks := tk }) :
    codeAny (model prog w) A (.call (.ref f) ⟨[.ref e], [("index", v)]⟩) R s := by
  obtain ⟨qq, oc, od, doc, pm, an, cdv, ct, osl, p1, p2, q1, q2, q3, q4, ho, hcd⟩ := T.fn
  obtain ⟨nm, q, N, bs, bm, sn, sub, ab, col, dd, k0, k1, k2, k3, k5, hC, hbm⟩ := T.cls
  have hcl : clsIn K C = some { name := nm, bases := bs, mro := .ref C :: bm, ns := N, qualname := q, hasDict := true, slotNames := sn, subclasses := sub, abstract := ab, collection := col, hasDel := false } := by unfold clsIn; rw [hC] <;> rfl
  have hov : excOver K C bmB = true := by
    unfold excOver
    rw [hcl]
    show (C == C && excTail bmB bm) = true
    rw [hbm, beq_self_eq_true]; rfl
  refine Att.call_fn (binds := [("self", .ref e), ("index", v)]) X lim ho hcd room (BindsTo.of_eq (by first | rfl | with_unfolding_all rfl)) (by first | rfl | decide | with_unfolding_all rfl) (fun s1 IC => ?_) rfl rfl rfl
  obtain ⟨h1, t1, rfl⟩ := IC.toInCall.same
  have kp : ∀ b o, s.heap.get? b = some o → h1.get? b = some o := IC.toInCall.keep
  have hn := IC.toInCall.ns
  have he1 := kp _ _ he
  have big : s.heap.objs.size < h1.objs.size := hn.lt
  have ld : ∀ {y : Str} {u : Value} {pos : Pos} {Q : Value → Shared → Prop} {A' : Around} {E : Value → Shared → Prop} {m : Str → Option Value}, h1.Ns s.heap.objs.size m → m y = some u → (envOfC qq scopeI s.heap.objs.size f cdv).kindOf y = some .local → (y == ("__debug__" : Str)) = false → Q u ⟨h1, s.gens, s.drawn, t1, s.os⟩ → wpAny (model prog w) A' (eval (.Name y pos) (envOfC qq scopeI s.heap.objs.size f cdv)) Q E ⟨h1, s.gens, s.drawn, t1, s.os⟩ := fun a1 a2 a3 a4 a5 => wpAny_Name (wpAny_loadName_local rfl a3 a1 a2 a5) a4
  show wpAny _ _ (execs _ _) _ _ _
  refine wpAny_execs_cons (plainObj_wpAny_Assign_Attribute ?_)
  refine ld (y := "index") hn (by first | rfl | with_unfolding_all rfl | kernel_rfl) (by first | rfl | with_unfolding_all rfl | kernel_rfl) (by decide) ?_
  refine ld (y := "self") (u := .ref e) hn (by first | rfl | with_unfolding_all rfl | kernel_rfl) (by first | rfl | with_unfolding_all rfl | kernel_rfl) (by decide) ?_
  refine set_plain (X.keeps kp) (ox := emptyX C t0) (od := none) ⟨he1, rfl, rfl, trivial⟩ T.sa ?_
  refine store_first SF (X.keeps kp) he1 hcl hov rfl T.tk fun h3 tk3 dx k3 dn dne hx3 hn3 => ?_
  show wpAny _ _ (execs _ _) _ _ _
  exact wpAny_execs_nil (hq h3 tk3 dx (fun b o hb z => k3 b o hb (kp b o z)) hx3 (Nat.le_of_lt (Nat.lt_of_lt_of_le big dn)) dne hn3)
theorem makesIK (SF : StoreFacts B bmB "object.__setattr__" "object") (FB : ExcBaseFacts B newId initId bmB) (T : ClI K mg x C f bmB newId) {v : Value} (X : K.In s.heap) (lim : s.heap.NoLimit) (room : A.depth + 1 < recursionLimit)
    (hq : ∀ h' tk e d, Made1 "index" s.heap h' e C d v → R (.ok (.ret (.ref e))) { s with heap := h', toks := tk }) : codeAny (model prog w) A (.call (.ref C) ⟨[], [("index", v)]⟩) R s := by
  obtain ⟨nm, q, N, bs, bm, sn, sub, ab, col, dd, k0, k1, k2, k3, k5, hC, hbm⟩ := T.cls
  obtain ⟨hp, g, dr, tk, os⟩ := s
  have kp : ∀ b o, hp.get? b = some o → ((hp.push (kdv_tup [])).push (emptyX C hp.objs.size)).get? b = some o := fun b o z => Heap.get?_push_of_some _ (Heap.get?_push_of_some _ z)
  have at_ : ((hp.push (kdv_tup [])).push (emptyX C hp.objs.size)).get? (hp.objs.size + 1) = some (emptyX C hp.objs.size) := by heap_get
  refine callK FB (fun Y => excTail_contains Y bm hbm) (X _ _ hC) (looks_findIn X T.it) (fun self => bind_fn X self T.ty) ?_
  refine runs_initIK (s := ⟨(hp.push (kdv_tup [])).push (emptyX C hp.objs.size), g, dr, tk, os⟩) SF T (X.keeps kp) (lim.keeps kp) at_ room fun h' tk' dx k' hx dn dne hns => ?_
  have old : ∀ b o, hp.get? b = some o → h'.get? b = some o := fun b o z => k' b o (Nat.ne_of_lt (Nat.lt_succ_of_lt (Heap.lt_size z))) (kp b o z)
  have big : hp.objs.size + 1 + 1 ≤ dx := by
    have z := dn
    first
      | exact z
      | (rw [Heap.size_push, Heap.size_push] at z; exact z)
  exact ⟨rfl, hq h' tk' (hp.objs.size + 1) dx ⟨old, Nat.le_succ _, ⟨_, _, hx, rfl, rfl, rfl, rfl⟩, by show hp.objs.size ≤ dx; omega, dne, hns⟩⟩
end
end ExL
namespace ExL
open PySem PySem.Spec PyProof.Rows L2
section
variable {X : Cx} {C f : Addr} {x : Str} {B newId initId : String} {bmB : List Value}
/-- what makes an exception gives it as a value, tracked -/
theorem pe_mk {e : Expr} {t : L2.St → Hp → XK → Prop} (he : PMk X e t) : PE X e (fun σ H Q => t σ H fun cls d H1 => ∀ a, H1 a = none → Q (.ref a) (upd H1 a (DL.XO cls d a))) := by
  refine ⟨fun pins s σ H Q I h => ?_⟩
  refine wpAny_mono (he pins s σ H _ I h) (fun u s1 hu => ?_) fun _ _ x => x
  obtain ⟨a, oe, vs, sI, H', cls, d, rfl, J, kp, hne, ha, hz, hd, h1, na, os, bare, r, q⟩ := hu
  have J2 := J.laidN (h' := s1.heap) (t' := sI.toks) kp hne na (DL.XO.ok (od := d) (cls := cls) ha hz hd)
  exact ⟨.ref a, _, ⟨J2.ok, os.trans J2.os, bare, J2.base, J2.loc, J2.cell, J2.free, J2.freeC, J2.pin, J2.hok, J2.len⟩, rfl, q a na⟩
theorem ep_made {nm : Str} {v : V} {u : Value} {pins : List (Addr × Obj)} {σ : L2.St} {H : Hp} {s : Shared} {h' : Heap} {tk : Nat} {e d : Addr} {Q : VK} (I : Inv X pins σ H s) (M : Made1 nm s.heap h' e C d u) (ru : RelV v u)
    (q : ∀ d, H d = none → ∀ a, upd H d (.xd [(nm, v)]) a = none → Q (.ref a) (upd (upd H d (.xd [(nm, v)])) a (DL.XO (.ref C) (some d) a))) : EP X pins σ Q (.ref e) { s with heap := h', toks := tk } := by
  obtain ⟨hp, g, dr, tk0, os⟩ := s
  obtain ⟨oe, fv, hoe, hc, hd, hdat, h1⟩ := M.obj
  obtain ⟨G', g1, g2⟩ := restrict h' fun b => decide (b ≠ e)
  have gk : ∀ b, b ≠ e → G'.get? b = h'.get? b := fun b hb => g1 b (decide_eq_true hb)
  have ge : G'.get? e = none := g2 e (by simp)
  have old : ∀ b o, hp.get? b = some o → G'.get? b = some o := fun b o z => (gk b (Nat.ne_of_lt (Nat.lt_of_lt_of_le (Heap.lt_size z) M.new))).trans (M.keep b o z)
  have ob : ObjOk X.prog X.w (upd H d (.xd [(nm, v)])) G' d (.xd [(nm, v)]) := ⟨_, M.ns.at (fun o z => (gk d M.dne).trans z), fun y => rel_one ru y⟩
  have J : Inv X pins σ (upd H d (.xd [(nm, v)])) ⟨G', g, dr, tk, os⟩ := I.laid (t' := tk) old M.dbig ob
  have back : ∀ b o, G'.get? b = some o → h'.get? b = some o := fun b o z => by
    by_cases hb : b = e
    · rw [hb, ge] at z; cases z
    · exact (gk b hb).symm.trans z
  have na : upd H d (.xd [(nm, v)]) e = none := by
    rw [upd_ne (Ne.symm M.dne)]
    exact I.hok.fresh M.new
  have J2 := J.laidN (h' := h') (t' := tk) back ge na (DL.XO.ok (od := some d) (cls := .ref C) hoe ⟨hc, hd⟩ hdat)
  exact ⟨.ref e, _, J2, rfl, q d (I.hok.fresh M.dbig) e na⟩
theorem run_kwG {k : Nat} {v : V} {u : Value} {pins : List (Addr × Obj)} {σ : L2.St} {H : Hp} {s : Shared} {Q : VK} (SF : StoreFacts B bmB "object.__setattr__" "object") (FB : ExcBaseFacts B newId initId bmB) (T : ClG X.K X.mg x C f bmB newId) (hr : Room k X.A) (I : Inv X pins σ H s) (ru : RelV v u)
    (q : ∀ d, H d = none → ∀ a, upd H d (.xd [(("given" : Str), v)]) a = none → Q (.ref a) (upd (upd H d (.xd [(("given" : Str), v)])) a (DL.XO (.ref C) (some d) a))) : wpAny (model X.prog X.w) X.A (call (.ref C) [] [(("given" : Str), u)]) (EP X pins σ Q) X.xe s := by
  have lim := I.nolimit
  exact wpAny_call (makesGK SF FB T I.kIn lim (by have := hr.dp; omega) fun h' tk' e d M => ep_made I M ru q)
theorem run_kwI {k : Nat} {v : V} {u : Value} {pins : List (Addr × Obj)} {σ : L2.St} {H : Hp} {s : Shared} {Q : VK} (SF : StoreFacts B bmB "object.__setattr__" "object") (FB : ExcBaseFacts B newId initId bmB) (T : ClI X.K X.mg x C f bmB newId) (hr : Room k X.A) (I : Inv X pins σ H s) (ru : RelV v u)
    (q : ∀ d, H d = none → ∀ a, upd H d (.xd [(("index" : Str), v)]) a = none → Q (.ref a) (upd (upd H d (.xd [(("index" : Str), v)])) a (DL.XO (.ref C) (some d) a))) : wpAny (model X.prog X.w) X.A (call (.ref C) [] [(("index" : Str), u)]) (EP X pins σ Q) X.xe s := by
  have lim := I.nolimit
  exact wpAny_call (makesIK SF FB T I.kIn lim (by have := hr.dp; omega) fun h' tk' e d M => ep_made I M ru q)
/-- X(), a class without an own __init__ -/
theorem pe_mk0 {p pos : Pos} (F : ExcBaseFacts B newId initId bmB) (q : PySem.W.excIn X.K C bmB newId = true) (gC : X.mg x = some (.ref C)) (kC : PySem.W.keepIn X.K (.ref C) = true) (hg : Gl X x := by rfl) (hdb : (x == ("__debug__" : Str)) = false := by decide) :
    PE X (.Call (.Name x p) [] [] pos) (fun σ H Q => ∀ a, H a = none → Q (.ref a) (upd H a (DL.XO (.ref C) none a))) := by
  refine ⟨fun pins s σ H Q I h => ?_⟩
  refine wpAny_Call_Name_kw (ld_glob I hg gC ?_ hdb)
  refine PySem.W.callWith_K0 I.kIn kC ?_
  obtain ⟨bm, N, nm, qn, bs, hdct, sn, sub, ab, col, dd, k0, k1, k2, k3, k5, mN, hC, hN, hni, T⟩ := exc_obj I.kIn q
  refine wpAny_call_exc_subT F T hC hN hni (fun h' a hm => ?_) (Nat.zero_le _)
  have hn : H a = none := I.hok.gone hm.new
  obtain ⟨t, ht, _, _⟩ := hm.there
  exact ⟨.ref a, upd H a (DL.XO (.ref C) none a), I.laidN hm.keeps hm.new hn (DL.XO.ok ht ⟨rfl, rfl⟩ rfl), rfl, h a hn⟩
end
end ExL
namespace DL
open PySem L2 PyProof.Rows
section
variable {G : Gm} {w w1 : Wd} {H H1 : Hp} {c : Nat}
/-- a new exception with one value: what it is over data -/
theorem exc_new {nm : Str} {d : D} {v : V} {dx a : Addr} (l1 : Le w H w1 H1) (ok1 : Ok w1 H1) (rv : Rep G w1 d v) (hf : G.fld c = [nm]) (hd : H1 dx = none) (ha : upd H1 dx (.xd [(nm, v)]) a = none) :
    ∃ w3, Le w H w3 (upd (upd H1 dx (.xd [(nm, v)])) a (XO (.ref (G.cls c)) (some dx) a)) ∧ Ok w3 (upd (upd H1 dx (.xd [(nm, v)])) a (XO (.ref (G.cls c)) (some dx) a)) ∧ Rep G w3 (.exc c [d]) (.ref a) := by
  have none_of : ∀ {w' H'} {b : Addr}, Le w H w' H' → H' b = none → H b = none := fun {w' H'} {b} le z => by
    cases y : H b with
    | none => rfl
    | some o => exact absurd z (le.dom b (by rw [y]; exact fun y => by cases y))
  have n1 := none_of l1 hd
  have hn1 := ok1.none_hd hd
  have l2 := (l1.trans (Le.new (o := .xd [(nm, v)]) hd)).frz hn1 n1
  have ok2 := (ok1.new (o := .xd [(nm, v)]) hd).frz (ok1.none_jr hd)
  have n2 := none_of l2 ha
  have hn2 := ok2.none_hd ha
  have l3 := (l2.trans (Le.new (o := XO (.ref (G.cls c)) (some dx) a) ha)).frz hn2 n2
  have ok3 := (ok2.new (o := XO (.ref (G.cls c)) (some dx) a) ha).frz (ok2.none_jr ha)
  refine ⟨_, l3, ok3, ?_⟩
  have ne : dx ≠ a := fun z => by
    rw [z, upd_same] at ha
    cases ha
  unfold Rep
  refine ⟨a, _, some dx, [v], rfl, by rw [frz_at, upd_same], XO.at, Reps.cons ((rv.mono (.frz hn1)).mono (.frz hn2)) Reps.nil, .inr ⟨dx, nm, v, rfl, rfl, hf, ?_⟩⟩
  rw [frz_ne ne, frz_at, upd_same]
theorem exc_new0 {a : Addr} (l1 : Le w H w1 H1) (ok1 : Ok w1 H1) (ha : H1 a = none) :
    ∃ w3, Le w H w3 (upd H1 a (XO (.ref (G.cls c)) none a)) ∧ Ok w3 (upd H1 a (XO (.ref (G.cls c)) none a)) ∧ Rep G w3 (.exc c []) (.ref a) := by
  have n1 : H a = none := by
    cases y : H a with
    | none => rfl
    | some o => exact absurd ha (l1.dom a (by rw [y]; exact fun y => by cases y))
  have hn1 := ok1.none_hd ha
  refine ⟨_, (l1.trans (Le.new (o := XO (.ref (G.cls c)) none a) ha)).frz hn1 n1, (ok1.new (o := XO (.ref (G.cls c)) none a) ha).frz (ok1.none_jr ha), ?_⟩
  unfold Rep
  exact ⟨a, _, none, [], rfl, by rw [frz_at, upd_same], XO.at, Reps.nil, .inl ⟨rfl, rfl⟩⟩
end
section
variable {X : Cx} {G : Gm} {E : XK} {e : Expr} {pos p : Pos} {c k : Nat} {x nm : Str} {A : FA} {F : FK} {kws : List Keyword} {B newId initId : String} {bmB : List Value} {f : Addr}
def fMk1 (c : Nat) (A : FA) : FE := fun r Q EX => A r (fun ds => ∃ d, ds = [d] ∧ Q (.exc c [d])) EX
theorem ce_mk1 (he : PMk X e (ExL.tMk1 (G.cls c) nm (taD G E A))) (hf : G.fld c = [nm]) : PE X e (tD G E (fMk1 c A)) := (ExL.pe_mk he).weak fun s H Q ⟨w0, H0, r, w, QD, EX, fr, lk, f, kk⟩ =>
  ⟨w0, H0, r, w, _, EX, fr, lk, f, fun ds vs w1 H1 l1 ok1 rs q1 => by
    obtain ⟨d, rfl, q⟩ := q1
    obtain ⟨v, vr, rfl, rv, rn⟩ := rs.of_cons
    rw [rn.of_nil]
    refine ⟨v, rfl, fun dx hdx a ha => ?_⟩
    obtain ⟨w3, l3, ok3, r3⟩ := exc_new (c := c) l1 ok1 rv hf hdx ha
    exact kk (.exc c [d]) (.ref a) w3 _ l3 ok3 r3 q⟩
def fMkK (c : Nat) (F : FK) : FE := fun r Q EX => F r (fun ds es => ds = [] ∧ ∃ d, es = [d] ∧ Q (.exc c [d])) EX
theorem ce_mkG (SF : StoreFacts B bmB "object.__setattr__" "object") (FB : ExcBaseFacts B newId initId bmB) (T : ExL.ClG X.K X.mg x (G.cls c) f bmB newId) (hr : Room k X.A) (hf : G.fld c = [("given" : Str)])
    (hc : CW X [] kws ["given"] (tkD G E F)) (hg : Gl X x := by rfl) (hdb : (x == ("__debug__" : Str)) = false := by decide) : PE X (.Call (.Name x p) [] kws pos) (tD G E (fMkK c F)) := ⟨fun pins s σ H Q I h => by
  obtain ⟨w0, H0, r, w, QD, EX, fr, lk, f0, kk⟩ := h
  refine wpAny_Call_Name_kw (ld_glob I hg T.gl ?_ hdb)
  refine hc.run pos pins s σ H (.ref (G.cls c)) [] _ _ T.kp I ⟨w0, H0, r, w, _, EX, fr, lk, f0, fun ds es vs zs w1 H1 l1 ok1 r1 r2 q1 => (⟨w1, ds, es, l1, ok1, r1, r2, q1⟩ : ∃ w1 ds es, Le w H w1 H1 ∧ Ok w1 H1 ∧ Reps G w1 ds vs ∧ Reps G w1 es zs ∧ ds = [] ∧ ∃ d, es = [d] ∧ QD (.exc c [d]))⟩ ?_
  rintro us ws vs zs s' H' I' rv rz ⟨w1, ds, es, l1, ok1, r1, r2, rfl, d, rfl, q⟩
  have e1 := r1.of_nil
  subst e1
  obtain ⟨v, vr, rfl, rd, rn⟩ := r2.of_cons
  have e2 := rn.of_nil
  subst e2
  obtain ⟨u, rfl, ru⟩ := vals1 rz
  cases rv
  exact ExL.run_kwG SF FB T hr I' ru fun dx hdx a ha => by
    obtain ⟨w3, l3, ok3, r3⟩ := exc_new (c := c) l1 ok1 rd hf hdx ha
    exact kk (.exc c [d]) (.ref a) w3 _ l3 ok3 r3 q⟩
theorem ce_mkI (SF : StoreFacts B bmB "object.__setattr__" "object") (FB : ExcBaseFacts B newId initId bmB) (T : ExL.ClI X.K X.mg x (G.cls c) f bmB newId) (hr : Room k X.A) (hf : G.fld c = [("index" : Str)])
    (hc : CW X [] kws ["index"] (tkD G E F)) (hg : Gl X x := by rfl) (hdb : (x == ("__debug__" : Str)) = false := by decide) : PE X (.Call (.Name x p) [] kws pos) (tD G E (fMkK c F)) := ⟨fun pins s σ H Q I h => by
  obtain ⟨w0, H0, r, w, QD, EX, fr, lk, f0, kk⟩ := h
  refine wpAny_Call_Name_kw (ld_glob I hg T.gl ?_ hdb)
  refine hc.run pos pins s σ H (.ref (G.cls c)) [] _ _ T.kp I ⟨w0, H0, r, w, _, EX, fr, lk, f0, fun ds es vs zs w1 H1 l1 ok1 r1 r2 q1 => (⟨w1, ds, es, l1, ok1, r1, r2, q1⟩ : ∃ w1 ds es, Le w H w1 H1 ∧ Ok w1 H1 ∧ Reps G w1 ds vs ∧ Reps G w1 es zs ∧ ds = [] ∧ ∃ d, es = [d] ∧ QD (.exc c [d]))⟩ ?_
  rintro us ws vs zs s' H' I' rv rz ⟨w1, ds, es, l1, ok1, r1, r2, rfl, d, rfl, q⟩
  have e1 := r1.of_nil
  subst e1
  obtain ⟨v, vr, rfl, rd, rn⟩ := r2.of_cons
  have e2 := rn.of_nil
  subst e2
  obtain ⟨u, rfl, ru⟩ := vals1 rz
  cases rv
  exact ExL.run_kwI SF FB T hr I' ru fun dx hdx a ha => by
    obtain ⟨w3, l3, ok3, r3⟩ := exc_new (c := c) l1 ok1 rd hf hdx ha
    exact kk (.exc c [d]) (.ref a) w3 _ l3 ok3 r3 q⟩
def fMk0 (c : Nat) : FE := fun _ Q _ => Q (.exc c [])
theorem ce_mk0 (FB : ExcBaseFacts B newId initId bmB) (q : PySem.W.excIn X.K (G.cls c) bmB newId = true) (gC : X.mg x = some (.ref (G.cls c))) (kC : PySem.W.keepIn X.K (.ref (G.cls c)) = true) (hg : Gl X x := by rfl) (hdb : (x == ("__debug__" : Str)) = false := by decide) :
    PE X (.Call (.Name x p) [] [] pos) (tD G E (fMk0 c)) := (ExL.pe_mk0 FB q gC kC hg hdb).weak fun s H Q ⟨w0, H0, r, w, QD, EX, fr, lk, f, kk⟩ => fun a ha => by
  obtain ⟨w3, l3, ok3, r3⟩ := exc_new0 (G := G) (c := c) (.refl w H) fr.ok ha
  exact kk (.exc c []) (.ref a) w3 _ l3 ok3 r3 f
/-! ### runs -/
def xMk1 (c : Nat) (a : Env → R (List D)) (r : Env) : R D := (a r).bind fun ds => match ds with
  | [d] => .ok (.exc c [d])
  | _ => .no
theorem f_mk1 {a : Env → R (List D)} (ha : CF A a) : CF (fMk1 c A) (xMk1 c a) := fun r r' Q EX s h => ha r r' _ EX s ((hold_bind h).imp fun ds h1 => by
  match ds, h1 with
  | [d], h1 => exact ⟨d, rfl, h1⟩)
def xMkK (c : Nat) (b : Env → R (List D × List D)) (r : Env) : R D := (b r).bind fun q => match q with
  | ([], [d]) => .ok (.exc c [d])
  | _ => .no
theorem f_mkK {b : Env → R (List D × List D)} (hb : CK F b) : CF (fMkK c F) (xMkK c b) := fun r r' Q EX s h => hb r r' _ EX s ((hold_bind h).imp fun q h1 => by
  match q, h1 with
  | ([], [d]), h1 => exact ⟨rfl, d, rfl, h1⟩)
def xMk0 (c : Nat) (_ : Env) : R D := .ok (.exc c [])
theorem f_mk0 : CF (fMk0 c) (xMk0 c) := fun r r' Q EX s h => h
end
/-! ### tables of classes as lists -/
def AllP (P : Nat × Bool → Prop) : List (Nat × Bool) → Prop
  | [] => True
  | x :: t => P x ∧ AllP P t
theorem AllP.get {P : Nat × Bool → Prop} : ∀ {l : List (Nat × Bool)}, AllP P l → ∀ {c : Nat} {b : Bool}, l.lookup c = some b → P (c, b)
  | [], _, _, _, h => by cases h
  | (c1, b1) :: t, ⟨h1, h2⟩, c, b, h => by
    rw [List.lookup_cons] at h
    by_cases e : c = c1
    · subst e
      rw [beq_self_eq_true] at h
      cases h
      exact h1
    · rw [show (c == c1) = false by simpa using e] at h
      exact AllP.get h2 h
/-- many tests of one class -/
theorem kit_of {K : PySem.W.Frag} {C : Addr} {l : List (Value × Bool)} (h : (l.all fun p => PySem.W.kitOne K (.ref C) p.1 == some p.2) = true) {v : Value} {b : Bool} (i : Nat) (e : l[i]? = some (v, b)) : PySem.W.kitOne K (.ref C) v = some b :=
  beq_iff_eq.mp (List.all_eq_true.mp h (v, b) (List.mem_of_getElem? e))
end DL
/-! Plain law, part 1: settings of parts, neighbours, peaks. No program in sight. -/
namespace TP
open DL
abbrev Tx := List Nat
/-! ### settings of a part -/
def setsF (found : List Tx) : List Tx → List Tx
  | [] => found
  | p :: ps => setsF (found.flatMap fun b => p.map fun c => b ++ [c]) ps
def sets (ps : List Tx) : List Tx := setsF [[]] ps
def fits : Tx → List Tx → Prop
  | [], [] => True
  | c :: s, p :: ps => c ∈ p ∧ fits s ps
  | _, _ => False
theorem mem_setsF : ∀ {ps : List Tx} {found : List Tx} {s : Tx}, s ∈ setsF found ps ↔ ∃ b ∈ found, ∃ t, s = b ++ t ∧ fits t ps
  | [], found, s => by
    unfold setsF
    constructor
    · intro h; exact ⟨s, h, [], by simp, trivial⟩
    · rintro ⟨b, hb, t, e, f⟩
      cases t with
      | nil => rw [e, List.append_nil]; exact hb
      | cons _ _ => exact f.elim
  | p :: ps, found, s => by
    unfold setsF
    rw [mem_setsF]
    constructor
    · rintro ⟨b, hb, t, e, f⟩
      obtain ⟨b0, hb0, h⟩ := List.mem_flatMap.mp hb
      obtain ⟨c, hc, rfl⟩ := List.mem_map.mp h
      exact ⟨b0, hb0, c :: t, by rw [e]; simp, hc, f⟩
    · rintro ⟨b, hb, t, e, f⟩
      cases t with
      | nil => exact f.elim
      | cons c t =>
        exact ⟨b ++ [c], List.mem_flatMap.mpr ⟨b, hb, List.mem_map.mpr ⟨c, f.1, rfl⟩⟩, t, by rw [e]; simp, f.2⟩
theorem mem_sets {ps : List Tx} {s : Tx} : s ∈ sets ps ↔ fits s ps := by
  unfold sets
  rw [mem_setsF]
  constructor
  · rintro ⟨b, hb, t, e, f⟩
    rw [List.mem_singleton.mp hb] at e
    rw [e]; exact f
  · intro f; exact ⟨[], List.mem_singleton.mpr rfl, s, rfl, f⟩
theorem fits.len : ∀ {s : Tx} {ps : List Tx}, fits s ps → s.length = ps.length
  | [], [], _ => rfl
  | c :: s, p :: ps, h => by simp [fits.len h.2]
  | [], _ :: _, h => h.elim
  | _ :: _, [], h => h.elim
theorem fits.at : ∀ {s : Tx} {ps : List Tx}, fits s ps → ∀ {k : Nat}, k < ps.length → s.getD k 0 ∈ ps.getD k []
  | [], [], _, k, h => by simp at h
  | c :: s, p :: ps, h, 0, _ => h.1
  | c :: s, p :: ps, h, k + 1, hk => by
    have := fits.at h.2 (k := k) (by simpa using hk)
    simpa using this
  | [], _ :: _, h, _, _ => h.elim
  | _ :: _, [], h, _, _ => h.elim
theorem fits_of : ∀ {s : Tx} {ps : List Tx}, s.length = ps.length → (∀ k, k < ps.length → s.getD k 0 ∈ ps.getD k []) → fits s ps
  | [], [], _, _ => trivial
  | c :: s, p :: ps, hl, h => ⟨h 0 (by simp), fits_of (by simpa using hl) fun k hk => by simpa using h (k + 1) (by simpa using hk)⟩
  | [], _ :: _, hl, _ => by simp at hl
  | _ :: _, [], hl, _ => by simp at hl
theorem len_setsF : ∀ {ps : List Tx} {found : List Tx}, (setsF found ps).length = found.length * (ps.map List.length).prod
  | [], found => by simp [setsF]
  | p :: ps, found => by
    unfold setsF
    rw [len_setsF]
    have : (found.flatMap fun b => p.map fun c => b ++ [c]).length = found.length * p.length := by
      induction found with
      | nil => simp
      | cons b bs ih => simp [List.flatMap_cons, ih, Nat.add_mul]; omega
    rw [this, List.map_cons, List.prod_cons, Nat.mul_assoc]
theorem len_sets {ps : List Tx} : (sets ps).length = (ps.map List.length).prod := by
  unfold sets; rw [len_setsF]; simp

theorem prod3 : ∀ {p : List Tx} {n : Nat}, (∀ x ∈ p, x.length ≤ 3) → p.length ≤ n → (p.map List.length).prod ≤ 3 ^ n
  | [], n, _, _ => by simp; exact Nat.one_le_pow _ _ (by decide)
  | x :: p, 0, _, h => by simp at h
  | x :: p, n + 1, h, hl => by
    rw [List.map_cons, List.prod_cons, Nat.pow_succ, Nat.mul_comm (3 ^ n)]
    exact Nat.mul_le_mul (h x List.mem_cons_self) (prod3 (fun y hy => h y (List.mem_cons_of_mem _ hy)) (by simpa using hl))
/-- a part of up to five switches with up to three stands each -/
structure Small (p : List Tx) : Prop where
  len : p.length ≤ 5
  three : ∀ x ∈ p, x.length ≤ 3
theorem Small.sets {p : List Tx} (h : Small p) : (sets p).length ≤ 243 := by
  rw [len_sets]
  exact prod3 h.three h.len
theorem Small.pre {p q : List Tx} (h : Small (p ++ q)) : Small p := ⟨by have := h.len; rw [List.length_append] at this; omega, fun x hx => h.three x (List.mem_append_left _ hx)⟩
theorem fits.len5 {s : Tx} {p : List Tx} (h : fits s p) (hp : Small p) : s.length ≤ 5 := by rw [h.len]; exact hp.len
/-! ### neighbours -/
def turned (s : Tx) (k : Nat) (c : Tx) : Tx := s.take k ++ c ++ s.drop (k + 1)
def side (part : List Tx) (s : Tx) (k : Nat) : List Tx := ((part.getD k []).filter fun c => decide (c ≠ s.getD k 0)).map fun c => turned s k [c]
def besideRaw (part : List Tx) (s : Tx) : List Tx := (List.range part.length).flatMap fun k => side part s k
def beside (part : List Tx) (s : Tx) : List Tx := isort ltN (besideRaw part s)
theorem mem_beside {part : List Tx} {s e : Tx} : e ∈ beside part s ↔ ∃ k, k < part.length ∧ ∃ c, c ∈ part.getD k [] ∧ c ≠ s.getD k 0 ∧ e = turned s k [c] := by
  unfold beside
  rw [isort_perm.mem_iff]
  unfold besideRaw
  rw [List.mem_flatMap]
  constructor
  · rintro ⟨k, hk, h⟩
    unfold side at h
    obtain ⟨c, hc, rfl⟩ := List.mem_map.mp h
    obtain ⟨h1, h2⟩ := List.mem_filter.mp hc
    exact ⟨k, by simpa using hk, c, h1, of_decide_eq_true h2, rfl⟩
  · rintro ⟨k, hk, c, h1, h2, rfl⟩
    refine ⟨k, by simpa using hk, ?_⟩
    unfold side
    exact List.mem_map.mpr ⟨c, List.mem_filter.mpr ⟨h1, decide_eq_true h2⟩, rfl⟩
theorem turned_len {s : Tx} {k : Nat} {c : Nat} (h : k < s.length) : (turned s k [c]).length = s.length := by
  unfold turned
  simp
  omega
theorem turned_eq_set : ∀ {s : Tx} {k : Nat} {c : Nat}, k < s.length → turned s k [c] = s.set k c
  | [], k, c, h => by simp at h
  | x :: s, 0, c, h => by simp [turned]
  | x :: s, k + 1, c, h => by
    have ih := turned_eq_set (s := s) (k := k) (c := c) (by simpa using h)
    unfold turned at ih ⊢
    simp only [List.take_succ_cons, List.drop_succ_cons, List.set_cons_succ, List.cons_append]
    rw [ih]
theorem set_getD {s : Tx} {k j c : Nat} (h : k < s.length) : (s.set k c).getD j 0 = if j = k then c else s.getD j 0 := by
  rw [List.getD_eq_getElem?_getD, List.getElem?_set, List.getD_eq_getElem?_getD]
  by_cases e : j = k
  · subst e; simp [h]
  · rw [if_neg (fun z => e z.symm), if_neg e]
/-- in how many places two settings differ -/
def dif (e s : Tx) : Nat := ((List.range s.length).filter fun k => decide (e.getD k 0 ≠ s.getD k 0)).length
theorem ext_getD : ∀ {a b : Tx}, a.length = b.length → (∀ k, k < b.length → a.getD k 0 = b.getD k 0) → a = b
  | [], [], _, _ => rfl
  | x :: a, y :: b, hl, h => by
    have h0 := h 0 (by simp)
    have := ext_getD (a := a) (b := b) (by simpa using hl) fun k hk => by simpa using h (k + 1) (by simpa using hk)
    simp at h0
    rw [h0, this]
  | [], _ :: _, hl, _ => by simp at hl
  | _ :: _, [], hl, _ => by simp at hl
theorem filter_one {n : Nat} {p : Nat → Bool} : ((List.range n).filter p).length = 1 ↔ ∃ k, k < n ∧ p k = true ∧ ∀ j, j < n → p j = true → j = k := by
  constructor
  · intro h
    obtain ⟨k, hk⟩ := List.length_eq_one_iff.mp h
    have mk : k ∈ (List.range n).filter p := by rw [hk]; simp
    obtain ⟨h1, h2⟩ := List.mem_filter.mp mk
    refine ⟨k, by simpa using h1, h2, fun j hj hp => ?_⟩
    have : j ∈ (List.range n).filter p := List.mem_filter.mpr ⟨by simpa using hj, hp⟩
    rw [hk] at this
    exact List.mem_singleton.mp this
  · rintro ⟨k, hk, hp, hu⟩
    have hn : ((List.range n).filter p).Nodup := List.nodup_range.filter _
    have : ((List.range n).filter p).Perm [k] := by
      refine (List.perm_ext_iff_of_nodup hn (by simp)).mpr fun j => ?_
      rw [List.mem_filter, List.mem_singleton, List.mem_range]
      constructor
      · rintro ⟨a, b⟩; exact hu j a b
      · rintro rfl; exact ⟨hk, hp⟩
    rw [this.length_eq]; rfl
theorem dif_one {e s : Tx} (hl : e.length = s.length) : dif e s = 1 ↔ ∃ k, k < s.length ∧ e.getD k 0 ≠ s.getD k 0 ∧ e = turned s k [e.getD k 0] := by
  unfold dif
  rw [filter_one]
  constructor
  · rintro ⟨k, hk, h1, h2⟩
    refine ⟨k, hk, of_decide_eq_true h1, ?_⟩
    rw [turned_eq_set hk]
    refine ext_getD (by rw [List.length_set, hl]) fun j hj => ?_
    rw [List.length_set] at hj
    rw [set_getD hk]
    by_cases q : j = k
    · rw [if_pos q, q]
    · rw [if_neg q]
      exact Decidable.byContradiction fun z => q (h2 j hj (decide_eq_true z))
  · rintro ⟨k, hk, h1, h2⟩
    refine ⟨k, hk, decide_eq_true h1, fun j hj hp => ?_⟩
    have hp' := of_decide_eq_true hp
    refine Decidable.byContradiction fun q => hp' ?_
    rw [h2, turned_eq_set hk, set_getD hk, if_neg q]
/-- the neighbours in a part that the setting is in -/
theorem mem_beside_fits {part : List Tx} {s e : Tx} (hs : fits s part) : e ∈ beside part s ↔ fits e part ∧ dif e s = 1 := by
  have hl := hs.len
  rw [mem_beside]
  constructor
  · rintro ⟨k, hk, c, hc, hne, rfl⟩
    have hk' : k < s.length := by omega
    have el : (turned s k [c]).length = s.length := turned_len hk'
    have g : (turned s k [c]).getD k 0 = c := by rw [turned_eq_set hk', set_getD hk', if_pos rfl]
    refine ⟨fits_of (by omega) fun j hj => ?_, (dif_one el).mpr ⟨k, hk', by rw [g]; exact hne, by rw [g]⟩⟩
    rw [turned_eq_set hk', set_getD hk']
    by_cases q : j = k
    · rw [if_pos q, q]; exact hc
    · rw [if_neg q]; exact hs.at hj
  · rintro ⟨fe, d⟩
    obtain ⟨k, hk, h1, h2⟩ := (dif_one (by rw [fe.len, hl])).mp d
    exact ⟨k, by omega, e.getD k 0, fe.at (by omega), h1, h2⟩
/-! ### places in an order -/
/-- the place of a text -/
def idx (o : List Tx) (s : Tx) : Nat := o.idxOf s
theorem idx_lt {o : List Tx} {s : Tx} (h : s ∈ o) : idx o s < o.length := List.idxOf_lt_length_iff.mpr h
def near (w : List Tx) (s : Tx) : List Tx := (sets w).filter fun e => decide (dif e s = 1)
end TP
/-! Runs over typed data: texts as lists of signs, lists of texts. -/
namespace DL
open PySem L2 PyProof.Rows TP
def sx (l : Tx) : Str := ⟨⟨l⟩⟩
abbrev st (l : Tx) : D := .str (sx l)
def sts (xs : List Tx) : List D := xs.map st
theorem sl_eq : sizeLine = 16777216 := sizeLine_eq
theorem ltX_int {a b : Int} : ltX (.int a) (.int b) = some (.bl (decide (a < b))) := rfl
/-! ### comprehensions -/
section
variable {α β : Type}
end
theorem bind_ok {α β : Type} {a : α} {f : α → R β} : (R.ok a).bind f = f a := rfl
theorem iA_ok {a : List Sl → R D} {r : List Sl} {d : D} {ds : List D} (h : a r = .ok d) (h2 : seqD d = some ds) : iA a r = .ok ds := by
  unfold iA; rw [h]; show (match seqD d with
    | some ds => R.ok ds
    | none => R.no) = _
  rw [h2]
end DL
/-! Runs stepped through, goal by goal: W for statements, equations for expressions. -/
namespace DL
open PySem L2 PyProof.Rows TP
def RS.w : RS → DE → XP → Prop
  | .nx r, A, _ => A.nx r
  | .rt d, A, _ => A.rt d
  | .bk r, A, _ => A.bk r
  | .ct r, A, _ => A.ct r
  | .rn ds, A, _ => A.rn ds
  | .ex x, _, EX => EX x
  | .no, _, _ => False
@[irreducible] def W (c : List Sl → RS) (A : DE) (EX : XP) (r : List Sl) : Prop := (c r).w A EX
section
variable {A : DE} {EX : XP} {r : List Sl} {a b : List Sl → RS} {e e1 e2 : List Sl → R D} {i j : Nat}
theorem W_def {c : List Sl → RS} : W c A EX r = (c r).w A EX := by unfold W; rfl
theorem W_eq {c : List Sl → RS} {z : RS} (h : c r = z) (k : z.w A EX) : W c A EX r := by unfold W; rw [h]; exact k
theorem W_seq (h : W a { A with nx := fun r1 => W b A EX r1 } EX r) : W (ySeq a b) A EX r := by
  unfold W ySeq at *
  cases e : a r with
  | nx r1 => rw [e] at h; exact h
  | rt d => rw [e] at h; exact h
  | bk r1 => rw [e] at h; exact h
  | ct r1 => rw [e] at h; exact h
  | rn d => rw [e] at h; exact h
  | ex x => rw [e] at h; exact h
  | no => rw [e] at h; exact h
theorem W_next (h : A.nx r) : W yNext A EX r := W_eq (z := .nx r) rfl h
theorem W_ret {d : D} (h : e r = .ok d) (k : A.rt d) : W (yRet e) A EX r := W_eq (z := .rt d) (by unfold yRet; rw [h]; rfl) k
theorem W_set {d : D} (h : e r = .ok d) (k : A.nx (r.set i (.val d))) : W (ySet i e) A EX r := W_eq (z := .nx (r.set i (.val d))) (by unfold ySet; rw [h]; show frc d (fun d => RS.nx (r.set i (.val d))) = _; rw [frc_eq]) k
theorem W_if {t : List Sl → R Bool} {v : Bool} (h : t r = .ok v) (k1 : v = true → W a A EX r) (k2 : v = false → W b A EX r) : W (yIf t a b) A EX r := by
  unfold W yIf
  rw [h]
  show RS.w (if v = true then a r else b r) A EX
  cases v with
  | true => rw [if_pos rfl, ← W_def]; exact k1 rfl
  | false => rw [if_neg Bool.false_ne_true, ← W_def]; exact k2 rfl
/-- a walk: I holds behind each turn, of what has come -/
theorem forG_W {α : Type} {em : α → D} {g : D → List Sl → Option (List Sl)} (I : List α → List Sl → Prop) {ys : List α} :
    ∀ (xs pre : List α) (r : List Sl), pre ++ xs = ys → I pre r → (∀ p x q, ys = p ++ x :: q → ∀ r, I p r → ∃ r1, g (em x) r = some r1 ∧ W b { A with nx := I (p ++ [x]), ct := I (p ++ [x]), bk := A.nx } EX r1) → (∀ r', I ys r' → A.nx r') → (forG g b (xs.map em) r).w A EX
  | [], pre, r, e, hi, _, k => k r (by rw [← e, List.append_nil]; exact hi)
  | x :: xs, pre, r, e, hi, hb, k => by
    obtain ⟨r1, h1, h2⟩ := hb pre x xs e.symm r hi
    rw [List.map_cons]
    unfold forG
    rw [h1]
    dsimp only
    unfold W at h2
    have e2 : pre ++ [x] ++ xs = ys := by rw [← e]; simp
    cases q : b r1 with
    | nx r2 => rw [q] at h2; exact forG_W I xs (pre ++ [x]) r2 e2 h2 hb k
    | ct r2 => rw [q] at h2; exact forG_W I xs (pre ++ [x]) r2 e2 h2 hb k
    | bk r2 => rw [q] at h2; exact h2
    | rt d => rw [q] at h2; exact h2
    | rn d => rw [q] at h2; exact h2
    | ex x => rw [q] at h2; exact h2
    | no => rw [q] at h2; exact h2
theorem W_for {α : Type} {s : List Sl → R (List D)} {g : D → List Sl → Option (List Sl)} {em : α → D} {xs : List α} (I : List α → List Sl → Prop) (hs : s r = .ok (xs.map em)) (h0 : I [] r)
    (hb : ∀ p x q, xs = p ++ x :: q → ∀ r, I p r → ∃ r1, g (em x) r = some r1 ∧ W b { A with nx := I (p ++ [x]), ct := I (p ++ [x]), bk := A.nx } EX r1) (k : ∀ r', I xs r' → A.nx r') : W (yFor s g b) A EX r := by
  unfold W yFor
  rw [hs]
  exact forG_W I xs [] r rfl h0 hb k
theorem S_set {d : D} (h : e r = .ok d) (k : W b A EX (r.set i (.val d))) : W (ySeq (ySet i e) b) A EX r := W_seq (W_set h k)
/-- a test that is known not to hold, with nothing else -/
theorem S_skip {t : List Sl → R Bool} {c : List Sl → RS} (h : t r = .ok false) (k : W c A EX r) : W (ySeq (yIf t a yNext) c) A EX r := W_seq (W_if h (fun z => nomatch z) fun _ => W_next k)
/-- what a def answers -/
theorem cf_ok {N : List Str} {n : Nat} {c : List Sl → RS} {ds : List D} {v : D} (hl : ds.length = n) (h : W c { nx := fun _ => v = .non, rt := fun d => d = v } NoX (startD N ds)) : cfOf N n c ds = .ok v := by
  unfold cfOf
  rw [if_pos hl]
  unfold W at h
  cases q : c (startD N ds) with
  | nx r => rw [q] at h; show R.ok D.non = _; rw [show v = .non from h]
  | rt d => rw [q] at h; show R.ok d = _; rw [show d = v from h]
  | bk r => rw [q] at h; exact h.elim
  | ct r => rw [q] at h; exact h.elim
  | rn d => rw [q] at h; exact h.elim
  | ex x => rw [q] at h; exact h.elim
  | no => rw [q] at h; exact h.elim
/-! ### expressions -/
theorem E_2 {c : O2} {x y d : D} (h1 : e1 r = .ok x) (h2 : e2 r = .ok y) (h : c x y = some d) : x2 c e1 e2 r = .ok d := by unfold x2; rw [h1, bind_ok, h2, bind_ok, h]; rfl
theorem E_L {f : List Sl → R (List D)} {ds : List D} (h : f r = .ok ds) : xL f r = .ok (.lst ds) := by unfold xL; rw [h]; rfl
theorem E_cons {f : List Sl → R (List D)} {d : D} {ds : List D} (h : e r = .ok d) (h2 : f r = .ok ds) : xCons e f r = .ok (d :: ds) := by unfold xCons; rw [h, bind_ok, h2]; rfl
theorem E_nil : xNil r = .ok [] := rfl
theorem E_ca {α : Type} {c : List D → Option α} {f : List Sl → R (List D)} {ds : List D} {d : α} (h : f r = .ok ds) (h2 : c ds = some d) : xCa c f r = .ok d := by unfold xCa; rw [h, bind_ok, h2]; rfl
theorem E_lst {f : List Sl → R (List D)} {ds : List D} (h : f r = .ok ds) (h2 : ds.length ≤ 16777216) : xLst f r = .ok ds := by unfold xLst; rw [h, bind_ok, if_pos (by rw [sl_eq]; exact h2)]
theorem E_call {c : List D → R D} {f : List Sl → R (List D)} {ds : List D} {d : D} (h : f r = .ok ds) (h2 : c ds = .ok d) : xCall c f r = .ok d := by unfold xCall; rw [h, bind_ok, frcs_eq, h2]
theorem E_tb {b : Bool} (h : e r = .ok (.bl b)) : xTb e r = .ok b := by unfold xTb; rw [h]; rfl
theorem E_andT {t u : List Sl → R Bool} {b c : Bool} (h : t r = .ok b) (h2 : b = true → u r = .ok c) : xAndT t u r = .ok (b && c) := by
  unfold xAndT; rw [h, bind_ok]
  cases b with
  | false => rw [if_neg Bool.false_ne_true]; rfl
  | true => rw [if_pos rfl, h2 rfl]; rfl
end
/-! ### a drawing def's statement that draws nothing -/
def jk : Option D → Sl
  | none => .un
  | some d => .val d
def jo : Option (List D) → Sl
  | none => .un
  | some d => .own d
theorem adr_jo {x : Addr} {a : Option (List D)} : adr x (jo a) = jo a := by cases a <;> rfl
theorem adr_jk {x : Addr} {a : Option D} : adr x (jk a) = jk a := by cases a <;> rfl
theorem adr_val {x : Addr} {d : D} : adr x (.val d) = .val d := rfl
theorem adr_un {x : Addr} : adr x .un = .un := rfl
theorem adr_own {x : Addr} {d : List D} : adr x (.own d) = .own d := rfl
theorem CS.goW {F : FS} {c : List Sl → RS} (h : CS F c) {r : List Sl} (hr : r.map (adr 0) = r) {A : DE} {EX : XP} (hw : W c { nx := fun r1 => r1.map (adr 0) = r1 ∧ A.nx r1, rt := A.rt, bk := fun r1 => r1.map (adr 0) = r1 ∧ A.bk r1, ct := fun r1 => r1.map (adr 0) = r1 ∧ A.ct r1, rn := A.rn } EX r) : F A EX r := by
  refine h (x := 0) r r A EX hr.symm ?_
  rw [W_def] at hw
  cases q : c r with
  | nx r1 =>
    rw [q] at hw
    intro s hs
    rw [show s = r1.map (adr 0) from hs, hw.1]
    exact hw.2
  | bk r1 =>
    rw [q] at hw
    intro s hs
    rw [show s = r1.map (adr 0) from hs, hw.1]
    exact hw.2
  | ct r1 =>
    rw [q] at hw
    intro s hs
    rw [show s = r1.map (adr 0) from hs, hw.1]
    exact hw.2
  | rt d => rw [q] at hw; exact hw
  | rn d => rw [q] at hw; exact hw
  | ex x => rw [q] at hw; exact hw
  | no => rw [q] at hw; exact hw
/-- a test that draws nothing -/
theorem CF.go {α : Type} {F : List Sl → (α → Prop) → XP → Prop} {c : List Sl → R α} (h : CF F c) {r : List Sl} (hr : r.map (adr 0) = r) {d : α} (e : c r = .ok d) {Q : α → Prop} {EX : XP} (q : Q d) : F r Q EX := h (x := 0) r r Q EX hr.symm (by rw [e]; exact q)
end DL
/-! Boards, rankings as data; what is shown of texts. -/
namespace DL
open PySem L2 PyProof.Rows TP
def standsOf (z : Int) : Tx := if z = 2 then [48, 49] else [48, 49, 50]
def full (s : List Int) : List Tx := s.map standsOf
def bd (s : List Int) : D := .obj 1 [.tup [.tup (s.map D.int), .tup (sts (sets (full s)))]]
structure OkS (s : List Int) : Prop where
  len : s.length ≤ 5
  two : ∀ z ∈ s, z = 2 ∨ z = 3
  ne : s ≠ []
theorem standsOf_len {z : Int} : (standsOf z).length ≤ 3 := by unfold standsOf; split <;> decide
theorem OkS.small {s : List Int} (h : OkS s) : Small (full s) where
  len := by unfold full; rw [List.length_map]; exact h.len
  three := fun x hx => by
    obtain ⟨z, _, rfl⟩ := List.mem_map.mp hx
    exact standsOf_len
theorem full_len {s : List Int} : (full s).length = s.length := List.length_map _
theorem full_at {s : List Int} {k : Nat} (h : k < s.length) : (full s).getD k [] = standsOf (s[k]) := by
  unfold full
  rw [List.getD_eq_getElem?_getD, List.getElem?_map, List.getElem?_eq_getElem h]; rfl
theorem full_digit {s : List Int} {t : Tx} (h : fits t (full s)) : ∀ c ∈ t, c < 100 := fun c hc => by
  obtain ⟨k, hk, rfl⟩ := List.mem_iff_getElem.mp hc
  have hl := h.len
  have := h.at (k := k) (by omega)
  have e : t.getD k 0 = t[k] := by rw [List.getD_eq_getElem?_getD, List.getElem?_eq_getElem hk]; rfl
  rw [e, full_at (by rw [← full_len (s := s)]; omega)] at this
  unfold standsOf at this
  split at this <;> simp at this <;> omega
/-! ### what is shown -/
structure Plain (l : Tx) : Prop where
  len : l.length ≤ 5
  lt : ∀ c ∈ l, c < 100
/-! ### what may be compared -/
mutual
def okq : Nat → D → Bool
  | _, .non => true
  | _, .bl _ => true
  | _, .int _ => true
  | _, .str s => PyData.strOk s
  | n + 1, .tup ds => okqs n ds
  | n + 1, .lst ds => okqs n ds
  | _, _ => false
def okqs : Nat → List D → Bool
  | _, [] => true
  | n, d :: ds => okq n d && okqs n ds
end
mutual
theorem okq_ok : ∀ (n : Nat) (d : D), okq n d = true → plain d = true ∧ (pd d).canLay0 = true ∧ (pd d).depth ≤ n
  | _, .non, _ => ⟨rfl, rfl, Nat.zero_le _⟩
  | _, .bl _, _ => ⟨rfl, rfl, Nat.zero_le _⟩
  | _, .int _, _ => ⟨rfl, rfl, Nat.zero_le _⟩
  | n, .str s, h => ⟨rfl, by cases n <;> exact h, Nat.zero_le _⟩
  | 0, .tup _, h => by unfold okq at h; cases h
  | 0, .lst _, h => by unfold okq at h; cases h
  | n + 1, .tup ds, h => by
    unfold okq at h
    have := okqs_ok n ds h
    exact ⟨by unfold plain; exact this.1, by simp only [pd, PyData.canLay0]; exact this.2.1, by simp only [pd, PyData.depth]; exact Nat.succ_le_succ this.2.2⟩
  | n + 1, .lst ds, h => by
    unfold okq at h
    have := okqs_ok n ds h
    exact ⟨by unfold plain; exact this.1, by simp only [pd, PyData.canLay0]; exact this.2.1, by simp only [pd, PyData.depth]; exact Nat.succ_le_succ this.2.2⟩
  | _, .dic _ _, h => by unfold okq at h; cases h
  | _, .obj _ _, h => by unfold okq at h; cases h
  | _, .exc _ _, h => by unfold okq at h; cases h
  | _, .jar, h => by unfold okq at h; cases h
theorem okqs_ok : ∀ (n : Nat) (ds : List D), okqs n ds = true → plains ds = true ∧ PyData.canLayAll0 (pds ds) = true ∧ PyData.depthAll (pds ds) ≤ n
  | _, [], _ => ⟨rfl, rfl, Nat.zero_le _⟩
  | n, d :: ds, h => by
    unfold okqs at h
    rw [Bool.and_eq_true] at h
    have a := okq_ok n d h.1
    have b := okqs_ok n ds h.2
    exact ⟨by unfold plains; rw [a.1, b.1]; rfl, by simp only [pds, PyData.canLayAll0]; rw [a.2.1, b.2.1]; rfl, by simp only [pds, PyData.depthAll]; exact Nat.max_le.mpr ⟨a.2.2, b.2.2⟩⟩
end
theorem shp_of {d : D} (h : okq 60 d = true) : shpB d = true := by
  have z := okq_ok 60 d h
  unfold shpB
  rw [Bool.and_eq_true]
  refine ⟨z.1, ?_⟩
  unfold SeqAt.shaped
  rw [Bool.and_eq_true]
  exact ⟨z.2.1, decide_eq_true (Nat.le_trans z.2.2 (by decide))⟩
theorem plain_of {s : List Int} (h : OkS s) {t : Tx} (ht : fits t (full s)) : Plain t := ⟨ht.len5 h.small, full_digit ht⟩
theorem plain_sets {s : List Int} (h : OkS s) : ∀ t ∈ sets (full s), Plain t := fun t ht => plain_of h (mem_sets.mp ht)
/-! ### parts -/
structure IsPart (s : List Int) (rs : List Tx) : Prop where
  len : rs.length = s.length
  ne : ∀ k, k < s.length → rs.getD k [] ≠ []
  asc : ∀ k, k < s.length → (rs.getD k []).Pairwise (· < ·)
  sub : ∀ k, k < s.length → ∀ c ∈ rs.getD k [], c ∈ (full s).getD k []
theorem IsPart.fits {s : List Int} {rs : List Tx} (h : IsPart s rs) {t : Tx} (ht : TP.fits t rs) : TP.fits t (full s) := by
  refine fits_of (by rw [ht.len, h.len, full_len]) fun k hk => ?_
  rw [full_len] at hk
  exact h.sub k hk _ (ht.at (by rw [h.len]; exact hk))
theorem full_three {s : List Int} {k : Nat} : ∀ {c : Nat}, c ∈ (full s).getD k [] → c = 48 ∨ c = 49 ∨ c = 50 := fun {c} h => by
  by_cases hk : k < s.length
  · rw [full_at hk] at h
    unfold standsOf at h
    split at h <;> simp at h <;> omega
  · rw [List.getD_eq_getElem?_getD, List.getElem?_eq_none (by rw [full_len]; omega)] at h
    cases h
theorem asc_three {l : Tx} (h : l.Pairwise (· < ·)) (k : ∀ c ∈ l, c = 48 ∨ c = 49 ∨ c = 50) : l.length ≤ 3 := by
  match l, h, k with
  | [], _, _ => exact Nat.zero_le _
  | [_], _, _ => exact (by decide : 1 ≤ 3)
  | [_, _], _, _ => exact (by decide : 2 ≤ 3)
  | [_, _, _], _, _ => exact (by decide : 3 ≤ 3)
  | a :: b :: c :: d :: t, h, k =>
    have k1 := k a (by simp)
    have k2 := k d (by simp)
    have h1 := List.pairwise_cons.mp h
    have h2 := List.pairwise_cons.mp h1.2
    have h3 := List.pairwise_cons.mp h2.2
    have q1 := h1.1 b (by simp)
    have q2 := h2.1 c (by simp)
    have q3 := h3.1 d (by simp)
    omega
theorem IsPart.small {s : List Int} {rs : List Tx} (h : IsPart s rs) (hs : OkS s) : Small rs where
  len := by rw [h.len]; exact hs.len
  three := fun x hx => by
    obtain ⟨k, hk, rfl⟩ := List.mem_iff_getElem.mp hx
    have hk' : k < s.length := by rw [← h.len]; exact hk
    have e : rs.getD k [] = rs[k] := by rw [List.getD_eq_getElem?_getD, List.getElem?_eq_getElem hk]; rfl
    have a := h.asc k hk'
    have b := h.sub k hk'
    rw [e] at a b
    exact asc_three a fun c hc => full_three (b c hc)
end DL
/-! Plain law, part 2: helping and climbing. -/
namespace TP
open DL
def bestI (o l : List Tx) : Int := maxI (l.map fun x => (idx o x : Int))
def up (w o : List Tx) (x : Tx) : Option Tx := if (idx o x : Int) < bestI o (beside w x) then some (o.getD (bestI o (beside w x)).toNat []) else none
/-- every place of the whole has a neighbour -/
structure Rich (w o : List Tx) : Prop where
  mem : ∀ t, fits t w → t ∈ o
  nb : ∀ t, fits t w → beside w t ≠ []
end TP
/-! Squares: as data, sorted, of a board; kinds. -/
namespace TP
open DL
def far (n : Nat) (lo hi : Tx) : List Nat := (List.range n).filter fun k => decide (lo.getD k 0 < hi.getD k 0)
def back (n : Nat) (lo hi : Tx) : Bool := (List.range n).any fun k => decide (hi.getD k 0 < lo.getD k 0)
end TP
/-! Squares as data; kinds. -/
namespace DL
open PySem L2 PyProof.Rows TP
/-! ### kinds -/
def kd : Nat → D
  | 0 => .str "crossed"
  | 1 => .str "plain"
  | _ => .str "turned"
end DL
/-! Rising rows: how many, which is the shortest (plain Lean). -/
namespace TP
open DL
/-! ### rows -/
def endOf (r : List Tx) : Tx := r.getD (r.length - 1) []
theorem endOf_snoc {r : List Tx} {e : Tx} : endOf (r ++ [e]) = e := by
  unfold endOf
  rw [List.length_append, List.length_singleton, Nat.add_sub_cancel, List.getD_eq_getElem?_getD, List.getElem?_append_right (Nat.le_refl _), Nat.sub_self]
  rfl
inductive Pth (nx : Tx → List Tx) (b : Tx) : List Tx → Prop
  | one : Pth nx b [b]
  | snoc {r : List Tx} {e : Tx} : Pth nx b r → e ∈ nx (endOf r) → Pth nx b (r ++ [e])
theorem Pth.ne {nx : Tx → List Tx} {b : Tx} {r : List Tx} (h : Pth nx b r) : r ≠ [] := by
  cases h <;> simp
/-! ### upwards -/
def ups (w o : List Tx) (x : Tx) : List Tx := (beside w x).filter fun e => decide (idx o x < idx o e)
structure Line (w o : List Tx) : Prop where
  asc : ∀ p ∈ w, p.Pairwise (· < ·)
  mem : ∀ t, fits t w ↔ t ∈ o
  nd : o.Nodup
section
variable {w o : List Tx} {g b : Tx}
theorem Line.ups (h : Line w o) {x e : Tx} (hx : x ∈ o) (he : e ∈ ups w o x) : e ∈ o ∧ idx o x < idx o e := by
  obtain ⟨h1, h2⟩ := List.mem_filter.mp he
  exact ⟨(h.mem e).mp ((mem_beside_fits ((h.mem x).mpr hx)).mp h1).1, by simpa using h2⟩
theorem Line.pth (h : Line w o) {r : List Tx} (hb : b ∈ o) (hr : Pth (TP.ups w o) b r) : endOf r ∈ o ∧ r.length ≤ idx o (endOf r) + 1 ∧ ∀ x ∈ r, x ∈ o := by
  induction hr with
  | one => exact ⟨hb, by simp, fun x hx => by rw [List.mem_singleton.mp hx]; exact hb⟩
  | snoc h1 h2 ih =>
    obtain ⟨i1, i2, i3⟩ := ih
    obtain ⟨j1, j2⟩ := h.ups i1 h2
    rw [endOf_snoc]
    refine ⟨j1, by rw [List.length_append, List.length_singleton]; omega, fun x hx => ?_⟩
    rcases List.mem_append.mp hx with hx | hx
    · exact i3 x hx
    · rw [List.mem_singleton.mp hx]; exact j1
end
end TP
/-! Own dicts with settings as keys; rows as data. -/
namespace DL
open PySem L2 PyProof.Rows TP
variable {A : DE} {EX : XP} {r : List Sl} {i j : Nat} {e e1 e2 : List Sl → R D} {b : List Sl → RS}
end DL
/-! The shortest rising row, found in waves (plain Lean). -/
namespace TP
open DL
section
variable {w o : List Tx} {b g : Tx} {k : Nat} {R L : List (List Tx)} {S S1 Dn : List Tx}
structure Bfs (w o : List Tx) (b g : Tx) (k : Nat) (R : List (List Tx)) (S Dn : List Tx) : Prop where
  row : ∀ r ∈ R, Pth (ups w o) b r ∧ r.length = k + 1
  seen : ∀ x, x ∈ S ↔ x ∈ Dn ∨ ∃ r ∈ R, endOf r = x
  goal : g ∉ Dn
  shut : ∀ x ∈ Dn, ∀ e ∈ ups w o x, e ∈ S
  start : b ∈ S
  far : ∀ p, Pth (ups w o) b p → p.length ≤ k → endOf p ∈ Dn
  nd : S.Nodup
  sub : ∀ x ∈ S, x ∈ o
structure Wave (w o : List Tx) (b g : Tx) (k : Nat) (S : List Tx) (p : List (List Tx)) (S1 : List Tx) (L : List (List Tx)) : Prop where
  seen : ∀ x, x ∈ S1 ↔ x ∈ S ∨ ∃ r ∈ L, endOf r = x
  row : ∀ r ∈ L, Pth (ups w o) b r ∧ r.length = k + 2
  done : ∀ r ∈ p, endOf r ≠ g ∧ ∀ e ∈ ups w o (endOf r), e ∈ S1
  nd : S1.Nodup
  sub : ∀ x ∈ S1, x ∈ o
  few : L.length ≤ S1.length
structure Short (w o : List Tx) (b g : Tx) (x : List Tx) : Prop where
  pth : Pth (ups w o) b x
  fin : endOf x = g
  least : ∀ q, Pth (ups w o) b q → endOf q = g → x.length ≤ q.length
theorem Bfs.first (hb : b ∈ o) : Bfs w o b g 0 [[b]] [b] [] where
  row r hr := by rw [List.mem_singleton.mp hr]; exact ⟨.one, rfl⟩
  seen x := by simp [endOf, eq_comm]
  goal h := by cases h
  shut x h := by cases h
  start := List.mem_singleton_self _
  far p h hl := by have := List.length_pos_iff.mpr h.ne; omega
  nd := by simp
  sub x hx := by rw [List.mem_singleton.mp hx]; exact hb
theorem Wave.add {p : List (List Tx)} (ln : Line w o) (hb : b ∈ o) (h : Wave w o b g k S p S1 L) {x : List Tx} {e : Tx} (hx : Pth (ups w o) b x) (hl : x.length = k + 1) (he : e ∈ ups w o (endOf x)) (hn : e ∉ S1) : Wave w o b g k S p (S1 ++ [e]) (L ++ [x ++ [e]]) where
  seen y := by
    rw [List.mem_append, h.seen, List.mem_singleton]
    constructor
    · rintro ((h1 | ⟨r, h1, h2⟩) | h1)
      · exact .inl h1
      · exact .inr ⟨r, List.mem_append_left _ h1, h2⟩
      · exact .inr ⟨x ++ [e], List.mem_append_right _ (List.mem_singleton_self _), by rw [endOf_snoc, h1]⟩
    · rintro (h1 | ⟨r, h1, h2⟩)
      · exact .inl (.inl h1)
      · rcases List.mem_append.mp h1 with h3 | h3
        · exact .inl (.inr ⟨r, h3, h2⟩)
        · rw [List.mem_singleton.mp h3, endOf_snoc] at h2
          exact .inr h2.symm
  row r hr := by
    rcases List.mem_append.mp hr with h3 | h3
    · exact h.row r h3
    · rw [List.mem_singleton.mp h3]
      exact ⟨.snoc hx he, by rw [List.length_append, hl]; rfl⟩
  done r hr := ⟨(h.done r hr).1, fun e he => List.mem_append_left _ ((h.done r hr).2 e he)⟩
  nd := by
    rw [List.nodup_append]
    exact ⟨h.nd, by simp, fun a ha c hc e2 => hn (by rw [List.mem_singleton.mp hc] at e2; exact e2 ▸ ha)⟩
  sub y hy := by
    rcases List.mem_append.mp hy with h3 | h3
    · exact h.sub y h3
    · rw [List.mem_singleton.mp h3]; exact (ln.ups (ln.pth hb hx).1 he).1
  few := by
    rw [List.length_append, List.length_append]
    exact Nat.add_le_add h.few (Nat.le_refl _)
theorem Wave.next {p : List (List Tx)} (h : Wave w o b g k S p S1 L) {x : List Tx} (hg : endOf x ≠ g) (hu : ∀ e ∈ ups w o (endOf x), e ∈ S1) : Wave w o b g k S (p ++ [x]) S1 L where
  seen := h.seen
  row := h.row
  done r hr := by
    rcases List.mem_append.mp hr with h3 | h3
    · exact h.done r h3
    · rw [List.mem_singleton.mp h3]; exact ⟨hg, hu⟩
  nd := h.nd
  sub := h.sub
  few := h.few
theorem Bfs.found (h : Bfs w o b g k R S Dn) {x : List Tx} (hx : x ∈ R) (he : endOf x = g) : Short w o b g x where
  pth := (h.row x hx).1
  fin := he
  least q hq hg := by
    rw [(h.row x hx).2]
    by_cases hl : q.length ≤ k
    · exact absurd (hg ▸ h.far q hq hl) h.goal
    · omega
theorem Bfs.none (h : Bfs w o b g k [] S Dn) {q : List Tx} (hq : Pth (ups w o) b q) : endOf q ≠ g := by
  have hs : ∀ x, x ∈ S → x ∈ Dn := fun x hx => by
    rcases (h.seen x).mp hx with h1 | ⟨r, h1, _⟩
    · exact h1
    · cases h1
  have : endOf q ∈ Dn := by
    induction hq with
    | one => exact hs _ h.start
    | snoc h1 h2 ih => rw [endOf_snoc]; exact hs _ (h.shut _ ih _ h2)
  exact fun e => h.goal (e ▸ this)
end
end TP
/-! Facts: what they lead to; orders that agree with them (plain Lean). -/
namespace TP
open DL
abbrev Fa := Tx × Tx
inductive Reach (F : List Fa) (a : Tx) : Tx → Prop
  | refl : Reach F a a
  | step {b c : Tx} : Reach F a b → (b, c) ∈ F → Reach F a c
theorem Reach.trans {F : List Fa} {a b c : Tx} (h : Reach F a b) (k : Reach F b c) : Reach F a c := by
  induction k with
  | refl => exact h
  | step _ h2 ih => exact .step ih h2
theorem Reach.one {F : List Fa} {a b : Tx} (h : (a, b) ∈ F) : Reach F a b := .step .refl h
theorem Reach.sub {F F' : List Fa} (s : ∀ f ∈ F, f ∈ F') {a b : Tx} (h : Reach F a b) : Reach F' a b := by
  induction h with
  | refl => exact .refl
  | step _ h2 ih => exact .step ih (s _ h2)
open Classical in
noncomputable def rch (F : List Fa) (a b : Tx) : Bool := decide (Reach F a b)
theorem rch_iff {F : List Fa} {a b : Tx} : rch F a b = true ↔ Reach F a b := by
  unfold rch
  exact @decide_eq_true_iff _ (Classical.propDecidable _)
theorem rch_false {F : List Fa} {a b : Tx} : rch F a b = false ↔ ¬ Reach F a b := by
  rw [← rch_iff]
  cases rch F a b <;> simp
/-- an order agrees with the facts -/
def Agr (o : List Tx) (F : List Fa) : Prop := ∀ f ∈ F, idx o f.1 < idx o f.2
def agr (o : List Tx) (F : List Fa) : Bool := F.all fun f => decide (idx o f.1 < idx o f.2)
theorem Agr.le {o : List Tx} {F : List Fa} (h : Agr o F) {a b : Tx} (r : Reach F a b) : idx o a ≤ idx o b := by
  induction r with
  | refl => exact Nat.le_refl _
  | step _ h2 ih => exact Nat.le_trans ih (Nat.le_of_lt (h _ h2))
theorem Agr.lt {o : List Tx} {F : List Fa} (h : Agr o F) {a b : Tx} (r : Reach F a b) (hne : a ≠ b) : idx o a < idx o b := by
  induction r with
  | refl => exact absurd rfl hne
  | step h1 h2 ih => exact Nat.lt_of_le_of_lt (h.le h1) (h _ h2)
theorem idx_app_l {l m : List Tx} {x : Tx} (h : x ∈ l) : idx (l ++ m) x = idx l x := by
  unfold idx
  rw [List.idxOf_append, if_pos h]
theorem idx_app_r {l m : List Tx} {x : Tx} (h : x ∉ l) : idx (l ++ m) x = idx m x + l.length := by
  unfold idx
  rw [List.idxOf_append, if_neg h]
/-! ### what is seen from a place -/
structure Seek (F : List Fa) (a : Tx) (S W : List Tx) : Prop where
  start : a ∈ S
  from_ : ∀ x ∈ S, Reach F a x
  wait : ∀ x ∈ W, x ∈ S
  shut : ∀ x ∈ S, x ∉ W → ∀ f ∈ F, f.1 = x → f.2 ∈ S
theorem Seek.done {F : List Fa} {a : Tx} {S : List Tx} (h : Seek F a S []) {b : Tx} : b ∈ S ↔ Reach F a b := by
  refine ⟨h.from_ b, fun r => ?_⟩
  induction r with
  | refl => exact h.start
  | step _ h2 ih => exact h.shut _ ih (by simp) _ h2 rfl
def left (F : List Fa) (S : List Tx) : Nat := (F.filter fun f => decide (f.2 ∉ S)).length
end TP
namespace TP
open DL
/-- facts that a line agrees with -/
structure Fc (w o : List Tx) (F : List Fa) : Prop where
  nd : F.Nodup
  mem : ∀ f ∈ F, f.1 ∈ o ∧ f.2 ∈ o
  near : ∀ f ∈ F, dif f.1 f.2 = 1
  agr : Agr o F
  few : F.length ≤ 900
theorem Fc.let {w o : List Tx} {F : List Fa} (h : Fc w o F) {k : Nat} (hk : k < F.length) : F[k] ∉ F.take k ∧ rch (F.take k) F[k].2 F[k].1 = false := by
  constructor
  · intro z
    obtain ⟨j, hj, e⟩ := List.mem_iff_getElem.mp z
    rw [List.length_take] at hj
    rw [List.getElem_take] at e
    have := (List.getElem_inj h.nd).mp e
    omega
  · rw [rch_false]
    intro r
    have h1 := h.agr.le (r.sub fun f hf => List.mem_of_mem_take hf)
    have h2 := h.agr _ (List.getElem_mem hk)
    omega
end TP
/-! Facts as data; Notes as data. -/
namespace DL
open PySem L2 PyProof.Rows TP
variable {A : DE} {EX : XP} {r : List Sl} {i j : Nat} {b : List Sl → RS}
end DL
/-! An order for the facts; all that is better (plain Lean). -/
namespace TP
open DL
def upsF (F : List Fa) (x : Tx) : List Tx := (F.filter fun f => decide (f.1 = x)).map fun f => f.2
theorem mem_upsF {F : List Fa} {x u : Tx} : u ∈ upsF F x ↔ (x, u) ∈ F := by
  unfold upsF
  rw [List.mem_map]
  constructor
  · rintro ⟨f, hf, rfl⟩
    obtain ⟨h1, h2⟩ := List.mem_filter.mp hf
    have h3 : f.1 = x := by simpa using h2
    rw [← h3]; exact h1
  · intro h
    exact ⟨(x, u), List.mem_filter.mpr ⟨h, by simp⟩, rfl⟩
def free (w : List Tx) (F : List Fa) (P : List Tx) : List Tx := (sets w).filter fun x => !decide (x ∈ P) && (upsF F x).all fun u => decide (u ∈ P)
theorem mem_free {w : List Tx} {F : List Fa} {P : List Tx} {x : Tx} : x ∈ free w F P ↔ x ∈ sets w ∧ x ∉ P ∧ ∀ u ∈ upsF F x, u ∈ P := by
  unfold free
  rw [List.mem_filter, Bool.and_eq_true, List.all_eq_true]
  simp
/-- placed so far: each after all that is better -/
structure Plc (w : List Tx) (F : List Fa) (P : List Tx) : Prop where
  nd : P.Nodup
  sub : ∀ x ∈ P, x ∈ sets w
  up : ∀ p x q, P = p ++ x :: q → ∀ u ∈ upsF F x, u ∈ p
theorem Plc.nil {w : List Tx} {F : List Fa} : Plc w F [] := ⟨List.nodup_nil, (fun _ h => by cases h), fun p x q h => by simp at h⟩
theorem Plc.add {w : List Tx} {F : List Fa} {P : List Tx} (h : Plc w F P) {x : Tx} (hx : x ∈ free w F P) : Plc w F (P ++ [x]) := by
  obtain ⟨h1, h2, h3⟩ := mem_free.mp hx
  refine ⟨?_, ?_, ?_⟩
  · rw [List.nodup_append]
    exact ⟨h.nd, by simp, fun a ha c hc e => h2 (by rw [List.mem_singleton.mp hc] at e; exact e ▸ ha)⟩
  · intro y hy
    rcases List.mem_append.mp hy with q | q
    · exact h.sub y q
    · rw [List.mem_singleton.mp q]; exact h1
  · intro p y q e u hu
    rcases List.append_eq_append_iff.mp e with ⟨l, e1, e2⟩ | ⟨l, e1, e2⟩
    · -- p = P ++ l, [x] = l ++ y :: q
      cases l with
      | nil =>
        rw [List.nil_append] at e2
        injection e2 with e3 e4
        subst e3
        rw [List.append_nil] at e1
        rw [e1]
        exact h3 u hu
      | cons z l =>
        have := congrArg List.length e2
        simp at this
    · -- P = p ++ l, y :: q = l ++ [x]
      cases l with
      | nil =>
        rw [List.nil_append] at e2
        injection e2 with e3 e4
        subst e3
        rw [List.append_nil] at e1
        rw [← e1]
        exact h3 u hu
      | cons z l =>
        rw [List.cons_append] at e2
        injection e2 with e3 e4
        subst e3
        exact h.up p y l e1 u hu
theorem Plc.agr {w : List Tx} {F : List Fa} {P : List Tx} (h : Plc w F P) (hall : ∀ f ∈ F, f.1 ∈ P) : Agr P.reverse F := by
  rintro ⟨x, u⟩ hf
  dsimp only
  obtain ⟨p, q, e⟩ := List.mem_iff_append.mp (hall _ hf)
  have hu := h.up p x q e u (mem_upsF.mpr hf)
  have nd := h.nd
  rw [e] at nd
  have er : P.reverse = (q.reverse ++ [x]) ++ p.reverse := by rw [e]; simp
  rw [er, idx_app_l (by simp)]
  have nu : u ∉ q.reverse ++ [x] := fun z => by
    rw [List.nodup_append] at nd
    have z2 : u ∈ x :: q := by
      rcases List.mem_append.mp z with z | z
      · exact List.mem_cons_of_mem _ (List.mem_reverse.mp z)
      · rw [List.mem_singleton.mp z]; exact List.mem_cons_self
    exact nd.2.2 u hu u z2 rfl
  rw [idx_app_r nu]
  have := idx_lt (show x ∈ q.reverse ++ [x] by simp)
  omega
end TP
/-! All orders (plain Lean). -/
namespace TP
open DL
end TP
/-! Facts as data, further; sorted(set(texts)); dict(pairs). -/
namespace DL
open PySem L2 PyProof.Rows TP
theorem fc_plain {s : List Int} {o : List Tx} {F : List Fa} (h : OkS s) (hp : o.Perm (sets (full s))) (hc : Fc (full s) o F) : ∀ f ∈ F, Plain f.1 ∧ Plain f.2 := fun f hf =>
  ⟨plain_sets h _ (hp.mem_iff.mp (hc.mem f hf).1), plain_sets h _ (hp.mem_iff.mp (hc.mem f hf).2)⟩
theorem neX_str {z : Str} : neX (.str z) (.str z) = some (.bl false) := by
  unfold neX
  rw [bothS_refl]; rfl
end DL
/-! Runs that raise; values of any kind; the signs of what is shown. -/
namespace DL
open PySem L2 PyProof.Rows TP
/-! ### the signs of what is shown -/
def okT (t : Str) : Prop := ∀ c ∈ t.cps.toList, c < 1114112
theorem okT_of {t : Str} (h : PyData.strOk t = true) : okT t := by
  unfold PyData.strOk at h
  rw [Array.all_eq_true_iff_forall_mem] at h
  exact fun c hc => of_decide_eq_true (h c (Array.mem_toList_iff.mp hc))
theorem okT_app {a b : Str} (h : okT a) (k : okT b) : okT (a ++ b) := fun c hc => by
  have e : (a ++ b).cps.toList = a.cps.toList ++ b.cps.toList := Array.toList_append
  rw [e, List.mem_append] at hc
  exact hc.elim (h c) (k c)
theorem okT_lit (s : String) : okT (Str.ofString s) := fun c hc => by
  rw [Str.ofString_eq_toList] at hc
  obtain ⟨ch, _, rfl⟩ := List.mem_map.mp hc
  have h := ch.valid
  rcases h with h | h
  · have : ch.toNat < 55296 := h
    omega
  · have : ch.toNat < 1114112 := h.2
    exact this
theorem okT_join {s : Str} (h : okT s) : ∀ {ts : List Str}, (∀ t ∈ ts, okT t) → okT (Str.join s ts)
  | [], _ => fun c hc => by simp [Str.join, Str.empty] at hc
  | [x], k => k x List.mem_cons_self
  | x :: y :: r, k => okT_app (okT_app (k x List.mem_cons_self) h) (okT_join h fun t ht => k t (List.mem_cons_of_mem _ ht))
theorem okT_from : ∀ (ts : List Str) (n : Nat) (acc : Str), okT acc → (∀ t ∈ ts, okT t) → okT (textFrom n acc ts)
  | [], _, _, h, _ => h
  | t :: ts, n, acc, h, k => okT_from ts (n + 1) _ (okT_app (okT_app h (okT_lit _)) (k t List.mem_cons_self)) fun u hu => k u (List.mem_cons_of_mem _ hu)
theorem ch_lt (ch : Char) : ch.toNat < 1114112 := by
  rcases ch.valid with h | h
  · have : ch.toNat < 55296 := h
    omega
  · exact h.2
theorem reprChar_lt {q c : Nat} (hc : c < 1114112) : ∀ x ∈ Builtin.Str.reprChar q c, x < 1114112 := by
  have hex : ∀ (w : Nat) x, x ∈ List.replicate (w - ((Nat.toDigits 16 c).map Char.toNat).length) 48 ++ (Nat.toDigits 16 c).map Char.toNat → x < 1114112 := fun w x hx => by
    rcases List.mem_append.mp hx with h | h
    · rw [List.eq_of_mem_replicate h]; decide
    · obtain ⟨ch, _, rfl⟩ := List.mem_map.mp h
      exact ch_lt ch
  have two : ∀ (a b : Nat), a < 1114112 → b < 1114112 → ∀ x ∈ [a, b], x < 1114112 := fun a b ha hb x hx => by
    rcases List.mem_cons.mp hx with rfl | hx
    · exact ha
    · rw [List.mem_singleton.mp hx]; exact hb
  intro x hx
  unfold Builtin.Str.reprChar at hx
  dsimp only at hx
  split at hx
  · exact two 92 c (by decide) hc x hx
  split at hx
  · exact two 92 110 (by decide) (by decide) x hx
  split at hx
  · exact two 92 114 (by decide) (by decide) x hx
  split at hx
  · exact two 92 116 (by decide) (by decide) x hx
  split at hx
  · rw [List.mem_singleton.mp hx]; exact hc
  split at hx
  · exact (List.mem_append.mp hx).elim (two 92 120 (by decide) (by decide) x) (hex 2 x)
  split at hx
  · exact (List.mem_append.mp hx).elim (two 92 117 (by decide) (by decide) x) (hex 4 x)
  · exact (List.mem_append.mp hx).elim (two 92 85 (by decide) (by decide) x) (hex 8 x)
theorem okT_repr {x : Str} (h : okT x) : okT (reprText x) := by
  have go : ∀ (q : Nat) (l : List Nat) (acc : Array Nat), (∀ c ∈ l, c < 1114112) → (∀ c ∈ acc.toList, c < 1114112) → ∀ c ∈ (l.foldl (fun out c => out ++ (Builtin.Str.reprChar q c).toArray) acc).toList, c < 1114112 := by
    intro q l
    induction l with
    | nil => exact fun acc _ k => k
    | cons c r ih =>
      intro acc hl ha
      rw [List.foldl_cons]
      refine ih _ (fun d hd => hl d (List.mem_cons_of_mem _ hd)) fun d hd => ?_
      rw [Array.toList_append] at hd
      exact (List.mem_append.mp hd).elim (ha d) (reprChar_lt (hl c List.mem_cons_self) d)
  have hq : reprQuote x < 1114112 := by unfold reprQuote; split <;> decide
  intro c hc
  have e : (reprText x).cps.toList = (x.cps.toList.foldl (fun out c => out ++ (Builtin.Str.reprChar (reprQuote x) c).toArray) #[reprQuote x]).toList ++ [reprQuote x] := by
    unfold reprText
    rw [Array.toList_push, ← Array.foldl_toList]
  rw [e] at hc
  rcases List.mem_append.mp hc with hc | hc
  · refine go _ _ _ h (fun d hd => ?_) c hc
    rw [List.mem_singleton.mp hd]; exact hq
  · rw [List.mem_singleton.mp hc]; exact hq
mutual
theorem okT_shown : ∀ d : PyData, d.canLay0 = true → okT d.shown
  | .none, _ => by simp only [PyData.shown]; exact okT_lit _
  | .bool b, _ => by cases b <;> (simp only [PyData.shown]; exact okT_lit _)
  | .int i, _ => by simp only [PyData.shown]; exact okT_lit _
  | .str x, h => by
    simp only [PyData.shown]
    exact okT_repr (okT_of (by simpa [PyData.canLay0] using h))
  | .list xs, h => by
    simp only [PyData.shown]
    unfold listText
    exact okT_app (okT_from _ _ _ (okT_lit _) (okT_shownAll xs (by simpa [PyData.canLay0] using h))) (okT_lit _)
  | .tuple xs, h => by
    simp only [PyData.shown]
    unfold tupleText
    exact okT_app (okT_app (okT_lit _) (okT_join (okT_lit _) (okT_shownAll xs (by simpa [PyData.canLay0] using h)))) (okT_lit _)
  | .dict _, h => by simp [PyData.canLay0] at h
theorem okT_shownAll : ∀ ds : List PyData, PyData.canLayAll0 ds = true → ∀ t ∈ PyData.shownAll ds, okT t
  | [], _, t, ht => by simp [PyData.shownAll] at ht
  | d :: ds, h, t, ht => by
    simp only [PyData.canLayAll0, Bool.and_eq_true] at h
    simp only [PyData.shownAll, List.mem_cons] at ht
    rcases ht with rfl | ht
    · exact okT_shown d h.1
    · exact okT_shownAll ds h.2 t ht
end
/-! ### values of any kind -/
def isBase : D → Bool
  | .obj _ _ => false
  | .exc _ _ => false
  | .jar => false
  | _ => true
def isDic : D → Bool
  | .dic _ _ => true
  | _ => false
def smallT (d : D) : Prop := ∀ x, d = st x → okT (sx x) ∧ x.length ≤ 1677721
/-- of no own class, its texts small, to a depth -/
def deepT : Nat → D → Prop
  | 0, d => isBase d = true ∧ smallT d
  | n + 1, d => (isBase d = true ∧ smallT d) ∧ ∀ ds, d = .tup ds → ds.length ≤ 16777216 ∧ ∀ e ∈ ds, deepT n e
def DOk (d : D) : Prop := ∀ n, deepT n d
/-- a value that the laws draw: of no own class, it may be shown, what is shown are signs -/
structure VOk (d : D) : Prop where
  shp : isDic d = false → shpB d = true
  deep : DOk d
  base : isBase d = true
  shw : shwOK d
  sign : okT (DL.shw d)
  str : smallT d
  tup : ∀ ds, d = .tup ds → ds.length ≤ 16777216 ∧ ∀ e ∈ ds, isBase e = true ∧ smallT e
theorem small_of {n : Nat} {d : D} (hq : okq n d = true) (hw : wt d ≤ 16777216) : smallT d := fun x e => by
  subst e
  refine ⟨okT_of (by cases n <;> simpa [okq] using hq), ?_⟩
  have : 10 * x.length + 2 ≤ 16777216 := hw
  omega
theorem okd_base {n : Nat} {d : D} (h : okd n d = true) : isBase d = true := by
  cases d <;> first | rfl | (unfold okd at h; cases h)
theorem small_all {n m : Nat} : ∀ {ds : List D}, okds n ds = true → okqs m ds = true → wts ds ≤ 16777216 → ds.length * 2 ≤ wts ds ∧ ∀ e ∈ ds, isBase e = true ∧ smallT e
  | [], _, _, _ => ⟨Nat.zero_le _, fun e he => by cases he⟩
  | d :: ds, h, hq, hw => by
    unfold okds at h
    unfold okqs at hq
    unfold wts at hw ⊢
    rw [Bool.and_eq_true] at h hq
    obtain ⟨h1, h2⟩ := small_all h.2 hq.2 (by omega)
    refine ⟨by rw [List.length_cons]; omega, fun e he => ?_⟩
    rcases List.mem_cons.mp he with rfl | he
    · exact ⟨okd_base h.1, small_of hq.1 (by omega)⟩
    · exact h2 e he
theorem items_of {n m : Nat} : ∀ {ds : List D}, okds n ds = true → okqs m ds = true → wts ds ≤ 16777216 → ds.length * 2 ≤ wts ds ∧ ∀ e ∈ ds, okd n e = true ∧ okq m e = true ∧ wt e ≤ 16777216
  | [], _, _, _ => ⟨Nat.zero_le _, fun e he => by cases he⟩
  | d :: ds, h, hq, hw => by
    unfold okds at h
    unfold okqs at hq
    unfold wts at hw ⊢
    rw [Bool.and_eq_true] at h hq
    obtain ⟨h1, h2⟩ := items_of h.2 hq.2 (by omega)
    refine ⟨by rw [List.length_cons]; omega, fun e he => ?_⟩
    rcases List.mem_cons.mp he with rfl | he
    · exact ⟨h.1, hq.1, by omega⟩
    · exact h2 e he
theorem deep_of : ∀ (k : Nat) {n m : Nat} {d : D}, okd n d = true → okq m d = true → wt d ≤ 16777216 → deepT k d
  | 0, n, m, d, h, hq, hw => ⟨okd_base h, small_of hq hw⟩
  | k + 1, n, m, d, h, hq, hw => by
    refine ⟨⟨okd_base h, small_of hq hw⟩, fun ds e => ?_⟩
    subst e
    cases n with
    | zero => unfold okd at h; cases h
    | succ n =>
      cases m with
      | zero => unfold okq at hq; cases hq
      | succ m =>
        unfold okd at h
        unfold okq at hq
        have hw : wts ds + 3 ≤ 16777216 := hw
        obtain ⟨h1, h2⟩ := items_of h hq (by omega)
        exact ⟨by omega, fun e he => deep_of k (h2 e he).1 (h2 e he).2.1 (h2 e he).2.2⟩
theorem vok_of {d : D} (h : okd 60 d = true) (hq : okq 60 d = true) (hw : wt d ≤ 16777216) : VOk d := by
  have z := shownOK_of h (by rw [sl_eq]; exact hw)
  have q := okq_ok 60 d hq
  have s := small_of hq hw
  have dp : DOk d := fun k => deep_of k h hq hw
  cases d with
  | dic _ _ => unfold okd at h; cases h
  | obj _ _ => unfold okd at h; cases h
  | exc _ _ => unfold okd at h; cases h
  | jar => unfold okd at h; cases h
  | non => exact ⟨(fun _ => shp_of hq), dp, rfl, z, okT_shown _ q.2.1, s, fun x e => by cases e⟩
  | bl b => exact ⟨(fun _ => shp_of hq), dp, rfl, z, okT_shown _ q.2.1, s, fun x e => by cases e⟩
  | int i => exact ⟨(fun _ => shp_of hq), dp, rfl, z, okT_shown _ q.2.1, s, fun x e => by cases e⟩
  | str _ => exact ⟨(fun _ => shp_of hq), dp, rfl, z, okT_shown _ q.2.1, s, fun x e => by cases e⟩
  | tup ds =>
    refine ⟨(fun _ => shp_of hq), dp, rfl, z, okT_shown _ q.2.1, s, fun x e => ?_⟩
    cases e
    unfold okd at h
    unfold okq at hq
    have hw : wts ds + 3 ≤ 16777216 := hw
    obtain ⟨h1, h2⟩ := small_all h hq (by omega)
    exact ⟨by omega, h2⟩
  | lst ds => exact ⟨(fun _ => shp_of hq), dp, rfl, z, okT_shown _ q.2.1, s, fun x e => by cases e⟩
theorem vok_dic {ks : List Key} {ds : List D} (h : dicOK ks ds) (hs : PyData.strOk (PyData.dict (dkv ks ds)).shown = true) : VOk (.dic ks ds) := ⟨(fun z => by cases z), fun n => (by cases n <;> first | exact ⟨rfl, fun x e => (by cases e)⟩ | exact ⟨⟨rfl, fun x e => (by cases e)⟩, fun x e => (by cases e)⟩), rfl, h, okT_of hs, fun x e => (by cases e), fun x e => (by cases e)⟩
def vokB : D → Bool
  | .dic ks ds => decide (dicOK ks ds) && PyData.strOk (PyData.dict (dkv ks ds)).shown
  | d => okd 60 d && okq 60 d && Nat.ble (wt d) 16777216
theorem vok_b {d : D} (h : vokB d = true) : VOk d := by
  have go : (okd 60 d && okq 60 d && Nat.ble (wt d) 16777216) = true → VOk d := fun h => by
    rw [Bool.and_eq_true, Bool.and_eq_true] at h
    exact vok_of h.1.1 h.1.2 (Nat.le_of_ble_eq_true h.2)
  cases d with
  | dic ks ds =>
    have h : (decide (dicOK ks ds) && PyData.strOk (PyData.dict (dkv ks ds)).shown) = true := h
    rw [Bool.and_eq_true] at h
    exact vok_dic (of_decide_eq_true h.1) h.2
  | non => exact go h
  | bl _ => exact go h
  | int _ => exact go h
  | str _ => exact go h
  | tup _ => exact go h
  | lst _ => exact go h
  | obj _ _ => exact go h
  | exc _ _ => exact go h
  | jar => exact go h
theorem VOk.repr {d : D} (h : VOk d) : reprX2 [d] = some (.str (DL.shw d)) := reprX2_ok h.shw
/-! ### runs that raise -/
section
variable {A : DE} {EX : XP} {r : List Sl} {a b : List Sl → RS} {e e1 e2 : List Sl → R D} {i j : Nat} {x : XD}
end
section
variable {e e2 : List Sl → R D} {r : List Sl}
end
/-! ### tuples and lists of small things -/
structure Few (e : D) : Prop where
  d : okd 58 e = true
  q : okq 58 e = true
  w : wt e ≤ 1000
/-! ### one of several things, drawn -/
section
variable {sp : DSp} {X : FE} {c : List Sl → R D} {A : DE} {EX : XP} {r : List Sl} {i j : Nat} {d0 d : D}
theorem F_pick {Q : D → Prop} (h : CF X c) (hr : r.map (adr 0) = r) (h0 : r[i]? = some (.val d0)) (e : c r = .ok d) (k : sp [d0, d] Q EX) : fCall sp (fCons (fVar i) (fCons X fNil)) r Q EX := by
  show fVar i r _ EX
  unfold fVar
  rw [h0]
  exact h.use hr e k
theorem ret_pick (h : CF X c) (hr : r.map (adr 0) = r) (h0 : r[i]? = some (.val d0)) (e : c r = .ok d) (k : sp [d0, d] A.rt EX) : sRet (fCall sp (fCons (fVar i) (fCons X fNil))) A EX r := F_pick h hr h0 e k
end
end DL
/-! Refusals: a def's answer, whatever it is; orders with something otherwise. -/
namespace DL
open PySem L2 PyProof.Rows TP
/-- a value that may be asked for its kind, item by item -/
structure WOk (d : D) : Prop where
  base : isBase d = true
  tup : ∀ ds, d = .tup ds → ds.length ≤ 16777216 ∧ ∀ e ∈ ds, isBase e = true ∧ smallT e
theorem VOk.w {d : D} (h : VOk d) : WOk d := ⟨h.base, h.tup⟩
def intB : D → Bool
  | .bl _ => true
  | .int _ => true
  | _ => false
/-! ### a walk by places, with an early end -/
section
variable {σ : Type}
end
end DL
/-! Facts with something otherwise. -/
namespace DL
open PySem L2 PyProof.Rows TP
theorem DOk.base {d : D} (h : DOk d) : isBase d = true := (h 0).1
theorem DOk.small {d : D} (h : DOk d) : smallT d := (h 0).2
theorem DOk.items {ds : List D} (h : DOk (.tup ds)) : ds.length ≤ 16777216 ∧ ∀ e ∈ ds, DOk e := ⟨((h 1).2 _ rfl).1, fun e he n => ((h (n + 1)).2 _ rfl).2 e he⟩
theorem DOk.w {d : D} (h : DOk d) : WOk d := ⟨h.base, fun ds e => by
  subst e
  exact ⟨h.items.1, fun x hx => ⟨(h.items.2 x hx).base, (h.items.2 x hx).small⟩⟩⟩
/-- facts that some order agrees with -/
def FcE (s : List Int) (F : List Fa) : Prop := ∃ o, o.Perm (sets (full s)) ∧ Fc (full s) o F
theorem FcE.plain {s : List Int} {F : List Fa} (ok : OkS s) (h : FcE s F) : ∀ f ∈ F, Plain f.1 ∧ Plain f.2 := by
  obtain ⟨o, hp, hc⟩ := h
  exact fc_plain ok hp hc
theorem FcE.few {s : List Int} {F : List Fa} (h : FcE s F) : F.length ≤ 900 := by
  obtain ⟨o, hp, hc⟩ := h
  exact hc.few
end DL
/-! One peak in each part: no crossed square, no second peak. -/
namespace DL
open PySem L2 PyProof.Rows TP
section
variable {s : List Int} {o rs : List Tx}
end
end DL
/-! Sizes of boards, right and wrong ones; texts of boards. -/
namespace DL
open PySem L2 PyProof.Rows TP
end DL
/-! Own objects asked for equality; rankings of drawn lines; texts shown twice. -/
namespace DL
open PySem L2 PyProof.Rows TP
section
variable {e1 e2 : List Sl → R D} {r : List Sl}
end
end DL
/-! Shown answers side by side; texts of boards; tuples of ints. -/
namespace DL
open PySem L2 PyProof.Rows TP
section
variable {e1 e2 e3 : List Sl → R D} {r : List Sl}
end
end DL
/-! Texts of notes: lines of words, joined and split. -/
namespace DL
open PySem L2 PyProof.Rows TP TL
/-- facts as texts: of the board's settings -/
def FcT (s : List Int) (F : List Fa) : Prop := (∀ f ∈ F, f.1 ∈ sets (full s) ∧ f.2 ∈ sets (full s)) ∧ F.length ≤ 900
section
variable {s : List Int} {F : List Fa}
end
section
variable {e e2 : List Sl → R D} {r : List Sl}
end
theorem FcT.plain {s : List Int} {F : List Fa} (ok : OkS s) (h : FcT s F) : ∀ f ∈ F, Plain f.1 ∧ Plain f.2 := fun f hf => ⟨plain_sets ok _ (h.1 f hf).1, plain_sets ok _ (h.1 f hf).2⟩
end DL
namespace K01
open PySem L2 DL PyProof.Rows
def xt_index : Nat → Bool
  | 23 => true
  | 24 => true
  | 25 => true
  | 26 => true
  | 27 => true
  | 28 => true
  | 32 => true
  | _ => false
def xt_given : Nat → Bool
  | 11 => true
  | 12 => true
  | 13 => true
  | 14 => true
  | 15 => true
  | 16 => true
  | 17 => true
  | 18 => true
  | 19 => true
  | 20 => true
  | 21 => true
  | 22 => true
  | 29 => true
  | 31 => true
  | _ => false
def lx_WrongValue : List (Nat × Bool) := [(11, true), (12, true), (13, true), (14, true), (15, true), (16, true), (17, true), (18, true), (19, true), (20, true), (21, true), (22, true), (23, true), (24, true), (25, true), (26, true), (27, true), (28, true), (29, false), (31, false), (32, false), (8, true), (9, false), (10, false), (30, false)]
def isx_WrongValue : Tag → Option Bool
  | .exc c => lx_WrongValue.lookup c
  | _ => none
def lx_ValueError : List (Nat × Bool) := [(11, true), (12, true), (13, true), (14, true), (15, true), (16, true), (17, true), (18, true), (19, true), (20, true), (21, true), (22, true), (23, true), (24, true), (25, true), (26, true), (27, true), (28, true), (29, false), (31, false), (32, false), (8, true), (9, false), (10, false), (30, false)]
def isx_ValueError : Tag → Option Bool
  | .exc c => lx_ValueError.lookup c
  | _ => none
def lx_WrongName : List (Nat × Bool) := [(11, false), (12, false), (13, false), (14, false), (15, false), (16, false), (17, false), (18, false), (19, false), (20, false), (21, false), (22, false), (23, false), (24, false), (25, false), (26, false), (27, false), (28, false), (29, true), (31, false), (32, false), (8, false), (9, true), (10, false), (30, false)]
def isx_WrongName : Tag → Option Bool
  | .exc c => lx_WrongName.lookup c
  | _ => none
def lx_LookupError : List (Nat × Bool) := [(11, false), (12, false), (13, false), (14, false), (15, false), (16, false), (17, false), (18, false), (19, false), (20, false), (21, false), (22, false), (23, false), (24, false), (25, false), (26, false), (27, false), (28, false), (29, true), (31, false), (32, false), (8, false), (9, true), (10, false), (30, false)]
def isx_LookupError : Tag → Option Bool
  | .exc c => lx_LookupError.lookup c
  | _ => none
def lx_NotPossible : List (Nat × Bool) := [(11, false), (12, false), (13, false), (14, false), (15, false), (16, false), (17, false), (18, false), (19, false), (20, false), (21, false), (22, false), (23, false), (24, false), (25, false), (26, false), (27, false), (28, false), (29, false), (31, true), (32, true), (8, false), (9, false), (10, true), (30, true)]
def isx_NotPossible : Tag → Option Bool
  | .exc c => lx_NotPossible.lookup c
  | _ => none
def lx_ArithmeticError : List (Nat × Bool) := [(11, false), (12, false), (13, false), (14, false), (15, false), (16, false), (17, false), (18, false), (19, false), (20, false), (21, false), (22, false), (23, false), (24, false), (25, false), (26, false), (27, false), (28, false), (29, false), (31, true), (32, true), (8, false), (9, false), (10, true), (30, true)]
def isx_ArithmeticError : Tag → Option Bool
  | .exc c => lx_ArithmeticError.lookup c
  | _ => none
def lx_InvalidText : List (Nat × Bool) := [(11, true), (12, false), (13, false), (14, false), (15, false), (16, false), (17, false), (18, false), (19, false), (20, false), (21, false), (22, false), (23, false), (24, false), (25, false), (26, false), (27, false), (28, false), (29, false), (31, false), (32, false), (8, false), (9, false), (10, false), (30, false)]
def isx_InvalidText : Tag → Option Bool
  | .exc c => lx_InvalidText.lookup c
  | _ => none
def lx_InvalidPart : List (Nat × Bool) := [(11, false), (12, true), (13, false), (14, false), (15, false), (16, false), (17, false), (18, false), (19, false), (20, false), (21, false), (22, false), (23, false), (24, false), (25, false), (26, false), (27, false), (28, false), (29, false), (31, false), (32, false), (8, false), (9, false), (10, false), (30, false)]
def isx_InvalidPart : Tag → Option Bool
  | .exc c => lx_InvalidPart.lookup c
  | _ => none
def lx_InvalidSquare : List (Nat × Bool) := [(11, false), (12, false), (13, true), (14, false), (15, false), (16, false), (17, false), (18, false), (19, false), (20, false), (21, false), (22, false), (23, false), (24, false), (25, false), (26, false), (27, false), (28, false), (29, false), (31, false), (32, false), (8, false), (9, false), (10, false), (30, false)]
def isx_InvalidSquare : Tag → Option Bool
  | .exc c => lx_InvalidSquare.lookup c
  | _ => none
def lx_InvalidFact : List (Nat × Bool) := [(11, false), (12, false), (13, false), (14, true), (15, false), (16, false), (17, false), (18, false), (19, false), (20, false), (21, false), (22, false), (23, false), (24, false), (25, false), (26, false), (27, false), (28, false), (29, false), (31, false), (32, false), (8, false), (9, false), (10, false), (30, false)]
def isx_InvalidFact : Tag → Option Bool
  | .exc c => lx_InvalidFact.lookup c
  | _ => none
def lx_InvalidIndex : List (Nat × Bool) := [(11, false), (12, false), (13, false), (14, false), (15, true), (16, false), (17, false), (18, false), (19, false), (20, false), (21, false), (22, false), (23, false), (24, false), (25, false), (26, false), (27, false), (28, false), (29, false), (31, false), (32, false), (8, false), (9, false), (10, false), (30, false)]
def isx_InvalidIndex : Tag → Option Bool
  | .exc c => lx_InvalidIndex.lookup c
  | _ => none
def lx_InvalidWish : List (Nat × Bool) := [(11, false), (12, false), (13, false), (14, false), (15, false), (16, true), (17, false), (18, false), (19, false), (20, false), (21, false), (22, false), (23, false), (24, false), (25, false), (26, false), (27, false), (28, false), (29, false), (31, false), (32, false), (8, false), (9, false), (10, false), (30, false)]
def isx_InvalidWish : Tag → Option Bool
  | .exc c => lx_InvalidWish.lookup c
  | _ => none
def lx_InvalidCommand : List (Nat × Bool) := [(11, false), (12, false), (13, false), (14, false), (15, false), (16, false), (17, true), (18, false), (19, false), (20, false), (21, false), (22, false), (23, false), (24, false), (25, false), (26, false), (27, false), (28, false), (29, false), (31, false), (32, false), (8, false), (9, false), (10, false), (30, false)]
def isx_InvalidCommand : Tag → Option Bool
  | .exc c => lx_InvalidCommand.lookup c
  | _ => none
def lx_NotABoard : List (Nat × Bool) := [(11, false), (12, false), (13, false), (14, false), (15, false), (16, false), (17, false), (18, true), (19, false), (20, false), (21, false), (22, false), (23, false), (24, false), (25, false), (26, false), (27, false), (28, false), (29, false), (31, false), (32, false), (8, false), (9, false), (10, false), (30, false)]
def isx_NotABoard : Tag → Option Bool
  | .exc c => lx_NotABoard.lookup c
  | _ => none
def lx_NotNotes : List (Nat × Bool) := [(11, false), (12, false), (13, false), (14, false), (15, false), (16, false), (17, false), (18, false), (19, true), (20, false), (21, false), (22, false), (23, false), (24, false), (25, false), (26, false), (27, false), (28, false), (29, false), (31, false), (32, false), (8, false), (9, false), (10, false), (30, false)]
def isx_NotNotes : Tag → Option Bool
  | .exc c => lx_NotNotes.lookup c
  | _ => none
def lx_NotARanking : List (Nat × Bool) := [(11, false), (12, false), (13, false), (14, false), (15, false), (16, false), (17, false), (18, false), (19, false), (20, true), (21, false), (22, false), (23, false), (24, false), (25, false), (26, false), (27, false), (28, false), (29, false), (31, false), (32, false), (8, false), (9, false), (10, false), (30, false)]
def isx_NotARanking : Tag → Option Bool
  | .exc c => lx_NotARanking.lookup c
  | _ => none
def lx_OtherBoard : List (Nat × Bool) := [(11, false), (12, false), (13, false), (14, false), (15, false), (16, false), (17, false), (18, false), (19, false), (20, false), (21, true), (22, false), (23, false), (24, false), (25, false), (26, false), (27, false), (28, false), (29, false), (31, false), (32, false), (8, false), (9, false), (10, false), (30, false)]
def isx_OtherBoard : Tag → Option Bool
  | .exc c => lx_OtherBoard.lookup c
  | _ => none
def lx_SameSetting : List (Nat × Bool) := [(11, false), (12, false), (13, false), (14, false), (15, false), (16, false), (17, false), (18, false), (19, false), (20, false), (21, false), (22, true), (23, false), (24, false), (25, false), (26, false), (27, false), (28, false), (29, false), (31, false), (32, false), (8, false), (9, false), (10, false), (30, false)]
def isx_SameSetting : Tag → Option Bool
  | .exc c => lx_SameSetting.lookup c
  | _ => none
def lx_InvalidSizes : List (Nat × Bool) := [(11, false), (12, false), (13, false), (14, false), (15, false), (16, false), (17, false), (18, false), (19, false), (20, false), (21, false), (22, false), (23, true), (24, false), (25, false), (26, false), (27, false), (28, false), (29, false), (31, false), (32, false), (8, false), (9, false), (10, false), (30, false)]
def isx_InvalidSizes : Tag → Option Bool
  | .exc c => lx_InvalidSizes.lookup c
  | _ => none
def lx_InvalidFacts : List (Nat × Bool) := [(11, false), (12, false), (13, false), (14, false), (15, false), (16, false), (17, false), (18, false), (19, false), (20, false), (21, false), (22, false), (23, false), (24, true), (25, false), (26, false), (27, false), (28, false), (29, false), (31, false), (32, false), (8, false), (9, false), (10, false), (30, false)]
def isx_InvalidFacts : Tag → Option Bool
  | .exc c => lx_InvalidFacts.lookup c
  | _ => none
def lx_InvalidOrder : List (Nat × Bool) := [(11, false), (12, false), (13, false), (14, false), (15, false), (16, false), (17, false), (18, false), (19, false), (20, false), (21, false), (22, false), (23, false), (24, false), (25, true), (26, false), (27, false), (28, false), (29, false), (31, false), (32, false), (8, false), (9, false), (10, false), (30, false)]
def isx_InvalidOrder : Tag → Option Bool
  | .exc c => lx_InvalidOrder.lookup c
  | _ => none
def lx_InvalidPeaks : List (Nat × Bool) := [(11, false), (12, false), (13, false), (14, false), (15, false), (16, false), (17, false), (18, false), (19, false), (20, false), (21, false), (22, false), (23, false), (24, false), (25, false), (26, true), (27, false), (28, false), (29, false), (31, false), (32, false), (8, false), (9, false), (10, false), (30, false)]
def isx_InvalidPeaks : Tag → Option Bool
  | .exc c => lx_InvalidPeaks.lookup c
  | _ => none
def lx_InvalidWalks : List (Nat × Bool) := [(11, false), (12, false), (13, false), (14, false), (15, false), (16, false), (17, false), (18, false), (19, false), (20, false), (21, false), (22, false), (23, false), (24, false), (25, false), (26, false), (27, true), (28, false), (29, false), (31, false), (32, false), (8, false), (9, false), (10, false), (30, false)]
def isx_InvalidWalks : Tag → Option Bool
  | .exc c => lx_InvalidWalks.lookup c
  | _ => none
def lx_InvalidRests : List (Nat × Bool) := [(11, false), (12, false), (13, false), (14, false), (15, false), (16, false), (17, false), (18, false), (19, false), (20, false), (21, false), (22, false), (23, false), (24, false), (25, false), (26, false), (27, false), (28, true), (29, false), (31, false), (32, false), (8, false), (9, false), (10, false), (30, false)]
def isx_InvalidRests : Tag → Option Bool
  | .exc c => lx_InvalidRests.lookup c
  | _ => none
def lx_UnknownSetting : List (Nat × Bool) := [(11, false), (12, false), (13, false), (14, false), (15, false), (16, false), (17, false), (18, false), (19, false), (20, false), (21, false), (22, false), (23, false), (24, false), (25, false), (26, false), (27, false), (28, false), (29, true), (31, false), (32, false), (8, false), (9, false), (10, false), (30, false)]
def isx_UnknownSetting : Tag → Option Bool
  | .exc c => lx_UnknownSetting.lookup c
  | _ => none
def lx_TooMany : List (Nat × Bool) := [(11, false), (12, false), (13, false), (14, false), (15, false), (16, false), (17, false), (18, false), (19, false), (20, false), (21, false), (22, false), (23, false), (24, false), (25, false), (26, false), (27, false), (28, false), (29, false), (31, true), (32, false), (8, false), (9, false), (10, false), (30, false)]
def isx_TooMany : Tag → Option Bool
  | .exc c => lx_TooMany.lookup c
  | _ => none
def lx_Broken : List (Nat × Bool) := [(11, false), (12, false), (13, false), (14, false), (15, false), (16, false), (17, false), (18, false), (19, false), (20, false), (21, false), (22, false), (23, false), (24, false), (25, false), (26, false), (27, false), (28, false), (29, false), (31, false), (32, true), (8, false), (9, false), (10, false), (30, false)]
def isx_Broken : Tag → Option Bool
  | .exc c => lx_Broken.lookup c
  | _ => none
def lx_NothingToUndo : List (Nat × Bool) := [(11, false), (12, false), (13, false), (14, false), (15, false), (16, false), (17, false), (18, false), (19, false), (20, false), (21, false), (22, false), (23, false), (24, false), (25, false), (26, false), (27, false), (28, false), (29, false), (31, false), (32, false), (8, false), (9, false), (10, false), (30, true)]
def isx_NothingToUndo : Tag → Option Bool
  | .exc c => lx_NothingToUndo.lookup c
  | _ => none
/-! _law_bases -/
abbrev N_law_bases : List Str := ["e", "found"]
def R_law_bases : FS := (sSeq (sSetOwn 1 (fLst (fCons (fAnd (isiD isx_WrongValue (fVar 0)) (isiD isx_ValueError (fVar 0))) fNil)))
    (sSeq (sAppC 1 (fAnd (isiD isx_WrongName (fVar 0)) (isiD isx_LookupError (fVar 0))))
    (sRet (fL (fAddN (fSee 1) (fL (fLst (fCons (fAnd (isiD isx_NotPossible (fVar 0)) (isiD isx_ArithmeticError (fVar 0))) fNil))))))))
def x_law_bases : DL.Env → RS := (ySeq (ySetOwn 1 (xLst (xCons (xAnd (isiX isx_WrongValue (xVar 0)) (isiX isx_ValueError (xVar 0))) xNil)))
    (ySeq (yApp 1 (xAnd (isiX isx_WrongName (xVar 0)) (isiX isx_LookupError (xVar 0))))
    (yRet (xL (xAddN (xSee 1) (xL (xLst (xCons (xAnd (isiX isx_NotPossible (xVar 0)) (isiX isx_ArithmeticError (xVar 0))) xNil))))))))
theorem l_law_bases : CS R_law_bases x_law_bases := (s_seq (s_setOwn (f_lst (f_cons (f_and (f_isi f_var) (f_isi f_var)) f_nil)))
    (s_seq (s_app (f_and (f_isi f_var) (f_isi f_var)))
    (s_ret (f_L (f_addN f_see (f_L (f_lst (f_cons (f_and (f_isi f_var) (f_isi f_var)) f_nil))))))))
def cf_law_bases : List D → R D := cfOf N_law_bases 1 x_law_bases
def sp_law_bases : DSp := spOf cf_law_bases
/-! _law_dip -/
abbrev N_law_dip : List Str := ["jar", "most", "seed", "digit"]
def R_law_dip : FS := (sSeq (sJar 0 (f2 addD (fJar (fVar 0)) (fC (.int 1))))
    (sSeq (sIf (fTb (f2 gtD (fJar (fVar 0)) (fC (.int 0)))) (sSeq (sSet 3 (f2 modD (fCa intC (fCons (fJar (fVar 0)) fNil)) (fVar 1)))
    (sSeq (sJar 0 (f2 divD (fCa intC (fCons (fJar (fVar 0)) fNil)) (fVar 1)))
    (sRet (fVar 3)))) sNext)
    (sSeq (sSet 2 (fCa intC (fCons (fJar (fVar 0)) fNil)))
    (sSeq (sJar 0 (f2 modD (fCa intC (fCons (f2 addD (f2 addD (f2 mulAD (fVar 2) (fC (.int 40692))) (f2 mulAD (fJar (fVar 0)) (fC (.int 52021)))) (fC (.int 31))) fNil)) (fC (.int 2147483399))))
    (sRet (f2 modD (fCa intC (fCons (f2 divD (fJar (fVar 0)) (fC (.int 2048))) fNil)) (fVar 1)))))))
def sp_law_dip : DSp := fun ds Q _ => ∃ m : Int, ds = [.jar, .int m] ∧ 0 < m ∧ m < 1073741824 ∧ ∀ n : Int, 0 ≤ n → n < m → Q (.int n)
/-! _law_pick -/
abbrev N_law_pick : List Str := ["jar", "menu", "at"]
def R_law_pick : FS := (sSeq (sSet 2 (fCall sp_law_dip (fCons (fVar 0) (fCons (fCa lenD (fCons (fVar 1) fNil)) fNil))))
    (sRet (f2 ixD (fVar 1) (fVar 2))))
def sp_law_pick : DSp := fun ds Q _ => ∃ (xs : List D) (d : D), ds = [.jar, d] ∧ (d = .lst xs ∨ d = .tup xs) ∧ xs ≠ [] ∧ xs.length < 1000000 ∧ ∀ d ∈ xs, Q d
/-! _law_odd -/
abbrev N_law_odd : List Str := ["jar", "menu"]
def P_law_odd_0 : FS := (sSet 1 (fL (fLst (fCons (fC .non) (fCons (fC (.bl true)) (fCons (fC (.bl false)) (fCons (fC (.int 0)) (fCons (fC (.int 1)) (fCons (fNeg (fC (.int 1))) (fCons (fC (.int 2)) (fCons (f2 powD (fC (.int 10)) (fC (.int 30))) (fCons (fC (.str "")) (fCons (fC (.str "0")) fNil)))))))))))))
def yP_law_odd_0 : DL.Env → RS := (ySet 1 (xL (xLst (xCons (xC .non) (xCons (xC (.bl true)) (xCons (xC (.bl false)) (xCons (xC (.int 0)) (xCons (xC (.int 1)) (xCons (xNeg (xC (.int 1))) (xCons (xC (.int 2)) (xCons (x2 powX (xC (.int 10)) (xC (.int 30))) (xCons (xC (.str "")) (xCons (xC (.str "0")) xNil)))))))))))))
theorem lP_law_odd_0 : CS P_law_odd_0 yP_law_odd_0 := (s_set (f_L (f_lst (f_cons f_c (f_cons f_c (f_cons f_c (f_cons f_c (f_cons f_c (f_cons (f_neg f_c) (f_cons f_c (f_cons (f_2 g_pow f_c f_c) (f_cons f_c (f_cons f_c f_nil)))))))))))))
def P_law_odd_1 : FS := (sSet 1 (fL (fAddN (fVar 1) (fL (fLst (fCons (fC (.str "00")) (fCons (fC (.str "3")) (fCons (fC (.str "0 1")) (fCons (fTup fNil) (fCons (fTup (fCons (fC (.int 1)) fNil)) (fCons (fTup (fCons (fC (.str "0")) fNil)) (fCons (fTup (fCons (fC (.str "0")) (fCons (fC (.str "1")) fNil))) (fCons (fL (fLst (fCons (fC (.str "0")) fNil))) (fCons (fL (fLst fNil)) fNil))))))))))))))
def yP_law_odd_1 : DL.Env → RS := (ySet 1 (xL (xAddN (xVar 1) (xL (xLst (xCons (xC (.str "00")) (xCons (xC (.str "3")) (xCons (xC (.str "0 1")) (xCons (xTup xNil) (xCons (xTup (xCons (xC (.int 1)) xNil)) (xCons (xTup (xCons (xC (.str "0")) xNil)) (xCons (xTup (xCons (xC (.str "0")) (xCons (xC (.str "1")) xNil))) (xCons (xL (xLst (xCons (xC (.str "0")) xNil))) (xCons (xL (xLst xNil)) xNil))))))))))))))
theorem lP_law_odd_1 : CS P_law_odd_1 yP_law_odd_1 := (s_set (f_L (f_addN f_var (f_L (f_lst (f_cons f_c (f_cons f_c (f_cons f_c (f_cons (f_tup f_nil) (f_cons (f_tup (f_cons f_c f_nil)) (f_cons (f_tup (f_cons f_c f_nil)) (f_cons (f_tup (f_cons f_c (f_cons f_c f_nil))) (f_cons (f_L (f_lst (f_cons f_c f_nil))) (f_cons (f_L (f_lst f_nil)) f_nil))))))))))))))
def R_law_odd : FS := (sSeq P_law_odd_0
    (sSeq P_law_odd_1
    (sRet (fCall sp_law_pick (fCons (fVar 0) (fCons (fL (fAddN (fVar 1) (fL (fLst (fCons (fC (.dic [] [])) (fCons (fDic [.inr "0"] [((fC (.str "0")), (fC (.int 1)))]) (fCons (fTup (fCons (fC .non) (fCons (fC (.int 0)) fNil))) (fCons (fC (.str "0\n1")) (fCons (fTup (fCons (fTup (fCons (fC (.str "0")) (fCons (fC (.str "1")) fNil))) fNil)) (fCons (fTup (fCons (fC (.str "0")) (fCons (fC (.str "0")) fNil))) (fCons (fL (fLst (fCons (fL (fLst fNil)) fNil))) (fCons (fC (.str "000000")) (fCons (fTup (fCons (fTup fNil) fNil)) (fCons (fTup (fCons (fC (.int 2)) (fCons (fC (.int 2)) fNil))) fNil)))))))))))))) fNil))))))
def sp_law_odd : DSp := fun ds Q _ => ds = [.jar] ∧ ∀ d, VOk d → Q d
/-! _law_by_place -/
abbrev N_law_by_place : List Str := ["first", "second", "found"]
def R_law_by_place : FS := (sSeq (sSet 2 (fL (fLst (fCons (fMk1 11 (fCons (fVar 0) fNil)) (fCons (fMk1 12 (fCons (fVar 1) fNil)) (fCons (fMk1 13 (fCons (fVar 0) fNil)) (fCons (fMk1 14 (fCons (fVar 1) fNil)) fNil)))))))
    (sSeq (sSet 2 (fL (fAddN (fVar 2) (fL (fLst (fCons (fMk1 15 (fCons (fVar 0) fNil)) (fCons (fMk1 16 (fCons (fVar 1) fNil)) (fCons (fMk1 17 (fCons (fVar 0) fNil)) (fCons (fMk1 18 (fCons (fVar 1) fNil)) fNil)))))))))
    (sSeq (sSet 2 (fL (fAddN (fVar 2) (fL (fLst (fCons (fMk1 19 (fCons (fVar 0) fNil)) (fCons (fMk1 20 (fCons (fVar 1) fNil)) (fCons (fMk1 21 (fCons (fVar 0) fNil)) (fCons (fMk1 22 (fCons (fVar 1) fNil)) fNil)))))))))
    (sSeq (sSet 2 (fL (fAddN (fVar 2) (fL (fLst (fCons (fMk1 23 (fCons (fVar 0) fNil)) (fCons (fMk1 24 (fCons (fVar 1) fNil)) (fCons (fMk1 25 (fCons (fVar 0) fNil)) (fCons (fMk1 26 (fCons (fVar 1) fNil)) fNil)))))))))
    (sSeq (sSet 2 (fL (fAddN (fVar 2) (fL (fLst (fCons (fMk1 27 (fCons (fVar 0) fNil)) (fCons (fMk1 28 (fCons (fVar 1) fNil)) (fCons (fMk1 29 (fCons (fVar 0) fNil)) (fCons (fMk1 31 (fCons (fVar 1) fNil)) fNil)))))))))
    (sSeq (sSet 2 (fL (fAddN (fVar 2) (fL (fLst (fCons (fMk1 32 (fCons (fVar 0) fNil)) fNil))))))
    (sRet (fVar 2))))))))
def x_law_by_place : DL.Env → RS := (ySeq (ySet 2 (xL (xLst (xCons (xMk1 11 (xCons (xVar 0) xNil)) (xCons (xMk1 12 (xCons (xVar 1) xNil)) (xCons (xMk1 13 (xCons (xVar 0) xNil)) (xCons (xMk1 14 (xCons (xVar 1) xNil)) xNil)))))))
    (ySeq (ySet 2 (xL (xAddN (xVar 2) (xL (xLst (xCons (xMk1 15 (xCons (xVar 0) xNil)) (xCons (xMk1 16 (xCons (xVar 1) xNil)) (xCons (xMk1 17 (xCons (xVar 0) xNil)) (xCons (xMk1 18 (xCons (xVar 1) xNil)) xNil)))))))))
    (ySeq (ySet 2 (xL (xAddN (xVar 2) (xL (xLst (xCons (xMk1 19 (xCons (xVar 0) xNil)) (xCons (xMk1 20 (xCons (xVar 1) xNil)) (xCons (xMk1 21 (xCons (xVar 0) xNil)) (xCons (xMk1 22 (xCons (xVar 1) xNil)) xNil)))))))))
    (ySeq (ySet 2 (xL (xAddN (xVar 2) (xL (xLst (xCons (xMk1 23 (xCons (xVar 0) xNil)) (xCons (xMk1 24 (xCons (xVar 1) xNil)) (xCons (xMk1 25 (xCons (xVar 0) xNil)) (xCons (xMk1 26 (xCons (xVar 1) xNil)) xNil)))))))))
    (ySeq (ySet 2 (xL (xAddN (xVar 2) (xL (xLst (xCons (xMk1 27 (xCons (xVar 0) xNil)) (xCons (xMk1 28 (xCons (xVar 1) xNil)) (xCons (xMk1 29 (xCons (xVar 0) xNil)) (xCons (xMk1 31 (xCons (xVar 1) xNil)) xNil)))))))))
    (ySeq (ySet 2 (xL (xAddN (xVar 2) (xL (xLst (xCons (xMk1 32 (xCons (xVar 0) xNil)) xNil))))))
    (yRet (xVar 2))))))))
theorem l_law_by_place : CS R_law_by_place x_law_by_place := (s_seq (s_set (f_L (f_lst (f_cons (f_mk1 (f_cons f_var f_nil)) (f_cons (f_mk1 (f_cons f_var f_nil)) (f_cons (f_mk1 (f_cons f_var f_nil)) (f_cons (f_mk1 (f_cons f_var f_nil)) f_nil)))))))
    (s_seq (s_set (f_L (f_addN f_var (f_L (f_lst (f_cons (f_mk1 (f_cons f_var f_nil)) (f_cons (f_mk1 (f_cons f_var f_nil)) (f_cons (f_mk1 (f_cons f_var f_nil)) (f_cons (f_mk1 (f_cons f_var f_nil)) f_nil)))))))))
    (s_seq (s_set (f_L (f_addN f_var (f_L (f_lst (f_cons (f_mk1 (f_cons f_var f_nil)) (f_cons (f_mk1 (f_cons f_var f_nil)) (f_cons (f_mk1 (f_cons f_var f_nil)) (f_cons (f_mk1 (f_cons f_var f_nil)) f_nil)))))))))
    (s_seq (s_set (f_L (f_addN f_var (f_L (f_lst (f_cons (f_mk1 (f_cons f_var f_nil)) (f_cons (f_mk1 (f_cons f_var f_nil)) (f_cons (f_mk1 (f_cons f_var f_nil)) (f_cons (f_mk1 (f_cons f_var f_nil)) f_nil)))))))))
    (s_seq (s_set (f_L (f_addN f_var (f_L (f_lst (f_cons (f_mk1 (f_cons f_var f_nil)) (f_cons (f_mk1 (f_cons f_var f_nil)) (f_cons (f_mk1 (f_cons f_var f_nil)) (f_cons (f_mk1 (f_cons f_var f_nil)) f_nil)))))))))
    (s_seq (s_set (f_L (f_addN f_var (f_L (f_lst (f_cons (f_mk1 (f_cons f_var f_nil)) f_nil))))))
    (s_ret f_var)))))))
def cf_law_by_place : List D → R D := cfOf N_law_by_place 2 x_law_by_place
def sp_law_by_place : DSp := spOf cf_law_by_place
/-! _law_by_word -/
abbrev N_law_by_word : List Str := ["first", "second", "found"]
def R_law_by_word : FS := (sSeq (sSet 2 (fL (fLst (fCons (fMkK 11 (fKw fNil (fCons (fVar 0) fNil))) (fCons (fMkK 12 (fKw fNil (fCons (fVar 1) fNil))) (fCons (fMkK 13 (fKw fNil (fCons (fVar 0) fNil))) fNil))))))
    (sSeq (sSet 2 (fL (fAddN (fVar 2) (fL (fLst (fCons (fMkK 14 (fKw fNil (fCons (fVar 1) fNil))) (fCons (fMkK 15 (fKw fNil (fCons (fVar 0) fNil))) (fCons (fMkK 16 (fKw fNil (fCons (fVar 1) fNil))) fNil))))))))
    (sSeq (sSet 2 (fL (fAddN (fVar 2) (fL (fLst (fCons (fMkK 17 (fKw fNil (fCons (fVar 0) fNil))) (fCons (fMkK 18 (fKw fNil (fCons (fVar 1) fNil))) (fCons (fMkK 19 (fKw fNil (fCons (fVar 0) fNil))) fNil))))))))
    (sSeq (sSet 2 (fL (fAddN (fVar 2) (fL (fLst (fCons (fMkK 20 (fKw fNil (fCons (fVar 1) fNil))) (fCons (fMkK 21 (fKw fNil (fCons (fVar 0) fNil))) (fCons (fMkK 22 (fKw fNil (fCons (fVar 1) fNil))) fNil))))))))
    (sSeq (sSet 2 (fL (fAddN (fVar 2) (fL (fLst (fCons (fMkK 23 (fKw fNil (fCons (fVar 0) fNil))) (fCons (fMkK 24 (fKw fNil (fCons (fVar 1) fNil))) (fCons (fMkK 25 (fKw fNil (fCons (fVar 0) fNil))) fNil))))))))
    (sSeq (sSet 2 (fL (fAddN (fVar 2) (fL (fLst (fCons (fMkK 26 (fKw fNil (fCons (fVar 1) fNil))) (fCons (fMkK 27 (fKw fNil (fCons (fVar 0) fNil))) (fCons (fMkK 28 (fKw fNil (fCons (fVar 1) fNil))) fNil))))))))
    (sSeq (sSet 2 (fL (fAddN (fVar 2) (fL (fLst (fCons (fMkK 29 (fKw fNil (fCons (fVar 0) fNil))) (fCons (fMkK 31 (fKw fNil (fCons (fVar 1) fNil))) (fCons (fMkK 32 (fKw fNil (fCons (fVar 0) fNil))) fNil))))))))
    (sRet (fVar 2)))))))))
def x_law_by_word : DL.Env → RS := (ySeq (ySet 2 (xL (xLst (xCons (xMkK 11 (xKw xNil (xCons (xVar 0) xNil))) (xCons (xMkK 12 (xKw xNil (xCons (xVar 1) xNil))) (xCons (xMkK 13 (xKw xNil (xCons (xVar 0) xNil))) xNil))))))
    (ySeq (ySet 2 (xL (xAddN (xVar 2) (xL (xLst (xCons (xMkK 14 (xKw xNil (xCons (xVar 1) xNil))) (xCons (xMkK 15 (xKw xNil (xCons (xVar 0) xNil))) (xCons (xMkK 16 (xKw xNil (xCons (xVar 1) xNil))) xNil))))))))
    (ySeq (ySet 2 (xL (xAddN (xVar 2) (xL (xLst (xCons (xMkK 17 (xKw xNil (xCons (xVar 0) xNil))) (xCons (xMkK 18 (xKw xNil (xCons (xVar 1) xNil))) (xCons (xMkK 19 (xKw xNil (xCons (xVar 0) xNil))) xNil))))))))
    (ySeq (ySet 2 (xL (xAddN (xVar 2) (xL (xLst (xCons (xMkK 20 (xKw xNil (xCons (xVar 1) xNil))) (xCons (xMkK 21 (xKw xNil (xCons (xVar 0) xNil))) (xCons (xMkK 22 (xKw xNil (xCons (xVar 1) xNil))) xNil))))))))
    (ySeq (ySet 2 (xL (xAddN (xVar 2) (xL (xLst (xCons (xMkK 23 (xKw xNil (xCons (xVar 0) xNil))) (xCons (xMkK 24 (xKw xNil (xCons (xVar 1) xNil))) (xCons (xMkK 25 (xKw xNil (xCons (xVar 0) xNil))) xNil))))))))
    (ySeq (ySet 2 (xL (xAddN (xVar 2) (xL (xLst (xCons (xMkK 26 (xKw xNil (xCons (xVar 1) xNil))) (xCons (xMkK 27 (xKw xNil (xCons (xVar 0) xNil))) (xCons (xMkK 28 (xKw xNil (xCons (xVar 1) xNil))) xNil))))))))
    (ySeq (ySet 2 (xL (xAddN (xVar 2) (xL (xLst (xCons (xMkK 29 (xKw xNil (xCons (xVar 0) xNil))) (xCons (xMkK 31 (xKw xNil (xCons (xVar 1) xNil))) (xCons (xMkK 32 (xKw xNil (xCons (xVar 0) xNil))) xNil))))))))
    (yRet (xVar 2)))))))))
theorem l_law_by_word : CS R_law_by_word x_law_by_word := (s_seq (s_set (f_L (f_lst (f_cons (f_mkK (f_kw f_nil (f_cons f_var f_nil))) (f_cons (f_mkK (f_kw f_nil (f_cons f_var f_nil))) (f_cons (f_mkK (f_kw f_nil (f_cons f_var f_nil))) f_nil))))))
    (s_seq (s_set (f_L (f_addN f_var (f_L (f_lst (f_cons (f_mkK (f_kw f_nil (f_cons f_var f_nil))) (f_cons (f_mkK (f_kw f_nil (f_cons f_var f_nil))) (f_cons (f_mkK (f_kw f_nil (f_cons f_var f_nil))) f_nil))))))))
    (s_seq (s_set (f_L (f_addN f_var (f_L (f_lst (f_cons (f_mkK (f_kw f_nil (f_cons f_var f_nil))) (f_cons (f_mkK (f_kw f_nil (f_cons f_var f_nil))) (f_cons (f_mkK (f_kw f_nil (f_cons f_var f_nil))) f_nil))))))))
    (s_seq (s_set (f_L (f_addN f_var (f_L (f_lst (f_cons (f_mkK (f_kw f_nil (f_cons f_var f_nil))) (f_cons (f_mkK (f_kw f_nil (f_cons f_var f_nil))) (f_cons (f_mkK (f_kw f_nil (f_cons f_var f_nil))) f_nil))))))))
    (s_seq (s_set (f_L (f_addN f_var (f_L (f_lst (f_cons (f_mkK (f_kw f_nil (f_cons f_var f_nil))) (f_cons (f_mkK (f_kw f_nil (f_cons f_var f_nil))) (f_cons (f_mkK (f_kw f_nil (f_cons f_var f_nil))) f_nil))))))))
    (s_seq (s_set (f_L (f_addN f_var (f_L (f_lst (f_cons (f_mkK (f_kw f_nil (f_cons f_var f_nil))) (f_cons (f_mkK (f_kw f_nil (f_cons f_var f_nil))) (f_cons (f_mkK (f_kw f_nil (f_cons f_var f_nil))) f_nil))))))))
    (s_seq (s_set (f_L (f_addN f_var (f_L (f_lst (f_cons (f_mkK (f_kw f_nil (f_cons f_var f_nil))) (f_cons (f_mkK (f_kw f_nil (f_cons f_var f_nil))) (f_cons (f_mkK (f_kw f_nil (f_cons f_var f_nil))) f_nil))))))))
    (s_ret f_var))))))))
def cf_law_by_word : List D → R D := cfOf N_law_by_word 2 x_law_by_word
def sp_law_by_word : DSp := spOf cf_law_by_word
/-! _law_sorts -/
abbrev N_law_sorts : List Str := ["e", "found"]
def R_law_sorts : FS := (sSeq (sSet 1 (fL (fLst (fCons (isiD isx_InvalidText (fVar 0)) (fCons (isiD isx_InvalidPart (fVar 0)) (fCons (isiD isx_InvalidSquare (fVar 0)) fNil))))))
    (sSeq (sSet 1 (fL (fAddN (fVar 1) (fL (fLst (fCons (isiD isx_InvalidFact (fVar 0)) (fCons (isiD isx_InvalidIndex (fVar 0)) (fCons (isiD isx_InvalidWish (fVar 0)) fNil))))))))
    (sSeq (sSet 1 (fL (fAddN (fVar 1) (fL (fLst (fCons (isiD isx_InvalidCommand (fVar 0)) (fCons (isiD isx_NotABoard (fVar 0)) (fCons (isiD isx_NotNotes (fVar 0)) fNil))))))))
    (sSeq (sSet 1 (fL (fAddN (fVar 1) (fL (fLst (fCons (isiD isx_NotARanking (fVar 0)) (fCons (isiD isx_OtherBoard (fVar 0)) (fCons (isiD isx_SameSetting (fVar 0)) fNil))))))))
    (sSeq (sSet 1 (fL (fAddN (fVar 1) (fL (fLst (fCons (isiD isx_InvalidSizes (fVar 0)) (fCons (isiD isx_InvalidFacts (fVar 0)) (fCons (isiD isx_InvalidOrder (fVar 0)) fNil))))))))
    (sSeq (sSet 1 (fL (fAddN (fVar 1) (fL (fLst (fCons (isiD isx_InvalidPeaks (fVar 0)) (fCons (isiD isx_InvalidWalks (fVar 0)) (fCons (isiD isx_InvalidRests (fVar 0)) fNil))))))))
    (sSeq (sSet 1 (fL (fAddN (fVar 1) (fL (fLst (fCons (isiD isx_UnknownSetting (fVar 0)) (fCons (isiD isx_TooMany (fVar 0)) (fCons (isiD isx_Broken (fVar 0)) fNil))))))))
    (sSeq (sSet 1 (fL (fAddN (fVar 1) (fL (fLst (fCons (isiD isx_NothingToUndo (fVar 0)) fNil))))))
    (sRet (fVar 1))))))))))
def x_law_sorts : DL.Env → RS := (ySeq (ySet 1 (xL (xLst (xCons (isiX isx_InvalidText (xVar 0)) (xCons (isiX isx_InvalidPart (xVar 0)) (xCons (isiX isx_InvalidSquare (xVar 0)) xNil))))))
    (ySeq (ySet 1 (xL (xAddN (xVar 1) (xL (xLst (xCons (isiX isx_InvalidFact (xVar 0)) (xCons (isiX isx_InvalidIndex (xVar 0)) (xCons (isiX isx_InvalidWish (xVar 0)) xNil))))))))
    (ySeq (ySet 1 (xL (xAddN (xVar 1) (xL (xLst (xCons (isiX isx_InvalidCommand (xVar 0)) (xCons (isiX isx_NotABoard (xVar 0)) (xCons (isiX isx_NotNotes (xVar 0)) xNil))))))))
    (ySeq (ySet 1 (xL (xAddN (xVar 1) (xL (xLst (xCons (isiX isx_NotARanking (xVar 0)) (xCons (isiX isx_OtherBoard (xVar 0)) (xCons (isiX isx_SameSetting (xVar 0)) xNil))))))))
    (ySeq (ySet 1 (xL (xAddN (xVar 1) (xL (xLst (xCons (isiX isx_InvalidSizes (xVar 0)) (xCons (isiX isx_InvalidFacts (xVar 0)) (xCons (isiX isx_InvalidOrder (xVar 0)) xNil))))))))
    (ySeq (ySet 1 (xL (xAddN (xVar 1) (xL (xLst (xCons (isiX isx_InvalidPeaks (xVar 0)) (xCons (isiX isx_InvalidWalks (xVar 0)) (xCons (isiX isx_InvalidRests (xVar 0)) xNil))))))))
    (ySeq (ySet 1 (xL (xAddN (xVar 1) (xL (xLst (xCons (isiX isx_UnknownSetting (xVar 0)) (xCons (isiX isx_TooMany (xVar 0)) (xCons (isiX isx_Broken (xVar 0)) xNil))))))))
    (ySeq (ySet 1 (xL (xAddN (xVar 1) (xL (xLst (xCons (isiX isx_NothingToUndo (xVar 0)) xNil))))))
    (yRet (xVar 1))))))))))
theorem l_law_sorts : CS R_law_sorts x_law_sorts := (s_seq (s_set (f_L (f_lst (f_cons (f_isi f_var) (f_cons (f_isi f_var) (f_cons (f_isi f_var) f_nil))))))
    (s_seq (s_set (f_L (f_addN f_var (f_L (f_lst (f_cons (f_isi f_var) (f_cons (f_isi f_var) (f_cons (f_isi f_var) f_nil))))))))
    (s_seq (s_set (f_L (f_addN f_var (f_L (f_lst (f_cons (f_isi f_var) (f_cons (f_isi f_var) (f_cons (f_isi f_var) f_nil))))))))
    (s_seq (s_set (f_L (f_addN f_var (f_L (f_lst (f_cons (f_isi f_var) (f_cons (f_isi f_var) (f_cons (f_isi f_var) f_nil))))))))
    (s_seq (s_set (f_L (f_addN f_var (f_L (f_lst (f_cons (f_isi f_var) (f_cons (f_isi f_var) (f_cons (f_isi f_var) f_nil))))))))
    (s_seq (s_set (f_L (f_addN f_var (f_L (f_lst (f_cons (f_isi f_var) (f_cons (f_isi f_var) (f_cons (f_isi f_var) f_nil))))))))
    (s_seq (s_set (f_L (f_addN f_var (f_L (f_lst (f_cons (f_isi f_var) (f_cons (f_isi f_var) (f_cons (f_isi f_var) f_nil))))))))
    (s_seq (s_set (f_L (f_addN f_var (f_L (f_lst (f_cons (f_isi f_var) f_nil))))))
    (s_ret f_var)))))))))
def cf_law_sorts : List D → R D := cfOf N_law_sorts 1 x_law_sorts
def sp_law_sorts : DSp := spOf cf_law_sorts
/-! _law_kept -/
abbrev N_law_kept : List Str := ["e", "at"]
def R_law_kept : FS := (sRet (fIf (fOrT (fTb (fChain ltD ltD (fC (.int 11)) (fVar 1) (fC (.int 18)))) (fTb (f2 eqD (fVar 1) (fC (.int 20))))) (fXat xt_index (fVar 0)) (fXat xt_given (fVar 0))))
def x_law_kept : DL.Env → RS := (yRet (xIf (xOrT (xTb (xChain ltX ltX (xC (.int 11)) (xVar 1) (xC (.int 18)))) (xTb (x2 eqX (xVar 1) (xC (.int 20))))) (xXat xt_index (xVar 0)) (xXat xt_given (xVar 0))))
theorem l_law_kept : CS R_law_kept x_law_kept := (s_ret (f_if (f_orT (f_tb (f_chain g_lt g_lt f_c f_var f_c)) (f_tb (f_2 g_eq f_var f_c))) (f_xat f_var) (f_xat f_var)))
def cf_law_kept : List D → R D := cfOf N_law_kept 2 x_law_kept
def sp_law_kept : DSp := spOf cf_law_kept
/-! _law_right -/
abbrev N_law_right : List Str := ["jar", "first", "second", "made", "at", "kept", "due", "k"]
def P_law_right_0 : FS := (sSet 3 (f2 addD (fVar 3) (fL (fLst (fCons (fMk0 30) fNil)))))
def yP_law_right_0 : DL.Env → RS := (ySet 3 (x2 addX (xVar 3) (xL (xLst (xCons (xMk0 30) xNil)))))
theorem lP_law_right_0 : CS P_law_right_0 yP_law_right_0 := (s_set (f_2 g_add f_var (f_L (f_lst (f_cons f_mk0 f_nil)))))
def P_law_right_1 : FS := (sIf (fTb (f2 neD (fCall sp_law_sorts (fCons (f2 ixD (fVar 3) (fVar 4)) fNil)) (fL (fLc (fRng1 (fCons (fC (.int 22)) fNil)) [7] (gVar 7) fYes (f2 eqD (fVar 7) (fVar 4)))))) (sRet (fC (.bl false))) sNext)
def yP_law_right_1 : DL.Env → RS := (yIf (xTb (x2 neX (xCall cf_law_sorts (xCons (x2 ixX (xVar 3) (xVar 4)) xNil)) (xL (xLc (iRng1 (xCons (xC (.int 22)) xNil)) [7] (yVar 7) xYes (x2 eqX (xVar 7) (xVar 4)))))) (yRet (xC (.bl false))) yNext)
theorem lP_law_right_1 : CS P_law_right_1 yP_law_right_1 := (s_if (f_tb (f_2 g_ne (f_call (f_cons (f_2 g_ix f_var f_var) f_nil)) (f_L (f_lc (f_rng1 (f_cons f_c f_nil)) t_var f_yes (f_2 g_eq f_var f_var))))) (s_ret f_c) s_next)
def P_law_right_2 : FS := (sSet 5 (fIf (fTb (f2 ltD (fVar 4) (fC (.int 18)))) (fC (.int 0)) (fIf (fTb (f2 eqD (fVar 4) (fC (.int 18)))) (fC (.int 1)) (fC (.int 2)))))
def yP_law_right_2 : DL.Env → RS := (ySet 5 (xIf (xTb (x2 ltX (xVar 4) (xC (.int 18)))) (xC (.int 0)) (xIf (xTb (x2 eqX (xVar 4) (xC (.int 18)))) (xC (.int 1)) (xC (.int 2)))))
theorem lP_law_right_2 : CS P_law_right_2 yP_law_right_2 := (s_set (f_if (f_tb (f_2 g_lt f_var f_c)) f_c (f_if (f_tb (f_2 g_eq f_var f_c)) f_c f_c)))
def P_law_right_3 : FS := (sIf (fTb (f2 neD (fCall sp_law_bases (fCons (f2 ixD (fVar 3) (fVar 4)) fNil)) (fL (fLc (fRng1 (fCons (fC (.int 3)) fNil)) [7] (gVar 7) fYes (f2 eqD (fVar 7) (fVar 5)))))) (sRet (fC (.bl false))) sNext)
def yP_law_right_3 : DL.Env → RS := (yIf (xTb (x2 neX (xCall cf_law_bases (xCons (x2 ixX (xVar 3) (xVar 4)) xNil)) (xL (xLc (iRng1 (xCons (xC (.int 3)) xNil)) [7] (yVar 7) xYes (x2 eqX (xVar 7) (xVar 5)))))) (yRet (xC (.bl false))) yNext)
theorem lP_law_right_3 : CS P_law_right_3 yP_law_right_3 := (s_if (f_tb (f_2 g_ne (f_call (f_cons (f_2 g_ix f_var f_var) f_nil)) (f_L (f_lc (f_rng1 (f_cons f_c f_nil)) t_var f_yes (f_2 g_eq f_var f_var))))) (s_ret f_c) s_next)
def P_law_right_4 : FS := (sSet 6 (fIf (fTb (f2 eqD (f2 modD (fCa intC (fCons (fVar 4) fNil)) (fC (.int 2))) (fC (.int 0)))) (fVar 1) (fVar 2)))
def yP_law_right_4 : DL.Env → RS := (ySet 6 (xIf (xTb (x2 eqX (x2 modX (xCa intCX (xCons (xVar 4) xNil)) (xC (.int 2))) (xC (.int 0)))) (xVar 1) (xVar 2)))
theorem lP_law_right_4 : CS P_law_right_4 yP_law_right_4 := (s_set (f_if (f_tb (f_2 g_eq (f_2 g_mod (f_ca g_intC (f_cons f_var f_nil)) f_c) f_c)) f_var f_var))
def P_law_right_5 : FS := (sIf (fAndT (fTb (f2 ltD (fVar 4) (fC (.int 21)))) (fTb (f2 neD (fCa reprD2 (fCons (fCall sp_law_kept (fCons (f2 ixD (fVar 3) (fVar 4)) (fCons (fVar 4) fNil))) fNil)) (fCa reprD2 (fCons (fVar 6) fNil))))) (sRet (fC (.bl false))) sNext)
def yP_law_right_5 : DL.Env → RS := (yIf (xAndT (xTb (x2 ltX (xVar 4) (xC (.int 21)))) (xTb (x2 neX (xCa reprX2 (xCons (xCall cf_law_kept (xCons (x2 ixX (xVar 3) (xVar 4)) (xCons (xVar 4) xNil))) xNil)) (xCa reprX2 (xCons (xVar 6) xNil))))) (yRet (xC (.bl false))) yNext)
theorem lP_law_right_5 : CS P_law_right_5 yP_law_right_5 := (s_if (f_andT (f_tb (f_2 g_lt f_var f_c)) (f_tb (f_2 g_ne (f_ca g_repr2 (f_cons (f_call (f_cons (f_2 g_ix f_var f_var) (f_cons f_var f_nil))) f_nil)) (f_ca g_repr2 (f_cons f_var f_nil))))) (s_ret f_c) s_next)
def L_law_right_0 : FS := (sSeq P_law_right_1
    (sSeq P_law_right_2
    (sSeq P_law_right_3
    (sSeq P_law_right_4
    P_law_right_5))))
def P_law_right_6 : FS := (sFor (fRng1 (fCons (fC (.int 22)) fNil)) (gVar 4)
      L_law_right_0)
def yP_law_right_6 : DL.Env → RS := (yFor (iRng1 (xCons (xC (.int 22)) xNil)) (yVar 4)
      (ySeq yP_law_right_1
    (ySeq yP_law_right_2
    (ySeq yP_law_right_3
    (ySeq yP_law_right_4
    yP_law_right_5)))))
theorem lP_law_right_6 : CS P_law_right_6 yP_law_right_6 := (s_for (f_rng1 (f_cons f_c f_nil)) t_var
      (s_seq lP_law_right_1
    (s_seq lP_law_right_2
    (s_seq lP_law_right_3
    (s_seq lP_law_right_4
    lP_law_right_5)))))
def L_law_right_1 : FS := (sSeq P_law_right_0
    P_law_right_6)
def P_law_right_7 : FS := (sFor (fItA (fL (fLst (fCons (fCall sp_law_by_place (fCons (fVar 1) (fCons (fVar 2) fNil))) (fCons (fCall sp_law_by_word (fCons (fVar 1) (fCons (fVar 2) fNil))) fNil))))) (gVar 3)
      L_law_right_1)
def yP_law_right_7 : DL.Env → RS := (yFor (iA (xL (xLst (xCons (xCall cf_law_by_place (xCons (xVar 1) (xCons (xVar 2) xNil))) (xCons (xCall cf_law_by_word (xCons (xVar 1) (xCons (xVar 2) xNil))) xNil))))) (yVar 3)
      (ySeq yP_law_right_0
    yP_law_right_6))
theorem lP_law_right_7 : CS P_law_right_7 yP_law_right_7 := (s_for (f_itA (f_L (f_lst (f_cons (f_call (f_cons f_var (f_cons f_var f_nil))) (f_cons (f_call (f_cons f_var (f_cons f_var f_nil))) f_nil))))) t_var
      (s_seq lP_law_right_0
    lP_law_right_6))
def R_law_right : FS := (sSeq (sPar 1 2 (fCons (fCall sp_law_odd (fCons (fVar 0) fNil)) (fCons (fCall sp_law_odd (fCons (fVar 0) fNil)) fNil)))
    (sSeq P_law_right_7
    (sRet (fC (.bl true)))))
def sp_law_right : DSp := fun ds Q _ => ds = [.jar] ∧ Q (.bl true)
/-! _law_jar -/
abbrev N_law_jar : List Str := ["script", "k", "mixed", "cell", "own", "digits"]
def P_law_jar_0 : FS := (sSet 2 (f2 addD (f2 mulAD (f2 mulAD (fC (.int 7369)) (f2 addD (fVar 1) (fC (.int 5)))) (f2 addD (fVar 1) (fC (.int 2)))) (f2 mulAD (fC (.int 29)) (fCa lenD (fCons (fVar 0) fNil)))))
def P_law_jar_1 : FS := (sSet 2 (f2 modD (fCa intC (fCons (f2 addD (f2 mulAD (fVar 2) (fC (.int 733))) (fVar 3)) fNil)) (fC (.int 1000000009))))
def L_law_jar_0 : FS := P_law_jar_1
def P_law_jar_2 : FS := (sFor (fItA (fSlice (fVar 0) fNone (fSome (fC (.int 4))))) (gVar 3)
      L_law_jar_0)
def P_law_jar_3 : FS := (sSet 4 (fIf (fTb (f2 ltD (fVar 1) (fCa lenD (fCons (fVar 0) fNil)))) (f2 ixD (fVar 0) (fVar 1)) (fC (.int 0))))
def P_law_jar_4 : FS := (sSet 5 (fIf (fOrT (fTb (f2 ltD (fVar 4) (fC (.int 0)))) (fTb (f2 geD (fVar 4) (f2 powD (fC (.int 10)) (fC (.int 18)))))) (fCa (i1D fun i => .int (if i < 0 then -i else i)) (fCons (fVar 4) fNil)) (fC (.int 0))))
def R_law_jar : FS := (sSeq P_law_jar_0
    (sSeq P_law_jar_2
    (sSeq P_law_jar_3
    (sSeq P_law_jar_4
    (sRetJar (fLst (fCons (fVar 5) (fCons (f2 modD (fCa intC (fCons (f2 addD (f2 addD (f2 mulAD (fVar 2) (fC (.int 8117))) (f2 mulAD (fVar 4) (fC (.int 64013)))) (f2 mulAD (fC (.int 105019)) (f2 addD (fVar 1) (fC (.int 1))))) fNil)) (fC (.int 2147483563))) (fCons (fC (.int 0)) fNil)))))))))
def sp_law_jar : DSp := fun ds Q _ => ∃ (ns : List Int) (k : Int), ds = [.lst (ns.map D.int), .int k] ∧ 0 ≤ k ∧ k < 1000 ∧ ns.length ≤ 63 ∧ Q .jar
/-! law -/
abbrev N_law : List Str := ["script", "plain_ones", "e", "k"]
def P_law_0 : FS := (sIf (fTb (f2 neD (fL (fLst (fCons (fC (.int 5)) (fCons (fC (.int 48)) (fCons (fC (.int 16)) (fCons (fC (.int 8)) fNil)))))) (fL (fLst (fCons (fC (.int 5)) (fCons (fC (.int 48)) (fCons (fC (.int 16)) (fCons (fC (.int 8)) fNil)))))))) (sRet (fC (.bl false))) sNext)
def yP_law_0 : DL.Env → RS := (yIf (xTb (x2 neX (xL (xLst (xCons (xC (.int 5)) (xCons (xC (.int 48)) (xCons (xC (.int 16)) (xCons (xC (.int 8)) xNil)))))) (xL (xLst (xCons (xC (.int 5)) (xCons (xC (.int 48)) (xCons (xC (.int 16)) (xCons (xC (.int 8)) xNil)))))))) (yRet (xC (.bl false))) yNext)
theorem lP_law_0 : CS P_law_0 yP_law_0 := (s_if (f_tb (f_2 g_ne (f_L (f_lst (f_cons f_c (f_cons f_c (f_cons f_c (f_cons f_c f_nil)))))) (f_L (f_lst (f_cons f_c (f_cons f_c (f_cons f_c (f_cons f_c f_nil)))))))) (s_ret f_c) s_next)
def P_law_1 : FS := (sSet 1 (fL (fLst (fCons (fMk0 8) (fCons (fMk0 9) (fCons (fMk0 10) fNil))))))
def yP_law_1 : DL.Env → RS := (ySet 1 (xL (xLst (xCons (xMk0 8) (xCons (xMk0 9) (xCons (xMk0 10) xNil))))))
theorem lP_law_1 : CS P_law_1 yP_law_1 := (s_set (f_L (f_lst (f_cons f_mk0 (f_cons f_mk0 (f_cons f_mk0 f_nil))))))
def P_law_2 : FS := (sIf (fTb (f2 neD (fL (fLc (fItA (fVar 1)) [2] (gVar 2) fYes (fCall sp_law_bases (fCons (fVar 2) fNil)))) (fL (fLst (fCons (fL (fLst (fCons (fC (.bl true)) (fCons (fC (.bl false)) (fCons (fC (.bl false)) fNil))))) (fCons (fL (fLst (fCons (fC (.bl false)) (fCons (fC (.bl true)) (fCons (fC (.bl false)) fNil))))) (fCons (fL (fLst (fCons (fC (.bl false)) (fCons (fC (.bl false)) (fCons (fC (.bl true)) fNil))))) fNil))))))) (sRet (fC (.bl false))) sNext)
def yP_law_2 : DL.Env → RS := (yIf (xTb (x2 neX (xL (xLc (iA (xVar 1)) [2] (yVar 2) xYes (xCall cf_law_bases (xCons (xVar 2) xNil)))) (xL (xLst (xCons (xL (xLst (xCons (xC (.bl true)) (xCons (xC (.bl false)) (xCons (xC (.bl false)) xNil))))) (xCons (xL (xLst (xCons (xC (.bl false)) (xCons (xC (.bl true)) (xCons (xC (.bl false)) xNil))))) (xCons (xL (xLst (xCons (xC (.bl false)) (xCons (xC (.bl false)) (xCons (xC (.bl true)) xNil))))) xNil))))))) (yRet (xC (.bl false))) yNext)
theorem lP_law_2 : CS P_law_2 yP_law_2 := (s_if (f_tb (f_2 g_ne (f_L (f_lc (f_itA f_var) t_var f_yes (f_call (f_cons f_var f_nil)))) (f_L (f_lst (f_cons (f_L (f_lst (f_cons f_c (f_cons f_c (f_cons f_c f_nil))))) (f_cons (f_L (f_lst (f_cons f_c (f_cons f_c (f_cons f_c f_nil))))) (f_cons (f_L (f_lst (f_cons f_c (f_cons f_c (f_cons f_c f_nil))))) f_nil))))))) (s_ret f_c) s_next)
def R_law : FS := (sSeq P_law_0
    (sSeq P_law_1
    (sSeq P_law_2
    (sRet (fCa (blsD fun bs => .bl (bs.all id)) (fCons (fL (fLc (fRng1 (fCons (fCa (i2D fun i j => .int (if j > i then j else i)) (fCons (fC (.int 2)) (fCons (fCa (i2D fun i j => .int (if j < i then j else i)) (fCons (fCa lenD (fCons (fVar 0) fNil)) (fCons (fC (.int 4)) fNil))) fNil))) fNil)) [3] (gVar 3) fYes (fCall sp_law_right (fCons (fCall sp_law_jar (fCons (fVar 0) (fCons (fVar 3) fNil))) fNil)))) fNil))))))
def sp_law : DSp := fun ds Q _ => ∃ ns : List Int, ds = [.lst (ns.map D.int)] ∧ ns.length ≤ 63 ∧ Q (.bl true)
end K01
namespace K01
open PySem L2 DL PyProof.Rows TP
theorem len_law_dip : ∀ ds Q EX, sp_law_dip ds Q EX → ds.length = 2 := by
  rintro _ Q EX ⟨m, rfl, _⟩; rfl
theorem pure_law_dip : ∀ ds Q EX, sp_law_dip ds Q EX → R_law_dip { nx := fun _ => Q .non, rt := Q } EX (startD N_law_dip ds) := by
  rintro _ Q EX ⟨m, rfl, h0, h1, k⟩
  have hm : m ≠ 0 := by omega
  have fin : ∀ n : Int, Q (.int (n.fmod m)) := fun n => k _ (fmod_lt n h0).1 (fmod_lt n h0).2
  intro n0 n1
  refine ⟨_, rfl, ?_⟩
  refine ite2 (fun _ => ?_) (fun _ => ?_)
  · intro n2
    refine ⟨hm, ?_⟩
    intro n3
    refine ⟨⟨hm, by omega⟩, ?_⟩
    exact fin n2
  · intro n2
    refine ⟨.inr (by decide), ?_⟩
    intro n3
    refine ⟨.inr (by decide), ?_⟩
    refine ⟨(by decide : (2147483399 : Int) ≠ 0), ?_⟩
    intro n4
    refine ⟨⟨(by decide : (2048 : Int) ≠ 0), by decide⟩, ?_⟩
    refine ⟨hm, ?_⟩
    exact fin _
theorem len_law_pick : ∀ ds Q EX, sp_law_pick ds Q EX → ds.length = 2 := by
  rintro _ Q EX ⟨xs, d, rfl, _⟩; rfl
theorem pure_law_pick : ∀ ds Q EX, sp_law_pick ds Q EX → R_law_pick { nx := fun _ => Q .non, rt := Q } EX (startD N_law_pick ds) := by
  rintro _ Q EX ⟨xs, d, rfl, hd, hne, hz, k⟩
  have hl : 0 < xs.length := List.length_pos_iff.mpr hne
  have fin : ∀ n : Int, 0 ≤ n → n < xs.length → ∃ i : Nat, n = (i : Int) ∧ ∃ h : i < xs.length, Q xs[i] := fun n h1 h2 => by
    obtain ⟨i, rfl⟩ := Int.eq_ofNat_of_zero_le h1
    have hi : i < xs.length := by omega
    exact ⟨i, rfl, hi, k _ (List.getElem_mem hi)⟩
  rcases hd with rfl | rfl
  · refine ⟨(xs.length : Int), rfl, by omega, by omega, fun n h1 h2 => ?_⟩
    obtain ⟨i, rfl, hi, q⟩ := fin n h1 h2
    exact ⟨(i : Int), xs[i], rfl, atI_nat hi, q⟩
  · refine ⟨(xs.length : Int), rfl, by omega, by omega, fun n h1 h2 => ?_⟩
    obtain ⟨i, rfl, hi, q⟩ := fin n h1 h2
    exact ⟨(i : Int), xs[i], rfl, atI_nat hi, q⟩
def odd1 : List D := [.non, .bl true, .bl false, .int 0, .int 1, .int (-1), .int 2, .int (10 ^ 30), .str "", .str "0"]
def odd2 : List D := [.str "00", .str "3", .str "0 1", .tup [], .tup [.int 1], .tup [.str "0"], .tup [.str "0", .str "1"], .lst [.str "0"], .lst []]
def odd3 : List D := [.dic [] [], .dic [.inr "0"] [.int 1], .tup [.non, .int 0], .str "0\n1", .tup [.tup [.str "0", .str "1"]], .tup [.str "0", .str "0"], .lst [.lst []], .str "000000", .tup [.tup []], .tup [.int 2, .int 2]]
theorem odd_run0 : yP_law_odd_0 [.val .jar, .un] = .nx [.val .jar, .val (.lst odd1)] := by kernel_rfl
theorem odd_run1 : yP_law_odd_1 [.val .jar, .val (.lst odd1)] = .nx [.val .jar, .val (.lst (odd1 ++ odd2))] := by kernel_rfl
theorem odds_ok : ∀ d ∈ (odd1 ++ odd2) ++ odd3, vokB d = true := by decide +kernel
theorem len_law_odd : ∀ ds Q EX, sp_law_odd ds Q EX → ds.length = 1 := by
  rintro _ Q EX ⟨rfl, _⟩; rfl
theorem pure_law_odd : ∀ ds Q EX, sp_law_odd ds Q EX → R_law_odd { nx := fun _ => Q .non, rt := Q } EX (startD N_law_odd ds) := by
  rintro _ Q EX ⟨rfl, k⟩
  refine lP_law_odd_0.use (r := [.val .jar, .un]) rfl odd_run0 rfl ?_
  refine lP_law_odd_1.use (r := [.val .jar, .val (.lst odd1)]) rfl odd_run1 rfl ?_
  dsimp only
  refine ret_pick (i := 0) (r := [.val .jar, .val (.lst (odd1 ++ odd2))]) (d := .lst ((odd1 ++ odd2) ++ odd3)) (d0 := .jar) (by repeat' first | exact f_c | exact f_var | exact f_see | exact f_nil | exact CPs.nil | apply f_L | apply f_addN | apply f_lst | apply f_cons | apply f_tup | apply f_neg | apply f_dic | apply CPs.cons) rfl rfl ?_ ?_
  · kernel_rfl
  · exact ⟨_, _, rfl, .inl rfl, by decide, by decide, fun d hd => k d (vok_b (odds_ok d hd))⟩
def md0 (a b : D) : List D := [.exc 11 [a], .exc 12 [b], .exc 13 [a], .exc 14 [b], .exc 15 [a], .exc 16 [b], .exc 17 [a], .exc 18 [b], .exc 19 [a], .exc 20 [b], .exc 21 [a], .exc 22 [b], .exc 23 [a], .exc 24 [b], .exc 25 [a], .exc 26 [b], .exc 27 [a], .exc 28 [b], .exc 29 [a], .exc 31 [b], .exc 32 [a]]
def md (a b : D) : List D := [.exc 11 [a], .exc 12 [b], .exc 13 [a], .exc 14 [b], .exc 15 [a], .exc 16 [b], .exc 17 [a], .exc 18 [b], .exc 19 [a], .exc 20 [b], .exc 21 [a], .exc 22 [b], .exc 23 [a], .exc 24 [b], .exc 25 [a], .exc 26 [b], .exc 27 [a], .exc 28 [b], .exc 29 [a], .exc 31 [b], .exc 32 [a], .exc 30 []]
theorem t_law_by_place (a b : D) : cf_law_by_place [a, b] = .ok (.lst (md0 a b)) := by
  refine cf_ok (by rfl) ?_; simp only [x_law_by_place, DL.startD, N_law_by_place, List.map_cons, List.map_nil, List.length_cons, List.length_nil, Nat.reduceAdd, Nat.reduceSub, List.replicate_succ, List.replicate_zero, List.cons_append, List.nil_append]
  refine S_set (d := .lst [.exc 11 [a], .exc 12 [b], .exc 13 [a], .exc 14 [b]]) (by kernel_rfl) ?_
  refine S_set (d := .lst [.exc 11 [a], .exc 12 [b], .exc 13 [a], .exc 14 [b], .exc 15 [a], .exc 16 [b], .exc 17 [a], .exc 18 [b]]) (by kernel_rfl) ?_
  refine S_set (d := .lst [.exc 11 [a], .exc 12 [b], .exc 13 [a], .exc 14 [b], .exc 15 [a], .exc 16 [b], .exc 17 [a], .exc 18 [b], .exc 19 [a], .exc 20 [b], .exc 21 [a], .exc 22 [b]]) (by kernel_rfl) ?_
  refine S_set (d := .lst [.exc 11 [a], .exc 12 [b], .exc 13 [a], .exc 14 [b], .exc 15 [a], .exc 16 [b], .exc 17 [a], .exc 18 [b], .exc 19 [a], .exc 20 [b], .exc 21 [a], .exc 22 [b], .exc 23 [a], .exc 24 [b], .exc 25 [a], .exc 26 [b]]) (by kernel_rfl) ?_
  refine S_set (d := .lst [.exc 11 [a], .exc 12 [b], .exc 13 [a], .exc 14 [b], .exc 15 [a], .exc 16 [b], .exc 17 [a], .exc 18 [b], .exc 19 [a], .exc 20 [b], .exc 21 [a], .exc 22 [b], .exc 23 [a], .exc 24 [b], .exc 25 [a], .exc 26 [b], .exc 27 [a], .exc 28 [b], .exc 29 [a], .exc 31 [b]]) (by kernel_rfl) ?_
  refine S_set (d := .lst [.exc 11 [a], .exc 12 [b], .exc 13 [a], .exc 14 [b], .exc 15 [a], .exc 16 [b], .exc 17 [a], .exc 18 [b], .exc 19 [a], .exc 20 [b], .exc 21 [a], .exc 22 [b], .exc 23 [a], .exc 24 [b], .exc 25 [a], .exc 26 [b], .exc 27 [a], .exc 28 [b], .exc 29 [a], .exc 31 [b], .exc 32 [a]]) (by kernel_rfl) ?_
  exact W_ret (d := .lst (md0 a b)) (by kernel_rfl) rfl
theorem t_law_by_word (a b : D) : cf_law_by_word [a, b] = .ok (.lst (md0 a b)) := by
  refine cf_ok (by rfl) ?_; simp only [x_law_by_word, DL.startD, N_law_by_word, List.map_cons, List.map_nil, List.length_cons, List.length_nil, Nat.reduceAdd, Nat.reduceSub, List.replicate_succ, List.replicate_zero, List.cons_append, List.nil_append]
  refine S_set (d := .lst [.exc 11 [a], .exc 12 [b], .exc 13 [a]]) (by kernel_rfl) ?_
  refine S_set (d := .lst [.exc 11 [a], .exc 12 [b], .exc 13 [a], .exc 14 [b], .exc 15 [a], .exc 16 [b]]) (by kernel_rfl) ?_
  refine S_set (d := .lst [.exc 11 [a], .exc 12 [b], .exc 13 [a], .exc 14 [b], .exc 15 [a], .exc 16 [b], .exc 17 [a], .exc 18 [b], .exc 19 [a]]) (by kernel_rfl) ?_
  refine S_set (d := .lst [.exc 11 [a], .exc 12 [b], .exc 13 [a], .exc 14 [b], .exc 15 [a], .exc 16 [b], .exc 17 [a], .exc 18 [b], .exc 19 [a], .exc 20 [b], .exc 21 [a], .exc 22 [b]]) (by kernel_rfl) ?_
  refine S_set (d := .lst [.exc 11 [a], .exc 12 [b], .exc 13 [a], .exc 14 [b], .exc 15 [a], .exc 16 [b], .exc 17 [a], .exc 18 [b], .exc 19 [a], .exc 20 [b], .exc 21 [a], .exc 22 [b], .exc 23 [a], .exc 24 [b], .exc 25 [a]]) (by kernel_rfl) ?_
  refine S_set (d := .lst [.exc 11 [a], .exc 12 [b], .exc 13 [a], .exc 14 [b], .exc 15 [a], .exc 16 [b], .exc 17 [a], .exc 18 [b], .exc 19 [a], .exc 20 [b], .exc 21 [a], .exc 22 [b], .exc 23 [a], .exc 24 [b], .exc 25 [a], .exc 26 [b], .exc 27 [a], .exc 28 [b]]) (by kernel_rfl) ?_
  refine S_set (d := .lst [.exc 11 [a], .exc 12 [b], .exc 13 [a], .exc 14 [b], .exc 15 [a], .exc 16 [b], .exc 17 [a], .exc 18 [b], .exc 19 [a], .exc 20 [b], .exc 21 [a], .exc 22 [b], .exc 23 [a], .exc 24 [b], .exc 25 [a], .exc 26 [b], .exc 27 [a], .exc 28 [b], .exc 29 [a], .exc 31 [b], .exc 32 [a]]) (by kernel_rfl) ?_
  exact W_ret (d := .lst (md0 a b)) (by kernel_rfl) rfl
theorem lt22 {n : Nat} (h : n < 22) : n = 0 ∨ n = 1 ∨ n = 2 ∨ n = 3 ∨ n = 4 ∨ n = 5 ∨ n = 6 ∨ n = 7 ∨ n = 8 ∨ n = 9 ∨ n = 10 ∨ n = 11 ∨ n = 12 ∨ n = 13 ∨ n = 14 ∨ n = 15 ∨ n = 16 ∨ n = 17 ∨ n = 18 ∨ n = 19 ∨ n = 20 ∨ n = 21 := by omega
theorem of22 {P : Nat → Prop} (h : P 0 ∧ P 1 ∧ P 2 ∧ P 3 ∧ P 4 ∧ P 5 ∧ P 6 ∧ P 7 ∧ P 8 ∧ P 9 ∧ P 10 ∧ P 11 ∧ P 12 ∧ P 13 ∧ P 14 ∧ P 15 ∧ P 16 ∧ P 17 ∧ P 18 ∧ P 19 ∧ P 20 ∧ P 21) : ∀ n, n < 22 → P n := fun n hn => by
  obtain ⟨h0, h1, h2, h3, h4, h5, h6, h7, h8, h9, h10, h11, h12, h13, h14, h15, h16, h17, h18, h19, h20, h21⟩ := h
  rcases lt22 hn with rfl | rfl | rfl | rfl | rfl | rfl | rfl | rfl | rfl | rfl | rfl | rfl | rfl | rfl | rfl | rfl | rfl | rfl | rfl | rfl | rfl | rfl <;> assumption
def it (a b : D) (n : Nat) : D := (md a b).getD n .non
def row (n : Nat) : D := .lst ((List.range 22).map fun k => .bl (decide (k = n)))
def kept (n : Nat) : Nat := if n < 18 then 0 else if n = 18 then 1 else 2
def brow (n : Nat) : D := .lst ((List.range 3).map fun k => .bl (decide (k = kept n)))
def due (a b : D) (n : Nat) : D := if n % 2 = 0 then a else b
theorem it_ix (a b : D) : ∀ n : Nat, n < 22 → ixX (.lst (md a b)) (.int n) = some (it a b n) := of22 ⟨by kernel_rfl, by kernel_rfl, by kernel_rfl, by kernel_rfl, by kernel_rfl, by kernel_rfl, by kernel_rfl, by kernel_rfl, by kernel_rfl, by kernel_rfl, by kernel_rfl, by kernel_rfl, by kernel_rfl, by kernel_rfl, by kernel_rfl, by kernel_rfl, by kernel_rfl, by kernel_rfl, by kernel_rfl, by kernel_rfl, by kernel_rfl, by kernel_rfl⟩
theorem it_sorts (a b : D) : ∀ n : Nat, n < 22 → cf_law_sorts [it a b n] = .ok (row n) := of22 ⟨by kernel_rfl, by kernel_rfl, by kernel_rfl, by kernel_rfl, by kernel_rfl, by kernel_rfl, by kernel_rfl, by kernel_rfl, by kernel_rfl, by kernel_rfl, by kernel_rfl, by kernel_rfl, by kernel_rfl, by kernel_rfl, by kernel_rfl, by kernel_rfl, by kernel_rfl, by kernel_rfl, by kernel_rfl, by kernel_rfl, by kernel_rfl, by kernel_rfl⟩
theorem it_bases (a b : D) : ∀ n : Nat, n < 22 → cf_law_bases [it a b n] = .ok (brow n) := of22 ⟨by kernel_rfl, by kernel_rfl, by kernel_rfl, by kernel_rfl, by kernel_rfl, by kernel_rfl, by kernel_rfl, by kernel_rfl, by kernel_rfl, by kernel_rfl, by kernel_rfl, by kernel_rfl, by kernel_rfl, by kernel_rfl, by kernel_rfl, by kernel_rfl, by kernel_rfl, by kernel_rfl, by kernel_rfl, by kernel_rfl, by kernel_rfl, by kernel_rfl⟩
theorem it_kept (a b : D) : ∀ n : Nat, n < 22 → n < 21 → cf_law_kept [it a b n, .int n] = .ok (due a b n) := of22 ⟨fun _ => by kernel_rfl, fun _ => by kernel_rfl, fun _ => by kernel_rfl, fun _ => by kernel_rfl, fun _ => by kernel_rfl, fun _ => by kernel_rfl, fun _ => by kernel_rfl, fun _ => by kernel_rfl, fun _ => by kernel_rfl, fun _ => by kernel_rfl, fun _ => by kernel_rfl, fun _ => by kernel_rfl, fun _ => by kernel_rfl, fun _ => by kernel_rfl, fun _ => by kernel_rfl, fun _ => by kernel_rfl, fun _ => by kernel_rfl, fun _ => by kernel_rfl, fun _ => by kernel_rfl, fun _ => by kernel_rfl, fun _ => by kernel_rfl, fun h => absurd h (by decide)⟩
theorem row_ne : ∀ n : Nat, n < 22 → neX (row n) (row n) = some (.bl false) := of22 ⟨by kernel_rfl, by kernel_rfl, by kernel_rfl, by kernel_rfl, by kernel_rfl, by kernel_rfl, by kernel_rfl, by kernel_rfl, by kernel_rfl, by kernel_rfl, by kernel_rfl, by kernel_rfl, by kernel_rfl, by kernel_rfl, by kernel_rfl, by kernel_rfl, by kernel_rfl, by kernel_rfl, by kernel_rfl, by kernel_rfl, by kernel_rfl, by kernel_rfl⟩
theorem brow_ne : ∀ n : Nat, n < 22 → neX (brow n) (brow n) = some (.bl false) := of22 ⟨by kernel_rfl, by kernel_rfl, by kernel_rfl, by kernel_rfl, by kernel_rfl, by kernel_rfl, by kernel_rfl, by kernel_rfl, by kernel_rfl, by kernel_rfl, by kernel_rfl, by kernel_rfl, by kernel_rfl, by kernel_rfl, by kernel_rfl, by kernel_rfl, by kernel_rfl, by kernel_rfl, by kernel_rfl, by kernel_rfl, by kernel_rfl, by kernel_rfl⟩
theorem rows_lc (a b : D) (j5 j6 j7 : Option D) : ∀ n : Nat, n < 22 → xL (xLc (iRng1 (xCons (xC (.int 22)) xNil)) [7] (yVar 7) xYes (x2 eqX (xVar 7) (xVar 4))) [.val .jar, .val a, .val b, .val (.lst (md a b)), .val (.int n), jk j5, jk j6, jk j7] = .ok (row n) := of22 ⟨by kernel_rfl, by kernel_rfl, by kernel_rfl, by kernel_rfl, by kernel_rfl, by kernel_rfl, by kernel_rfl, by kernel_rfl, by kernel_rfl, by kernel_rfl, by kernel_rfl, by kernel_rfl, by kernel_rfl, by kernel_rfl, by kernel_rfl, by kernel_rfl, by kernel_rfl, by kernel_rfl, by kernel_rfl, by kernel_rfl, by kernel_rfl, by kernel_rfl⟩
theorem brows_lc (a b : D) (j6 j7 : Option D) : ∀ n : Nat, n < 22 → xL (xLc (iRng1 (xCons (xC (.int 3)) xNil)) [7] (yVar 7) xYes (x2 eqX (xVar 7) (xVar 5))) [.val .jar, .val a, .val b, .val (.lst (md a b)), .val (.int n), .val (.int (kept n)), jk j6, jk j7] = .ok (brow n) := of22 ⟨by kernel_rfl, by kernel_rfl, by kernel_rfl, by kernel_rfl, by kernel_rfl, by kernel_rfl, by kernel_rfl, by kernel_rfl, by kernel_rfl, by kernel_rfl, by kernel_rfl, by kernel_rfl, by kernel_rfl, by kernel_rfl, by kernel_rfl, by kernel_rfl, by kernel_rfl, by kernel_rfl, by kernel_rfl, by kernel_rfl, by kernel_rfl, by kernel_rfl⟩
theorem kept_set (a b : D) (j5 j6 j7 : Option D) : ∀ n : Nat, n < 22 → xIf (xTb (x2 ltX (xVar 4) (xC (.int 18)))) (xC (.int 0)) (xIf (xTb (x2 eqX (xVar 4) (xC (.int 18)))) (xC (.int 1)) (xC (.int 2))) [.val .jar, .val a, .val b, .val (.lst (md a b)), .val (.int n), jk j5, jk j6, jk j7] = .ok (.int (kept n)) := of22 ⟨by kernel_rfl, by kernel_rfl, by kernel_rfl, by kernel_rfl, by kernel_rfl, by kernel_rfl, by kernel_rfl, by kernel_rfl, by kernel_rfl, by kernel_rfl, by kernel_rfl, by kernel_rfl, by kernel_rfl, by kernel_rfl, by kernel_rfl, by kernel_rfl, by kernel_rfl, by kernel_rfl, by kernel_rfl, by kernel_rfl, by kernel_rfl, by kernel_rfl⟩
theorem due_set (a b : D) (j6 j7 : Option D) : ∀ n : Nat, n < 22 → xIf (xTb (x2 eqX (x2 modX (xCa intCX (xCons (xVar 4) xNil)) (xC (.int 2))) (xC (.int 0)))) (xVar 1) (xVar 2) [.val .jar, .val a, .val b, .val (.lst (md a b)), .val (.int n), .val (.int (kept n)), jk j6, jk j7] = .ok (due a b n) := of22 ⟨by kernel_rfl, by kernel_rfl, by kernel_rfl, by kernel_rfl, by kernel_rfl, by kernel_rfl, by kernel_rfl, by kernel_rfl, by kernel_rfl, by kernel_rfl, by kernel_rfl, by kernel_rfl, by kernel_rfl, by kernel_rfl, by kernel_rfl, by kernel_rfl, by kernel_rfl, by kernel_rfl, by kernel_rfl, by kernel_rfl, by kernel_rfl, by kernel_rfl⟩
theorem one_right {a b : D} (ha : VOk a) (hb : VOk b) {A : DE} {EX : XP} {n : Nat} (hn : n < 22) {j5 j6 j7 : Option D} (hA : ∀ j5 j6 j7, A.nx [.val .jar, .val a, .val b, .val (.lst (md a b)), .val (.int n), jk j5, jk j6, jk j7]) :
    W (ySeq yP_law_right_1 (ySeq yP_law_right_2 (ySeq yP_law_right_3 (ySeq yP_law_right_4 yP_law_right_5)))) A EX [.val .jar, .val a, .val b, .val (.lst (md a b)), .val (.int n), jk j5, jk j6, jk j7] := by
  have hd : VOk (due a b n) := by unfold due; split <;> assumption
  refine S_skip (E_tb (E_2 (E_call (E_cons (E_2 rfl rfl (it_ix a b n hn)) E_nil) (it_sorts a b n hn)) (rows_lc a b j5 j6 j7 n hn) (row_ne n hn))) ?_
  refine S_set (kept_set a b j5 j6 j7 n hn) ?_
  show W _ A EX [.val .jar, .val a, .val b, .val (.lst (md a b)), .val (.int n), .val (.int (kept n)), jk j6, jk j7]
  refine S_skip (E_tb (E_2 (E_call (E_cons (E_2 rfl rfl (it_ix a b n hn)) E_nil) (it_bases a b n hn)) (brows_lc a b j6 j7 n hn) (brow_ne n hn))) ?_
  refine S_set (due_set a b j6 j7 n hn) ?_
  show W _ A EX [.val .jar, .val a, .val b, .val (.lst (md a b)), .val (.int n), .val (.int (kept n)), .val (due a b n), jk j7]
  have t1 : xTb (x2 ltX (xVar 4) (xC (.int 21))) [.val .jar, .val a, .val b, .val (.lst (md a b)), .val (.int n), .val (.int (kept n)), .val (due a b n), jk j7] = .ok (decide ((n : Int) < 21)) := E_tb (E_2 rfl rfl ltX_int)
  refine W_if (v := false) ?_ (fun z => nomatch z) fun _ => W_next (hA (some _) (some _) _)
  by_cases h21 : n < 21
  · rw [decide_eq_true (show (n : Int) < 21 by omega)] at t1
    exact E_andT (c := false) t1 fun _ => E_tb (E_2 (E_ca (E_cons (E_call (E_cons (E_2 rfl rfl (it_ix a b n hn)) (E_cons rfl E_nil)) (it_kept a b n hn h21)) E_nil) hd.repr) (E_ca (E_cons rfl E_nil) hd.repr) neX_str)
  · rw [decide_eq_false (show ¬ (n : Int) < 21 by omega)] at t1
    exact E_andT (c := false) t1 fun z => nomatch z
theorem len_law_right : ∀ ds Q EX, sp_law_right ds Q EX → ds.length = 1 := by
  rintro _ Q EX ⟨rfl, _⟩; rfl
theorem iRng_22 {r : List Sl} : iRng1 (xCons (xC (.int 22)) xNil) r = .ok ((List.range 22).map fun n : Nat => D.int n) := by kernel_rfl
theorem pure_law_right : ∀ ds Q EX, sp_law_right ds Q EX → R_law_right { nx := fun _ => Q .non, rt := Q } EX (startD N_law_right ds) := by
  rintro _ Q EX ⟨rfl, k⟩
  refine ⟨rfl, fun a ha => ?_⟩
  refine ⟨rfl, fun b hb => ?_⟩
  refine ⟨_, _, rfl, ?_⟩
  (try dsimp only); refine lP_law_right_7.goW ?_ ?_; exact (by first | rfl | (simp only [List.set_cons_zero, List.set_cons_succ, List.map_cons, List.map_nil, adr_jk, adr_jo, adr_val, adr_un, adr_own]; done))
  refine W_for (em := D.lst) (xs := [md0 a b, md0 a b]) (fun _ r => ∃ j3 j4 j5 j6 j7 : Option D, r = [.val .jar, .val a, .val b, jk j3, jk j4, jk j5, jk j6, jk j7]) (iA_ok (E_L (E_lst (E_cons (E_call (E_cons rfl (E_cons rfl E_nil)) (t_law_by_place a b)) (E_cons (E_call (E_cons rfl (E_cons rfl E_nil)) (t_law_by_word a b)) E_nil)) (Nat.le_of_ble_eq_true rfl))) rfl) ⟨none, none, none, none, none, rfl⟩ ?_ ?_
  · rintro p x q hx r ⟨j3, j4, j5, j6, j7, rfl⟩
    have hx' : x = md0 a b := by
      have : x ∈ [md0 a b, md0 a b] := by rw [hx]; simp
      simpa using this
    subst hx'
    refine ⟨_, rfl, S_set (d := .lst (md a b)) (by kernel_rfl) ?_⟩
    refine W_for (em := fun n : Nat => D.int n) (xs := List.range 22) (fun _ r => ∃ j4 j5 j6 j7 : Option D, r = [.val .jar, .val a, .val b, .val (.lst (md a b)), jk j4, jk j5, jk j6, jk j7]) iRng_22 ⟨j4, j5, j6, j7, rfl⟩ ?_ ?_
    · rintro p2 n q2 hn r ⟨j4, j5, j6, j7, rfl⟩
      have hn' : n < 22 := List.mem_range.mp (by rw [hn]; simp)
      exact ⟨_, rfl, one_right (j5 := j5) (j6 := j6) (j7 := j7) ha hb hn' fun j5 j6 j7 => ⟨some _, j5, j6, j7, rfl⟩⟩
    · rintro r ⟨j4, j5, j6, j7, rfl⟩
      exact ⟨some _, j4, j5, j6, j7, rfl⟩
  · rintro r ⟨j3, j4, j5, j6, j7, rfl⟩
    exact ⟨(by first | rfl | (simp only [List.set_cons_zero, List.set_cons_succ, List.map_cons, List.map_nil, adr_jk, adr_jo, adr_val, adr_un, adr_own]; done)), k⟩
theorem len_law_jar : ∀ ds Q EX, sp_law_jar ds Q EX → ds.length = 2 := by
  rintro _ Q EX ⟨ns, k, rfl, _⟩; rfl
theorem loop_jar {A : DE} {EX : XP} {a k : D} (hA : ∀ (m : Int) x y z, A.nx [.val a, .val k, .val (.int m), x, y, z]) : ∀ (ds : List D) (m : Int) (x y z : Sl), (∀ d ∈ ds, ∃ n : Int, d = .int n) → forD (gVar 3) L_law_jar_0 ds A EX [.val a, .val k, .val (.int m), x, y, z]
  | [], m, x, y, z, _ => hA m x y z
  | d :: ds, m, x, y, z, h => by
    obtain ⟨n, rfl⟩ := h d List.mem_cons_self
    refine ⟨.inr (by decide), ?_⟩
    refine ⟨(by decide : (1000000009 : Int) ≠ 0), ?_⟩
    exact loop_jar (EX := EX) hA ds _ _ _ _ fun d hd => h d (List.mem_cons_of_mem _ hd)
theorem cut_mem {ds : List D} {lo hi : Option Int} {d : D} (h : d ∈ cutD ds lo hi) : d ∈ ds := List.mem_of_mem_drop (List.mem_of_mem_take h)
theorem pure_law_jar : ∀ ds Q EX, sp_law_jar ds Q EX → R_law_jar { nx := fun _ => Q .non, rt := Q } EX (startD N_law_jar ds) := by
  rintro _ Q EX ⟨ns, k, rfl, h0, h1, hl, q⟩
  refine ⟨.inl (by decide), ?_⟩
  refine ⟨.inr ⟨by omega, by omega⟩, ?_⟩
  refine ⟨.inl (by decide), ?_⟩
  refine ⟨_, rfl, ?_⟩
  refine ⟨_, rfl, ?_⟩
  refine loop_jar (fun m x y z => ?_) _ _ _ _ _ (fun d hd => ?_)
  · -- own = script[k] if k < len(script) else 0
    refine ⟨_, rfl, ?_⟩
    have rest : ∀ own : Int, (sSeq (sSet 5 (fIf (fOrT (fTb (f2 ltD (fVar 4) (fC (.int 0)))) (fTb (f2 geD (fVar 4) (f2 powD (fC (.int 10)) (fC (.int 18)))))) (fCa (i1D fun i => .int (if i < 0 then -i else i)) (fCons (fVar 4) fNil)) (fC (.int 0))))
    (sRetJar (fLst (fCons (fVar 5) (fCons (f2 modD (fCa intC (fCons (f2 addD (f2 addD (f2 mulD (fVar 2) (fC (.int 8117))) (f2 mulD (fVar 4) (fC (.int 64013)))) (f2 mulD (fC (.int 105019)) (f2 addD (fVar 1) (fC (.int 1))))) fNil)) (fC (.int 2147483563))) (fCons (fC (.int 0)) fNil)))))) { nx := fun _ => Q .non, rt := Q } EX [.val (.lst (ns.map D.int)), .val (.int k), .val (.int m), x, .val (.int own), z] := by
      intro own
      have last : ∀ dg : Int, (sRetJar (fLst (fCons (fVar 5) (fCons (f2 modD (fCa intC (fCons (f2 addD (f2 addD (f2 mulD (fVar 2) (fC (.int 8117))) (f2 mulD (fVar 4) (fC (.int 64013)))) (f2 mulD (fC (.int 105019)) (f2 addD (fVar 1) (fC (.int 1))))) fNil)) (fC (.int 2147483563))) (fCons (fC (.int 0)) fNil))))) { nx := fun _ => Q .non, rt := Q } EX [.val (.lst (ns.map D.int)), .val (.int k), .val (.int m), x, .val (.int own), .val (.int dg)] := by
        intro dg
        refine ⟨.inr (by decide), ?_⟩
        refine ⟨.inr (by decide), ?_⟩
        refine ⟨.inl (by decide), ?_⟩
        refine ⟨(by decide : (2147483563 : Int) ≠ 0), ?_⟩
        exact ⟨(by decide : 3 ≤ sizeLine), q⟩
      refine ⟨_, rfl, ?_⟩
      refine ite2 (fun _ => ?_) (fun _ => ?_)
      · exact last _
      · refine ⟨⟨by decide, by decide, by decide⟩, ?_⟩
        refine ⟨_, rfl, ?_⟩
        refine ite2 (fun _ => ?_) (fun _ => ?_)
        · exact last _
        · exact last _
    refine ite2 (fun hb => ?_) (fun _ => ?_)
    · have hk : k < (ns.length : Int) := by
        have := of_decide_eq_true hb
        simpa using this
      obtain ⟨i, rfl⟩ := Int.eq_ofNat_of_zero_le h0
      have hi : i < (ns.map D.int).length := by simp; omega
      refine ⟨(i : Int), _, rfl, atI_nat hi, ?_⟩
      rw [List.getElem_map]
      exact rest _
    · exact rest 0
  · obtain ⟨n, _, e⟩ := List.mem_map.mp (cut_mem hd)
    exact ⟨n, e.symm⟩
theorem law_run0 (v : D) : yP_law_0 [.val v, .un, .un, .un] = .nx [.val v, .un, .un, .un] := by kernel_rfl
theorem law_run1 (v : D) : yP_law_1 [.val v, .un, .un, .un] = .nx [.val v, .val (.lst [.exc 8 [], .exc 9 [], .exc 10 []]), .un, .un] := by kernel_rfl
theorem law_run2 (v : D) : yP_law_2 [.val v, .val (.lst [.exc 8 [], .exc 9 [], .exc 10 []]), .un, .un] = .nx [.val v, .val (.lst [.exc 8 [], .exc 9 [], .exc 10 []]), .un, .un] := by kernel_rfl
theorem loop_law {ns : List Int} {x : Sl} (hl : ns.length ≤ 63) {Q : List D → Prop} : ∀ (ds : List D) (n : Nat), (∀ d ∈ ds, ∃ k : Int, d = .int k ∧ 0 ≤ k ∧ k < 1000) → ds.length + n ≤ 10000 → Q (List.replicate (ds.length + n) (.bl true)) →
    lcD (gVar 3) fYes (fCall sp_law_right (fCons (fCall sp_law_jar (fCons (fVar 0) (fCons (fVar 3) fNil))) fNil)) [.val (.lst (ns.map D.int)), x, .un, .un] ds (List.replicate n (.bl true)) Q
  | [], n, _, _, q => by
    have q' := q
    rw [List.length_nil, Nat.zero_add] at q'
    exact q'
  | d :: ds, n, h, hz, q => by
    obtain ⟨k, rfl, h0, h1⟩ := h d List.mem_cons_self
    rw [List.length_cons] at hz q
    unfold lcD gVar fYes
    dsimp only
    rw [if_pos rfl]
    refine ⟨ns, k, rfl, h0, h1, hl, rfl, ?_⟩
    refine ⟨by rw [List.length_replicate, sl_eq]; omega, ?_⟩
    rw [← List.replicate_succ']
    exact loop_law hl ds (n + 1) (fun d hd => h d (List.mem_cons_of_mem _ hd)) (by omega) (by rw [show ds.length + (n + 1) = ds.length + 1 + n by omega]; exact q)
theorem all_true : ∀ n : Nat, (List.replicate n true).all id = true
  | 0 => rfl
  | n + 1 => by rw [List.replicate_succ, List.all_cons, all_true n]; rfl
theorem bools_rep : ∀ n : Nat, blsOf (List.replicate n (D.bl true)) = some (List.replicate n true)
  | 0 => rfl
  | n + 1 => by
    rw [List.replicate_succ, List.replicate_succ]
    unfold blsOf
    rw [bools_rep n]; rfl
theorem len_law : ∀ ds Q EX, sp_law ds Q EX → ds.length = 1 := by
  rintro _ Q EX ⟨ns, rfl, _⟩; rfl
theorem pure_law : ∀ ds Q EX, sp_law ds Q EX → R_law { nx := fun _ => Q .non, rt := Q } EX (startD N_law ds) := by
  rintro _ Q EX ⟨ns, rfl, hl, q⟩
  refine lP_law_0.use (EX := EX) (r := [.val (.lst (ns.map D.int)), .un, .un, .un]) rfl (law_run0 _) rfl ?_
  dsimp only
  refine lP_law_1.use (EX := EX) (r := [.val (.lst (ns.map D.int)), .un, .un, .un]) rfl (law_run1 _) rfl ?_
  dsimp only
  refine lP_law_2.use (EX := EX) (r := [.val (.lst (ns.map D.int)), .val (.lst [.exc 8 [], .exc 9 [], .exc 10 []]), .un, .un]) rfl (law_run2 _) rfl ?_
  dsimp only
  have h63 : (ns.map D.int).length ≤ 63 := by simpa using hl
  refine ⟨_, rfl, ?_, ?_⟩
  · constructor
    · split <;> omega
    · split <;> split <;> omega
  · refine loop_law hl _ 0 (fun d hd => ?_) ?_ ?_
    · obtain ⟨k, e, h0, h1⟩ := rangeD_int hd
      refine ⟨k, e, h0, ?_⟩
      revert h1
      split <;> split <;> omega
    · rw [rangeD_len]
      split <;> (try split) <;> omega
    · show (match blsOf (List.replicate _ (D.bl true)) with | some bs => _ | none => False)
      rw [bools_rep]
      show Q (.bl ((List.replicate _ true).all id))
      rw [all_true]
      exact q
theorem law_asks (ns : List Int) (h1 : ns.length ≤ 63) (_ : ∀ z ∈ ns, Builtin.Int.intBits z ≤ 1048576) : sp_law [.lst (ns.map D.int)] (fun d => d = .bl true) NoX := ⟨ns, rfl, h1, rfl⟩
end K01
namespace K01
open PySem L2 DL PyProof.Rows
def top (i : Nat) : Stmt := PySem.Challenge.pw_switchhills_k01_limits_and_errors.main.body.getD i (.Pass ⟨0, 0, 0, 0⟩)
abbrev s_law_bases : Stmt := top 34
abbrev s_law_dip : Stmt := top 32
abbrev s_law_pick : Stmt := top 33
abbrev s_law_odd : Stmt := top 35
abbrev s_law_by_place : Stmt := top 37
abbrev s_law_by_word : Stmt := top 38
abbrev s_law_sorts : Stmt := top 36
abbrev s_law_kept : Stmt := top 39
abbrev s_law_right : Stmt := top 40
abbrev s_law_jar : Stmt := top 31
abbrev s_law : Stmt := top 41
structure Ad where
  f_law_bases : Addr
  f_law_dip : Addr
  f_law_pick : Addr
  f_law_odd : Addr
  f_law_by_place : Addr
  f_law_by_word : Addr
  f_law_sorts : Addr
  f_law_kept : Addr
  f_law_right : Addr
  f_law_jar : Addr
  f_law : Addr
  C_InvalidText : Addr
  i_InvalidText : Addr
  C_InvalidPart : Addr
  i_InvalidPart : Addr
  C_InvalidSquare : Addr
  i_InvalidSquare : Addr
  C_InvalidFact : Addr
  i_InvalidFact : Addr
  C_InvalidIndex : Addr
  i_InvalidIndex : Addr
  C_InvalidWish : Addr
  i_InvalidWish : Addr
  C_InvalidCommand : Addr
  i_InvalidCommand : Addr
  C_NotABoard : Addr
  i_NotABoard : Addr
  C_NotNotes : Addr
  i_NotNotes : Addr
  C_NotARanking : Addr
  i_NotARanking : Addr
  C_OtherBoard : Addr
  i_OtherBoard : Addr
  C_SameSetting : Addr
  i_SameSetting : Addr
  C_InvalidSizes : Addr
  i_InvalidSizes : Addr
  C_InvalidFacts : Addr
  i_InvalidFacts : Addr
  C_InvalidOrder : Addr
  i_InvalidOrder : Addr
  C_InvalidPeaks : Addr
  i_InvalidPeaks : Addr
  C_InvalidWalks : Addr
  i_InvalidWalks : Addr
  C_InvalidRests : Addr
  i_InvalidRests : Addr
  C_UnknownSetting : Addr
  i_UnknownSetting : Addr
  C_TooMany : Addr
  i_TooMany : Addr
  C_Broken : Addr
  i_Broken : Addr
  C_WrongValue : Addr
  C_WrongName : Addr
  C_NotPossible : Addr
  C_NothingToUndo : Addr
def gm (K : PySem.W.Frag) (w : World) (ad : Ad) : Gm where
  K := K
  pw := w
  cls := fun c => match c with
    | 11 => ad.C_InvalidText
    | 12 => ad.C_InvalidPart
    | 13 => ad.C_InvalidSquare
    | 14 => ad.C_InvalidFact
    | 15 => ad.C_InvalidIndex
    | 16 => ad.C_InvalidWish
    | 17 => ad.C_InvalidCommand
    | 18 => ad.C_NotABoard
    | 19 => ad.C_NotNotes
    | 20 => ad.C_NotARanking
    | 21 => ad.C_OtherBoard
    | 22 => ad.C_SameSetting
    | 23 => ad.C_InvalidSizes
    | 24 => ad.C_InvalidFacts
    | 25 => ad.C_InvalidOrder
    | 26 => ad.C_InvalidPeaks
    | 27 => ad.C_InvalidWalks
    | 28 => ad.C_InvalidRests
    | 29 => ad.C_UnknownSetting
    | 31 => ad.C_TooMany
    | 32 => ad.C_Broken
    | 8 => ad.C_WrongValue
    | 9 => ad.C_WrongName
    | 10 => ad.C_NotPossible
    | 30 => ad.C_NothingToUndo
    | _ => 0
  fld := fun c => match c with
    | 11 => ["given"]
    | 12 => ["given"]
    | 13 => ["given"]
    | 14 => ["given"]
    | 15 => ["given"]
    | 16 => ["given"]
    | 17 => ["given"]
    | 18 => ["given"]
    | 19 => ["given"]
    | 20 => ["given"]
    | 21 => ["given"]
    | 22 => ["given"]
    | 23 => ["index"]
    | 24 => ["index"]
    | 25 => ["index"]
    | 26 => ["index"]
    | 27 => ["index"]
    | 28 => ["index"]
    | 29 => ["given"]
    | 31 => ["given"]
    | 32 => ["index"]
    | _ => []
structure Txt (K : PySem.W.Frag) (w : World) (mg : Str → Option Value) (ad : Ad) : Prop where
  F_law_bases : ∃ fd, Fun K "_law_bases" "_law_bases" s_law_bases ad.f_law_bases fd
  m_law_bases : mg "_law_bases" = some (.ref ad.f_law_bases)
  k_law_bases : PySem.W.keepIn K (.ref ad.f_law_bases) = true
  F_law_dip : ∃ fd, Fun K "_law_dip" "_law_dip" s_law_dip ad.f_law_dip fd
  m_law_dip : mg "_law_dip" = some (.ref ad.f_law_dip)
  k_law_dip : PySem.W.keepIn K (.ref ad.f_law_dip) = true
  F_law_pick : ∃ fd, Fun K "_law_pick" "_law_pick" s_law_pick ad.f_law_pick fd
  m_law_pick : mg "_law_pick" = some (.ref ad.f_law_pick)
  k_law_pick : PySem.W.keepIn K (.ref ad.f_law_pick) = true
  F_law_odd : ∃ fd, Fun K "_law_odd" "_law_odd" s_law_odd ad.f_law_odd fd
  m_law_odd : mg "_law_odd" = some (.ref ad.f_law_odd)
  k_law_odd : PySem.W.keepIn K (.ref ad.f_law_odd) = true
  F_law_by_place : ∃ fd, Fun K "_law_by_place" "_law_by_place" s_law_by_place ad.f_law_by_place fd
  m_law_by_place : mg "_law_by_place" = some (.ref ad.f_law_by_place)
  k_law_by_place : PySem.W.keepIn K (.ref ad.f_law_by_place) = true
  F_law_by_word : ∃ fd, Fun K "_law_by_word" "_law_by_word" s_law_by_word ad.f_law_by_word fd
  m_law_by_word : mg "_law_by_word" = some (.ref ad.f_law_by_word)
  k_law_by_word : PySem.W.keepIn K (.ref ad.f_law_by_word) = true
  F_law_sorts : ∃ fd, Fun K "_law_sorts" "_law_sorts" s_law_sorts ad.f_law_sorts fd
  m_law_sorts : mg "_law_sorts" = some (.ref ad.f_law_sorts)
  k_law_sorts : PySem.W.keepIn K (.ref ad.f_law_sorts) = true
  F_law_kept : ∃ fd, Fun K "_law_kept" "_law_kept" s_law_kept ad.f_law_kept fd
  m_law_kept : mg "_law_kept" = some (.ref ad.f_law_kept)
  k_law_kept : PySem.W.keepIn K (.ref ad.f_law_kept) = true
  F_law_right : ∃ fd, Fun K "_law_right" "_law_right" s_law_right ad.f_law_right fd
  m_law_right : mg "_law_right" = some (.ref ad.f_law_right)
  k_law_right : PySem.W.keepIn K (.ref ad.f_law_right) = true
  F_law_jar : ∃ fd, Fun K "_law_jar" "_law_jar" s_law_jar ad.f_law_jar fd
  m_law_jar : mg "_law_jar" = some (.ref ad.f_law_jar)
  k_law_jar : PySem.W.keepIn K (.ref ad.f_law_jar) = true
  F_law : ∃ fd, Fun K "law" "law" s_law ad.f_law fd
  m_law : mg "law" = some (.ref ad.f_law)
  k_law : PySem.W.keepIn K (.ref ad.f_law) = true
  g_MOST_COUNTED : ∃ u, mg "MOST_COUNTED" = some u ∧ RelV (.int 8) u
  g_MOST_SEARCHED : ∃ u, mg "MOST_SEARCHED" = some u ∧ RelV (.int 16) u
  g_MOST_SETTINGS : ∃ u, mg "MOST_SETTINGS" = some u ∧ RelV (.int 48) u
  g_MOST_SWITCHES : ∃ u, mg "MOST_SWITCHES" = some u ∧ RelV (.int 5) u
  x_InvalidText : ExL.ClG K mg "InvalidText" ad.C_InvalidText ad.i_InvalidText [.type "ValueError", .type "Exception", .type "BaseException", .type "object"] "ValueError.__new__"
  x_InvalidPart : ExL.ClG K mg "InvalidPart" ad.C_InvalidPart ad.i_InvalidPart [.type "ValueError", .type "Exception", .type "BaseException", .type "object"] "ValueError.__new__"
  x_InvalidSquare : ExL.ClG K mg "InvalidSquare" ad.C_InvalidSquare ad.i_InvalidSquare [.type "ValueError", .type "Exception", .type "BaseException", .type "object"] "ValueError.__new__"
  x_InvalidFact : ExL.ClG K mg "InvalidFact" ad.C_InvalidFact ad.i_InvalidFact [.type "ValueError", .type "Exception", .type "BaseException", .type "object"] "ValueError.__new__"
  x_InvalidIndex : ExL.ClG K mg "InvalidIndex" ad.C_InvalidIndex ad.i_InvalidIndex [.type "ValueError", .type "Exception", .type "BaseException", .type "object"] "ValueError.__new__"
  x_InvalidWish : ExL.ClG K mg "InvalidWish" ad.C_InvalidWish ad.i_InvalidWish [.type "ValueError", .type "Exception", .type "BaseException", .type "object"] "ValueError.__new__"
  x_InvalidCommand : ExL.ClG K mg "InvalidCommand" ad.C_InvalidCommand ad.i_InvalidCommand [.type "ValueError", .type "Exception", .type "BaseException", .type "object"] "ValueError.__new__"
  x_NotABoard : ExL.ClG K mg "NotABoard" ad.C_NotABoard ad.i_NotABoard [.type "ValueError", .type "Exception", .type "BaseException", .type "object"] "ValueError.__new__"
  x_NotNotes : ExL.ClG K mg "NotNotes" ad.C_NotNotes ad.i_NotNotes [.type "ValueError", .type "Exception", .type "BaseException", .type "object"] "ValueError.__new__"
  x_NotARanking : ExL.ClG K mg "NotARanking" ad.C_NotARanking ad.i_NotARanking [.type "ValueError", .type "Exception", .type "BaseException", .type "object"] "ValueError.__new__"
  x_OtherBoard : ExL.ClG K mg "OtherBoard" ad.C_OtherBoard ad.i_OtherBoard [.type "ValueError", .type "Exception", .type "BaseException", .type "object"] "ValueError.__new__"
  x_SameSetting : ExL.ClG K mg "SameSetting" ad.C_SameSetting ad.i_SameSetting [.type "ValueError", .type "Exception", .type "BaseException", .type "object"] "ValueError.__new__"
  x_InvalidSizes : ExL.ClI K mg "InvalidSizes" ad.C_InvalidSizes ad.i_InvalidSizes [.type "ValueError", .type "Exception", .type "BaseException", .type "object"] "ValueError.__new__"
  x_InvalidFacts : ExL.ClI K mg "InvalidFacts" ad.C_InvalidFacts ad.i_InvalidFacts [.type "ValueError", .type "Exception", .type "BaseException", .type "object"] "ValueError.__new__"
  x_InvalidOrder : ExL.ClI K mg "InvalidOrder" ad.C_InvalidOrder ad.i_InvalidOrder [.type "ValueError", .type "Exception", .type "BaseException", .type "object"] "ValueError.__new__"
  x_InvalidPeaks : ExL.ClI K mg "InvalidPeaks" ad.C_InvalidPeaks ad.i_InvalidPeaks [.type "ValueError", .type "Exception", .type "BaseException", .type "object"] "ValueError.__new__"
  x_InvalidWalks : ExL.ClI K mg "InvalidWalks" ad.C_InvalidWalks ad.i_InvalidWalks [.type "ValueError", .type "Exception", .type "BaseException", .type "object"] "ValueError.__new__"
  x_InvalidRests : ExL.ClI K mg "InvalidRests" ad.C_InvalidRests ad.i_InvalidRests [.type "ValueError", .type "Exception", .type "BaseException", .type "object"] "ValueError.__new__"
  x_UnknownSetting : ExL.ClG K mg "UnknownSetting" ad.C_UnknownSetting ad.i_UnknownSetting [.type "LookupError", .type "Exception", .type "BaseException", .type "object"] "LookupError.__new__"
  x_TooMany : ExL.ClG K mg "TooMany" ad.C_TooMany ad.i_TooMany [.type "ArithmeticError", .type "Exception", .type "BaseException", .type "object"] "ArithmeticError.__new__"
  x_Broken : ExL.ClI K mg "Broken" ad.C_Broken ad.i_Broken [.type "ArithmeticError", .type "Exception", .type "BaseException", .type "object"] "ArithmeticError.__new__"
  xg_WrongValue : mg "WrongValue" = some (.ref ad.C_WrongValue)
  xg_WrongName : mg "WrongName" = some (.ref ad.C_WrongName)
  xg_NotPossible : mg "NotPossible" = some (.ref ad.C_NotPossible)
  xg_InvalidText : mg "InvalidText" = some (.ref ad.C_InvalidText)
  xg_InvalidPart : mg "InvalidPart" = some (.ref ad.C_InvalidPart)
  xg_InvalidSquare : mg "InvalidSquare" = some (.ref ad.C_InvalidSquare)
  xg_InvalidFact : mg "InvalidFact" = some (.ref ad.C_InvalidFact)
  xg_InvalidIndex : mg "InvalidIndex" = some (.ref ad.C_InvalidIndex)
  xg_InvalidWish : mg "InvalidWish" = some (.ref ad.C_InvalidWish)
  xg_InvalidCommand : mg "InvalidCommand" = some (.ref ad.C_InvalidCommand)
  xg_NotABoard : mg "NotABoard" = some (.ref ad.C_NotABoard)
  xg_NotNotes : mg "NotNotes" = some (.ref ad.C_NotNotes)
  xg_NotARanking : mg "NotARanking" = some (.ref ad.C_NotARanking)
  xg_OtherBoard : mg "OtherBoard" = some (.ref ad.C_OtherBoard)
  xg_SameSetting : mg "SameSetting" = some (.ref ad.C_SameSetting)
  xg_InvalidSizes : mg "InvalidSizes" = some (.ref ad.C_InvalidSizes)
  xg_InvalidFacts : mg "InvalidFacts" = some (.ref ad.C_InvalidFacts)
  xg_InvalidOrder : mg "InvalidOrder" = some (.ref ad.C_InvalidOrder)
  xg_InvalidPeaks : mg "InvalidPeaks" = some (.ref ad.C_InvalidPeaks)
  xg_InvalidWalks : mg "InvalidWalks" = some (.ref ad.C_InvalidWalks)
  xg_InvalidRests : mg "InvalidRests" = some (.ref ad.C_InvalidRests)
  xg_UnknownSetting : mg "UnknownSetting" = some (.ref ad.C_UnknownSetting)
  xg_TooMany : mg "TooMany" = some (.ref ad.C_TooMany)
  xg_Broken : mg "Broken" = some (.ref ad.C_Broken)
  xg_NothingToUndo : mg "NothingToUndo" = some (.ref ad.C_NothingToUndo)
  xf_InvalidText : ExF K ad.C_InvalidText
  xf_InvalidPart : ExF K ad.C_InvalidPart
  xf_InvalidSquare : ExF K ad.C_InvalidSquare
  xf_InvalidFact : ExF K ad.C_InvalidFact
  xf_InvalidIndex : ExF K ad.C_InvalidIndex
  xf_InvalidWish : ExF K ad.C_InvalidWish
  xf_InvalidCommand : ExF K ad.C_InvalidCommand
  xf_NotABoard : ExF K ad.C_NotABoard
  xf_NotNotes : ExF K ad.C_NotNotes
  xf_NotARanking : ExF K ad.C_NotARanking
  xf_OtherBoard : ExF K ad.C_OtherBoard
  xf_SameSetting : ExF K ad.C_SameSetting
  xf_InvalidSizes : ExF K ad.C_InvalidSizes
  xf_InvalidFacts : ExF K ad.C_InvalidFacts
  xf_InvalidOrder : ExF K ad.C_InvalidOrder
  xf_InvalidPeaks : ExF K ad.C_InvalidPeaks
  xf_InvalidWalks : ExF K ad.C_InvalidWalks
  xf_InvalidRests : ExF K ad.C_InvalidRests
  xf_UnknownSetting : ExF K ad.C_UnknownSetting
  xf_TooMany : ExF K ad.C_TooMany
  xf_Broken : ExF K ad.C_Broken
  xf_WrongValue : ExF K ad.C_WrongValue
  xf_WrongName : ExF K ad.C_WrongName
  xf_NotPossible : ExF K ad.C_NotPossible
  xf_NothingToUndo : ExF K ad.C_NothingToUndo
  xe_WrongValue : PySem.W.excIn K ad.C_WrongValue [.type "ValueError", .type "Exception", .type "BaseException", .type "object"] "ValueError.__new__" = true
  xk_WrongValue : PySem.W.keepIn K (.ref ad.C_WrongValue) = true
  xe_WrongName : PySem.W.excIn K ad.C_WrongName [.type "LookupError", .type "Exception", .type "BaseException", .type "object"] "LookupError.__new__" = true
  xk_WrongName : PySem.W.keepIn K (.ref ad.C_WrongName) = true
  xe_NotPossible : PySem.W.excIn K ad.C_NotPossible [.type "ArithmeticError", .type "Exception", .type "BaseException", .type "object"] "ArithmeticError.__new__" = true
  xk_NotPossible : PySem.W.keepIn K (.ref ad.C_NotPossible) = true
  xe_NothingToUndo : PySem.W.excIn K ad.C_NothingToUndo [.type "ArithmeticError", .type "Exception", .type "BaseException", .type "object"] "ArithmeticError.__new__" = true
  xk_NothingToUndo : PySem.W.keepIn K (.ref ad.C_NothingToUndo) = true
  xn_InvalidText : PySem.W.findIn K (.ref ad.C_InvalidText) "given" = some none
  xn_InvalidPart : PySem.W.findIn K (.ref ad.C_InvalidPart) "given" = some none
  xn_InvalidSquare : PySem.W.findIn K (.ref ad.C_InvalidSquare) "given" = some none
  xn_InvalidFact : PySem.W.findIn K (.ref ad.C_InvalidFact) "given" = some none
  xn_InvalidIndex : PySem.W.findIn K (.ref ad.C_InvalidIndex) "given" = some none
  xn_InvalidWish : PySem.W.findIn K (.ref ad.C_InvalidWish) "given" = some none
  xn_InvalidCommand : PySem.W.findIn K (.ref ad.C_InvalidCommand) "given" = some none
  xn_NotABoard : PySem.W.findIn K (.ref ad.C_NotABoard) "given" = some none
  xn_NotNotes : PySem.W.findIn K (.ref ad.C_NotNotes) "given" = some none
  xn_NotARanking : PySem.W.findIn K (.ref ad.C_NotARanking) "given" = some none
  xn_OtherBoard : PySem.W.findIn K (.ref ad.C_OtherBoard) "given" = some none
  xn_SameSetting : PySem.W.findIn K (.ref ad.C_SameSetting) "given" = some none
  xn_InvalidSizes : PySem.W.findIn K (.ref ad.C_InvalidSizes) "index" = some none
  xn_InvalidFacts : PySem.W.findIn K (.ref ad.C_InvalidFacts) "index" = some none
  xn_InvalidOrder : PySem.W.findIn K (.ref ad.C_InvalidOrder) "index" = some none
  xn_InvalidPeaks : PySem.W.findIn K (.ref ad.C_InvalidPeaks) "index" = some none
  xn_InvalidWalks : PySem.W.findIn K (.ref ad.C_InvalidWalks) "index" = some none
  xn_InvalidRests : PySem.W.findIn K (.ref ad.C_InvalidRests) "index" = some none
  xn_UnknownSetting : PySem.W.findIn K (.ref ad.C_UnknownSetting) "given" = some none
  xn_TooMany : PySem.W.findIn K (.ref ad.C_TooMany) "given" = some none
  xn_Broken : PySem.W.findIn K (.ref ad.C_Broken) "index" = some none
  kx_InvalidText : (([(.ref ad.C_WrongValue, true), (.type "ValueError", true), (.ref ad.C_WrongName, false), (.type "LookupError", false), (.ref ad.C_NotPossible, false), (.type "ArithmeticError", false), (.ref ad.C_InvalidText, true), (.ref ad.C_InvalidPart, false), (.ref ad.C_InvalidSquare, false), (.ref ad.C_InvalidFact, false), (.ref ad.C_InvalidIndex, false), (.ref ad.C_InvalidWish, false), (.ref ad.C_InvalidCommand, false), (.ref ad.C_NotABoard, false), (.ref ad.C_NotNotes, false), (.ref ad.C_NotARanking, false), (.ref ad.C_OtherBoard, false), (.ref ad.C_SameSetting, false), (.ref ad.C_InvalidSizes, false), (.ref ad.C_InvalidFacts, false), (.ref ad.C_InvalidOrder, false), (.ref ad.C_InvalidPeaks, false), (.ref ad.C_InvalidWalks, false), (.ref ad.C_InvalidRests, false), (.ref ad.C_UnknownSetting, false), (.ref ad.C_TooMany, false), (.ref ad.C_Broken, false), (.ref ad.C_NothingToUndo, false)] : List (Value × Bool)).all fun p => PySem.W.kitOne K (.ref ad.C_InvalidText) p.1 == some p.2) = true
  kx_InvalidPart : (([(.ref ad.C_WrongValue, true), (.type "ValueError", true), (.ref ad.C_WrongName, false), (.type "LookupError", false), (.ref ad.C_NotPossible, false), (.type "ArithmeticError", false), (.ref ad.C_InvalidText, false), (.ref ad.C_InvalidPart, true), (.ref ad.C_InvalidSquare, false), (.ref ad.C_InvalidFact, false), (.ref ad.C_InvalidIndex, false), (.ref ad.C_InvalidWish, false), (.ref ad.C_InvalidCommand, false), (.ref ad.C_NotABoard, false), (.ref ad.C_NotNotes, false), (.ref ad.C_NotARanking, false), (.ref ad.C_OtherBoard, false), (.ref ad.C_SameSetting, false), (.ref ad.C_InvalidSizes, false), (.ref ad.C_InvalidFacts, false), (.ref ad.C_InvalidOrder, false), (.ref ad.C_InvalidPeaks, false), (.ref ad.C_InvalidWalks, false), (.ref ad.C_InvalidRests, false), (.ref ad.C_UnknownSetting, false), (.ref ad.C_TooMany, false), (.ref ad.C_Broken, false), (.ref ad.C_NothingToUndo, false)] : List (Value × Bool)).all fun p => PySem.W.kitOne K (.ref ad.C_InvalidPart) p.1 == some p.2) = true
  kx_InvalidSquare : (([(.ref ad.C_WrongValue, true), (.type "ValueError", true), (.ref ad.C_WrongName, false), (.type "LookupError", false), (.ref ad.C_NotPossible, false), (.type "ArithmeticError", false), (.ref ad.C_InvalidText, false), (.ref ad.C_InvalidPart, false), (.ref ad.C_InvalidSquare, true), (.ref ad.C_InvalidFact, false), (.ref ad.C_InvalidIndex, false), (.ref ad.C_InvalidWish, false), (.ref ad.C_InvalidCommand, false), (.ref ad.C_NotABoard, false), (.ref ad.C_NotNotes, false), (.ref ad.C_NotARanking, false), (.ref ad.C_OtherBoard, false), (.ref ad.C_SameSetting, false), (.ref ad.C_InvalidSizes, false), (.ref ad.C_InvalidFacts, false), (.ref ad.C_InvalidOrder, false), (.ref ad.C_InvalidPeaks, false), (.ref ad.C_InvalidWalks, false), (.ref ad.C_InvalidRests, false), (.ref ad.C_UnknownSetting, false), (.ref ad.C_TooMany, false), (.ref ad.C_Broken, false), (.ref ad.C_NothingToUndo, false)] : List (Value × Bool)).all fun p => PySem.W.kitOne K (.ref ad.C_InvalidSquare) p.1 == some p.2) = true
  kx_InvalidFact : (([(.ref ad.C_WrongValue, true), (.type "ValueError", true), (.ref ad.C_WrongName, false), (.type "LookupError", false), (.ref ad.C_NotPossible, false), (.type "ArithmeticError", false), (.ref ad.C_InvalidText, false), (.ref ad.C_InvalidPart, false), (.ref ad.C_InvalidSquare, false), (.ref ad.C_InvalidFact, true), (.ref ad.C_InvalidIndex, false), (.ref ad.C_InvalidWish, false), (.ref ad.C_InvalidCommand, false), (.ref ad.C_NotABoard, false), (.ref ad.C_NotNotes, false), (.ref ad.C_NotARanking, false), (.ref ad.C_OtherBoard, false), (.ref ad.C_SameSetting, false), (.ref ad.C_InvalidSizes, false), (.ref ad.C_InvalidFacts, false), (.ref ad.C_InvalidOrder, false), (.ref ad.C_InvalidPeaks, false), (.ref ad.C_InvalidWalks, false), (.ref ad.C_InvalidRests, false), (.ref ad.C_UnknownSetting, false), (.ref ad.C_TooMany, false), (.ref ad.C_Broken, false), (.ref ad.C_NothingToUndo, false)] : List (Value × Bool)).all fun p => PySem.W.kitOne K (.ref ad.C_InvalidFact) p.1 == some p.2) = true
  kx_InvalidIndex : (([(.ref ad.C_WrongValue, true), (.type "ValueError", true), (.ref ad.C_WrongName, false), (.type "LookupError", false), (.ref ad.C_NotPossible, false), (.type "ArithmeticError", false), (.ref ad.C_InvalidText, false), (.ref ad.C_InvalidPart, false), (.ref ad.C_InvalidSquare, false), (.ref ad.C_InvalidFact, false), (.ref ad.C_InvalidIndex, true), (.ref ad.C_InvalidWish, false), (.ref ad.C_InvalidCommand, false), (.ref ad.C_NotABoard, false), (.ref ad.C_NotNotes, false), (.ref ad.C_NotARanking, false), (.ref ad.C_OtherBoard, false), (.ref ad.C_SameSetting, false), (.ref ad.C_InvalidSizes, false), (.ref ad.C_InvalidFacts, false), (.ref ad.C_InvalidOrder, false), (.ref ad.C_InvalidPeaks, false), (.ref ad.C_InvalidWalks, false), (.ref ad.C_InvalidRests, false), (.ref ad.C_UnknownSetting, false), (.ref ad.C_TooMany, false), (.ref ad.C_Broken, false), (.ref ad.C_NothingToUndo, false)] : List (Value × Bool)).all fun p => PySem.W.kitOne K (.ref ad.C_InvalidIndex) p.1 == some p.2) = true
  kx_InvalidWish : (([(.ref ad.C_WrongValue, true), (.type "ValueError", true), (.ref ad.C_WrongName, false), (.type "LookupError", false), (.ref ad.C_NotPossible, false), (.type "ArithmeticError", false), (.ref ad.C_InvalidText, false), (.ref ad.C_InvalidPart, false), (.ref ad.C_InvalidSquare, false), (.ref ad.C_InvalidFact, false), (.ref ad.C_InvalidIndex, false), (.ref ad.C_InvalidWish, true), (.ref ad.C_InvalidCommand, false), (.ref ad.C_NotABoard, false), (.ref ad.C_NotNotes, false), (.ref ad.C_NotARanking, false), (.ref ad.C_OtherBoard, false), (.ref ad.C_SameSetting, false), (.ref ad.C_InvalidSizes, false), (.ref ad.C_InvalidFacts, false), (.ref ad.C_InvalidOrder, false), (.ref ad.C_InvalidPeaks, false), (.ref ad.C_InvalidWalks, false), (.ref ad.C_InvalidRests, false), (.ref ad.C_UnknownSetting, false), (.ref ad.C_TooMany, false), (.ref ad.C_Broken, false), (.ref ad.C_NothingToUndo, false)] : List (Value × Bool)).all fun p => PySem.W.kitOne K (.ref ad.C_InvalidWish) p.1 == some p.2) = true
  kx_InvalidCommand : (([(.ref ad.C_WrongValue, true), (.type "ValueError", true), (.ref ad.C_WrongName, false), (.type "LookupError", false), (.ref ad.C_NotPossible, false), (.type "ArithmeticError", false), (.ref ad.C_InvalidText, false), (.ref ad.C_InvalidPart, false), (.ref ad.C_InvalidSquare, false), (.ref ad.C_InvalidFact, false), (.ref ad.C_InvalidIndex, false), (.ref ad.C_InvalidWish, false), (.ref ad.C_InvalidCommand, true), (.ref ad.C_NotABoard, false), (.ref ad.C_NotNotes, false), (.ref ad.C_NotARanking, false), (.ref ad.C_OtherBoard, false), (.ref ad.C_SameSetting, false), (.ref ad.C_InvalidSizes, false), (.ref ad.C_InvalidFacts, false), (.ref ad.C_InvalidOrder, false), (.ref ad.C_InvalidPeaks, false), (.ref ad.C_InvalidWalks, false), (.ref ad.C_InvalidRests, false), (.ref ad.C_UnknownSetting, false), (.ref ad.C_TooMany, false), (.ref ad.C_Broken, false), (.ref ad.C_NothingToUndo, false)] : List (Value × Bool)).all fun p => PySem.W.kitOne K (.ref ad.C_InvalidCommand) p.1 == some p.2) = true
  kx_NotABoard : (([(.ref ad.C_WrongValue, true), (.type "ValueError", true), (.ref ad.C_WrongName, false), (.type "LookupError", false), (.ref ad.C_NotPossible, false), (.type "ArithmeticError", false), (.ref ad.C_InvalidText, false), (.ref ad.C_InvalidPart, false), (.ref ad.C_InvalidSquare, false), (.ref ad.C_InvalidFact, false), (.ref ad.C_InvalidIndex, false), (.ref ad.C_InvalidWish, false), (.ref ad.C_InvalidCommand, false), (.ref ad.C_NotABoard, true), (.ref ad.C_NotNotes, false), (.ref ad.C_NotARanking, false), (.ref ad.C_OtherBoard, false), (.ref ad.C_SameSetting, false), (.ref ad.C_InvalidSizes, false), (.ref ad.C_InvalidFacts, false), (.ref ad.C_InvalidOrder, false), (.ref ad.C_InvalidPeaks, false), (.ref ad.C_InvalidWalks, false), (.ref ad.C_InvalidRests, false), (.ref ad.C_UnknownSetting, false), (.ref ad.C_TooMany, false), (.ref ad.C_Broken, false), (.ref ad.C_NothingToUndo, false)] : List (Value × Bool)).all fun p => PySem.W.kitOne K (.ref ad.C_NotABoard) p.1 == some p.2) = true
  kx_NotNotes : (([(.ref ad.C_WrongValue, true), (.type "ValueError", true), (.ref ad.C_WrongName, false), (.type "LookupError", false), (.ref ad.C_NotPossible, false), (.type "ArithmeticError", false), (.ref ad.C_InvalidText, false), (.ref ad.C_InvalidPart, false), (.ref ad.C_InvalidSquare, false), (.ref ad.C_InvalidFact, false), (.ref ad.C_InvalidIndex, false), (.ref ad.C_InvalidWish, false), (.ref ad.C_InvalidCommand, false), (.ref ad.C_NotABoard, false), (.ref ad.C_NotNotes, true), (.ref ad.C_NotARanking, false), (.ref ad.C_OtherBoard, false), (.ref ad.C_SameSetting, false), (.ref ad.C_InvalidSizes, false), (.ref ad.C_InvalidFacts, false), (.ref ad.C_InvalidOrder, false), (.ref ad.C_InvalidPeaks, false), (.ref ad.C_InvalidWalks, false), (.ref ad.C_InvalidRests, false), (.ref ad.C_UnknownSetting, false), (.ref ad.C_TooMany, false), (.ref ad.C_Broken, false), (.ref ad.C_NothingToUndo, false)] : List (Value × Bool)).all fun p => PySem.W.kitOne K (.ref ad.C_NotNotes) p.1 == some p.2) = true
  kx_NotARanking : (([(.ref ad.C_WrongValue, true), (.type "ValueError", true), (.ref ad.C_WrongName, false), (.type "LookupError", false), (.ref ad.C_NotPossible, false), (.type "ArithmeticError", false), (.ref ad.C_InvalidText, false), (.ref ad.C_InvalidPart, false), (.ref ad.C_InvalidSquare, false), (.ref ad.C_InvalidFact, false), (.ref ad.C_InvalidIndex, false), (.ref ad.C_InvalidWish, false), (.ref ad.C_InvalidCommand, false), (.ref ad.C_NotABoard, false), (.ref ad.C_NotNotes, false), (.ref ad.C_NotARanking, true), (.ref ad.C_OtherBoard, false), (.ref ad.C_SameSetting, false), (.ref ad.C_InvalidSizes, false), (.ref ad.C_InvalidFacts, false), (.ref ad.C_InvalidOrder, false), (.ref ad.C_InvalidPeaks, false), (.ref ad.C_InvalidWalks, false), (.ref ad.C_InvalidRests, false), (.ref ad.C_UnknownSetting, false), (.ref ad.C_TooMany, false), (.ref ad.C_Broken, false), (.ref ad.C_NothingToUndo, false)] : List (Value × Bool)).all fun p => PySem.W.kitOne K (.ref ad.C_NotARanking) p.1 == some p.2) = true
  kx_OtherBoard : (([(.ref ad.C_WrongValue, true), (.type "ValueError", true), (.ref ad.C_WrongName, false), (.type "LookupError", false), (.ref ad.C_NotPossible, false), (.type "ArithmeticError", false), (.ref ad.C_InvalidText, false), (.ref ad.C_InvalidPart, false), (.ref ad.C_InvalidSquare, false), (.ref ad.C_InvalidFact, false), (.ref ad.C_InvalidIndex, false), (.ref ad.C_InvalidWish, false), (.ref ad.C_InvalidCommand, false), (.ref ad.C_NotABoard, false), (.ref ad.C_NotNotes, false), (.ref ad.C_NotARanking, false), (.ref ad.C_OtherBoard, true), (.ref ad.C_SameSetting, false), (.ref ad.C_InvalidSizes, false), (.ref ad.C_InvalidFacts, false), (.ref ad.C_InvalidOrder, false), (.ref ad.C_InvalidPeaks, false), (.ref ad.C_InvalidWalks, false), (.ref ad.C_InvalidRests, false), (.ref ad.C_UnknownSetting, false), (.ref ad.C_TooMany, false), (.ref ad.C_Broken, false), (.ref ad.C_NothingToUndo, false)] : List (Value × Bool)).all fun p => PySem.W.kitOne K (.ref ad.C_OtherBoard) p.1 == some p.2) = true
  kx_SameSetting : (([(.ref ad.C_WrongValue, true), (.type "ValueError", true), (.ref ad.C_WrongName, false), (.type "LookupError", false), (.ref ad.C_NotPossible, false), (.type "ArithmeticError", false), (.ref ad.C_InvalidText, false), (.ref ad.C_InvalidPart, false), (.ref ad.C_InvalidSquare, false), (.ref ad.C_InvalidFact, false), (.ref ad.C_InvalidIndex, false), (.ref ad.C_InvalidWish, false), (.ref ad.C_InvalidCommand, false), (.ref ad.C_NotABoard, false), (.ref ad.C_NotNotes, false), (.ref ad.C_NotARanking, false), (.ref ad.C_OtherBoard, false), (.ref ad.C_SameSetting, true), (.ref ad.C_InvalidSizes, false), (.ref ad.C_InvalidFacts, false), (.ref ad.C_InvalidOrder, false), (.ref ad.C_InvalidPeaks, false), (.ref ad.C_InvalidWalks, false), (.ref ad.C_InvalidRests, false), (.ref ad.C_UnknownSetting, false), (.ref ad.C_TooMany, false), (.ref ad.C_Broken, false), (.ref ad.C_NothingToUndo, false)] : List (Value × Bool)).all fun p => PySem.W.kitOne K (.ref ad.C_SameSetting) p.1 == some p.2) = true
  kx_InvalidSizes : (([(.ref ad.C_WrongValue, true), (.type "ValueError", true), (.ref ad.C_WrongName, false), (.type "LookupError", false), (.ref ad.C_NotPossible, false), (.type "ArithmeticError", false), (.ref ad.C_InvalidText, false), (.ref ad.C_InvalidPart, false), (.ref ad.C_InvalidSquare, false), (.ref ad.C_InvalidFact, false), (.ref ad.C_InvalidIndex, false), (.ref ad.C_InvalidWish, false), (.ref ad.C_InvalidCommand, false), (.ref ad.C_NotABoard, false), (.ref ad.C_NotNotes, false), (.ref ad.C_NotARanking, false), (.ref ad.C_OtherBoard, false), (.ref ad.C_SameSetting, false), (.ref ad.C_InvalidSizes, true), (.ref ad.C_InvalidFacts, false), (.ref ad.C_InvalidOrder, false), (.ref ad.C_InvalidPeaks, false), (.ref ad.C_InvalidWalks, false), (.ref ad.C_InvalidRests, false), (.ref ad.C_UnknownSetting, false), (.ref ad.C_TooMany, false), (.ref ad.C_Broken, false), (.ref ad.C_NothingToUndo, false)] : List (Value × Bool)).all fun p => PySem.W.kitOne K (.ref ad.C_InvalidSizes) p.1 == some p.2) = true
  kx_InvalidFacts : (([(.ref ad.C_WrongValue, true), (.type "ValueError", true), (.ref ad.C_WrongName, false), (.type "LookupError", false), (.ref ad.C_NotPossible, false), (.type "ArithmeticError", false), (.ref ad.C_InvalidText, false), (.ref ad.C_InvalidPart, false), (.ref ad.C_InvalidSquare, false), (.ref ad.C_InvalidFact, false), (.ref ad.C_InvalidIndex, false), (.ref ad.C_InvalidWish, false), (.ref ad.C_InvalidCommand, false), (.ref ad.C_NotABoard, false), (.ref ad.C_NotNotes, false), (.ref ad.C_NotARanking, false), (.ref ad.C_OtherBoard, false), (.ref ad.C_SameSetting, false), (.ref ad.C_InvalidSizes, false), (.ref ad.C_InvalidFacts, true), (.ref ad.C_InvalidOrder, false), (.ref ad.C_InvalidPeaks, false), (.ref ad.C_InvalidWalks, false), (.ref ad.C_InvalidRests, false), (.ref ad.C_UnknownSetting, false), (.ref ad.C_TooMany, false), (.ref ad.C_Broken, false), (.ref ad.C_NothingToUndo, false)] : List (Value × Bool)).all fun p => PySem.W.kitOne K (.ref ad.C_InvalidFacts) p.1 == some p.2) = true
  kx_InvalidOrder : (([(.ref ad.C_WrongValue, true), (.type "ValueError", true), (.ref ad.C_WrongName, false), (.type "LookupError", false), (.ref ad.C_NotPossible, false), (.type "ArithmeticError", false), (.ref ad.C_InvalidText, false), (.ref ad.C_InvalidPart, false), (.ref ad.C_InvalidSquare, false), (.ref ad.C_InvalidFact, false), (.ref ad.C_InvalidIndex, false), (.ref ad.C_InvalidWish, false), (.ref ad.C_InvalidCommand, false), (.ref ad.C_NotABoard, false), (.ref ad.C_NotNotes, false), (.ref ad.C_NotARanking, false), (.ref ad.C_OtherBoard, false), (.ref ad.C_SameSetting, false), (.ref ad.C_InvalidSizes, false), (.ref ad.C_InvalidFacts, false), (.ref ad.C_InvalidOrder, true), (.ref ad.C_InvalidPeaks, false), (.ref ad.C_InvalidWalks, false), (.ref ad.C_InvalidRests, false), (.ref ad.C_UnknownSetting, false), (.ref ad.C_TooMany, false), (.ref ad.C_Broken, false), (.ref ad.C_NothingToUndo, false)] : List (Value × Bool)).all fun p => PySem.W.kitOne K (.ref ad.C_InvalidOrder) p.1 == some p.2) = true
  kx_InvalidPeaks : (([(.ref ad.C_WrongValue, true), (.type "ValueError", true), (.ref ad.C_WrongName, false), (.type "LookupError", false), (.ref ad.C_NotPossible, false), (.type "ArithmeticError", false), (.ref ad.C_InvalidText, false), (.ref ad.C_InvalidPart, false), (.ref ad.C_InvalidSquare, false), (.ref ad.C_InvalidFact, false), (.ref ad.C_InvalidIndex, false), (.ref ad.C_InvalidWish, false), (.ref ad.C_InvalidCommand, false), (.ref ad.C_NotABoard, false), (.ref ad.C_NotNotes, false), (.ref ad.C_NotARanking, false), (.ref ad.C_OtherBoard, false), (.ref ad.C_SameSetting, false), (.ref ad.C_InvalidSizes, false), (.ref ad.C_InvalidFacts, false), (.ref ad.C_InvalidOrder, false), (.ref ad.C_InvalidPeaks, true), (.ref ad.C_InvalidWalks, false), (.ref ad.C_InvalidRests, false), (.ref ad.C_UnknownSetting, false), (.ref ad.C_TooMany, false), (.ref ad.C_Broken, false), (.ref ad.C_NothingToUndo, false)] : List (Value × Bool)).all fun p => PySem.W.kitOne K (.ref ad.C_InvalidPeaks) p.1 == some p.2) = true
  kx_InvalidWalks : (([(.ref ad.C_WrongValue, true), (.type "ValueError", true), (.ref ad.C_WrongName, false), (.type "LookupError", false), (.ref ad.C_NotPossible, false), (.type "ArithmeticError", false), (.ref ad.C_InvalidText, false), (.ref ad.C_InvalidPart, false), (.ref ad.C_InvalidSquare, false), (.ref ad.C_InvalidFact, false), (.ref ad.C_InvalidIndex, false), (.ref ad.C_InvalidWish, false), (.ref ad.C_InvalidCommand, false), (.ref ad.C_NotABoard, false), (.ref ad.C_NotNotes, false), (.ref ad.C_NotARanking, false), (.ref ad.C_OtherBoard, false), (.ref ad.C_SameSetting, false), (.ref ad.C_InvalidSizes, false), (.ref ad.C_InvalidFacts, false), (.ref ad.C_InvalidOrder, false), (.ref ad.C_InvalidPeaks, false), (.ref ad.C_InvalidWalks, true), (.ref ad.C_InvalidRests, false), (.ref ad.C_UnknownSetting, false), (.ref ad.C_TooMany, false), (.ref ad.C_Broken, false), (.ref ad.C_NothingToUndo, false)] : List (Value × Bool)).all fun p => PySem.W.kitOne K (.ref ad.C_InvalidWalks) p.1 == some p.2) = true
  kx_InvalidRests : (([(.ref ad.C_WrongValue, true), (.type "ValueError", true), (.ref ad.C_WrongName, false), (.type "LookupError", false), (.ref ad.C_NotPossible, false), (.type "ArithmeticError", false), (.ref ad.C_InvalidText, false), (.ref ad.C_InvalidPart, false), (.ref ad.C_InvalidSquare, false), (.ref ad.C_InvalidFact, false), (.ref ad.C_InvalidIndex, false), (.ref ad.C_InvalidWish, false), (.ref ad.C_InvalidCommand, false), (.ref ad.C_NotABoard, false), (.ref ad.C_NotNotes, false), (.ref ad.C_NotARanking, false), (.ref ad.C_OtherBoard, false), (.ref ad.C_SameSetting, false), (.ref ad.C_InvalidSizes, false), (.ref ad.C_InvalidFacts, false), (.ref ad.C_InvalidOrder, false), (.ref ad.C_InvalidPeaks, false), (.ref ad.C_InvalidWalks, false), (.ref ad.C_InvalidRests, true), (.ref ad.C_UnknownSetting, false), (.ref ad.C_TooMany, false), (.ref ad.C_Broken, false), (.ref ad.C_NothingToUndo, false)] : List (Value × Bool)).all fun p => PySem.W.kitOne K (.ref ad.C_InvalidRests) p.1 == some p.2) = true
  kx_UnknownSetting : (([(.ref ad.C_WrongValue, false), (.type "ValueError", false), (.ref ad.C_WrongName, true), (.type "LookupError", true), (.ref ad.C_NotPossible, false), (.type "ArithmeticError", false), (.ref ad.C_InvalidText, false), (.ref ad.C_InvalidPart, false), (.ref ad.C_InvalidSquare, false), (.ref ad.C_InvalidFact, false), (.ref ad.C_InvalidIndex, false), (.ref ad.C_InvalidWish, false), (.ref ad.C_InvalidCommand, false), (.ref ad.C_NotABoard, false), (.ref ad.C_NotNotes, false), (.ref ad.C_NotARanking, false), (.ref ad.C_OtherBoard, false), (.ref ad.C_SameSetting, false), (.ref ad.C_InvalidSizes, false), (.ref ad.C_InvalidFacts, false), (.ref ad.C_InvalidOrder, false), (.ref ad.C_InvalidPeaks, false), (.ref ad.C_InvalidWalks, false), (.ref ad.C_InvalidRests, false), (.ref ad.C_UnknownSetting, true), (.ref ad.C_TooMany, false), (.ref ad.C_Broken, false), (.ref ad.C_NothingToUndo, false)] : List (Value × Bool)).all fun p => PySem.W.kitOne K (.ref ad.C_UnknownSetting) p.1 == some p.2) = true
  kx_TooMany : (([(.ref ad.C_WrongValue, false), (.type "ValueError", false), (.ref ad.C_WrongName, false), (.type "LookupError", false), (.ref ad.C_NotPossible, true), (.type "ArithmeticError", true), (.ref ad.C_InvalidText, false), (.ref ad.C_InvalidPart, false), (.ref ad.C_InvalidSquare, false), (.ref ad.C_InvalidFact, false), (.ref ad.C_InvalidIndex, false), (.ref ad.C_InvalidWish, false), (.ref ad.C_InvalidCommand, false), (.ref ad.C_NotABoard, false), (.ref ad.C_NotNotes, false), (.ref ad.C_NotARanking, false), (.ref ad.C_OtherBoard, false), (.ref ad.C_SameSetting, false), (.ref ad.C_InvalidSizes, false), (.ref ad.C_InvalidFacts, false), (.ref ad.C_InvalidOrder, false), (.ref ad.C_InvalidPeaks, false), (.ref ad.C_InvalidWalks, false), (.ref ad.C_InvalidRests, false), (.ref ad.C_UnknownSetting, false), (.ref ad.C_TooMany, true), (.ref ad.C_Broken, false), (.ref ad.C_NothingToUndo, false)] : List (Value × Bool)).all fun p => PySem.W.kitOne K (.ref ad.C_TooMany) p.1 == some p.2) = true
  kx_Broken : (([(.ref ad.C_WrongValue, false), (.type "ValueError", false), (.ref ad.C_WrongName, false), (.type "LookupError", false), (.ref ad.C_NotPossible, true), (.type "ArithmeticError", true), (.ref ad.C_InvalidText, false), (.ref ad.C_InvalidPart, false), (.ref ad.C_InvalidSquare, false), (.ref ad.C_InvalidFact, false), (.ref ad.C_InvalidIndex, false), (.ref ad.C_InvalidWish, false), (.ref ad.C_InvalidCommand, false), (.ref ad.C_NotABoard, false), (.ref ad.C_NotNotes, false), (.ref ad.C_NotARanking, false), (.ref ad.C_OtherBoard, false), (.ref ad.C_SameSetting, false), (.ref ad.C_InvalidSizes, false), (.ref ad.C_InvalidFacts, false), (.ref ad.C_InvalidOrder, false), (.ref ad.C_InvalidPeaks, false), (.ref ad.C_InvalidWalks, false), (.ref ad.C_InvalidRests, false), (.ref ad.C_UnknownSetting, false), (.ref ad.C_TooMany, false), (.ref ad.C_Broken, true), (.ref ad.C_NothingToUndo, false)] : List (Value × Bool)).all fun p => PySem.W.kitOne K (.ref ad.C_Broken) p.1 == some p.2) = true
  kx_WrongValue : (([(.ref ad.C_WrongValue, true), (.type "ValueError", true), (.ref ad.C_WrongName, false), (.type "LookupError", false), (.ref ad.C_NotPossible, false), (.type "ArithmeticError", false), (.ref ad.C_InvalidText, false), (.ref ad.C_InvalidPart, false), (.ref ad.C_InvalidSquare, false), (.ref ad.C_InvalidFact, false), (.ref ad.C_InvalidIndex, false), (.ref ad.C_InvalidWish, false), (.ref ad.C_InvalidCommand, false), (.ref ad.C_NotABoard, false), (.ref ad.C_NotNotes, false), (.ref ad.C_NotARanking, false), (.ref ad.C_OtherBoard, false), (.ref ad.C_SameSetting, false), (.ref ad.C_InvalidSizes, false), (.ref ad.C_InvalidFacts, false), (.ref ad.C_InvalidOrder, false), (.ref ad.C_InvalidPeaks, false), (.ref ad.C_InvalidWalks, false), (.ref ad.C_InvalidRests, false), (.ref ad.C_UnknownSetting, false), (.ref ad.C_TooMany, false), (.ref ad.C_Broken, false), (.ref ad.C_NothingToUndo, false)] : List (Value × Bool)).all fun p => PySem.W.kitOne K (.ref ad.C_WrongValue) p.1 == some p.2) = true
  kx_WrongName : (([(.ref ad.C_WrongValue, false), (.type "ValueError", false), (.ref ad.C_WrongName, true), (.type "LookupError", true), (.ref ad.C_NotPossible, false), (.type "ArithmeticError", false), (.ref ad.C_InvalidText, false), (.ref ad.C_InvalidPart, false), (.ref ad.C_InvalidSquare, false), (.ref ad.C_InvalidFact, false), (.ref ad.C_InvalidIndex, false), (.ref ad.C_InvalidWish, false), (.ref ad.C_InvalidCommand, false), (.ref ad.C_NotABoard, false), (.ref ad.C_NotNotes, false), (.ref ad.C_NotARanking, false), (.ref ad.C_OtherBoard, false), (.ref ad.C_SameSetting, false), (.ref ad.C_InvalidSizes, false), (.ref ad.C_InvalidFacts, false), (.ref ad.C_InvalidOrder, false), (.ref ad.C_InvalidPeaks, false), (.ref ad.C_InvalidWalks, false), (.ref ad.C_InvalidRests, false), (.ref ad.C_UnknownSetting, false), (.ref ad.C_TooMany, false), (.ref ad.C_Broken, false), (.ref ad.C_NothingToUndo, false)] : List (Value × Bool)).all fun p => PySem.W.kitOne K (.ref ad.C_WrongName) p.1 == some p.2) = true
  kx_NotPossible : (([(.ref ad.C_WrongValue, false), (.type "ValueError", false), (.ref ad.C_WrongName, false), (.type "LookupError", false), (.ref ad.C_NotPossible, true), (.type "ArithmeticError", true), (.ref ad.C_InvalidText, false), (.ref ad.C_InvalidPart, false), (.ref ad.C_InvalidSquare, false), (.ref ad.C_InvalidFact, false), (.ref ad.C_InvalidIndex, false), (.ref ad.C_InvalidWish, false), (.ref ad.C_InvalidCommand, false), (.ref ad.C_NotABoard, false), (.ref ad.C_NotNotes, false), (.ref ad.C_NotARanking, false), (.ref ad.C_OtherBoard, false), (.ref ad.C_SameSetting, false), (.ref ad.C_InvalidSizes, false), (.ref ad.C_InvalidFacts, false), (.ref ad.C_InvalidOrder, false), (.ref ad.C_InvalidPeaks, false), (.ref ad.C_InvalidWalks, false), (.ref ad.C_InvalidRests, false), (.ref ad.C_UnknownSetting, false), (.ref ad.C_TooMany, false), (.ref ad.C_Broken, false), (.ref ad.C_NothingToUndo, false)] : List (Value × Bool)).all fun p => PySem.W.kitOne K (.ref ad.C_NotPossible) p.1 == some p.2) = true
  kx_NothingToUndo : (([(.ref ad.C_WrongValue, false), (.type "ValueError", false), (.ref ad.C_WrongName, false), (.type "LookupError", false), (.ref ad.C_NotPossible, true), (.type "ArithmeticError", true), (.ref ad.C_InvalidText, false), (.ref ad.C_InvalidPart, false), (.ref ad.C_InvalidSquare, false), (.ref ad.C_InvalidFact, false), (.ref ad.C_InvalidIndex, false), (.ref ad.C_InvalidWish, false), (.ref ad.C_InvalidCommand, false), (.ref ad.C_NotABoard, false), (.ref ad.C_NotNotes, false), (.ref ad.C_NotARanking, false), (.ref ad.C_OtherBoard, false), (.ref ad.C_SameSetting, false), (.ref ad.C_InvalidSizes, false), (.ref ad.C_InvalidFacts, false), (.ref ad.C_InvalidOrder, false), (.ref ad.C_InvalidPeaks, false), (.ref ad.C_InvalidWalks, false), (.ref ad.C_InvalidRests, false), (.ref ad.C_UnknownSetting, false), (.ref ad.C_TooMany, false), (.ref ad.C_Broken, false), (.ref ad.C_NothingToUndo, true)] : List (Value × Bool)).all fun p => PySem.W.kitOne K (.ref ad.C_NothingToUndo) p.1 == some p.2) = true
  z_ArithmeticError : mg "ArithmeticError" = none
  z_LookupError : mg "LookupError" = none
  z_ValueError : mg "ValueError" = none
  z_abs : mg "abs" = none
  z_all : mg "all" = none
  z_int : mg "int" = none
  z_isinstance : mg "isinstance" = none
  z_len : mg "len" = none
  z_max : mg "max" = none
  z_min : mg "min" = none
  z_range : mg "range" = none
  z_repr : mg "repr" = none
theorem xt_index_is {c : Nat} (h : xt_index c = true) : c = 23 ∨ c = 24 ∨ c = 25 ∨ c = 26 ∨ c = 27 ∨ c = 28 ∨ c = 32 := by revert h; unfold xt_index; split <;> intro h <;> simp_all
theorem xt_index_ok {K : PySem.W.Frag} {w : World} {mg : Str → Option Value} {ad : Ad} (T : Txt K w mg ad) : ∀ c, xt_index c = true → (gm K w ad).fld c = [("index" : Str)] ∧ ExF K ((gm K w ad).cls c) ∧ PySem.W.findIn K (.ref ((gm K w ad).cls c)) "index" = some none := by
  intro c h
  rcases xt_index_is h with rfl | rfl | rfl | rfl | rfl | rfl | rfl <;> first | exact ⟨rfl, T.xf_InvalidSizes, T.xn_InvalidSizes⟩ | exact ⟨rfl, T.xf_InvalidFacts, T.xn_InvalidFacts⟩ | exact ⟨rfl, T.xf_InvalidOrder, T.xn_InvalidOrder⟩ | exact ⟨rfl, T.xf_InvalidPeaks, T.xn_InvalidPeaks⟩ | exact ⟨rfl, T.xf_InvalidWalks, T.xn_InvalidWalks⟩ | exact ⟨rfl, T.xf_InvalidRests, T.xn_InvalidRests⟩ | exact ⟨rfl, T.xf_Broken, T.xn_Broken⟩
theorem xt_given_is {c : Nat} (h : xt_given c = true) : c = 11 ∨ c = 12 ∨ c = 13 ∨ c = 14 ∨ c = 15 ∨ c = 16 ∨ c = 17 ∨ c = 18 ∨ c = 19 ∨ c = 20 ∨ c = 21 ∨ c = 22 ∨ c = 29 ∨ c = 31 := by revert h; unfold xt_given; split <;> intro h <;> simp_all
theorem xt_given_ok {K : PySem.W.Frag} {w : World} {mg : Str → Option Value} {ad : Ad} (T : Txt K w mg ad) : ∀ c, xt_given c = true → (gm K w ad).fld c = [("given" : Str)] ∧ ExF K ((gm K w ad).cls c) ∧ PySem.W.findIn K (.ref ((gm K w ad).cls c)) "given" = some none := by
  intro c h
  rcases xt_given_is h with rfl | rfl | rfl | rfl | rfl | rfl | rfl | rfl | rfl | rfl | rfl | rfl | rfl | rfl <;> first | exact ⟨rfl, T.xf_InvalidText, T.xn_InvalidText⟩ | exact ⟨rfl, T.xf_InvalidPart, T.xn_InvalidPart⟩ | exact ⟨rfl, T.xf_InvalidSquare, T.xn_InvalidSquare⟩ | exact ⟨rfl, T.xf_InvalidFact, T.xn_InvalidFact⟩ | exact ⟨rfl, T.xf_InvalidIndex, T.xn_InvalidIndex⟩ | exact ⟨rfl, T.xf_InvalidWish, T.xn_InvalidWish⟩ | exact ⟨rfl, T.xf_InvalidCommand, T.xn_InvalidCommand⟩ | exact ⟨rfl, T.xf_NotABoard, T.xn_NotABoard⟩ | exact ⟨rfl, T.xf_NotNotes, T.xn_NotNotes⟩ | exact ⟨rfl, T.xf_NotARanking, T.xn_NotARanking⟩ | exact ⟨rfl, T.xf_OtherBoard, T.xn_OtherBoard⟩ | exact ⟨rfl, T.xf_SameSetting, T.xn_SameSetting⟩ | exact ⟨rfl, T.xf_UnknownSetting, T.xn_UnknownSetting⟩ | exact ⟨rfl, T.xf_TooMany, T.xn_TooMany⟩
theorem isx_WrongValue_p {K : PySem.W.Frag} {w : World} {mg : Str → Option Value} {ad : Ad} (T : Txt K w mg ad) : DL.AllP (fun p => PySem.W.kitOne K (.ref ((gm K w ad).cls p.1)) (.ref ad.C_WrongValue) = some p.2) lx_WrongValue := ⟨kit_of T.kx_InvalidText 0 rfl, kit_of T.kx_InvalidPart 0 rfl, kit_of T.kx_InvalidSquare 0 rfl, kit_of T.kx_InvalidFact 0 rfl, kit_of T.kx_InvalidIndex 0 rfl, kit_of T.kx_InvalidWish 0 rfl, kit_of T.kx_InvalidCommand 0 rfl, kit_of T.kx_NotABoard 0 rfl, kit_of T.kx_NotNotes 0 rfl, kit_of T.kx_NotARanking 0 rfl, kit_of T.kx_OtherBoard 0 rfl, kit_of T.kx_SameSetting 0 rfl, kit_of T.kx_InvalidSizes 0 rfl, kit_of T.kx_InvalidFacts 0 rfl, kit_of T.kx_InvalidOrder 0 rfl, kit_of T.kx_InvalidPeaks 0 rfl, kit_of T.kx_InvalidWalks 0 rfl, kit_of T.kx_InvalidRests 0 rfl, kit_of T.kx_UnknownSetting 0 rfl, kit_of T.kx_TooMany 0 rfl, kit_of T.kx_Broken 0 rfl, kit_of T.kx_WrongValue 0 rfl, kit_of T.kx_WrongName 0 rfl, kit_of T.kx_NotPossible 0 rfl, kit_of T.kx_NothingToUndo 0 rfl, trivial⟩
theorem isx_WrongValue_t {K : PySem.W.Frag} {w : World} {mg : Str → Option Value} {ad : Ad} (T : Txt K w mg ad) : ∀ t b, isx_WrongValue t = some b → PySem.W.kitOne K (tagV (gm K w ad) t) (.ref ad.C_WrongValue) = some b := fun t b h => by
  cases t <;> first | exact (isx_WrongValue_p T).get h | cases h
theorem isx_WrongValue_x {K : PySem.W.Frag} {w : World} {mg : Str → Option Value} {ad : Ad} (T : Txt K w mg ad) : ∀ c b, isx_WrongValue (.exc c) = some b → ExF K ((gm K w ad).cls c) := fun c b h => DL.AllP.get (P := fun p => ExF K ((gm K w ad).cls p.1)) (l := lx_WrongValue) ⟨T.xf_InvalidText, T.xf_InvalidPart, T.xf_InvalidSquare, T.xf_InvalidFact, T.xf_InvalidIndex, T.xf_InvalidWish, T.xf_InvalidCommand, T.xf_NotABoard, T.xf_NotNotes, T.xf_NotARanking, T.xf_OtherBoard, T.xf_SameSetting, T.xf_InvalidSizes, T.xf_InvalidFacts, T.xf_InvalidOrder, T.xf_InvalidPeaks, T.xf_InvalidWalks, T.xf_InvalidRests, T.xf_UnknownSetting, T.xf_TooMany, T.xf_Broken, T.xf_WrongValue, T.xf_WrongName, T.xf_NotPossible, T.xf_NothingToUndo, trivial⟩ h
theorem isx_WrongValue_c {G : Gm} : ∀ c b, isx_WrongValue (.obj c) = some b → ClsG G.K (G.cls c) := fun _ _ h => by cases h
theorem isx_ValueError_p {K : PySem.W.Frag} {w : World} {mg : Str → Option Value} {ad : Ad} (T : Txt K w mg ad) : DL.AllP (fun p => PySem.W.kitOne K (.ref ((gm K w ad).cls p.1)) (.type "ValueError") = some p.2) lx_ValueError := ⟨kit_of T.kx_InvalidText 1 rfl, kit_of T.kx_InvalidPart 1 rfl, kit_of T.kx_InvalidSquare 1 rfl, kit_of T.kx_InvalidFact 1 rfl, kit_of T.kx_InvalidIndex 1 rfl, kit_of T.kx_InvalidWish 1 rfl, kit_of T.kx_InvalidCommand 1 rfl, kit_of T.kx_NotABoard 1 rfl, kit_of T.kx_NotNotes 1 rfl, kit_of T.kx_NotARanking 1 rfl, kit_of T.kx_OtherBoard 1 rfl, kit_of T.kx_SameSetting 1 rfl, kit_of T.kx_InvalidSizes 1 rfl, kit_of T.kx_InvalidFacts 1 rfl, kit_of T.kx_InvalidOrder 1 rfl, kit_of T.kx_InvalidPeaks 1 rfl, kit_of T.kx_InvalidWalks 1 rfl, kit_of T.kx_InvalidRests 1 rfl, kit_of T.kx_UnknownSetting 1 rfl, kit_of T.kx_TooMany 1 rfl, kit_of T.kx_Broken 1 rfl, kit_of T.kx_WrongValue 1 rfl, kit_of T.kx_WrongName 1 rfl, kit_of T.kx_NotPossible 1 rfl, kit_of T.kx_NothingToUndo 1 rfl, trivial⟩
theorem isx_ValueError_t {K : PySem.W.Frag} {w : World} {mg : Str → Option Value} {ad : Ad} (T : Txt K w mg ad) : ∀ t b, isx_ValueError t = some b → PySem.W.kitOne K (tagV (gm K w ad) t) (.type "ValueError") = some b := fun t b h => by
  cases t <;> first | exact (isx_ValueError_p T).get h | cases h
theorem isx_ValueError_x {K : PySem.W.Frag} {w : World} {mg : Str → Option Value} {ad : Ad} (T : Txt K w mg ad) : ∀ c b, isx_ValueError (.exc c) = some b → ExF K ((gm K w ad).cls c) := fun c b h => DL.AllP.get (P := fun p => ExF K ((gm K w ad).cls p.1)) (l := lx_ValueError) ⟨T.xf_InvalidText, T.xf_InvalidPart, T.xf_InvalidSquare, T.xf_InvalidFact, T.xf_InvalidIndex, T.xf_InvalidWish, T.xf_InvalidCommand, T.xf_NotABoard, T.xf_NotNotes, T.xf_NotARanking, T.xf_OtherBoard, T.xf_SameSetting, T.xf_InvalidSizes, T.xf_InvalidFacts, T.xf_InvalidOrder, T.xf_InvalidPeaks, T.xf_InvalidWalks, T.xf_InvalidRests, T.xf_UnknownSetting, T.xf_TooMany, T.xf_Broken, T.xf_WrongValue, T.xf_WrongName, T.xf_NotPossible, T.xf_NothingToUndo, trivial⟩ h
theorem isx_ValueError_c {G : Gm} : ∀ c b, isx_ValueError (.obj c) = some b → ClsG G.K (G.cls c) := fun _ _ h => by cases h
theorem isx_WrongName_p {K : PySem.W.Frag} {w : World} {mg : Str → Option Value} {ad : Ad} (T : Txt K w mg ad) : DL.AllP (fun p => PySem.W.kitOne K (.ref ((gm K w ad).cls p.1)) (.ref ad.C_WrongName) = some p.2) lx_WrongName := ⟨kit_of T.kx_InvalidText 2 rfl, kit_of T.kx_InvalidPart 2 rfl, kit_of T.kx_InvalidSquare 2 rfl, kit_of T.kx_InvalidFact 2 rfl, kit_of T.kx_InvalidIndex 2 rfl, kit_of T.kx_InvalidWish 2 rfl, kit_of T.kx_InvalidCommand 2 rfl, kit_of T.kx_NotABoard 2 rfl, kit_of T.kx_NotNotes 2 rfl, kit_of T.kx_NotARanking 2 rfl, kit_of T.kx_OtherBoard 2 rfl, kit_of T.kx_SameSetting 2 rfl, kit_of T.kx_InvalidSizes 2 rfl, kit_of T.kx_InvalidFacts 2 rfl, kit_of T.kx_InvalidOrder 2 rfl, kit_of T.kx_InvalidPeaks 2 rfl, kit_of T.kx_InvalidWalks 2 rfl, kit_of T.kx_InvalidRests 2 rfl, kit_of T.kx_UnknownSetting 2 rfl, kit_of T.kx_TooMany 2 rfl, kit_of T.kx_Broken 2 rfl, kit_of T.kx_WrongValue 2 rfl, kit_of T.kx_WrongName 2 rfl, kit_of T.kx_NotPossible 2 rfl, kit_of T.kx_NothingToUndo 2 rfl, trivial⟩
theorem isx_WrongName_t {K : PySem.W.Frag} {w : World} {mg : Str → Option Value} {ad : Ad} (T : Txt K w mg ad) : ∀ t b, isx_WrongName t = some b → PySem.W.kitOne K (tagV (gm K w ad) t) (.ref ad.C_WrongName) = some b := fun t b h => by
  cases t <;> first | exact (isx_WrongName_p T).get h | cases h
theorem isx_WrongName_x {K : PySem.W.Frag} {w : World} {mg : Str → Option Value} {ad : Ad} (T : Txt K w mg ad) : ∀ c b, isx_WrongName (.exc c) = some b → ExF K ((gm K w ad).cls c) := fun c b h => DL.AllP.get (P := fun p => ExF K ((gm K w ad).cls p.1)) (l := lx_WrongName) ⟨T.xf_InvalidText, T.xf_InvalidPart, T.xf_InvalidSquare, T.xf_InvalidFact, T.xf_InvalidIndex, T.xf_InvalidWish, T.xf_InvalidCommand, T.xf_NotABoard, T.xf_NotNotes, T.xf_NotARanking, T.xf_OtherBoard, T.xf_SameSetting, T.xf_InvalidSizes, T.xf_InvalidFacts, T.xf_InvalidOrder, T.xf_InvalidPeaks, T.xf_InvalidWalks, T.xf_InvalidRests, T.xf_UnknownSetting, T.xf_TooMany, T.xf_Broken, T.xf_WrongValue, T.xf_WrongName, T.xf_NotPossible, T.xf_NothingToUndo, trivial⟩ h
theorem isx_WrongName_c {G : Gm} : ∀ c b, isx_WrongName (.obj c) = some b → ClsG G.K (G.cls c) := fun _ _ h => by cases h
theorem isx_LookupError_p {K : PySem.W.Frag} {w : World} {mg : Str → Option Value} {ad : Ad} (T : Txt K w mg ad) : DL.AllP (fun p => PySem.W.kitOne K (.ref ((gm K w ad).cls p.1)) (.type "LookupError") = some p.2) lx_LookupError := ⟨kit_of T.kx_InvalidText 3 rfl, kit_of T.kx_InvalidPart 3 rfl, kit_of T.kx_InvalidSquare 3 rfl, kit_of T.kx_InvalidFact 3 rfl, kit_of T.kx_InvalidIndex 3 rfl, kit_of T.kx_InvalidWish 3 rfl, kit_of T.kx_InvalidCommand 3 rfl, kit_of T.kx_NotABoard 3 rfl, kit_of T.kx_NotNotes 3 rfl, kit_of T.kx_NotARanking 3 rfl, kit_of T.kx_OtherBoard 3 rfl, kit_of T.kx_SameSetting 3 rfl, kit_of T.kx_InvalidSizes 3 rfl, kit_of T.kx_InvalidFacts 3 rfl, kit_of T.kx_InvalidOrder 3 rfl, kit_of T.kx_InvalidPeaks 3 rfl, kit_of T.kx_InvalidWalks 3 rfl, kit_of T.kx_InvalidRests 3 rfl, kit_of T.kx_UnknownSetting 3 rfl, kit_of T.kx_TooMany 3 rfl, kit_of T.kx_Broken 3 rfl, kit_of T.kx_WrongValue 3 rfl, kit_of T.kx_WrongName 3 rfl, kit_of T.kx_NotPossible 3 rfl, kit_of T.kx_NothingToUndo 3 rfl, trivial⟩
theorem isx_LookupError_t {K : PySem.W.Frag} {w : World} {mg : Str → Option Value} {ad : Ad} (T : Txt K w mg ad) : ∀ t b, isx_LookupError t = some b → PySem.W.kitOne K (tagV (gm K w ad) t) (.type "LookupError") = some b := fun t b h => by
  cases t <;> first | exact (isx_LookupError_p T).get h | cases h
theorem isx_LookupError_x {K : PySem.W.Frag} {w : World} {mg : Str → Option Value} {ad : Ad} (T : Txt K w mg ad) : ∀ c b, isx_LookupError (.exc c) = some b → ExF K ((gm K w ad).cls c) := fun c b h => DL.AllP.get (P := fun p => ExF K ((gm K w ad).cls p.1)) (l := lx_LookupError) ⟨T.xf_InvalidText, T.xf_InvalidPart, T.xf_InvalidSquare, T.xf_InvalidFact, T.xf_InvalidIndex, T.xf_InvalidWish, T.xf_InvalidCommand, T.xf_NotABoard, T.xf_NotNotes, T.xf_NotARanking, T.xf_OtherBoard, T.xf_SameSetting, T.xf_InvalidSizes, T.xf_InvalidFacts, T.xf_InvalidOrder, T.xf_InvalidPeaks, T.xf_InvalidWalks, T.xf_InvalidRests, T.xf_UnknownSetting, T.xf_TooMany, T.xf_Broken, T.xf_WrongValue, T.xf_WrongName, T.xf_NotPossible, T.xf_NothingToUndo, trivial⟩ h
theorem isx_LookupError_c {G : Gm} : ∀ c b, isx_LookupError (.obj c) = some b → ClsG G.K (G.cls c) := fun _ _ h => by cases h
theorem isx_NotPossible_p {K : PySem.W.Frag} {w : World} {mg : Str → Option Value} {ad : Ad} (T : Txt K w mg ad) : DL.AllP (fun p => PySem.W.kitOne K (.ref ((gm K w ad).cls p.1)) (.ref ad.C_NotPossible) = some p.2) lx_NotPossible := ⟨kit_of T.kx_InvalidText 4 rfl, kit_of T.kx_InvalidPart 4 rfl, kit_of T.kx_InvalidSquare 4 rfl, kit_of T.kx_InvalidFact 4 rfl, kit_of T.kx_InvalidIndex 4 rfl, kit_of T.kx_InvalidWish 4 rfl, kit_of T.kx_InvalidCommand 4 rfl, kit_of T.kx_NotABoard 4 rfl, kit_of T.kx_NotNotes 4 rfl, kit_of T.kx_NotARanking 4 rfl, kit_of T.kx_OtherBoard 4 rfl, kit_of T.kx_SameSetting 4 rfl, kit_of T.kx_InvalidSizes 4 rfl, kit_of T.kx_InvalidFacts 4 rfl, kit_of T.kx_InvalidOrder 4 rfl, kit_of T.kx_InvalidPeaks 4 rfl, kit_of T.kx_InvalidWalks 4 rfl, kit_of T.kx_InvalidRests 4 rfl, kit_of T.kx_UnknownSetting 4 rfl, kit_of T.kx_TooMany 4 rfl, kit_of T.kx_Broken 4 rfl, kit_of T.kx_WrongValue 4 rfl, kit_of T.kx_WrongName 4 rfl, kit_of T.kx_NotPossible 4 rfl, kit_of T.kx_NothingToUndo 4 rfl, trivial⟩
theorem isx_NotPossible_t {K : PySem.W.Frag} {w : World} {mg : Str → Option Value} {ad : Ad} (T : Txt K w mg ad) : ∀ t b, isx_NotPossible t = some b → PySem.W.kitOne K (tagV (gm K w ad) t) (.ref ad.C_NotPossible) = some b := fun t b h => by
  cases t <;> first | exact (isx_NotPossible_p T).get h | cases h
theorem isx_NotPossible_x {K : PySem.W.Frag} {w : World} {mg : Str → Option Value} {ad : Ad} (T : Txt K w mg ad) : ∀ c b, isx_NotPossible (.exc c) = some b → ExF K ((gm K w ad).cls c) := fun c b h => DL.AllP.get (P := fun p => ExF K ((gm K w ad).cls p.1)) (l := lx_NotPossible) ⟨T.xf_InvalidText, T.xf_InvalidPart, T.xf_InvalidSquare, T.xf_InvalidFact, T.xf_InvalidIndex, T.xf_InvalidWish, T.xf_InvalidCommand, T.xf_NotABoard, T.xf_NotNotes, T.xf_NotARanking, T.xf_OtherBoard, T.xf_SameSetting, T.xf_InvalidSizes, T.xf_InvalidFacts, T.xf_InvalidOrder, T.xf_InvalidPeaks, T.xf_InvalidWalks, T.xf_InvalidRests, T.xf_UnknownSetting, T.xf_TooMany, T.xf_Broken, T.xf_WrongValue, T.xf_WrongName, T.xf_NotPossible, T.xf_NothingToUndo, trivial⟩ h
theorem isx_NotPossible_c {G : Gm} : ∀ c b, isx_NotPossible (.obj c) = some b → ClsG G.K (G.cls c) := fun _ _ h => by cases h
theorem isx_ArithmeticError_p {K : PySem.W.Frag} {w : World} {mg : Str → Option Value} {ad : Ad} (T : Txt K w mg ad) : DL.AllP (fun p => PySem.W.kitOne K (.ref ((gm K w ad).cls p.1)) (.type "ArithmeticError") = some p.2) lx_ArithmeticError := ⟨kit_of T.kx_InvalidText 5 rfl, kit_of T.kx_InvalidPart 5 rfl, kit_of T.kx_InvalidSquare 5 rfl, kit_of T.kx_InvalidFact 5 rfl, kit_of T.kx_InvalidIndex 5 rfl, kit_of T.kx_InvalidWish 5 rfl, kit_of T.kx_InvalidCommand 5 rfl, kit_of T.kx_NotABoard 5 rfl, kit_of T.kx_NotNotes 5 rfl, kit_of T.kx_NotARanking 5 rfl, kit_of T.kx_OtherBoard 5 rfl, kit_of T.kx_SameSetting 5 rfl, kit_of T.kx_InvalidSizes 5 rfl, kit_of T.kx_InvalidFacts 5 rfl, kit_of T.kx_InvalidOrder 5 rfl, kit_of T.kx_InvalidPeaks 5 rfl, kit_of T.kx_InvalidWalks 5 rfl, kit_of T.kx_InvalidRests 5 rfl, kit_of T.kx_UnknownSetting 5 rfl, kit_of T.kx_TooMany 5 rfl, kit_of T.kx_Broken 5 rfl, kit_of T.kx_WrongValue 5 rfl, kit_of T.kx_WrongName 5 rfl, kit_of T.kx_NotPossible 5 rfl, kit_of T.kx_NothingToUndo 5 rfl, trivial⟩
theorem isx_ArithmeticError_t {K : PySem.W.Frag} {w : World} {mg : Str → Option Value} {ad : Ad} (T : Txt K w mg ad) : ∀ t b, isx_ArithmeticError t = some b → PySem.W.kitOne K (tagV (gm K w ad) t) (.type "ArithmeticError") = some b := fun t b h => by
  cases t <;> first | exact (isx_ArithmeticError_p T).get h | cases h
theorem isx_ArithmeticError_x {K : PySem.W.Frag} {w : World} {mg : Str → Option Value} {ad : Ad} (T : Txt K w mg ad) : ∀ c b, isx_ArithmeticError (.exc c) = some b → ExF K ((gm K w ad).cls c) := fun c b h => DL.AllP.get (P := fun p => ExF K ((gm K w ad).cls p.1)) (l := lx_ArithmeticError) ⟨T.xf_InvalidText, T.xf_InvalidPart, T.xf_InvalidSquare, T.xf_InvalidFact, T.xf_InvalidIndex, T.xf_InvalidWish, T.xf_InvalidCommand, T.xf_NotABoard, T.xf_NotNotes, T.xf_NotARanking, T.xf_OtherBoard, T.xf_SameSetting, T.xf_InvalidSizes, T.xf_InvalidFacts, T.xf_InvalidOrder, T.xf_InvalidPeaks, T.xf_InvalidWalks, T.xf_InvalidRests, T.xf_UnknownSetting, T.xf_TooMany, T.xf_Broken, T.xf_WrongValue, T.xf_WrongName, T.xf_NotPossible, T.xf_NothingToUndo, trivial⟩ h
theorem isx_ArithmeticError_c {G : Gm} : ∀ c b, isx_ArithmeticError (.obj c) = some b → ClsG G.K (G.cls c) := fun _ _ h => by cases h
theorem isx_InvalidText_p {K : PySem.W.Frag} {w : World} {mg : Str → Option Value} {ad : Ad} (T : Txt K w mg ad) : DL.AllP (fun p => PySem.W.kitOne K (.ref ((gm K w ad).cls p.1)) (.ref ad.C_InvalidText) = some p.2) lx_InvalidText := ⟨kit_of T.kx_InvalidText 6 rfl, kit_of T.kx_InvalidPart 6 rfl, kit_of T.kx_InvalidSquare 6 rfl, kit_of T.kx_InvalidFact 6 rfl, kit_of T.kx_InvalidIndex 6 rfl, kit_of T.kx_InvalidWish 6 rfl, kit_of T.kx_InvalidCommand 6 rfl, kit_of T.kx_NotABoard 6 rfl, kit_of T.kx_NotNotes 6 rfl, kit_of T.kx_NotARanking 6 rfl, kit_of T.kx_OtherBoard 6 rfl, kit_of T.kx_SameSetting 6 rfl, kit_of T.kx_InvalidSizes 6 rfl, kit_of T.kx_InvalidFacts 6 rfl, kit_of T.kx_InvalidOrder 6 rfl, kit_of T.kx_InvalidPeaks 6 rfl, kit_of T.kx_InvalidWalks 6 rfl, kit_of T.kx_InvalidRests 6 rfl, kit_of T.kx_UnknownSetting 6 rfl, kit_of T.kx_TooMany 6 rfl, kit_of T.kx_Broken 6 rfl, kit_of T.kx_WrongValue 6 rfl, kit_of T.kx_WrongName 6 rfl, kit_of T.kx_NotPossible 6 rfl, kit_of T.kx_NothingToUndo 6 rfl, trivial⟩
theorem isx_InvalidText_t {K : PySem.W.Frag} {w : World} {mg : Str → Option Value} {ad : Ad} (T : Txt K w mg ad) : ∀ t b, isx_InvalidText t = some b → PySem.W.kitOne K (tagV (gm K w ad) t) (.ref ad.C_InvalidText) = some b := fun t b h => by
  cases t <;> first | exact (isx_InvalidText_p T).get h | cases h
theorem isx_InvalidText_x {K : PySem.W.Frag} {w : World} {mg : Str → Option Value} {ad : Ad} (T : Txt K w mg ad) : ∀ c b, isx_InvalidText (.exc c) = some b → ExF K ((gm K w ad).cls c) := fun c b h => DL.AllP.get (P := fun p => ExF K ((gm K w ad).cls p.1)) (l := lx_InvalidText) ⟨T.xf_InvalidText, T.xf_InvalidPart, T.xf_InvalidSquare, T.xf_InvalidFact, T.xf_InvalidIndex, T.xf_InvalidWish, T.xf_InvalidCommand, T.xf_NotABoard, T.xf_NotNotes, T.xf_NotARanking, T.xf_OtherBoard, T.xf_SameSetting, T.xf_InvalidSizes, T.xf_InvalidFacts, T.xf_InvalidOrder, T.xf_InvalidPeaks, T.xf_InvalidWalks, T.xf_InvalidRests, T.xf_UnknownSetting, T.xf_TooMany, T.xf_Broken, T.xf_WrongValue, T.xf_WrongName, T.xf_NotPossible, T.xf_NothingToUndo, trivial⟩ h
theorem isx_InvalidText_c {G : Gm} : ∀ c b, isx_InvalidText (.obj c) = some b → ClsG G.K (G.cls c) := fun _ _ h => by cases h
theorem isx_InvalidPart_p {K : PySem.W.Frag} {w : World} {mg : Str → Option Value} {ad : Ad} (T : Txt K w mg ad) : DL.AllP (fun p => PySem.W.kitOne K (.ref ((gm K w ad).cls p.1)) (.ref ad.C_InvalidPart) = some p.2) lx_InvalidPart := ⟨kit_of T.kx_InvalidText 7 rfl, kit_of T.kx_InvalidPart 7 rfl, kit_of T.kx_InvalidSquare 7 rfl, kit_of T.kx_InvalidFact 7 rfl, kit_of T.kx_InvalidIndex 7 rfl, kit_of T.kx_InvalidWish 7 rfl, kit_of T.kx_InvalidCommand 7 rfl, kit_of T.kx_NotABoard 7 rfl, kit_of T.kx_NotNotes 7 rfl, kit_of T.kx_NotARanking 7 rfl, kit_of T.kx_OtherBoard 7 rfl, kit_of T.kx_SameSetting 7 rfl, kit_of T.kx_InvalidSizes 7 rfl, kit_of T.kx_InvalidFacts 7 rfl, kit_of T.kx_InvalidOrder 7 rfl, kit_of T.kx_InvalidPeaks 7 rfl, kit_of T.kx_InvalidWalks 7 rfl, kit_of T.kx_InvalidRests 7 rfl, kit_of T.kx_UnknownSetting 7 rfl, kit_of T.kx_TooMany 7 rfl, kit_of T.kx_Broken 7 rfl, kit_of T.kx_WrongValue 7 rfl, kit_of T.kx_WrongName 7 rfl, kit_of T.kx_NotPossible 7 rfl, kit_of T.kx_NothingToUndo 7 rfl, trivial⟩
theorem isx_InvalidPart_t {K : PySem.W.Frag} {w : World} {mg : Str → Option Value} {ad : Ad} (T : Txt K w mg ad) : ∀ t b, isx_InvalidPart t = some b → PySem.W.kitOne K (tagV (gm K w ad) t) (.ref ad.C_InvalidPart) = some b := fun t b h => by
  cases t <;> first | exact (isx_InvalidPart_p T).get h | cases h
theorem isx_InvalidPart_x {K : PySem.W.Frag} {w : World} {mg : Str → Option Value} {ad : Ad} (T : Txt K w mg ad) : ∀ c b, isx_InvalidPart (.exc c) = some b → ExF K ((gm K w ad).cls c) := fun c b h => DL.AllP.get (P := fun p => ExF K ((gm K w ad).cls p.1)) (l := lx_InvalidPart) ⟨T.xf_InvalidText, T.xf_InvalidPart, T.xf_InvalidSquare, T.xf_InvalidFact, T.xf_InvalidIndex, T.xf_InvalidWish, T.xf_InvalidCommand, T.xf_NotABoard, T.xf_NotNotes, T.xf_NotARanking, T.xf_OtherBoard, T.xf_SameSetting, T.xf_InvalidSizes, T.xf_InvalidFacts, T.xf_InvalidOrder, T.xf_InvalidPeaks, T.xf_InvalidWalks, T.xf_InvalidRests, T.xf_UnknownSetting, T.xf_TooMany, T.xf_Broken, T.xf_WrongValue, T.xf_WrongName, T.xf_NotPossible, T.xf_NothingToUndo, trivial⟩ h
theorem isx_InvalidPart_c {G : Gm} : ∀ c b, isx_InvalidPart (.obj c) = some b → ClsG G.K (G.cls c) := fun _ _ h => by cases h
theorem isx_InvalidSquare_p {K : PySem.W.Frag} {w : World} {mg : Str → Option Value} {ad : Ad} (T : Txt K w mg ad) : DL.AllP (fun p => PySem.W.kitOne K (.ref ((gm K w ad).cls p.1)) (.ref ad.C_InvalidSquare) = some p.2) lx_InvalidSquare := ⟨kit_of T.kx_InvalidText 8 rfl, kit_of T.kx_InvalidPart 8 rfl, kit_of T.kx_InvalidSquare 8 rfl, kit_of T.kx_InvalidFact 8 rfl, kit_of T.kx_InvalidIndex 8 rfl, kit_of T.kx_InvalidWish 8 rfl, kit_of T.kx_InvalidCommand 8 rfl, kit_of T.kx_NotABoard 8 rfl, kit_of T.kx_NotNotes 8 rfl, kit_of T.kx_NotARanking 8 rfl, kit_of T.kx_OtherBoard 8 rfl, kit_of T.kx_SameSetting 8 rfl, kit_of T.kx_InvalidSizes 8 rfl, kit_of T.kx_InvalidFacts 8 rfl, kit_of T.kx_InvalidOrder 8 rfl, kit_of T.kx_InvalidPeaks 8 rfl, kit_of T.kx_InvalidWalks 8 rfl, kit_of T.kx_InvalidRests 8 rfl, kit_of T.kx_UnknownSetting 8 rfl, kit_of T.kx_TooMany 8 rfl, kit_of T.kx_Broken 8 rfl, kit_of T.kx_WrongValue 8 rfl, kit_of T.kx_WrongName 8 rfl, kit_of T.kx_NotPossible 8 rfl, kit_of T.kx_NothingToUndo 8 rfl, trivial⟩
theorem isx_InvalidSquare_t {K : PySem.W.Frag} {w : World} {mg : Str → Option Value} {ad : Ad} (T : Txt K w mg ad) : ∀ t b, isx_InvalidSquare t = some b → PySem.W.kitOne K (tagV (gm K w ad) t) (.ref ad.C_InvalidSquare) = some b := fun t b h => by
  cases t <;> first | exact (isx_InvalidSquare_p T).get h | cases h
theorem isx_InvalidSquare_x {K : PySem.W.Frag} {w : World} {mg : Str → Option Value} {ad : Ad} (T : Txt K w mg ad) : ∀ c b, isx_InvalidSquare (.exc c) = some b → ExF K ((gm K w ad).cls c) := fun c b h => DL.AllP.get (P := fun p => ExF K ((gm K w ad).cls p.1)) (l := lx_InvalidSquare) ⟨T.xf_InvalidText, T.xf_InvalidPart, T.xf_InvalidSquare, T.xf_InvalidFact, T.xf_InvalidIndex, T.xf_InvalidWish, T.xf_InvalidCommand, T.xf_NotABoard, T.xf_NotNotes, T.xf_NotARanking, T.xf_OtherBoard, T.xf_SameSetting, T.xf_InvalidSizes, T.xf_InvalidFacts, T.xf_InvalidOrder, T.xf_InvalidPeaks, T.xf_InvalidWalks, T.xf_InvalidRests, T.xf_UnknownSetting, T.xf_TooMany, T.xf_Broken, T.xf_WrongValue, T.xf_WrongName, T.xf_NotPossible, T.xf_NothingToUndo, trivial⟩ h
theorem isx_InvalidSquare_c {G : Gm} : ∀ c b, isx_InvalidSquare (.obj c) = some b → ClsG G.K (G.cls c) := fun _ _ h => by cases h
theorem isx_InvalidFact_p {K : PySem.W.Frag} {w : World} {mg : Str → Option Value} {ad : Ad} (T : Txt K w mg ad) : DL.AllP (fun p => PySem.W.kitOne K (.ref ((gm K w ad).cls p.1)) (.ref ad.C_InvalidFact) = some p.2) lx_InvalidFact := ⟨kit_of T.kx_InvalidText 9 rfl, kit_of T.kx_InvalidPart 9 rfl, kit_of T.kx_InvalidSquare 9 rfl, kit_of T.kx_InvalidFact 9 rfl, kit_of T.kx_InvalidIndex 9 rfl, kit_of T.kx_InvalidWish 9 rfl, kit_of T.kx_InvalidCommand 9 rfl, kit_of T.kx_NotABoard 9 rfl, kit_of T.kx_NotNotes 9 rfl, kit_of T.kx_NotARanking 9 rfl, kit_of T.kx_OtherBoard 9 rfl, kit_of T.kx_SameSetting 9 rfl, kit_of T.kx_InvalidSizes 9 rfl, kit_of T.kx_InvalidFacts 9 rfl, kit_of T.kx_InvalidOrder 9 rfl, kit_of T.kx_InvalidPeaks 9 rfl, kit_of T.kx_InvalidWalks 9 rfl, kit_of T.kx_InvalidRests 9 rfl, kit_of T.kx_UnknownSetting 9 rfl, kit_of T.kx_TooMany 9 rfl, kit_of T.kx_Broken 9 rfl, kit_of T.kx_WrongValue 9 rfl, kit_of T.kx_WrongName 9 rfl, kit_of T.kx_NotPossible 9 rfl, kit_of T.kx_NothingToUndo 9 rfl, trivial⟩
theorem isx_InvalidFact_t {K : PySem.W.Frag} {w : World} {mg : Str → Option Value} {ad : Ad} (T : Txt K w mg ad) : ∀ t b, isx_InvalidFact t = some b → PySem.W.kitOne K (tagV (gm K w ad) t) (.ref ad.C_InvalidFact) = some b := fun t b h => by
  cases t <;> first | exact (isx_InvalidFact_p T).get h | cases h
theorem isx_InvalidFact_x {K : PySem.W.Frag} {w : World} {mg : Str → Option Value} {ad : Ad} (T : Txt K w mg ad) : ∀ c b, isx_InvalidFact (.exc c) = some b → ExF K ((gm K w ad).cls c) := fun c b h => DL.AllP.get (P := fun p => ExF K ((gm K w ad).cls p.1)) (l := lx_InvalidFact) ⟨T.xf_InvalidText, T.xf_InvalidPart, T.xf_InvalidSquare, T.xf_InvalidFact, T.xf_InvalidIndex, T.xf_InvalidWish, T.xf_InvalidCommand, T.xf_NotABoard, T.xf_NotNotes, T.xf_NotARanking, T.xf_OtherBoard, T.xf_SameSetting, T.xf_InvalidSizes, T.xf_InvalidFacts, T.xf_InvalidOrder, T.xf_InvalidPeaks, T.xf_InvalidWalks, T.xf_InvalidRests, T.xf_UnknownSetting, T.xf_TooMany, T.xf_Broken, T.xf_WrongValue, T.xf_WrongName, T.xf_NotPossible, T.xf_NothingToUndo, trivial⟩ h
theorem isx_InvalidFact_c {G : Gm} : ∀ c b, isx_InvalidFact (.obj c) = some b → ClsG G.K (G.cls c) := fun _ _ h => by cases h
theorem isx_InvalidIndex_p {K : PySem.W.Frag} {w : World} {mg : Str → Option Value} {ad : Ad} (T : Txt K w mg ad) : DL.AllP (fun p => PySem.W.kitOne K (.ref ((gm K w ad).cls p.1)) (.ref ad.C_InvalidIndex) = some p.2) lx_InvalidIndex := ⟨kit_of T.kx_InvalidText 10 rfl, kit_of T.kx_InvalidPart 10 rfl, kit_of T.kx_InvalidSquare 10 rfl, kit_of T.kx_InvalidFact 10 rfl, kit_of T.kx_InvalidIndex 10 rfl, kit_of T.kx_InvalidWish 10 rfl, kit_of T.kx_InvalidCommand 10 rfl, kit_of T.kx_NotABoard 10 rfl, kit_of T.kx_NotNotes 10 rfl, kit_of T.kx_NotARanking 10 rfl, kit_of T.kx_OtherBoard 10 rfl, kit_of T.kx_SameSetting 10 rfl, kit_of T.kx_InvalidSizes 10 rfl, kit_of T.kx_InvalidFacts 10 rfl, kit_of T.kx_InvalidOrder 10 rfl, kit_of T.kx_InvalidPeaks 10 rfl, kit_of T.kx_InvalidWalks 10 rfl, kit_of T.kx_InvalidRests 10 rfl, kit_of T.kx_UnknownSetting 10 rfl, kit_of T.kx_TooMany 10 rfl, kit_of T.kx_Broken 10 rfl, kit_of T.kx_WrongValue 10 rfl, kit_of T.kx_WrongName 10 rfl, kit_of T.kx_NotPossible 10 rfl, kit_of T.kx_NothingToUndo 10 rfl, trivial⟩
theorem isx_InvalidIndex_t {K : PySem.W.Frag} {w : World} {mg : Str → Option Value} {ad : Ad} (T : Txt K w mg ad) : ∀ t b, isx_InvalidIndex t = some b → PySem.W.kitOne K (tagV (gm K w ad) t) (.ref ad.C_InvalidIndex) = some b := fun t b h => by
  cases t <;> first | exact (isx_InvalidIndex_p T).get h | cases h
theorem isx_InvalidIndex_x {K : PySem.W.Frag} {w : World} {mg : Str → Option Value} {ad : Ad} (T : Txt K w mg ad) : ∀ c b, isx_InvalidIndex (.exc c) = some b → ExF K ((gm K w ad).cls c) := fun c b h => DL.AllP.get (P := fun p => ExF K ((gm K w ad).cls p.1)) (l := lx_InvalidIndex) ⟨T.xf_InvalidText, T.xf_InvalidPart, T.xf_InvalidSquare, T.xf_InvalidFact, T.xf_InvalidIndex, T.xf_InvalidWish, T.xf_InvalidCommand, T.xf_NotABoard, T.xf_NotNotes, T.xf_NotARanking, T.xf_OtherBoard, T.xf_SameSetting, T.xf_InvalidSizes, T.xf_InvalidFacts, T.xf_InvalidOrder, T.xf_InvalidPeaks, T.xf_InvalidWalks, T.xf_InvalidRests, T.xf_UnknownSetting, T.xf_TooMany, T.xf_Broken, T.xf_WrongValue, T.xf_WrongName, T.xf_NotPossible, T.xf_NothingToUndo, trivial⟩ h
theorem isx_InvalidIndex_c {G : Gm} : ∀ c b, isx_InvalidIndex (.obj c) = some b → ClsG G.K (G.cls c) := fun _ _ h => by cases h
theorem isx_InvalidWish_p {K : PySem.W.Frag} {w : World} {mg : Str → Option Value} {ad : Ad} (T : Txt K w mg ad) : DL.AllP (fun p => PySem.W.kitOne K (.ref ((gm K w ad).cls p.1)) (.ref ad.C_InvalidWish) = some p.2) lx_InvalidWish := ⟨kit_of T.kx_InvalidText 11 rfl, kit_of T.kx_InvalidPart 11 rfl, kit_of T.kx_InvalidSquare 11 rfl, kit_of T.kx_InvalidFact 11 rfl, kit_of T.kx_InvalidIndex 11 rfl, kit_of T.kx_InvalidWish 11 rfl, kit_of T.kx_InvalidCommand 11 rfl, kit_of T.kx_NotABoard 11 rfl, kit_of T.kx_NotNotes 11 rfl, kit_of T.kx_NotARanking 11 rfl, kit_of T.kx_OtherBoard 11 rfl, kit_of T.kx_SameSetting 11 rfl, kit_of T.kx_InvalidSizes 11 rfl, kit_of T.kx_InvalidFacts 11 rfl, kit_of T.kx_InvalidOrder 11 rfl, kit_of T.kx_InvalidPeaks 11 rfl, kit_of T.kx_InvalidWalks 11 rfl, kit_of T.kx_InvalidRests 11 rfl, kit_of T.kx_UnknownSetting 11 rfl, kit_of T.kx_TooMany 11 rfl, kit_of T.kx_Broken 11 rfl, kit_of T.kx_WrongValue 11 rfl, kit_of T.kx_WrongName 11 rfl, kit_of T.kx_NotPossible 11 rfl, kit_of T.kx_NothingToUndo 11 rfl, trivial⟩
theorem isx_InvalidWish_t {K : PySem.W.Frag} {w : World} {mg : Str → Option Value} {ad : Ad} (T : Txt K w mg ad) : ∀ t b, isx_InvalidWish t = some b → PySem.W.kitOne K (tagV (gm K w ad) t) (.ref ad.C_InvalidWish) = some b := fun t b h => by
  cases t <;> first | exact (isx_InvalidWish_p T).get h | cases h
theorem isx_InvalidWish_x {K : PySem.W.Frag} {w : World} {mg : Str → Option Value} {ad : Ad} (T : Txt K w mg ad) : ∀ c b, isx_InvalidWish (.exc c) = some b → ExF K ((gm K w ad).cls c) := fun c b h => DL.AllP.get (P := fun p => ExF K ((gm K w ad).cls p.1)) (l := lx_InvalidWish) ⟨T.xf_InvalidText, T.xf_InvalidPart, T.xf_InvalidSquare, T.xf_InvalidFact, T.xf_InvalidIndex, T.xf_InvalidWish, T.xf_InvalidCommand, T.xf_NotABoard, T.xf_NotNotes, T.xf_NotARanking, T.xf_OtherBoard, T.xf_SameSetting, T.xf_InvalidSizes, T.xf_InvalidFacts, T.xf_InvalidOrder, T.xf_InvalidPeaks, T.xf_InvalidWalks, T.xf_InvalidRests, T.xf_UnknownSetting, T.xf_TooMany, T.xf_Broken, T.xf_WrongValue, T.xf_WrongName, T.xf_NotPossible, T.xf_NothingToUndo, trivial⟩ h
theorem isx_InvalidWish_c {G : Gm} : ∀ c b, isx_InvalidWish (.obj c) = some b → ClsG G.K (G.cls c) := fun _ _ h => by cases h
theorem isx_InvalidCommand_p {K : PySem.W.Frag} {w : World} {mg : Str → Option Value} {ad : Ad} (T : Txt K w mg ad) : DL.AllP (fun p => PySem.W.kitOne K (.ref ((gm K w ad).cls p.1)) (.ref ad.C_InvalidCommand) = some p.2) lx_InvalidCommand := ⟨kit_of T.kx_InvalidText 12 rfl, kit_of T.kx_InvalidPart 12 rfl, kit_of T.kx_InvalidSquare 12 rfl, kit_of T.kx_InvalidFact 12 rfl, kit_of T.kx_InvalidIndex 12 rfl, kit_of T.kx_InvalidWish 12 rfl, kit_of T.kx_InvalidCommand 12 rfl, kit_of T.kx_NotABoard 12 rfl, kit_of T.kx_NotNotes 12 rfl, kit_of T.kx_NotARanking 12 rfl, kit_of T.kx_OtherBoard 12 rfl, kit_of T.kx_SameSetting 12 rfl, kit_of T.kx_InvalidSizes 12 rfl, kit_of T.kx_InvalidFacts 12 rfl, kit_of T.kx_InvalidOrder 12 rfl, kit_of T.kx_InvalidPeaks 12 rfl, kit_of T.kx_InvalidWalks 12 rfl, kit_of T.kx_InvalidRests 12 rfl, kit_of T.kx_UnknownSetting 12 rfl, kit_of T.kx_TooMany 12 rfl, kit_of T.kx_Broken 12 rfl, kit_of T.kx_WrongValue 12 rfl, kit_of T.kx_WrongName 12 rfl, kit_of T.kx_NotPossible 12 rfl, kit_of T.kx_NothingToUndo 12 rfl, trivial⟩
theorem isx_InvalidCommand_t {K : PySem.W.Frag} {w : World} {mg : Str → Option Value} {ad : Ad} (T : Txt K w mg ad) : ∀ t b, isx_InvalidCommand t = some b → PySem.W.kitOne K (tagV (gm K w ad) t) (.ref ad.C_InvalidCommand) = some b := fun t b h => by
  cases t <;> first | exact (isx_InvalidCommand_p T).get h | cases h
theorem isx_InvalidCommand_x {K : PySem.W.Frag} {w : World} {mg : Str → Option Value} {ad : Ad} (T : Txt K w mg ad) : ∀ c b, isx_InvalidCommand (.exc c) = some b → ExF K ((gm K w ad).cls c) := fun c b h => DL.AllP.get (P := fun p => ExF K ((gm K w ad).cls p.1)) (l := lx_InvalidCommand) ⟨T.xf_InvalidText, T.xf_InvalidPart, T.xf_InvalidSquare, T.xf_InvalidFact, T.xf_InvalidIndex, T.xf_InvalidWish, T.xf_InvalidCommand, T.xf_NotABoard, T.xf_NotNotes, T.xf_NotARanking, T.xf_OtherBoard, T.xf_SameSetting, T.xf_InvalidSizes, T.xf_InvalidFacts, T.xf_InvalidOrder, T.xf_InvalidPeaks, T.xf_InvalidWalks, T.xf_InvalidRests, T.xf_UnknownSetting, T.xf_TooMany, T.xf_Broken, T.xf_WrongValue, T.xf_WrongName, T.xf_NotPossible, T.xf_NothingToUndo, trivial⟩ h
theorem isx_InvalidCommand_c {G : Gm} : ∀ c b, isx_InvalidCommand (.obj c) = some b → ClsG G.K (G.cls c) := fun _ _ h => by cases h
theorem isx_NotABoard_p {K : PySem.W.Frag} {w : World} {mg : Str → Option Value} {ad : Ad} (T : Txt K w mg ad) : DL.AllP (fun p => PySem.W.kitOne K (.ref ((gm K w ad).cls p.1)) (.ref ad.C_NotABoard) = some p.2) lx_NotABoard := ⟨kit_of T.kx_InvalidText 13 rfl, kit_of T.kx_InvalidPart 13 rfl, kit_of T.kx_InvalidSquare 13 rfl, kit_of T.kx_InvalidFact 13 rfl, kit_of T.kx_InvalidIndex 13 rfl, kit_of T.kx_InvalidWish 13 rfl, kit_of T.kx_InvalidCommand 13 rfl, kit_of T.kx_NotABoard 13 rfl, kit_of T.kx_NotNotes 13 rfl, kit_of T.kx_NotARanking 13 rfl, kit_of T.kx_OtherBoard 13 rfl, kit_of T.kx_SameSetting 13 rfl, kit_of T.kx_InvalidSizes 13 rfl, kit_of T.kx_InvalidFacts 13 rfl, kit_of T.kx_InvalidOrder 13 rfl, kit_of T.kx_InvalidPeaks 13 rfl, kit_of T.kx_InvalidWalks 13 rfl, kit_of T.kx_InvalidRests 13 rfl, kit_of T.kx_UnknownSetting 13 rfl, kit_of T.kx_TooMany 13 rfl, kit_of T.kx_Broken 13 rfl, kit_of T.kx_WrongValue 13 rfl, kit_of T.kx_WrongName 13 rfl, kit_of T.kx_NotPossible 13 rfl, kit_of T.kx_NothingToUndo 13 rfl, trivial⟩
theorem isx_NotABoard_t {K : PySem.W.Frag} {w : World} {mg : Str → Option Value} {ad : Ad} (T : Txt K w mg ad) : ∀ t b, isx_NotABoard t = some b → PySem.W.kitOne K (tagV (gm K w ad) t) (.ref ad.C_NotABoard) = some b := fun t b h => by
  cases t <;> first | exact (isx_NotABoard_p T).get h | cases h
theorem isx_NotABoard_x {K : PySem.W.Frag} {w : World} {mg : Str → Option Value} {ad : Ad} (T : Txt K w mg ad) : ∀ c b, isx_NotABoard (.exc c) = some b → ExF K ((gm K w ad).cls c) := fun c b h => DL.AllP.get (P := fun p => ExF K ((gm K w ad).cls p.1)) (l := lx_NotABoard) ⟨T.xf_InvalidText, T.xf_InvalidPart, T.xf_InvalidSquare, T.xf_InvalidFact, T.xf_InvalidIndex, T.xf_InvalidWish, T.xf_InvalidCommand, T.xf_NotABoard, T.xf_NotNotes, T.xf_NotARanking, T.xf_OtherBoard, T.xf_SameSetting, T.xf_InvalidSizes, T.xf_InvalidFacts, T.xf_InvalidOrder, T.xf_InvalidPeaks, T.xf_InvalidWalks, T.xf_InvalidRests, T.xf_UnknownSetting, T.xf_TooMany, T.xf_Broken, T.xf_WrongValue, T.xf_WrongName, T.xf_NotPossible, T.xf_NothingToUndo, trivial⟩ h
theorem isx_NotABoard_c {G : Gm} : ∀ c b, isx_NotABoard (.obj c) = some b → ClsG G.K (G.cls c) := fun _ _ h => by cases h
theorem isx_NotNotes_p {K : PySem.W.Frag} {w : World} {mg : Str → Option Value} {ad : Ad} (T : Txt K w mg ad) : DL.AllP (fun p => PySem.W.kitOne K (.ref ((gm K w ad).cls p.1)) (.ref ad.C_NotNotes) = some p.2) lx_NotNotes := ⟨kit_of T.kx_InvalidText 14 rfl, kit_of T.kx_InvalidPart 14 rfl, kit_of T.kx_InvalidSquare 14 rfl, kit_of T.kx_InvalidFact 14 rfl, kit_of T.kx_InvalidIndex 14 rfl, kit_of T.kx_InvalidWish 14 rfl, kit_of T.kx_InvalidCommand 14 rfl, kit_of T.kx_NotABoard 14 rfl, kit_of T.kx_NotNotes 14 rfl, kit_of T.kx_NotARanking 14 rfl, kit_of T.kx_OtherBoard 14 rfl, kit_of T.kx_SameSetting 14 rfl, kit_of T.kx_InvalidSizes 14 rfl, kit_of T.kx_InvalidFacts 14 rfl, kit_of T.kx_InvalidOrder 14 rfl, kit_of T.kx_InvalidPeaks 14 rfl, kit_of T.kx_InvalidWalks 14 rfl, kit_of T.kx_InvalidRests 14 rfl, kit_of T.kx_UnknownSetting 14 rfl, kit_of T.kx_TooMany 14 rfl, kit_of T.kx_Broken 14 rfl, kit_of T.kx_WrongValue 14 rfl, kit_of T.kx_WrongName 14 rfl, kit_of T.kx_NotPossible 14 rfl, kit_of T.kx_NothingToUndo 14 rfl, trivial⟩
theorem isx_NotNotes_t {K : PySem.W.Frag} {w : World} {mg : Str → Option Value} {ad : Ad} (T : Txt K w mg ad) : ∀ t b, isx_NotNotes t = some b → PySem.W.kitOne K (tagV (gm K w ad) t) (.ref ad.C_NotNotes) = some b := fun t b h => by
  cases t <;> first | exact (isx_NotNotes_p T).get h | cases h
theorem isx_NotNotes_x {K : PySem.W.Frag} {w : World} {mg : Str → Option Value} {ad : Ad} (T : Txt K w mg ad) : ∀ c b, isx_NotNotes (.exc c) = some b → ExF K ((gm K w ad).cls c) := fun c b h => DL.AllP.get (P := fun p => ExF K ((gm K w ad).cls p.1)) (l := lx_NotNotes) ⟨T.xf_InvalidText, T.xf_InvalidPart, T.xf_InvalidSquare, T.xf_InvalidFact, T.xf_InvalidIndex, T.xf_InvalidWish, T.xf_InvalidCommand, T.xf_NotABoard, T.xf_NotNotes, T.xf_NotARanking, T.xf_OtherBoard, T.xf_SameSetting, T.xf_InvalidSizes, T.xf_InvalidFacts, T.xf_InvalidOrder, T.xf_InvalidPeaks, T.xf_InvalidWalks, T.xf_InvalidRests, T.xf_UnknownSetting, T.xf_TooMany, T.xf_Broken, T.xf_WrongValue, T.xf_WrongName, T.xf_NotPossible, T.xf_NothingToUndo, trivial⟩ h
theorem isx_NotNotes_c {G : Gm} : ∀ c b, isx_NotNotes (.obj c) = some b → ClsG G.K (G.cls c) := fun _ _ h => by cases h
theorem isx_NotARanking_p {K : PySem.W.Frag} {w : World} {mg : Str → Option Value} {ad : Ad} (T : Txt K w mg ad) : DL.AllP (fun p => PySem.W.kitOne K (.ref ((gm K w ad).cls p.1)) (.ref ad.C_NotARanking) = some p.2) lx_NotARanking := ⟨kit_of T.kx_InvalidText 15 rfl, kit_of T.kx_InvalidPart 15 rfl, kit_of T.kx_InvalidSquare 15 rfl, kit_of T.kx_InvalidFact 15 rfl, kit_of T.kx_InvalidIndex 15 rfl, kit_of T.kx_InvalidWish 15 rfl, kit_of T.kx_InvalidCommand 15 rfl, kit_of T.kx_NotABoard 15 rfl, kit_of T.kx_NotNotes 15 rfl, kit_of T.kx_NotARanking 15 rfl, kit_of T.kx_OtherBoard 15 rfl, kit_of T.kx_SameSetting 15 rfl, kit_of T.kx_InvalidSizes 15 rfl, kit_of T.kx_InvalidFacts 15 rfl, kit_of T.kx_InvalidOrder 15 rfl, kit_of T.kx_InvalidPeaks 15 rfl, kit_of T.kx_InvalidWalks 15 rfl, kit_of T.kx_InvalidRests 15 rfl, kit_of T.kx_UnknownSetting 15 rfl, kit_of T.kx_TooMany 15 rfl, kit_of T.kx_Broken 15 rfl, kit_of T.kx_WrongValue 15 rfl, kit_of T.kx_WrongName 15 rfl, kit_of T.kx_NotPossible 15 rfl, kit_of T.kx_NothingToUndo 15 rfl, trivial⟩
theorem isx_NotARanking_t {K : PySem.W.Frag} {w : World} {mg : Str → Option Value} {ad : Ad} (T : Txt K w mg ad) : ∀ t b, isx_NotARanking t = some b → PySem.W.kitOne K (tagV (gm K w ad) t) (.ref ad.C_NotARanking) = some b := fun t b h => by
  cases t <;> first | exact (isx_NotARanking_p T).get h | cases h
theorem isx_NotARanking_x {K : PySem.W.Frag} {w : World} {mg : Str → Option Value} {ad : Ad} (T : Txt K w mg ad) : ∀ c b, isx_NotARanking (.exc c) = some b → ExF K ((gm K w ad).cls c) := fun c b h => DL.AllP.get (P := fun p => ExF K ((gm K w ad).cls p.1)) (l := lx_NotARanking) ⟨T.xf_InvalidText, T.xf_InvalidPart, T.xf_InvalidSquare, T.xf_InvalidFact, T.xf_InvalidIndex, T.xf_InvalidWish, T.xf_InvalidCommand, T.xf_NotABoard, T.xf_NotNotes, T.xf_NotARanking, T.xf_OtherBoard, T.xf_SameSetting, T.xf_InvalidSizes, T.xf_InvalidFacts, T.xf_InvalidOrder, T.xf_InvalidPeaks, T.xf_InvalidWalks, T.xf_InvalidRests, T.xf_UnknownSetting, T.xf_TooMany, T.xf_Broken, T.xf_WrongValue, T.xf_WrongName, T.xf_NotPossible, T.xf_NothingToUndo, trivial⟩ h
theorem isx_NotARanking_c {G : Gm} : ∀ c b, isx_NotARanking (.obj c) = some b → ClsG G.K (G.cls c) := fun _ _ h => by cases h
theorem isx_OtherBoard_p {K : PySem.W.Frag} {w : World} {mg : Str → Option Value} {ad : Ad} (T : Txt K w mg ad) : DL.AllP (fun p => PySem.W.kitOne K (.ref ((gm K w ad).cls p.1)) (.ref ad.C_OtherBoard) = some p.2) lx_OtherBoard := ⟨kit_of T.kx_InvalidText 16 rfl, kit_of T.kx_InvalidPart 16 rfl, kit_of T.kx_InvalidSquare 16 rfl, kit_of T.kx_InvalidFact 16 rfl, kit_of T.kx_InvalidIndex 16 rfl, kit_of T.kx_InvalidWish 16 rfl, kit_of T.kx_InvalidCommand 16 rfl, kit_of T.kx_NotABoard 16 rfl, kit_of T.kx_NotNotes 16 rfl, kit_of T.kx_NotARanking 16 rfl, kit_of T.kx_OtherBoard 16 rfl, kit_of T.kx_SameSetting 16 rfl, kit_of T.kx_InvalidSizes 16 rfl, kit_of T.kx_InvalidFacts 16 rfl, kit_of T.kx_InvalidOrder 16 rfl, kit_of T.kx_InvalidPeaks 16 rfl, kit_of T.kx_InvalidWalks 16 rfl, kit_of T.kx_InvalidRests 16 rfl, kit_of T.kx_UnknownSetting 16 rfl, kit_of T.kx_TooMany 16 rfl, kit_of T.kx_Broken 16 rfl, kit_of T.kx_WrongValue 16 rfl, kit_of T.kx_WrongName 16 rfl, kit_of T.kx_NotPossible 16 rfl, kit_of T.kx_NothingToUndo 16 rfl, trivial⟩
theorem isx_OtherBoard_t {K : PySem.W.Frag} {w : World} {mg : Str → Option Value} {ad : Ad} (T : Txt K w mg ad) : ∀ t b, isx_OtherBoard t = some b → PySem.W.kitOne K (tagV (gm K w ad) t) (.ref ad.C_OtherBoard) = some b := fun t b h => by
  cases t <;> first | exact (isx_OtherBoard_p T).get h | cases h
theorem isx_OtherBoard_x {K : PySem.W.Frag} {w : World} {mg : Str → Option Value} {ad : Ad} (T : Txt K w mg ad) : ∀ c b, isx_OtherBoard (.exc c) = some b → ExF K ((gm K w ad).cls c) := fun c b h => DL.AllP.get (P := fun p => ExF K ((gm K w ad).cls p.1)) (l := lx_OtherBoard) ⟨T.xf_InvalidText, T.xf_InvalidPart, T.xf_InvalidSquare, T.xf_InvalidFact, T.xf_InvalidIndex, T.xf_InvalidWish, T.xf_InvalidCommand, T.xf_NotABoard, T.xf_NotNotes, T.xf_NotARanking, T.xf_OtherBoard, T.xf_SameSetting, T.xf_InvalidSizes, T.xf_InvalidFacts, T.xf_InvalidOrder, T.xf_InvalidPeaks, T.xf_InvalidWalks, T.xf_InvalidRests, T.xf_UnknownSetting, T.xf_TooMany, T.xf_Broken, T.xf_WrongValue, T.xf_WrongName, T.xf_NotPossible, T.xf_NothingToUndo, trivial⟩ h
theorem isx_OtherBoard_c {G : Gm} : ∀ c b, isx_OtherBoard (.obj c) = some b → ClsG G.K (G.cls c) := fun _ _ h => by cases h
theorem isx_SameSetting_p {K : PySem.W.Frag} {w : World} {mg : Str → Option Value} {ad : Ad} (T : Txt K w mg ad) : DL.AllP (fun p => PySem.W.kitOne K (.ref ((gm K w ad).cls p.1)) (.ref ad.C_SameSetting) = some p.2) lx_SameSetting := ⟨kit_of T.kx_InvalidText 17 rfl, kit_of T.kx_InvalidPart 17 rfl, kit_of T.kx_InvalidSquare 17 rfl, kit_of T.kx_InvalidFact 17 rfl, kit_of T.kx_InvalidIndex 17 rfl, kit_of T.kx_InvalidWish 17 rfl, kit_of T.kx_InvalidCommand 17 rfl, kit_of T.kx_NotABoard 17 rfl, kit_of T.kx_NotNotes 17 rfl, kit_of T.kx_NotARanking 17 rfl, kit_of T.kx_OtherBoard 17 rfl, kit_of T.kx_SameSetting 17 rfl, kit_of T.kx_InvalidSizes 17 rfl, kit_of T.kx_InvalidFacts 17 rfl, kit_of T.kx_InvalidOrder 17 rfl, kit_of T.kx_InvalidPeaks 17 rfl, kit_of T.kx_InvalidWalks 17 rfl, kit_of T.kx_InvalidRests 17 rfl, kit_of T.kx_UnknownSetting 17 rfl, kit_of T.kx_TooMany 17 rfl, kit_of T.kx_Broken 17 rfl, kit_of T.kx_WrongValue 17 rfl, kit_of T.kx_WrongName 17 rfl, kit_of T.kx_NotPossible 17 rfl, kit_of T.kx_NothingToUndo 17 rfl, trivial⟩
theorem isx_SameSetting_t {K : PySem.W.Frag} {w : World} {mg : Str → Option Value} {ad : Ad} (T : Txt K w mg ad) : ∀ t b, isx_SameSetting t = some b → PySem.W.kitOne K (tagV (gm K w ad) t) (.ref ad.C_SameSetting) = some b := fun t b h => by
  cases t <;> first | exact (isx_SameSetting_p T).get h | cases h
theorem isx_SameSetting_x {K : PySem.W.Frag} {w : World} {mg : Str → Option Value} {ad : Ad} (T : Txt K w mg ad) : ∀ c b, isx_SameSetting (.exc c) = some b → ExF K ((gm K w ad).cls c) := fun c b h => DL.AllP.get (P := fun p => ExF K ((gm K w ad).cls p.1)) (l := lx_SameSetting) ⟨T.xf_InvalidText, T.xf_InvalidPart, T.xf_InvalidSquare, T.xf_InvalidFact, T.xf_InvalidIndex, T.xf_InvalidWish, T.xf_InvalidCommand, T.xf_NotABoard, T.xf_NotNotes, T.xf_NotARanking, T.xf_OtherBoard, T.xf_SameSetting, T.xf_InvalidSizes, T.xf_InvalidFacts, T.xf_InvalidOrder, T.xf_InvalidPeaks, T.xf_InvalidWalks, T.xf_InvalidRests, T.xf_UnknownSetting, T.xf_TooMany, T.xf_Broken, T.xf_WrongValue, T.xf_WrongName, T.xf_NotPossible, T.xf_NothingToUndo, trivial⟩ h
theorem isx_SameSetting_c {G : Gm} : ∀ c b, isx_SameSetting (.obj c) = some b → ClsG G.K (G.cls c) := fun _ _ h => by cases h
theorem isx_InvalidSizes_p {K : PySem.W.Frag} {w : World} {mg : Str → Option Value} {ad : Ad} (T : Txt K w mg ad) : DL.AllP (fun p => PySem.W.kitOne K (.ref ((gm K w ad).cls p.1)) (.ref ad.C_InvalidSizes) = some p.2) lx_InvalidSizes := ⟨kit_of T.kx_InvalidText 18 rfl, kit_of T.kx_InvalidPart 18 rfl, kit_of T.kx_InvalidSquare 18 rfl, kit_of T.kx_InvalidFact 18 rfl, kit_of T.kx_InvalidIndex 18 rfl, kit_of T.kx_InvalidWish 18 rfl, kit_of T.kx_InvalidCommand 18 rfl, kit_of T.kx_NotABoard 18 rfl, kit_of T.kx_NotNotes 18 rfl, kit_of T.kx_NotARanking 18 rfl, kit_of T.kx_OtherBoard 18 rfl, kit_of T.kx_SameSetting 18 rfl, kit_of T.kx_InvalidSizes 18 rfl, kit_of T.kx_InvalidFacts 18 rfl, kit_of T.kx_InvalidOrder 18 rfl, kit_of T.kx_InvalidPeaks 18 rfl, kit_of T.kx_InvalidWalks 18 rfl, kit_of T.kx_InvalidRests 18 rfl, kit_of T.kx_UnknownSetting 18 rfl, kit_of T.kx_TooMany 18 rfl, kit_of T.kx_Broken 18 rfl, kit_of T.kx_WrongValue 18 rfl, kit_of T.kx_WrongName 18 rfl, kit_of T.kx_NotPossible 18 rfl, kit_of T.kx_NothingToUndo 18 rfl, trivial⟩
theorem isx_InvalidSizes_t {K : PySem.W.Frag} {w : World} {mg : Str → Option Value} {ad : Ad} (T : Txt K w mg ad) : ∀ t b, isx_InvalidSizes t = some b → PySem.W.kitOne K (tagV (gm K w ad) t) (.ref ad.C_InvalidSizes) = some b := fun t b h => by
  cases t <;> first | exact (isx_InvalidSizes_p T).get h | cases h
theorem isx_InvalidSizes_x {K : PySem.W.Frag} {w : World} {mg : Str → Option Value} {ad : Ad} (T : Txt K w mg ad) : ∀ c b, isx_InvalidSizes (.exc c) = some b → ExF K ((gm K w ad).cls c) := fun c b h => DL.AllP.get (P := fun p => ExF K ((gm K w ad).cls p.1)) (l := lx_InvalidSizes) ⟨T.xf_InvalidText, T.xf_InvalidPart, T.xf_InvalidSquare, T.xf_InvalidFact, T.xf_InvalidIndex, T.xf_InvalidWish, T.xf_InvalidCommand, T.xf_NotABoard, T.xf_NotNotes, T.xf_NotARanking, T.xf_OtherBoard, T.xf_SameSetting, T.xf_InvalidSizes, T.xf_InvalidFacts, T.xf_InvalidOrder, T.xf_InvalidPeaks, T.xf_InvalidWalks, T.xf_InvalidRests, T.xf_UnknownSetting, T.xf_TooMany, T.xf_Broken, T.xf_WrongValue, T.xf_WrongName, T.xf_NotPossible, T.xf_NothingToUndo, trivial⟩ h
theorem isx_InvalidSizes_c {G : Gm} : ∀ c b, isx_InvalidSizes (.obj c) = some b → ClsG G.K (G.cls c) := fun _ _ h => by cases h
theorem isx_InvalidFacts_p {K : PySem.W.Frag} {w : World} {mg : Str → Option Value} {ad : Ad} (T : Txt K w mg ad) : DL.AllP (fun p => PySem.W.kitOne K (.ref ((gm K w ad).cls p.1)) (.ref ad.C_InvalidFacts) = some p.2) lx_InvalidFacts := ⟨kit_of T.kx_InvalidText 19 rfl, kit_of T.kx_InvalidPart 19 rfl, kit_of T.kx_InvalidSquare 19 rfl, kit_of T.kx_InvalidFact 19 rfl, kit_of T.kx_InvalidIndex 19 rfl, kit_of T.kx_InvalidWish 19 rfl, kit_of T.kx_InvalidCommand 19 rfl, kit_of T.kx_NotABoard 19 rfl, kit_of T.kx_NotNotes 19 rfl, kit_of T.kx_NotARanking 19 rfl, kit_of T.kx_OtherBoard 19 rfl, kit_of T.kx_SameSetting 19 rfl, kit_of T.kx_InvalidSizes 19 rfl, kit_of T.kx_InvalidFacts 19 rfl, kit_of T.kx_InvalidOrder 19 rfl, kit_of T.kx_InvalidPeaks 19 rfl, kit_of T.kx_InvalidWalks 19 rfl, kit_of T.kx_InvalidRests 19 rfl, kit_of T.kx_UnknownSetting 19 rfl, kit_of T.kx_TooMany 19 rfl, kit_of T.kx_Broken 19 rfl, kit_of T.kx_WrongValue 19 rfl, kit_of T.kx_WrongName 19 rfl, kit_of T.kx_NotPossible 19 rfl, kit_of T.kx_NothingToUndo 19 rfl, trivial⟩
theorem isx_InvalidFacts_t {K : PySem.W.Frag} {w : World} {mg : Str → Option Value} {ad : Ad} (T : Txt K w mg ad) : ∀ t b, isx_InvalidFacts t = some b → PySem.W.kitOne K (tagV (gm K w ad) t) (.ref ad.C_InvalidFacts) = some b := fun t b h => by
  cases t <;> first | exact (isx_InvalidFacts_p T).get h | cases h
theorem isx_InvalidFacts_x {K : PySem.W.Frag} {w : World} {mg : Str → Option Value} {ad : Ad} (T : Txt K w mg ad) : ∀ c b, isx_InvalidFacts (.exc c) = some b → ExF K ((gm K w ad).cls c) := fun c b h => DL.AllP.get (P := fun p => ExF K ((gm K w ad).cls p.1)) (l := lx_InvalidFacts) ⟨T.xf_InvalidText, T.xf_InvalidPart, T.xf_InvalidSquare, T.xf_InvalidFact, T.xf_InvalidIndex, T.xf_InvalidWish, T.xf_InvalidCommand, T.xf_NotABoard, T.xf_NotNotes, T.xf_NotARanking, T.xf_OtherBoard, T.xf_SameSetting, T.xf_InvalidSizes, T.xf_InvalidFacts, T.xf_InvalidOrder, T.xf_InvalidPeaks, T.xf_InvalidWalks, T.xf_InvalidRests, T.xf_UnknownSetting, T.xf_TooMany, T.xf_Broken, T.xf_WrongValue, T.xf_WrongName, T.xf_NotPossible, T.xf_NothingToUndo, trivial⟩ h
theorem isx_InvalidFacts_c {G : Gm} : ∀ c b, isx_InvalidFacts (.obj c) = some b → ClsG G.K (G.cls c) := fun _ _ h => by cases h
theorem isx_InvalidOrder_p {K : PySem.W.Frag} {w : World} {mg : Str → Option Value} {ad : Ad} (T : Txt K w mg ad) : DL.AllP (fun p => PySem.W.kitOne K (.ref ((gm K w ad).cls p.1)) (.ref ad.C_InvalidOrder) = some p.2) lx_InvalidOrder := ⟨kit_of T.kx_InvalidText 20 rfl, kit_of T.kx_InvalidPart 20 rfl, kit_of T.kx_InvalidSquare 20 rfl, kit_of T.kx_InvalidFact 20 rfl, kit_of T.kx_InvalidIndex 20 rfl, kit_of T.kx_InvalidWish 20 rfl, kit_of T.kx_InvalidCommand 20 rfl, kit_of T.kx_NotABoard 20 rfl, kit_of T.kx_NotNotes 20 rfl, kit_of T.kx_NotARanking 20 rfl, kit_of T.kx_OtherBoard 20 rfl, kit_of T.kx_SameSetting 20 rfl, kit_of T.kx_InvalidSizes 20 rfl, kit_of T.kx_InvalidFacts 20 rfl, kit_of T.kx_InvalidOrder 20 rfl, kit_of T.kx_InvalidPeaks 20 rfl, kit_of T.kx_InvalidWalks 20 rfl, kit_of T.kx_InvalidRests 20 rfl, kit_of T.kx_UnknownSetting 20 rfl, kit_of T.kx_TooMany 20 rfl, kit_of T.kx_Broken 20 rfl, kit_of T.kx_WrongValue 20 rfl, kit_of T.kx_WrongName 20 rfl, kit_of T.kx_NotPossible 20 rfl, kit_of T.kx_NothingToUndo 20 rfl, trivial⟩
theorem isx_InvalidOrder_t {K : PySem.W.Frag} {w : World} {mg : Str → Option Value} {ad : Ad} (T : Txt K w mg ad) : ∀ t b, isx_InvalidOrder t = some b → PySem.W.kitOne K (tagV (gm K w ad) t) (.ref ad.C_InvalidOrder) = some b := fun t b h => by
  cases t <;> first | exact (isx_InvalidOrder_p T).get h | cases h
theorem isx_InvalidOrder_x {K : PySem.W.Frag} {w : World} {mg : Str → Option Value} {ad : Ad} (T : Txt K w mg ad) : ∀ c b, isx_InvalidOrder (.exc c) = some b → ExF K ((gm K w ad).cls c) := fun c b h => DL.AllP.get (P := fun p => ExF K ((gm K w ad).cls p.1)) (l := lx_InvalidOrder) ⟨T.xf_InvalidText, T.xf_InvalidPart, T.xf_InvalidSquare, T.xf_InvalidFact, T.xf_InvalidIndex, T.xf_InvalidWish, T.xf_InvalidCommand, T.xf_NotABoard, T.xf_NotNotes, T.xf_NotARanking, T.xf_OtherBoard, T.xf_SameSetting, T.xf_InvalidSizes, T.xf_InvalidFacts, T.xf_InvalidOrder, T.xf_InvalidPeaks, T.xf_InvalidWalks, T.xf_InvalidRests, T.xf_UnknownSetting, T.xf_TooMany, T.xf_Broken, T.xf_WrongValue, T.xf_WrongName, T.xf_NotPossible, T.xf_NothingToUndo, trivial⟩ h
theorem isx_InvalidOrder_c {G : Gm} : ∀ c b, isx_InvalidOrder (.obj c) = some b → ClsG G.K (G.cls c) := fun _ _ h => by cases h
theorem isx_InvalidPeaks_p {K : PySem.W.Frag} {w : World} {mg : Str → Option Value} {ad : Ad} (T : Txt K w mg ad) : DL.AllP (fun p => PySem.W.kitOne K (.ref ((gm K w ad).cls p.1)) (.ref ad.C_InvalidPeaks) = some p.2) lx_InvalidPeaks := ⟨kit_of T.kx_InvalidText 21 rfl, kit_of T.kx_InvalidPart 21 rfl, kit_of T.kx_InvalidSquare 21 rfl, kit_of T.kx_InvalidFact 21 rfl, kit_of T.kx_InvalidIndex 21 rfl, kit_of T.kx_InvalidWish 21 rfl, kit_of T.kx_InvalidCommand 21 rfl, kit_of T.kx_NotABoard 21 rfl, kit_of T.kx_NotNotes 21 rfl, kit_of T.kx_NotARanking 21 rfl, kit_of T.kx_OtherBoard 21 rfl, kit_of T.kx_SameSetting 21 rfl, kit_of T.kx_InvalidSizes 21 rfl, kit_of T.kx_InvalidFacts 21 rfl, kit_of T.kx_InvalidOrder 21 rfl, kit_of T.kx_InvalidPeaks 21 rfl, kit_of T.kx_InvalidWalks 21 rfl, kit_of T.kx_InvalidRests 21 rfl, kit_of T.kx_UnknownSetting 21 rfl, kit_of T.kx_TooMany 21 rfl, kit_of T.kx_Broken 21 rfl, kit_of T.kx_WrongValue 21 rfl, kit_of T.kx_WrongName 21 rfl, kit_of T.kx_NotPossible 21 rfl, kit_of T.kx_NothingToUndo 21 rfl, trivial⟩
theorem isx_InvalidPeaks_t {K : PySem.W.Frag} {w : World} {mg : Str → Option Value} {ad : Ad} (T : Txt K w mg ad) : ∀ t b, isx_InvalidPeaks t = some b → PySem.W.kitOne K (tagV (gm K w ad) t) (.ref ad.C_InvalidPeaks) = some b := fun t b h => by
  cases t <;> first | exact (isx_InvalidPeaks_p T).get h | cases h
theorem isx_InvalidPeaks_x {K : PySem.W.Frag} {w : World} {mg : Str → Option Value} {ad : Ad} (T : Txt K w mg ad) : ∀ c b, isx_InvalidPeaks (.exc c) = some b → ExF K ((gm K w ad).cls c) := fun c b h => DL.AllP.get (P := fun p => ExF K ((gm K w ad).cls p.1)) (l := lx_InvalidPeaks) ⟨T.xf_InvalidText, T.xf_InvalidPart, T.xf_InvalidSquare, T.xf_InvalidFact, T.xf_InvalidIndex, T.xf_InvalidWish, T.xf_InvalidCommand, T.xf_NotABoard, T.xf_NotNotes, T.xf_NotARanking, T.xf_OtherBoard, T.xf_SameSetting, T.xf_InvalidSizes, T.xf_InvalidFacts, T.xf_InvalidOrder, T.xf_InvalidPeaks, T.xf_InvalidWalks, T.xf_InvalidRests, T.xf_UnknownSetting, T.xf_TooMany, T.xf_Broken, T.xf_WrongValue, T.xf_WrongName, T.xf_NotPossible, T.xf_NothingToUndo, trivial⟩ h
theorem isx_InvalidPeaks_c {G : Gm} : ∀ c b, isx_InvalidPeaks (.obj c) = some b → ClsG G.K (G.cls c) := fun _ _ h => by cases h
theorem isx_InvalidWalks_p {K : PySem.W.Frag} {w : World} {mg : Str → Option Value} {ad : Ad} (T : Txt K w mg ad) : DL.AllP (fun p => PySem.W.kitOne K (.ref ((gm K w ad).cls p.1)) (.ref ad.C_InvalidWalks) = some p.2) lx_InvalidWalks := ⟨kit_of T.kx_InvalidText 22 rfl, kit_of T.kx_InvalidPart 22 rfl, kit_of T.kx_InvalidSquare 22 rfl, kit_of T.kx_InvalidFact 22 rfl, kit_of T.kx_InvalidIndex 22 rfl, kit_of T.kx_InvalidWish 22 rfl, kit_of T.kx_InvalidCommand 22 rfl, kit_of T.kx_NotABoard 22 rfl, kit_of T.kx_NotNotes 22 rfl, kit_of T.kx_NotARanking 22 rfl, kit_of T.kx_OtherBoard 22 rfl, kit_of T.kx_SameSetting 22 rfl, kit_of T.kx_InvalidSizes 22 rfl, kit_of T.kx_InvalidFacts 22 rfl, kit_of T.kx_InvalidOrder 22 rfl, kit_of T.kx_InvalidPeaks 22 rfl, kit_of T.kx_InvalidWalks 22 rfl, kit_of T.kx_InvalidRests 22 rfl, kit_of T.kx_UnknownSetting 22 rfl, kit_of T.kx_TooMany 22 rfl, kit_of T.kx_Broken 22 rfl, kit_of T.kx_WrongValue 22 rfl, kit_of T.kx_WrongName 22 rfl, kit_of T.kx_NotPossible 22 rfl, kit_of T.kx_NothingToUndo 22 rfl, trivial⟩
theorem isx_InvalidWalks_t {K : PySem.W.Frag} {w : World} {mg : Str → Option Value} {ad : Ad} (T : Txt K w mg ad) : ∀ t b, isx_InvalidWalks t = some b → PySem.W.kitOne K (tagV (gm K w ad) t) (.ref ad.C_InvalidWalks) = some b := fun t b h => by
  cases t <;> first | exact (isx_InvalidWalks_p T).get h | cases h
theorem isx_InvalidWalks_x {K : PySem.W.Frag} {w : World} {mg : Str → Option Value} {ad : Ad} (T : Txt K w mg ad) : ∀ c b, isx_InvalidWalks (.exc c) = some b → ExF K ((gm K w ad).cls c) := fun c b h => DL.AllP.get (P := fun p => ExF K ((gm K w ad).cls p.1)) (l := lx_InvalidWalks) ⟨T.xf_InvalidText, T.xf_InvalidPart, T.xf_InvalidSquare, T.xf_InvalidFact, T.xf_InvalidIndex, T.xf_InvalidWish, T.xf_InvalidCommand, T.xf_NotABoard, T.xf_NotNotes, T.xf_NotARanking, T.xf_OtherBoard, T.xf_SameSetting, T.xf_InvalidSizes, T.xf_InvalidFacts, T.xf_InvalidOrder, T.xf_InvalidPeaks, T.xf_InvalidWalks, T.xf_InvalidRests, T.xf_UnknownSetting, T.xf_TooMany, T.xf_Broken, T.xf_WrongValue, T.xf_WrongName, T.xf_NotPossible, T.xf_NothingToUndo, trivial⟩ h
theorem isx_InvalidWalks_c {G : Gm} : ∀ c b, isx_InvalidWalks (.obj c) = some b → ClsG G.K (G.cls c) := fun _ _ h => by cases h
theorem isx_InvalidRests_p {K : PySem.W.Frag} {w : World} {mg : Str → Option Value} {ad : Ad} (T : Txt K w mg ad) : DL.AllP (fun p => PySem.W.kitOne K (.ref ((gm K w ad).cls p.1)) (.ref ad.C_InvalidRests) = some p.2) lx_InvalidRests := ⟨kit_of T.kx_InvalidText 23 rfl, kit_of T.kx_InvalidPart 23 rfl, kit_of T.kx_InvalidSquare 23 rfl, kit_of T.kx_InvalidFact 23 rfl, kit_of T.kx_InvalidIndex 23 rfl, kit_of T.kx_InvalidWish 23 rfl, kit_of T.kx_InvalidCommand 23 rfl, kit_of T.kx_NotABoard 23 rfl, kit_of T.kx_NotNotes 23 rfl, kit_of T.kx_NotARanking 23 rfl, kit_of T.kx_OtherBoard 23 rfl, kit_of T.kx_SameSetting 23 rfl, kit_of T.kx_InvalidSizes 23 rfl, kit_of T.kx_InvalidFacts 23 rfl, kit_of T.kx_InvalidOrder 23 rfl, kit_of T.kx_InvalidPeaks 23 rfl, kit_of T.kx_InvalidWalks 23 rfl, kit_of T.kx_InvalidRests 23 rfl, kit_of T.kx_UnknownSetting 23 rfl, kit_of T.kx_TooMany 23 rfl, kit_of T.kx_Broken 23 rfl, kit_of T.kx_WrongValue 23 rfl, kit_of T.kx_WrongName 23 rfl, kit_of T.kx_NotPossible 23 rfl, kit_of T.kx_NothingToUndo 23 rfl, trivial⟩
theorem isx_InvalidRests_t {K : PySem.W.Frag} {w : World} {mg : Str → Option Value} {ad : Ad} (T : Txt K w mg ad) : ∀ t b, isx_InvalidRests t = some b → PySem.W.kitOne K (tagV (gm K w ad) t) (.ref ad.C_InvalidRests) = some b := fun t b h => by
  cases t <;> first | exact (isx_InvalidRests_p T).get h | cases h
theorem isx_InvalidRests_x {K : PySem.W.Frag} {w : World} {mg : Str → Option Value} {ad : Ad} (T : Txt K w mg ad) : ∀ c b, isx_InvalidRests (.exc c) = some b → ExF K ((gm K w ad).cls c) := fun c b h => DL.AllP.get (P := fun p => ExF K ((gm K w ad).cls p.1)) (l := lx_InvalidRests) ⟨T.xf_InvalidText, T.xf_InvalidPart, T.xf_InvalidSquare, T.xf_InvalidFact, T.xf_InvalidIndex, T.xf_InvalidWish, T.xf_InvalidCommand, T.xf_NotABoard, T.xf_NotNotes, T.xf_NotARanking, T.xf_OtherBoard, T.xf_SameSetting, T.xf_InvalidSizes, T.xf_InvalidFacts, T.xf_InvalidOrder, T.xf_InvalidPeaks, T.xf_InvalidWalks, T.xf_InvalidRests, T.xf_UnknownSetting, T.xf_TooMany, T.xf_Broken, T.xf_WrongValue, T.xf_WrongName, T.xf_NotPossible, T.xf_NothingToUndo, trivial⟩ h
theorem isx_InvalidRests_c {G : Gm} : ∀ c b, isx_InvalidRests (.obj c) = some b → ClsG G.K (G.cls c) := fun _ _ h => by cases h
theorem isx_UnknownSetting_p {K : PySem.W.Frag} {w : World} {mg : Str → Option Value} {ad : Ad} (T : Txt K w mg ad) : DL.AllP (fun p => PySem.W.kitOne K (.ref ((gm K w ad).cls p.1)) (.ref ad.C_UnknownSetting) = some p.2) lx_UnknownSetting := ⟨kit_of T.kx_InvalidText 24 rfl, kit_of T.kx_InvalidPart 24 rfl, kit_of T.kx_InvalidSquare 24 rfl, kit_of T.kx_InvalidFact 24 rfl, kit_of T.kx_InvalidIndex 24 rfl, kit_of T.kx_InvalidWish 24 rfl, kit_of T.kx_InvalidCommand 24 rfl, kit_of T.kx_NotABoard 24 rfl, kit_of T.kx_NotNotes 24 rfl, kit_of T.kx_NotARanking 24 rfl, kit_of T.kx_OtherBoard 24 rfl, kit_of T.kx_SameSetting 24 rfl, kit_of T.kx_InvalidSizes 24 rfl, kit_of T.kx_InvalidFacts 24 rfl, kit_of T.kx_InvalidOrder 24 rfl, kit_of T.kx_InvalidPeaks 24 rfl, kit_of T.kx_InvalidWalks 24 rfl, kit_of T.kx_InvalidRests 24 rfl, kit_of T.kx_UnknownSetting 24 rfl, kit_of T.kx_TooMany 24 rfl, kit_of T.kx_Broken 24 rfl, kit_of T.kx_WrongValue 24 rfl, kit_of T.kx_WrongName 24 rfl, kit_of T.kx_NotPossible 24 rfl, kit_of T.kx_NothingToUndo 24 rfl, trivial⟩
theorem isx_UnknownSetting_t {K : PySem.W.Frag} {w : World} {mg : Str → Option Value} {ad : Ad} (T : Txt K w mg ad) : ∀ t b, isx_UnknownSetting t = some b → PySem.W.kitOne K (tagV (gm K w ad) t) (.ref ad.C_UnknownSetting) = some b := fun t b h => by
  cases t <;> first | exact (isx_UnknownSetting_p T).get h | cases h
theorem isx_UnknownSetting_x {K : PySem.W.Frag} {w : World} {mg : Str → Option Value} {ad : Ad} (T : Txt K w mg ad) : ∀ c b, isx_UnknownSetting (.exc c) = some b → ExF K ((gm K w ad).cls c) := fun c b h => DL.AllP.get (P := fun p => ExF K ((gm K w ad).cls p.1)) (l := lx_UnknownSetting) ⟨T.xf_InvalidText, T.xf_InvalidPart, T.xf_InvalidSquare, T.xf_InvalidFact, T.xf_InvalidIndex, T.xf_InvalidWish, T.xf_InvalidCommand, T.xf_NotABoard, T.xf_NotNotes, T.xf_NotARanking, T.xf_OtherBoard, T.xf_SameSetting, T.xf_InvalidSizes, T.xf_InvalidFacts, T.xf_InvalidOrder, T.xf_InvalidPeaks, T.xf_InvalidWalks, T.xf_InvalidRests, T.xf_UnknownSetting, T.xf_TooMany, T.xf_Broken, T.xf_WrongValue, T.xf_WrongName, T.xf_NotPossible, T.xf_NothingToUndo, trivial⟩ h
theorem isx_UnknownSetting_c {G : Gm} : ∀ c b, isx_UnknownSetting (.obj c) = some b → ClsG G.K (G.cls c) := fun _ _ h => by cases h
theorem isx_TooMany_p {K : PySem.W.Frag} {w : World} {mg : Str → Option Value} {ad : Ad} (T : Txt K w mg ad) : DL.AllP (fun p => PySem.W.kitOne K (.ref ((gm K w ad).cls p.1)) (.ref ad.C_TooMany) = some p.2) lx_TooMany := ⟨kit_of T.kx_InvalidText 25 rfl, kit_of T.kx_InvalidPart 25 rfl, kit_of T.kx_InvalidSquare 25 rfl, kit_of T.kx_InvalidFact 25 rfl, kit_of T.kx_InvalidIndex 25 rfl, kit_of T.kx_InvalidWish 25 rfl, kit_of T.kx_InvalidCommand 25 rfl, kit_of T.kx_NotABoard 25 rfl, kit_of T.kx_NotNotes 25 rfl, kit_of T.kx_NotARanking 25 rfl, kit_of T.kx_OtherBoard 25 rfl, kit_of T.kx_SameSetting 25 rfl, kit_of T.kx_InvalidSizes 25 rfl, kit_of T.kx_InvalidFacts 25 rfl, kit_of T.kx_InvalidOrder 25 rfl, kit_of T.kx_InvalidPeaks 25 rfl, kit_of T.kx_InvalidWalks 25 rfl, kit_of T.kx_InvalidRests 25 rfl, kit_of T.kx_UnknownSetting 25 rfl, kit_of T.kx_TooMany 25 rfl, kit_of T.kx_Broken 25 rfl, kit_of T.kx_WrongValue 25 rfl, kit_of T.kx_WrongName 25 rfl, kit_of T.kx_NotPossible 25 rfl, kit_of T.kx_NothingToUndo 25 rfl, trivial⟩
theorem isx_TooMany_t {K : PySem.W.Frag} {w : World} {mg : Str → Option Value} {ad : Ad} (T : Txt K w mg ad) : ∀ t b, isx_TooMany t = some b → PySem.W.kitOne K (tagV (gm K w ad) t) (.ref ad.C_TooMany) = some b := fun t b h => by
  cases t <;> first | exact (isx_TooMany_p T).get h | cases h
theorem isx_TooMany_x {K : PySem.W.Frag} {w : World} {mg : Str → Option Value} {ad : Ad} (T : Txt K w mg ad) : ∀ c b, isx_TooMany (.exc c) = some b → ExF K ((gm K w ad).cls c) := fun c b h => DL.AllP.get (P := fun p => ExF K ((gm K w ad).cls p.1)) (l := lx_TooMany) ⟨T.xf_InvalidText, T.xf_InvalidPart, T.xf_InvalidSquare, T.xf_InvalidFact, T.xf_InvalidIndex, T.xf_InvalidWish, T.xf_InvalidCommand, T.xf_NotABoard, T.xf_NotNotes, T.xf_NotARanking, T.xf_OtherBoard, T.xf_SameSetting, T.xf_InvalidSizes, T.xf_InvalidFacts, T.xf_InvalidOrder, T.xf_InvalidPeaks, T.xf_InvalidWalks, T.xf_InvalidRests, T.xf_UnknownSetting, T.xf_TooMany, T.xf_Broken, T.xf_WrongValue, T.xf_WrongName, T.xf_NotPossible, T.xf_NothingToUndo, trivial⟩ h
theorem isx_TooMany_c {G : Gm} : ∀ c b, isx_TooMany (.obj c) = some b → ClsG G.K (G.cls c) := fun _ _ h => by cases h
theorem isx_Broken_p {K : PySem.W.Frag} {w : World} {mg : Str → Option Value} {ad : Ad} (T : Txt K w mg ad) : DL.AllP (fun p => PySem.W.kitOne K (.ref ((gm K w ad).cls p.1)) (.ref ad.C_Broken) = some p.2) lx_Broken := ⟨kit_of T.kx_InvalidText 26 rfl, kit_of T.kx_InvalidPart 26 rfl, kit_of T.kx_InvalidSquare 26 rfl, kit_of T.kx_InvalidFact 26 rfl, kit_of T.kx_InvalidIndex 26 rfl, kit_of T.kx_InvalidWish 26 rfl, kit_of T.kx_InvalidCommand 26 rfl, kit_of T.kx_NotABoard 26 rfl, kit_of T.kx_NotNotes 26 rfl, kit_of T.kx_NotARanking 26 rfl, kit_of T.kx_OtherBoard 26 rfl, kit_of T.kx_SameSetting 26 rfl, kit_of T.kx_InvalidSizes 26 rfl, kit_of T.kx_InvalidFacts 26 rfl, kit_of T.kx_InvalidOrder 26 rfl, kit_of T.kx_InvalidPeaks 26 rfl, kit_of T.kx_InvalidWalks 26 rfl, kit_of T.kx_InvalidRests 26 rfl, kit_of T.kx_UnknownSetting 26 rfl, kit_of T.kx_TooMany 26 rfl, kit_of T.kx_Broken 26 rfl, kit_of T.kx_WrongValue 26 rfl, kit_of T.kx_WrongName 26 rfl, kit_of T.kx_NotPossible 26 rfl, kit_of T.kx_NothingToUndo 26 rfl, trivial⟩
theorem isx_Broken_t {K : PySem.W.Frag} {w : World} {mg : Str → Option Value} {ad : Ad} (T : Txt K w mg ad) : ∀ t b, isx_Broken t = some b → PySem.W.kitOne K (tagV (gm K w ad) t) (.ref ad.C_Broken) = some b := fun t b h => by
  cases t <;> first | exact (isx_Broken_p T).get h | cases h
theorem isx_Broken_x {K : PySem.W.Frag} {w : World} {mg : Str → Option Value} {ad : Ad} (T : Txt K w mg ad) : ∀ c b, isx_Broken (.exc c) = some b → ExF K ((gm K w ad).cls c) := fun c b h => DL.AllP.get (P := fun p => ExF K ((gm K w ad).cls p.1)) (l := lx_Broken) ⟨T.xf_InvalidText, T.xf_InvalidPart, T.xf_InvalidSquare, T.xf_InvalidFact, T.xf_InvalidIndex, T.xf_InvalidWish, T.xf_InvalidCommand, T.xf_NotABoard, T.xf_NotNotes, T.xf_NotARanking, T.xf_OtherBoard, T.xf_SameSetting, T.xf_InvalidSizes, T.xf_InvalidFacts, T.xf_InvalidOrder, T.xf_InvalidPeaks, T.xf_InvalidWalks, T.xf_InvalidRests, T.xf_UnknownSetting, T.xf_TooMany, T.xf_Broken, T.xf_WrongValue, T.xf_WrongName, T.xf_NotPossible, T.xf_NothingToUndo, trivial⟩ h
theorem isx_Broken_c {G : Gm} : ∀ c b, isx_Broken (.obj c) = some b → ClsG G.K (G.cls c) := fun _ _ h => by cases h
theorem isx_NothingToUndo_p {K : PySem.W.Frag} {w : World} {mg : Str → Option Value} {ad : Ad} (T : Txt K w mg ad) : DL.AllP (fun p => PySem.W.kitOne K (.ref ((gm K w ad).cls p.1)) (.ref ad.C_NothingToUndo) = some p.2) lx_NothingToUndo := ⟨kit_of T.kx_InvalidText 27 rfl, kit_of T.kx_InvalidPart 27 rfl, kit_of T.kx_InvalidSquare 27 rfl, kit_of T.kx_InvalidFact 27 rfl, kit_of T.kx_InvalidIndex 27 rfl, kit_of T.kx_InvalidWish 27 rfl, kit_of T.kx_InvalidCommand 27 rfl, kit_of T.kx_NotABoard 27 rfl, kit_of T.kx_NotNotes 27 rfl, kit_of T.kx_NotARanking 27 rfl, kit_of T.kx_OtherBoard 27 rfl, kit_of T.kx_SameSetting 27 rfl, kit_of T.kx_InvalidSizes 27 rfl, kit_of T.kx_InvalidFacts 27 rfl, kit_of T.kx_InvalidOrder 27 rfl, kit_of T.kx_InvalidPeaks 27 rfl, kit_of T.kx_InvalidWalks 27 rfl, kit_of T.kx_InvalidRests 27 rfl, kit_of T.kx_UnknownSetting 27 rfl, kit_of T.kx_TooMany 27 rfl, kit_of T.kx_Broken 27 rfl, kit_of T.kx_WrongValue 27 rfl, kit_of T.kx_WrongName 27 rfl, kit_of T.kx_NotPossible 27 rfl, kit_of T.kx_NothingToUndo 27 rfl, trivial⟩
theorem isx_NothingToUndo_t {K : PySem.W.Frag} {w : World} {mg : Str → Option Value} {ad : Ad} (T : Txt K w mg ad) : ∀ t b, isx_NothingToUndo t = some b → PySem.W.kitOne K (tagV (gm K w ad) t) (.ref ad.C_NothingToUndo) = some b := fun t b h => by
  cases t <;> first | exact (isx_NothingToUndo_p T).get h | cases h
theorem isx_NothingToUndo_x {K : PySem.W.Frag} {w : World} {mg : Str → Option Value} {ad : Ad} (T : Txt K w mg ad) : ∀ c b, isx_NothingToUndo (.exc c) = some b → ExF K ((gm K w ad).cls c) := fun c b h => DL.AllP.get (P := fun p => ExF K ((gm K w ad).cls p.1)) (l := lx_NothingToUndo) ⟨T.xf_InvalidText, T.xf_InvalidPart, T.xf_InvalidSquare, T.xf_InvalidFact, T.xf_InvalidIndex, T.xf_InvalidWish, T.xf_InvalidCommand, T.xf_NotABoard, T.xf_NotNotes, T.xf_NotARanking, T.xf_OtherBoard, T.xf_SameSetting, T.xf_InvalidSizes, T.xf_InvalidFacts, T.xf_InvalidOrder, T.xf_InvalidPeaks, T.xf_InvalidWalks, T.xf_InvalidRests, T.xf_UnknownSetting, T.xf_TooMany, T.xf_Broken, T.xf_WrongValue, T.xf_WrongName, T.xf_NotPossible, T.xf_NothingToUndo, trivial⟩ h
theorem isx_NothingToUndo_c {G : Gm} : ∀ c b, isx_NothingToUndo (.obj c) = some b → ClsG G.K (G.cls c) := fun _ _ h => by cases h
section
variable {P : Program} {w : World} {K : PySem.W.Frag} {mg : Str → Option Value} {base : Heap} {ad : Ad}
theorem sc_law_bases : FnScope N_law_bases ["e"] (defScope s_law_bases) := ⟨rfl, rfl, rfl, by decide +kernel, rfl, by decide +kernel, by decide +kernel⟩
theorem ok_law_bases (T : Txt K w mg ad) : DefU P w (gm K w ad) mg base 1 ad.f_law_bases ["e"] (fun fd => Fun K "_law_bases" "_law_bases" s_law_bases ad.f_law_bases fd) (lift (gm K w ad) sp_law_bases) := by
  obtain ⟨fd, F⟩ := T.F_law_bases
  refine ⟨fd, okD (B := R_law_bases) F sc_law_bases (fun ds Q EX h => spOf_len h) (fun cdv A outer s H E hg hr => ?_) (fun ds Q EX h => spOf_pure l_law_bases h), F⟩
  have hg0 : (A.deeper (envOfC "_law_bases" (defScope s_law_bases) s.heap.objs.size ad.f_law_bases cdv)).guards = some [] := hg
  have hx0 : PassX (cxOf (L2.CX P w) P w K mg base N_law_bases "_law_bases" (defScope s_law_bases) ad.f_law_bases cdv A outer s H E) E := L2.passes_call (L2.takes_of rfl rfl rfl rfl) fun _ _ _ _ h => h
  exact (css_cons (cs_setOwn (i := 1) (cf_lst (ca_cons (ce_and (ce_isi (see (ce_var 0)) (by exact pe_glob (v := .ref ad.C_WrongValue) (by rfl) T.xg_WrongValue (by rfl)) T.z_isinstance (.own _) isx_WrongValue_c (isx_WrongValue_t T) (hx := isx_WrongValue_x T)) (ce_one (ce_isi (see (ce_var 0)) (by exact pe_bltn (v := .ty "ValueError") (u := .type "ValueError") (by rfl) T.z_ValueError (by decide +kernel) (by rfl)) T.z_isinstance (.ty _) isx_ValueError_c (isx_ValueError_t T) (hx := isx_ValueError_x T)))) ca_nil)) sc_law_bases.nd)
    (css_cons (cs_app (i := 1) (ce_and (ce_isi (see (ce_var 0)) (by exact pe_glob (v := .ref ad.C_WrongName) (by rfl) T.xg_WrongName (by rfl)) T.z_isinstance (.own _) isx_WrongName_c (isx_WrongName_t T) (hx := isx_WrongName_x T)) (ce_one (ce_isi (see (ce_var 0)) (by exact pe_bltn (v := .ty "LookupError") (u := .type "LookupError") (by rfl) T.z_LookupError (by decide +kernel) (by rfl)) T.z_isinstance (.ty _) isx_LookupError_c (isx_LookupError_t T) (hx := isx_LookupError_x T)))))
    (css_one (cs_ret (see (val (cf_add (cb_var 1) (see (val (cf_lst (ca_cons (ce_and (ce_isi (see (ce_var 0)) (by exact pe_glob (v := .ref ad.C_NotPossible) (by rfl) T.xg_NotPossible (by rfl)) T.z_isinstance (.own _) isx_NotPossible_c (isx_NotPossible_t T) (hx := isx_NotPossible_x T)) (ce_one (ce_isi (see (ce_var 0)) (by exact pe_bltn (v := .ty "ArithmeticError") (u := .type "ArithmeticError") (by rfl) T.z_ArithmeticError (by decide +kernel) (by rfl)) T.z_isinstance (.ty _) isx_ArithmeticError_c (isx_ArithmeticError_t T) (hx := isx_ArithmeticError_x T)))) ca_nil)))))))))))
theorem sc_law_dip : FnScope N_law_dip ["jar", "most"] (defScope s_law_dip) := ⟨rfl, rfl, rfl, by decide +kernel, rfl, by decide +kernel, by decide +kernel⟩
theorem ok_law_dip (T : Txt K w mg ad) : DefU P w (gm K w ad) mg base 1 ad.f_law_dip ["jar", "most"] (fun fd => Fun K "_law_dip" "_law_dip" s_law_dip ad.f_law_dip fd) (lift (gm K w ad) sp_law_dip) := by
  obtain ⟨fd, F⟩ := T.F_law_dip
  refine ⟨fd, okD (B := R_law_dip) F sc_law_dip len_law_dip (fun cdv A outer s H E hg hr => ?_) pure_law_dip, F⟩
  have hg0 : (A.deeper (envOfC "_law_dip" (defScope s_law_dip) s.heap.objs.size ad.f_law_dip cdv)).guards = some [] := hg
  have hx0 : PassX (cxOf (L2.CX P w) P w K mg base N_law_dip "_law_dip" (defScope s_law_dip) ad.f_law_dip cdv A outer s H E) E := L2.passes_call (L2.takes_of rfl rfl rfl rfl) fun _ _ _ _ h => h
  exact (css_cons (cs_jar (i := 0) (ce_bin opl_add (see (ce_jar (ce_var 0) (by decide))) (see ce_int)) (by decide))
    (css_cons (cs_if (ct_cmp opl_gt (see (ce_jar (ce_var 0) (by decide))) (see ce_int)) (css_cons (cs_set (i := 3) (ce_bin opl_mod (see (ce_callTy cal_int T.z_int (cab_cons (see (ce_jar (ce_var 0) (by decide))) cab_nil))) (see (ce_var 1))) sc_law_dip.nd)
    (css_cons (cs_jar (i := 0) (ce_bin opl_div (see (ce_callTy cal_int T.z_int (cab_cons (see (ce_jar (ce_var 0) (by decide))) cab_nil))) (see (ce_var 1))) (by decide))
    (css_one (cs_ret (see (ce_var 3)))))) css_nil)
    (css_cons (cs_set (i := 2) (ce_callTy cal_int T.z_int (cab_cons (see (ce_jar (ce_var 0) (by decide))) cab_nil)) sc_law_dip.nd)
    (css_cons (cs_jar (i := 0) (ce_bin opl_mod (see (ce_callTy cal_int T.z_int (cab_cons (see (ce_bin opl_add (see (ce_bin opl_add (see (ce_bin opl_mulA (see (ce_var 2)) (see ce_int))) (see (ce_bin opl_mulA (see (ce_jar (ce_var 0) (by decide))) (see ce_int))))) (see ce_int))) cab_nil))) (see ce_int)) (by decide))
    (css_one (cs_ret (see (ce_bin opl_mod (see (ce_callTy cal_int T.z_int (cab_cons (see (ce_bin opl_div (see (ce_jar (ce_var 0) (by decide))) (see ce_int))) cab_nil))) (see (ce_var 1))))))))))
theorem sc_law_pick : FnScope N_law_pick ["jar", "menu"] (defScope s_law_pick) := ⟨rfl, rfl, rfl, by decide +kernel, rfl, by decide +kernel, by decide +kernel⟩
theorem ok_law_pick (T : Txt K w mg ad) : DefU P w (gm K w ad) mg base 2 ad.f_law_pick ["jar", "menu"] (fun fd => Fun K "_law_pick" "_law_pick" s_law_pick ad.f_law_pick fd) (lift (gm K w ad) sp_law_pick) := by
  obtain ⟨fd_law_dip, F_law_dip, U_law_dip⟩ := ok_law_dip (P := P) (base := base) T
  have b_law_dip : Binds K fd_law_dip ["jar", "most"] [] := U_law_dip.binds (ps := ["jar", "most"]) fun _ _ _ _ _ _ us hl => match us, hl with | [_, _], _ => rfl
  obtain ⟨fd, F⟩ := T.F_law_pick
  refine ⟨fd, okD (B := R_law_pick) F sc_law_pick len_law_pick (fun cdv A outer s H E hg hr => ?_) pure_law_pick, F⟩
  have hg0 : (A.deeper (envOfC "_law_pick" (defScope s_law_pick) s.heap.objs.size ad.f_law_pick cdv)).guards = some [] := hg
  have hx0 : PassX (cxOf (L2.CX P w) P w K mg base N_law_pick "_law_pick" (defScope s_law_pick) ad.f_law_pick cdv A outer s H E) E := L2.passes_call (L2.takes_of rfl rfl rfl rfl) fun _ _ _ _ h => h
  exact (css_cons (cs_set (i := 2) (ce_call F_law_dip T.m_law_dip T.k_law_dip b_law_dip hg0 (hr.mono (by decide)) hx0 (ca_cons (ce_var 0) (ca_cons (ce_callB cal_len T.z_len (cab_cons (see (ce_var 1)) cab_nil)) ca_nil))) sc_law_pick.nd)
    (css_one (cs_ret (see (ce_ix (hu1 hr) (see (ce_var 1)) (see (ce_var 2)))))))
theorem sc_law_odd : FnScope N_law_odd ["jar"] (defScope s_law_odd) := ⟨rfl, rfl, rfl, by decide +kernel, rfl, by decide +kernel, by decide +kernel⟩
theorem ok_law_odd (T : Txt K w mg ad) : DefU P w (gm K w ad) mg base 3 ad.f_law_odd ["jar"] (fun fd => Fun K "_law_odd" "_law_odd" s_law_odd ad.f_law_odd fd) (lift (gm K w ad) sp_law_odd) := by
  obtain ⟨fd_law_pick, F_law_pick, U_law_pick⟩ := ok_law_pick (P := P) (base := base) T
  have b_law_pick : Binds K fd_law_pick ["jar", "menu"] [] := U_law_pick.binds (ps := ["jar", "menu"]) fun _ _ _ _ _ _ us hl => match us, hl with | [_, _], _ => rfl
  obtain ⟨fd, F⟩ := T.F_law_odd
  refine ⟨fd, okD (B := R_law_odd) F sc_law_odd len_law_odd (fun cdv A outer s H E hg hr => ?_) pure_law_odd, F⟩
  have hg0 : (A.deeper (envOfC "_law_odd" (defScope s_law_odd) s.heap.objs.size ad.f_law_odd cdv)).guards = some [] := hg
  have hx0 : PassX (cxOf (L2.CX P w) P w K mg base N_law_odd "_law_odd" (defScope s_law_odd) ad.f_law_odd cdv A outer s H E) E := L2.passes_call (L2.takes_of rfl rfl rfl rfl) fun _ _ _ _ h => h
  exact (css_cons (cs_set (i := 1) (val (cf_lst (ca_cons ce_non (ca_cons ce_bl (ca_cons ce_bl (ca_cons ce_int (ca_cons ce_int (ca_cons (ce_neg ce_int) (ca_cons ce_int (ca_cons (ce_bin opl_pow (see ce_int) (see ce_int)) (ca_cons ce_str (ca_cons ce_str ca_nil)))))))))))) sc_law_odd.nd)
    (css_cons (cs_set (i := 1) (val (cf_add (see (ce_var 1)) (see (val (cf_lst (ca_cons ce_str (ca_cons ce_str (ca_cons ce_str (ca_cons (ce_tup ca_nil) (ca_cons (ce_tup (ca_cons ce_int ca_nil)) (ca_cons (ce_tup (ca_cons ce_str ca_nil)) (ca_cons (ce_tup (ca_cons ce_str (ca_cons ce_str ca_nil))) (ca_cons (val (cf_lst (ca_cons ce_str ca_nil))) (ca_cons (val (cf_lst ca_nil)) ca_nil)))))))))))))) sc_law_odd.nd)
    (css_one (cs_ret (see (ce_call F_law_pick T.m_law_pick T.k_law_pick b_law_pick hg0 (hr.mono (by decide)) hx0 (ca_cons (ce_var 0) (ca_cons (val (cf_add (see (ce_var 1)) (see (val (cf_lst (ca_cons ce_emp (ca_cons (ce_dic [.inr "0"] (pps_cons ce_str ce_int pps_nil)) (ca_cons (ce_tup (ca_cons ce_non (ca_cons ce_int ca_nil))) (ca_cons ce_str (ca_cons (ce_tup (ca_cons (ce_tup (ca_cons ce_str (ca_cons ce_str ca_nil))) ca_nil)) (ca_cons (ce_tup (ca_cons ce_str (ca_cons ce_str ca_nil))) (ca_cons (val (cf_lst (ca_cons (val (cf_lst ca_nil)) ca_nil))) (ca_cons ce_str (ca_cons (ce_tup (ca_cons (ce_tup ca_nil) ca_nil)) (ca_cons (ce_tup (ca_cons ce_int (ca_cons ce_int ca_nil))) ca_nil))))))))))))))) ca_nil))))))))
theorem sc_law_by_place : FnScope N_law_by_place ["first", "second"] (defScope s_law_by_place) := ⟨rfl, rfl, rfl, by decide +kernel, rfl, by decide +kernel, by decide +kernel⟩
theorem ok_law_by_place (T : Txt K w mg ad) : DefU P w (gm K w ad) mg base 1 ad.f_law_by_place ["first", "second"] (fun fd => Fun K "_law_by_place" "_law_by_place" s_law_by_place ad.f_law_by_place fd) (lift (gm K w ad) sp_law_by_place) := by
  obtain ⟨fd, F⟩ := T.F_law_by_place
  refine ⟨fd, okD (B := R_law_by_place) F sc_law_by_place (fun ds Q EX h => spOf_len h) (fun cdv A outer s H E hg hr => ?_) (fun ds Q EX h => spOf_pure l_law_by_place h), F⟩
  have hg0 : (A.deeper (envOfC "_law_by_place" (defScope s_law_by_place) s.heap.objs.size ad.f_law_by_place cdv)).guards = some [] := hg
  have hx0 : PassX (cxOf (L2.CX P w) P w K mg base N_law_by_place "_law_by_place" (defScope s_law_by_place) ad.f_law_by_place cdv A outer s H E) E := L2.passes_call (L2.takes_of rfl rfl rfl rfl) fun _ _ _ _ h => h
  exact (css_cons (cs_set (i := 2) (val (cf_lst (ca_cons (ce_mk1 (c := 11) (ExL.pmkG PySem.F.store_ValueError PySem.F.excBase_ValueError T.x_InvalidText hr (ca_cons (ce_var 0) ca_nil)) (by rfl)) (ca_cons (ce_mk1 (c := 12) (ExL.pmkG PySem.F.store_ValueError PySem.F.excBase_ValueError T.x_InvalidPart hr (ca_cons (ce_var 1) ca_nil)) (by rfl)) (ca_cons (ce_mk1 (c := 13) (ExL.pmkG PySem.F.store_ValueError PySem.F.excBase_ValueError T.x_InvalidSquare hr (ca_cons (ce_var 0) ca_nil)) (by rfl)) (ca_cons (ce_mk1 (c := 14) (ExL.pmkG PySem.F.store_ValueError PySem.F.excBase_ValueError T.x_InvalidFact hr (ca_cons (ce_var 1) ca_nil)) (by rfl)) ca_nil)))))) sc_law_by_place.nd)
    (css_cons (cs_set (i := 2) (val (cf_add (see (ce_var 2)) (see (val (cf_lst (ca_cons (ce_mk1 (c := 15) (ExL.pmkG PySem.F.store_ValueError PySem.F.excBase_ValueError T.x_InvalidIndex hr (ca_cons (ce_var 0) ca_nil)) (by rfl)) (ca_cons (ce_mk1 (c := 16) (ExL.pmkG PySem.F.store_ValueError PySem.F.excBase_ValueError T.x_InvalidWish hr (ca_cons (ce_var 1) ca_nil)) (by rfl)) (ca_cons (ce_mk1 (c := 17) (ExL.pmkG PySem.F.store_ValueError PySem.F.excBase_ValueError T.x_InvalidCommand hr (ca_cons (ce_var 0) ca_nil)) (by rfl)) (ca_cons (ce_mk1 (c := 18) (ExL.pmkG PySem.F.store_ValueError PySem.F.excBase_ValueError T.x_NotABoard hr (ca_cons (ce_var 1) ca_nil)) (by rfl)) ca_nil))))))))) sc_law_by_place.nd)
    (css_cons (cs_set (i := 2) (val (cf_add (see (ce_var 2)) (see (val (cf_lst (ca_cons (ce_mk1 (c := 19) (ExL.pmkG PySem.F.store_ValueError PySem.F.excBase_ValueError T.x_NotNotes hr (ca_cons (ce_var 0) ca_nil)) (by rfl)) (ca_cons (ce_mk1 (c := 20) (ExL.pmkG PySem.F.store_ValueError PySem.F.excBase_ValueError T.x_NotARanking hr (ca_cons (ce_var 1) ca_nil)) (by rfl)) (ca_cons (ce_mk1 (c := 21) (ExL.pmkG PySem.F.store_ValueError PySem.F.excBase_ValueError T.x_OtherBoard hr (ca_cons (ce_var 0) ca_nil)) (by rfl)) (ca_cons (ce_mk1 (c := 22) (ExL.pmkG PySem.F.store_ValueError PySem.F.excBase_ValueError T.x_SameSetting hr (ca_cons (ce_var 1) ca_nil)) (by rfl)) ca_nil))))))))) sc_law_by_place.nd)
    (css_cons (cs_set (i := 2) (val (cf_add (see (ce_var 2)) (see (val (cf_lst (ca_cons (ce_mk1 (c := 23) (ExL.pmkI PySem.F.store_ValueError PySem.F.excBase_ValueError T.x_InvalidSizes hr (ca_cons (ce_var 0) ca_nil)) (by rfl)) (ca_cons (ce_mk1 (c := 24) (ExL.pmkI PySem.F.store_ValueError PySem.F.excBase_ValueError T.x_InvalidFacts hr (ca_cons (ce_var 1) ca_nil)) (by rfl)) (ca_cons (ce_mk1 (c := 25) (ExL.pmkI PySem.F.store_ValueError PySem.F.excBase_ValueError T.x_InvalidOrder hr (ca_cons (ce_var 0) ca_nil)) (by rfl)) (ca_cons (ce_mk1 (c := 26) (ExL.pmkI PySem.F.store_ValueError PySem.F.excBase_ValueError T.x_InvalidPeaks hr (ca_cons (ce_var 1) ca_nil)) (by rfl)) ca_nil))))))))) sc_law_by_place.nd)
    (css_cons (cs_set (i := 2) (val (cf_add (see (ce_var 2)) (see (val (cf_lst (ca_cons (ce_mk1 (c := 27) (ExL.pmkI PySem.F.store_ValueError PySem.F.excBase_ValueError T.x_InvalidWalks hr (ca_cons (ce_var 0) ca_nil)) (by rfl)) (ca_cons (ce_mk1 (c := 28) (ExL.pmkI PySem.F.store_ValueError PySem.F.excBase_ValueError T.x_InvalidRests hr (ca_cons (ce_var 1) ca_nil)) (by rfl)) (ca_cons (ce_mk1 (c := 29) (ExL.pmkG PySem.F.store_LookupError PySem.F.excBase_LookupError T.x_UnknownSetting hr (ca_cons (ce_var 0) ca_nil)) (by rfl)) (ca_cons (ce_mk1 (c := 31) (ExL.pmkG PySem.F.store_ArithmeticError PySem.F.excBase_ArithmeticError T.x_TooMany hr (ca_cons (ce_var 1) ca_nil)) (by rfl)) ca_nil))))))))) sc_law_by_place.nd)
    (css_cons (cs_set (i := 2) (val (cf_add (see (ce_var 2)) (see (val (cf_lst (ca_cons (ce_mk1 (c := 32) (ExL.pmkI PySem.F.store_ArithmeticError PySem.F.excBase_ArithmeticError T.x_Broken hr (ca_cons (ce_var 0) ca_nil)) (by rfl)) ca_nil)))))) sc_law_by_place.nd)
    (css_one (cs_ret (see (ce_var 2))))))))))
theorem sc_law_by_word : FnScope N_law_by_word ["first", "second"] (defScope s_law_by_word) := ⟨rfl, rfl, rfl, by decide +kernel, rfl, by decide +kernel, by decide +kernel⟩
theorem ok_law_by_word (T : Txt K w mg ad) : DefU P w (gm K w ad) mg base 1 ad.f_law_by_word ["first", "second"] (fun fd => Fun K "_law_by_word" "_law_by_word" s_law_by_word ad.f_law_by_word fd) (lift (gm K w ad) sp_law_by_word) := by
  obtain ⟨fd, F⟩ := T.F_law_by_word
  refine ⟨fd, okD (B := R_law_by_word) F sc_law_by_word (fun ds Q EX h => spOf_len h) (fun cdv A outer s H E hg hr => ?_) (fun ds Q EX h => spOf_pure l_law_by_word h), F⟩
  have hg0 : (A.deeper (envOfC "_law_by_word" (defScope s_law_by_word) s.heap.objs.size ad.f_law_by_word cdv)).guards = some [] := hg
  have hx0 : PassX (cxOf (L2.CX P w) P w K mg base N_law_by_word "_law_by_word" (defScope s_law_by_word) ad.f_law_by_word cdv A outer s H E) E := L2.passes_call (L2.takes_of rfl rfl rfl rfl) fun _ _ _ _ h => h
  exact (css_cons (cs_set (i := 2) (val (cf_lst (ca_cons (ce_mkG (c := 11) PySem.F.store_ValueError PySem.F.excBase_ValueError T.x_InvalidText hr (by rfl) (ck_kw0 (ck_cons (ce_var 0) ck_nil))) (ca_cons (ce_mkG (c := 12) PySem.F.store_ValueError PySem.F.excBase_ValueError T.x_InvalidPart hr (by rfl) (ck_kw0 (ck_cons (ce_var 1) ck_nil))) (ca_cons (ce_mkG (c := 13) PySem.F.store_ValueError PySem.F.excBase_ValueError T.x_InvalidSquare hr (by rfl) (ck_kw0 (ck_cons (ce_var 0) ck_nil))) ca_nil))))) sc_law_by_word.nd)
    (css_cons (cs_set (i := 2) (val (cf_add (see (ce_var 2)) (see (val (cf_lst (ca_cons (ce_mkG (c := 14) PySem.F.store_ValueError PySem.F.excBase_ValueError T.x_InvalidFact hr (by rfl) (ck_kw0 (ck_cons (ce_var 1) ck_nil))) (ca_cons (ce_mkG (c := 15) PySem.F.store_ValueError PySem.F.excBase_ValueError T.x_InvalidIndex hr (by rfl) (ck_kw0 (ck_cons (ce_var 0) ck_nil))) (ca_cons (ce_mkG (c := 16) PySem.F.store_ValueError PySem.F.excBase_ValueError T.x_InvalidWish hr (by rfl) (ck_kw0 (ck_cons (ce_var 1) ck_nil))) ca_nil)))))))) sc_law_by_word.nd)
    (css_cons (cs_set (i := 2) (val (cf_add (see (ce_var 2)) (see (val (cf_lst (ca_cons (ce_mkG (c := 17) PySem.F.store_ValueError PySem.F.excBase_ValueError T.x_InvalidCommand hr (by rfl) (ck_kw0 (ck_cons (ce_var 0) ck_nil))) (ca_cons (ce_mkG (c := 18) PySem.F.store_ValueError PySem.F.excBase_ValueError T.x_NotABoard hr (by rfl) (ck_kw0 (ck_cons (ce_var 1) ck_nil))) (ca_cons (ce_mkG (c := 19) PySem.F.store_ValueError PySem.F.excBase_ValueError T.x_NotNotes hr (by rfl) (ck_kw0 (ck_cons (ce_var 0) ck_nil))) ca_nil)))))))) sc_law_by_word.nd)
    (css_cons (cs_set (i := 2) (val (cf_add (see (ce_var 2)) (see (val (cf_lst (ca_cons (ce_mkG (c := 20) PySem.F.store_ValueError PySem.F.excBase_ValueError T.x_NotARanking hr (by rfl) (ck_kw0 (ck_cons (ce_var 1) ck_nil))) (ca_cons (ce_mkG (c := 21) PySem.F.store_ValueError PySem.F.excBase_ValueError T.x_OtherBoard hr (by rfl) (ck_kw0 (ck_cons (ce_var 0) ck_nil))) (ca_cons (ce_mkG (c := 22) PySem.F.store_ValueError PySem.F.excBase_ValueError T.x_SameSetting hr (by rfl) (ck_kw0 (ck_cons (ce_var 1) ck_nil))) ca_nil)))))))) sc_law_by_word.nd)
    (css_cons (cs_set (i := 2) (val (cf_add (see (ce_var 2)) (see (val (cf_lst (ca_cons (ce_mkI (c := 23) PySem.F.store_ValueError PySem.F.excBase_ValueError T.x_InvalidSizes hr (by rfl) (ck_kw0 (ck_cons (ce_var 0) ck_nil))) (ca_cons (ce_mkI (c := 24) PySem.F.store_ValueError PySem.F.excBase_ValueError T.x_InvalidFacts hr (by rfl) (ck_kw0 (ck_cons (ce_var 1) ck_nil))) (ca_cons (ce_mkI (c := 25) PySem.F.store_ValueError PySem.F.excBase_ValueError T.x_InvalidOrder hr (by rfl) (ck_kw0 (ck_cons (ce_var 0) ck_nil))) ca_nil)))))))) sc_law_by_word.nd)
    (css_cons (cs_set (i := 2) (val (cf_add (see (ce_var 2)) (see (val (cf_lst (ca_cons (ce_mkI (c := 26) PySem.F.store_ValueError PySem.F.excBase_ValueError T.x_InvalidPeaks hr (by rfl) (ck_kw0 (ck_cons (ce_var 1) ck_nil))) (ca_cons (ce_mkI (c := 27) PySem.F.store_ValueError PySem.F.excBase_ValueError T.x_InvalidWalks hr (by rfl) (ck_kw0 (ck_cons (ce_var 0) ck_nil))) (ca_cons (ce_mkI (c := 28) PySem.F.store_ValueError PySem.F.excBase_ValueError T.x_InvalidRests hr (by rfl) (ck_kw0 (ck_cons (ce_var 1) ck_nil))) ca_nil)))))))) sc_law_by_word.nd)
    (css_cons (cs_set (i := 2) (val (cf_add (see (ce_var 2)) (see (val (cf_lst (ca_cons (ce_mkG (c := 29) PySem.F.store_LookupError PySem.F.excBase_LookupError T.x_UnknownSetting hr (by rfl) (ck_kw0 (ck_cons (ce_var 0) ck_nil))) (ca_cons (ce_mkG (c := 31) PySem.F.store_ArithmeticError PySem.F.excBase_ArithmeticError T.x_TooMany hr (by rfl) (ck_kw0 (ck_cons (ce_var 1) ck_nil))) (ca_cons (ce_mkI (c := 32) PySem.F.store_ArithmeticError PySem.F.excBase_ArithmeticError T.x_Broken hr (by rfl) (ck_kw0 (ck_cons (ce_var 0) ck_nil))) ca_nil)))))))) sc_law_by_word.nd)
    (css_one (cs_ret (see (ce_var 2)))))))))))
theorem sc_law_sorts : FnScope N_law_sorts ["e"] (defScope s_law_sorts) := ⟨rfl, rfl, rfl, by decide +kernel, rfl, by decide +kernel, by decide +kernel⟩
theorem ok_law_sorts (T : Txt K w mg ad) : DefU P w (gm K w ad) mg base 1 ad.f_law_sorts ["e"] (fun fd => Fun K "_law_sorts" "_law_sorts" s_law_sorts ad.f_law_sorts fd) (lift (gm K w ad) sp_law_sorts) := by
  obtain ⟨fd, F⟩ := T.F_law_sorts
  refine ⟨fd, okD (B := R_law_sorts) F sc_law_sorts (fun ds Q EX h => spOf_len h) (fun cdv A outer s H E hg hr => ?_) (fun ds Q EX h => spOf_pure l_law_sorts h), F⟩
  have hg0 : (A.deeper (envOfC "_law_sorts" (defScope s_law_sorts) s.heap.objs.size ad.f_law_sorts cdv)).guards = some [] := hg
  have hx0 : PassX (cxOf (L2.CX P w) P w K mg base N_law_sorts "_law_sorts" (defScope s_law_sorts) ad.f_law_sorts cdv A outer s H E) E := L2.passes_call (L2.takes_of rfl rfl rfl rfl) fun _ _ _ _ h => h
  exact (css_cons (cs_set (i := 1) (val (cf_lst (ca_cons (ce_isi (see (ce_var 0)) (by exact pe_glob (v := .ref ad.C_InvalidText) (by rfl) T.xg_InvalidText (by rfl)) T.z_isinstance (.own _) isx_InvalidText_c (isx_InvalidText_t T) (hx := isx_InvalidText_x T)) (ca_cons (ce_isi (see (ce_var 0)) (by exact pe_glob (v := .ref ad.C_InvalidPart) (by rfl) T.xg_InvalidPart (by rfl)) T.z_isinstance (.own _) isx_InvalidPart_c (isx_InvalidPart_t T) (hx := isx_InvalidPart_x T)) (ca_cons (ce_isi (see (ce_var 0)) (by exact pe_glob (v := .ref ad.C_InvalidSquare) (by rfl) T.xg_InvalidSquare (by rfl)) T.z_isinstance (.own _) isx_InvalidSquare_c (isx_InvalidSquare_t T) (hx := isx_InvalidSquare_x T)) ca_nil))))) sc_law_sorts.nd)
    (css_cons (cs_set (i := 1) (val (cf_add (see (ce_var 1)) (see (val (cf_lst (ca_cons (ce_isi (see (ce_var 0)) (by exact pe_glob (v := .ref ad.C_InvalidFact) (by rfl) T.xg_InvalidFact (by rfl)) T.z_isinstance (.own _) isx_InvalidFact_c (isx_InvalidFact_t T) (hx := isx_InvalidFact_x T)) (ca_cons (ce_isi (see (ce_var 0)) (by exact pe_glob (v := .ref ad.C_InvalidIndex) (by rfl) T.xg_InvalidIndex (by rfl)) T.z_isinstance (.own _) isx_InvalidIndex_c (isx_InvalidIndex_t T) (hx := isx_InvalidIndex_x T)) (ca_cons (ce_isi (see (ce_var 0)) (by exact pe_glob (v := .ref ad.C_InvalidWish) (by rfl) T.xg_InvalidWish (by rfl)) T.z_isinstance (.own _) isx_InvalidWish_c (isx_InvalidWish_t T) (hx := isx_InvalidWish_x T)) ca_nil)))))))) sc_law_sorts.nd)
    (css_cons (cs_set (i := 1) (val (cf_add (see (ce_var 1)) (see (val (cf_lst (ca_cons (ce_isi (see (ce_var 0)) (by exact pe_glob (v := .ref ad.C_InvalidCommand) (by rfl) T.xg_InvalidCommand (by rfl)) T.z_isinstance (.own _) isx_InvalidCommand_c (isx_InvalidCommand_t T) (hx := isx_InvalidCommand_x T)) (ca_cons (ce_isi (see (ce_var 0)) (by exact pe_glob (v := .ref ad.C_NotABoard) (by rfl) T.xg_NotABoard (by rfl)) T.z_isinstance (.own _) isx_NotABoard_c (isx_NotABoard_t T) (hx := isx_NotABoard_x T)) (ca_cons (ce_isi (see (ce_var 0)) (by exact pe_glob (v := .ref ad.C_NotNotes) (by rfl) T.xg_NotNotes (by rfl)) T.z_isinstance (.own _) isx_NotNotes_c (isx_NotNotes_t T) (hx := isx_NotNotes_x T)) ca_nil)))))))) sc_law_sorts.nd)
    (css_cons (cs_set (i := 1) (val (cf_add (see (ce_var 1)) (see (val (cf_lst (ca_cons (ce_isi (see (ce_var 0)) (by exact pe_glob (v := .ref ad.C_NotARanking) (by rfl) T.xg_NotARanking (by rfl)) T.z_isinstance (.own _) isx_NotARanking_c (isx_NotARanking_t T) (hx := isx_NotARanking_x T)) (ca_cons (ce_isi (see (ce_var 0)) (by exact pe_glob (v := .ref ad.C_OtherBoard) (by rfl) T.xg_OtherBoard (by rfl)) T.z_isinstance (.own _) isx_OtherBoard_c (isx_OtherBoard_t T) (hx := isx_OtherBoard_x T)) (ca_cons (ce_isi (see (ce_var 0)) (by exact pe_glob (v := .ref ad.C_SameSetting) (by rfl) T.xg_SameSetting (by rfl)) T.z_isinstance (.own _) isx_SameSetting_c (isx_SameSetting_t T) (hx := isx_SameSetting_x T)) ca_nil)))))))) sc_law_sorts.nd)
    (css_cons (cs_set (i := 1) (val (cf_add (see (ce_var 1)) (see (val (cf_lst (ca_cons (ce_isi (see (ce_var 0)) (by exact pe_glob (v := .ref ad.C_InvalidSizes) (by rfl) T.xg_InvalidSizes (by rfl)) T.z_isinstance (.own _) isx_InvalidSizes_c (isx_InvalidSizes_t T) (hx := isx_InvalidSizes_x T)) (ca_cons (ce_isi (see (ce_var 0)) (by exact pe_glob (v := .ref ad.C_InvalidFacts) (by rfl) T.xg_InvalidFacts (by rfl)) T.z_isinstance (.own _) isx_InvalidFacts_c (isx_InvalidFacts_t T) (hx := isx_InvalidFacts_x T)) (ca_cons (ce_isi (see (ce_var 0)) (by exact pe_glob (v := .ref ad.C_InvalidOrder) (by rfl) T.xg_InvalidOrder (by rfl)) T.z_isinstance (.own _) isx_InvalidOrder_c (isx_InvalidOrder_t T) (hx := isx_InvalidOrder_x T)) ca_nil)))))))) sc_law_sorts.nd)
    (css_cons (cs_set (i := 1) (val (cf_add (see (ce_var 1)) (see (val (cf_lst (ca_cons (ce_isi (see (ce_var 0)) (by exact pe_glob (v := .ref ad.C_InvalidPeaks) (by rfl) T.xg_InvalidPeaks (by rfl)) T.z_isinstance (.own _) isx_InvalidPeaks_c (isx_InvalidPeaks_t T) (hx := isx_InvalidPeaks_x T)) (ca_cons (ce_isi (see (ce_var 0)) (by exact pe_glob (v := .ref ad.C_InvalidWalks) (by rfl) T.xg_InvalidWalks (by rfl)) T.z_isinstance (.own _) isx_InvalidWalks_c (isx_InvalidWalks_t T) (hx := isx_InvalidWalks_x T)) (ca_cons (ce_isi (see (ce_var 0)) (by exact pe_glob (v := .ref ad.C_InvalidRests) (by rfl) T.xg_InvalidRests (by rfl)) T.z_isinstance (.own _) isx_InvalidRests_c (isx_InvalidRests_t T) (hx := isx_InvalidRests_x T)) ca_nil)))))))) sc_law_sorts.nd)
    (css_cons (cs_set (i := 1) (val (cf_add (see (ce_var 1)) (see (val (cf_lst (ca_cons (ce_isi (see (ce_var 0)) (by exact pe_glob (v := .ref ad.C_UnknownSetting) (by rfl) T.xg_UnknownSetting (by rfl)) T.z_isinstance (.own _) isx_UnknownSetting_c (isx_UnknownSetting_t T) (hx := isx_UnknownSetting_x T)) (ca_cons (ce_isi (see (ce_var 0)) (by exact pe_glob (v := .ref ad.C_TooMany) (by rfl) T.xg_TooMany (by rfl)) T.z_isinstance (.own _) isx_TooMany_c (isx_TooMany_t T) (hx := isx_TooMany_x T)) (ca_cons (ce_isi (see (ce_var 0)) (by exact pe_glob (v := .ref ad.C_Broken) (by rfl) T.xg_Broken (by rfl)) T.z_isinstance (.own _) isx_Broken_c (isx_Broken_t T) (hx := isx_Broken_x T)) ca_nil)))))))) sc_law_sorts.nd)
    (css_cons (cs_set (i := 1) (val (cf_add (see (ce_var 1)) (see (val (cf_lst (ca_cons (ce_isi (see (ce_var 0)) (by exact pe_glob (v := .ref ad.C_NothingToUndo) (by rfl) T.xg_NothingToUndo (by rfl)) T.z_isinstance (.own _) isx_NothingToUndo_c (isx_NothingToUndo_t T) (hx := isx_NothingToUndo_x T)) ca_nil)))))) sc_law_sorts.nd)
    (css_one (cs_ret (see (ce_var 1))))))))))))
theorem sc_law_kept : FnScope N_law_kept ["e", "at"] (defScope s_law_kept) := ⟨rfl, rfl, rfl, by decide +kernel, rfl, by decide +kernel, by decide +kernel⟩
theorem ok_law_kept (T : Txt K w mg ad) : DefU P w (gm K w ad) mg base 1 ad.f_law_kept ["e", "at"] (fun fd => Fun K "_law_kept" "_law_kept" s_law_kept ad.f_law_kept fd) (lift (gm K w ad) sp_law_kept) := by
  obtain ⟨fd, F⟩ := T.F_law_kept
  refine ⟨fd, okD (B := R_law_kept) F sc_law_kept (fun ds Q EX h => spOf_len h) (fun cdv A outer s H E hg hr => ?_) (fun ds Q EX h => spOf_pure l_law_kept h), F⟩
  have hg0 : (A.deeper (envOfC "_law_kept" (defScope s_law_kept) s.heap.objs.size ad.f_law_kept cdv)).guards = some [] := hg
  have hx0 : PassX (cxOf (L2.CX P w) P w K mg base N_law_kept "_law_kept" (defScope s_law_kept) ad.f_law_kept cdv A outer s H E) E := L2.passes_call (L2.takes_of rfl rfl rfl rfl) fun _ _ _ _ h => h
  exact (css_one (cs_ret (see (ce_if (PW.pt (cw_or (ct_chain opl_lt opl_lt (see ce_int) (see (ce_var 1)) (see ce_int)) (cw_or1 (ct_cmp (opl_eq (hu64 hr)) (see (ce_var 1)) (see ce_int))))) (ce_xat (ce_var 0) (xt_index_ok T)) (ce_xat (ce_var 0) (xt_given_ok T))))))
theorem sc_law_right : FnScope N_law_right ["jar"] (defScope s_law_right) := ⟨rfl, rfl, rfl, by decide +kernel, rfl, by decide +kernel, by decide +kernel⟩
theorem ok_law_right (T : Txt K w mg ad) : DefU P w (gm K w ad) mg base 4 ad.f_law_right ["jar"] (fun fd => Fun K "_law_right" "_law_right" s_law_right ad.f_law_right fd) (lift (gm K w ad) sp_law_right) := by
  obtain ⟨fd_law_odd, F_law_odd, U_law_odd⟩ := ok_law_odd (P := P) (base := base) T
  have b_law_odd : Binds K fd_law_odd ["jar"] [] := U_law_odd.binds (ps := ["jar"]) fun _ _ _ _ _ _ us hl => match us, hl with | [_], _ => rfl
  obtain ⟨fd_law_by_place, F_law_by_place, U_law_by_place⟩ := ok_law_by_place (P := P) (base := base) T
  have b_law_by_place : Binds K fd_law_by_place ["first", "second"] [] := U_law_by_place.binds (ps := ["first", "second"]) fun _ _ _ _ _ _ us hl => match us, hl with | [_, _], _ => rfl
  obtain ⟨fd_law_by_word, F_law_by_word, U_law_by_word⟩ := ok_law_by_word (P := P) (base := base) T
  have b_law_by_word : Binds K fd_law_by_word ["first", "second"] [] := U_law_by_word.binds (ps := ["first", "second"]) fun _ _ _ _ _ _ us hl => match us, hl with | [_, _], _ => rfl
  obtain ⟨fd_law_sorts, F_law_sorts, U_law_sorts⟩ := ok_law_sorts (P := P) (base := base) T
  have b_law_sorts : Binds K fd_law_sorts ["e"] [] := U_law_sorts.binds (ps := ["e"]) fun _ _ _ _ _ _ us hl => match us, hl with | [_], _ => rfl
  obtain ⟨fd_law_bases, F_law_bases, U_law_bases⟩ := ok_law_bases (P := P) (base := base) T
  have b_law_bases : Binds K fd_law_bases ["e"] [] := U_law_bases.binds (ps := ["e"]) fun _ _ _ _ _ _ us hl => match us, hl with | [_], _ => rfl
  obtain ⟨fd_law_kept, F_law_kept, U_law_kept⟩ := ok_law_kept (P := P) (base := base) T
  have b_law_kept : Binds K fd_law_kept ["e", "at"] [] := U_law_kept.binds (ps := ["e", "at"]) fun _ _ _ _ _ _ us hl => match us, hl with | [_, _], _ => rfl
  obtain ⟨fd, F⟩ := T.F_law_right
  refine ⟨fd, okD (B := R_law_right) F sc_law_right len_law_right (fun cdv A outer s H E hg hr => ?_) pure_law_right, F⟩
  have hg0 : (A.deeper (envOfC "_law_right" (defScope s_law_right) s.heap.objs.size ad.f_law_right cdv)).guards = some [] := hg
  have hx0 : PassX (cxOf (L2.CX P w) P w K mg base N_law_right "_law_right" (defScope s_law_right) ad.f_law_right cdv A outer s H E) E := L2.passes_call (L2.takes_of rfl rfl rfl rfl) fun _ _ _ _ h => h
  exact (css_cons (cs_par (i := 1) (j := 2) (ca_cons (ce_call F_law_odd T.m_law_odd T.k_law_odd b_law_odd hg0 (hr.mono (by decide)) hx0 (ca_cons (ce_var 0) ca_nil)) (ca_cons (ce_call F_law_odd T.m_law_odd T.k_law_odd b_law_odd hg0 (hr.mono (by decide)) hx0 (ca_cons (ce_var 0) ca_nil)) ca_nil)) sc_law_right.nd)
    (css_cons (cs_for (vs := [3]) (L2.passes_of rfl) (cis_any (val (cf_lst (ca_cons (ce_call F_law_by_place T.m_law_by_place T.k_law_by_place b_law_by_place hg0 (hr.mono (by decide)) hx0 (ca_cons (ce_var 1) (ca_cons (ce_var 2) ca_nil))) (ca_cons (ce_call F_law_by_word T.m_law_by_word T.k_law_by_word b_law_by_word hg0 (hr.mono (by decide)) hx0 (ca_cons (ce_var 1) (ca_cons (ce_var 2) ca_nil))) ca_nil))))) (pg_name (i := 3) sc_law_right.nd rfl (by first | exact Or.inl rfl | exact Or.inr rfl)) (tg_var (i := 3))
      (css_cons (cs_set (i := 3) (ce_bin opl_add (see (ce_var 3)) (see (val (cf_lst (ca_cons (ce_mk0 (c := 30) PySem.F.excBase_ArithmeticError T.xe_NothingToUndo T.xg_NothingToUndo T.xk_NothingToUndo) ca_nil))))) sc_law_right.nd)
    (css_one (cs_for (vs := [4]) (L2.passes_of rfl) (cis_rng1 T.z_range (ca_cons ce_int ca_nil)) (pg_name (i := 4) sc_law_right.nd rfl (by first | exact Or.inl rfl | exact Or.inr rfl)) (tg_var (i := 4))
      (css_cons (cs_if (ct_cmp (opl_ne (hu64 hr)) (see (ce_call F_law_sorts T.m_law_sorts T.k_law_sorts b_law_sorts hg0 (hr.mono (by decide)) hx0 (ca_cons (ce_ix (hu1 hr) (see (ce_var 3)) (see (ce_var 4))) ca_nil))) (see (val (cf_lc (own := [("k", 7)]) sc_law_right.nd (iE_of (cis_rng1 T.z_range (ca_cons ce_int ca_nil))) (blk_mk (by rfl)) (fun _ _ _ _ _ => (pg_name (i := 7) sc_law_right.nd rfl (by first | exact Or.inl rfl | exact Or.inr rfl))) (tg_var (i := 7)) (fun _ _ _ _ _ => cts_nil) (fun _ _ _ _ _ => (ce_cmp (opl_eq (hu64 hr)) (see (ce_var 7)) (see (ce_var 4)))))))) (css_one (cs_ret (see ce_bl))) css_nil)
    (css_cons (cs_set (i := 5) (ce_if (ct_cmp opl_lt (see (ce_var 4)) (see ce_int)) ce_int (ce_if (ct_cmp (opl_eq (hu64 hr)) (see (ce_var 4)) (see ce_int)) ce_int ce_int)) sc_law_right.nd)
    (css_cons (cs_if (ct_cmp (opl_ne (hu64 hr)) (see (ce_call F_law_bases T.m_law_bases T.k_law_bases b_law_bases hg0 (hr.mono (by decide)) hx0 (ca_cons (ce_ix (hu1 hr) (see (ce_var 3)) (see (ce_var 4))) ca_nil))) (see (val (cf_lc (own := [("k", 7)]) sc_law_right.nd (iE_of (cis_rng1 T.z_range (ca_cons ce_int ca_nil))) (blk_mk (by rfl)) (fun _ _ _ _ _ => (pg_name (i := 7) sc_law_right.nd rfl (by first | exact Or.inl rfl | exact Or.inr rfl))) (tg_var (i := 7)) (fun _ _ _ _ _ => cts_nil) (fun _ _ _ _ _ => (ce_cmp (opl_eq (hu64 hr)) (see (ce_var 7)) (see (ce_var 5)))))))) (css_one (cs_ret (see ce_bl))) css_nil)
    (css_cons (cs_set (i := 6) (ce_if (ct_cmp (opl_eq (hu64 hr)) (see (ce_bin opl_mod (see (ce_callTy cal_int T.z_int (cab_cons (see (ce_var 4)) cab_nil))) (see ce_int))) (see ce_int)) (ce_var 1) (ce_var 2)) sc_law_right.nd)
    (css_one (cs_if (PW.pt (cw_and (ct_cmp opl_lt (see (ce_var 4)) (see ce_int)) (cw_and1 (ct_cmp (opl_ne (hu64 hr)) (see (ce_callB (cal_repr2 hg0 (hu64 hr)) T.z_repr (cab_cons (see (ce_call F_law_kept T.m_law_kept T.k_law_kept b_law_kept hg0 (hr.mono (by decide)) hx0 (ca_cons (ce_ix (hu1 hr) (see (ce_var 3)) (see (ce_var 4))) (ca_cons (ce_var 4) ca_nil)))) cab_nil))) (see (ce_callB (cal_repr2 hg0 (hu64 hr)) T.z_repr (cab_cons (see (ce_var 6)) cab_nil))))))) (css_one (cs_ret (see ce_bl))) css_nil))))))))))
    (css_one (cs_ret (see ce_bl)))))
theorem sc_law_jar : FnScope N_law_jar ["script", "k"] (defScope s_law_jar) := ⟨rfl, rfl, rfl, by decide +kernel, rfl, by decide +kernel, by decide +kernel⟩
theorem ok_law_jar (T : Txt K w mg ad) : DefU P w (gm K w ad) mg base 1 ad.f_law_jar ["script", "k"] (fun fd => Fun K "_law_jar" "_law_jar" s_law_jar ad.f_law_jar fd) (lift (gm K w ad) sp_law_jar) := by
  obtain ⟨fd, F⟩ := T.F_law_jar
  refine ⟨fd, okD (B := R_law_jar) F sc_law_jar len_law_jar (fun cdv A outer s H E hg hr => ?_) pure_law_jar, F⟩
  have hg0 : (A.deeper (envOfC "_law_jar" (defScope s_law_jar) s.heap.objs.size ad.f_law_jar cdv)).guards = some [] := hg
  have hx0 : PassX (cxOf (L2.CX P w) P w K mg base N_law_jar "_law_jar" (defScope s_law_jar) ad.f_law_jar cdv A outer s H E) E := L2.passes_call (L2.takes_of rfl rfl rfl rfl) fun _ _ _ _ h => h
  exact (css_cons (cs_set (i := 2) (ce_bin opl_add (see (ce_bin opl_mulA (see (ce_bin opl_mulA (see ce_int) (see (ce_bin opl_add (see (ce_var 1)) (see ce_int))))) (see (ce_bin opl_add (see (ce_var 1)) (see ce_int))))) (see (ce_bin opl_mulA (see ce_int) (see (ce_callB cal_len T.z_len (cab_cons (see (ce_var 0)) cab_nil)))))) sc_law_jar.nd)
    (css_cons (cs_for (vs := [3]) (L2.passes_of rfl) (cis_any (ce_slice (see (ce_var 0)) co_none (co_some ce_int))) (pg_name (i := 3) sc_law_jar.nd rfl (by first | exact Or.inl rfl | exact Or.inr rfl)) (tg_var (i := 3))
      (css_one (cs_set (i := 2) (ce_bin opl_mod (see (ce_callTy cal_int T.z_int (cab_cons (see (ce_bin opl_add (see (ce_bin opl_mulA (see (ce_var 2)) (see ce_int))) (see (ce_var 3)))) cab_nil))) (see ce_int)) sc_law_jar.nd)))
    (css_cons (cs_set (i := 4) (ce_if (ct_cmp opl_lt (see (ce_var 1)) (see (ce_callB cal_len T.z_len (cab_cons (see (ce_var 0)) cab_nil)))) (ce_ix (hu1 hr) (see (ce_var 0)) (see (ce_var 1))) ce_int) sc_law_jar.nd)
    (css_cons (cs_set (i := 5) (ce_if (PW.pt (cw_or (ct_cmp opl_lt (see (ce_var 4)) (see ce_int)) (cw_or1 (ct_cmp opl_ge (see (ce_var 4)) (see (ce_bin opl_pow (see ce_int) (see ce_int))))))) (ce_callB cal_abs T.z_abs (cab_cons (see (ce_var 4)) cab_nil)) ce_int) sc_law_jar.nd)
    (css_one (cs_retJar (cf_lst (ca_cons (ce_var 5) (ca_cons (ce_bin opl_mod (see (ce_callTy cal_int T.z_int (cab_cons (see (ce_bin opl_add (see (ce_bin opl_add (see (ce_bin opl_mulA (see (ce_var 2)) (see ce_int))) (see (ce_bin opl_mulA (see (ce_var 4)) (see ce_int))))) (see (ce_bin opl_mulA (see ce_int) (see (ce_bin opl_add (see (ce_var 1)) (see ce_int))))))) cab_nil))) (see ce_int)) (ca_cons ce_int ca_nil))))))))))
theorem sc_law : FnScope N_law ["script"] (defScope s_law) := ⟨rfl, rfl, rfl, by decide +kernel, rfl, by decide +kernel, by decide +kernel⟩
theorem ok_law (T : Txt K w mg ad) {fd : FuncData} (F : Fun K "law" "law" s_law ad.f_law fd) : FnG P w (gm K w ad).K mg base 5 ad.f_law fd ["script"] (lift (gm K w ad) sp_law) := by
  obtain ⟨fd_law_bases, F_law_bases, U_law_bases⟩ := ok_law_bases (P := P) (base := base) T
  have b_law_bases : Binds K fd_law_bases ["e"] [] := U_law_bases.binds (ps := ["e"]) fun _ _ _ _ _ _ us hl => match us, hl with | [_], _ => rfl
  obtain ⟨fd_law_right, F_law_right, U_law_right⟩ := ok_law_right (P := P) (base := base) T
  have b_law_right : Binds K fd_law_right ["jar"] [] := U_law_right.binds (ps := ["jar"]) fun _ _ _ _ _ _ us hl => match us, hl with | [_], _ => rfl
  obtain ⟨fd_law_jar, F_law_jar, U_law_jar⟩ := ok_law_jar (P := P) (base := base) T
  have b_law_jar : Binds K fd_law_jar ["script", "k"] [] := U_law_jar.binds (ps := ["script", "k"]) fun _ _ _ _ _ _ us hl => match us, hl with | [_, _], _ => rfl
  refine okD (B := R_law) F sc_law len_law (fun cdv A outer s H E hg hr => ?_) pure_law
  have hg0 : (A.deeper (envOfC "law" (defScope s_law) s.heap.objs.size ad.f_law cdv)).guards = some [] := hg
  have hx0 : PassX (cxOf (L2.CX P w) P w K mg base N_law "law" (defScope s_law) ad.f_law cdv A outer s H E) E := L2.passes_call (L2.takes_of rfl rfl rfl rfl) fun _ _ _ _ h => h
  exact (css_cons (cs_if (ct_cmp (opl_ne (hu64 hr)) (see (val (cf_lst (ca_cons (ce_gint T.g_MOST_SWITCHES.choose_spec.1 T.g_MOST_SWITCHES.choose_spec.2) (ca_cons (ce_gint T.g_MOST_SETTINGS.choose_spec.1 T.g_MOST_SETTINGS.choose_spec.2) (ca_cons (ce_gint T.g_MOST_SEARCHED.choose_spec.1 T.g_MOST_SEARCHED.choose_spec.2) (ca_cons (ce_gint T.g_MOST_COUNTED.choose_spec.1 T.g_MOST_COUNTED.choose_spec.2) ca_nil))))))) (see (val (cf_lst (ca_cons ce_int (ca_cons ce_int (ca_cons ce_int (ca_cons ce_int ca_nil)))))))) (css_one (cs_ret (see ce_bl))) css_nil)
    (css_cons (cs_set (i := 1) (val (cf_lst (ca_cons (ce_mk0 (c := 8) PySem.F.excBase_ValueError T.xe_WrongValue T.xg_WrongValue T.xk_WrongValue) (ca_cons (ce_mk0 (c := 9) PySem.F.excBase_LookupError T.xe_WrongName T.xg_WrongName T.xk_WrongName) (ca_cons (ce_mk0 (c := 10) PySem.F.excBase_ArithmeticError T.xe_NotPossible T.xg_NotPossible T.xk_NotPossible) ca_nil))))) sc_law.nd)
    (css_cons (cs_if (ct_cmp (opl_ne (hu64 hr)) (see (val (cf_lc (own := [("e", 2)]) sc_law.nd (cie_any (see (ce_var 1))) (blk_mk (by rfl)) (fun _ _ _ _ _ => (pg_name (i := 2) sc_law.nd rfl (by first | exact Or.inl rfl | exact Or.inr rfl))) (tg_var (i := 2)) (fun _ _ _ _ _ => cts_nil) (fun _ _ _ _ _ => (ce_call F_law_bases T.m_law_bases T.k_law_bases b_law_bases hg0 (hr.mono (by decide)) passL (ca_cons (ce_var 2) ca_nil)))))) (see (val (cf_lst (ca_cons (val (cf_lst (ca_cons ce_bl (ca_cons ce_bl (ca_cons ce_bl ca_nil))))) (ca_cons (val (cf_lst (ca_cons ce_bl (ca_cons ce_bl (ca_cons ce_bl ca_nil))))) (ca_cons (val (cf_lst (ca_cons ce_bl (ca_cons ce_bl (ca_cons ce_bl ca_nil))))) ca_nil))))))) (css_one (cs_ret (see ce_bl))) css_nil)
    (css_one (cs_ret (see (ce_callB cal_all T.z_all (cab_cons (see (val (cf_lc (own := [("k", 3)]) sc_law.nd (iE_of (cis_rng1 T.z_range (ca_cons (ce_callB cal_max2 T.z_max (cab_cons (see ce_int) (cab_cons (see (ce_callB cal_min2 T.z_min (cab_cons (see (ce_callB cal_len T.z_len (cab_cons (see (ce_var 0)) cab_nil))) (cab_cons (see ce_int) cab_nil)))) cab_nil))) ca_nil))) (blk_mk (by rfl)) (fun _ _ _ _ _ => (pg_name (i := 3) sc_law.nd rfl (by first | exact Or.inl rfl | exact Or.inr rfl))) (tg_var (i := 3)) (fun _ _ _ _ _ => cts_nil) (fun _ _ _ _ _ => (ce_call F_law_right T.m_law_right T.k_law_right b_law_right hg0 (hr.mono (by decide)) passL (ca_cons (ce_call F_law_jar T.m_law_jar T.k_law_jar b_law_jar hg0 (hr.mono (by decide)) passL (ca_cons (ce_var 0) (ca_cons (ce_var 3) ca_nil))) ca_nil)))))) cab_nil))))))))
end
end K01
namespace K01
open PySem L2 DL PyProof.Rows
def v_f_law_bases (K : PySem.W.Frag) : Addr := He.ga K "_law_bases"
def v_f_law_dip (K : PySem.W.Frag) : Addr := He.ga K "_law_dip"
def v_f_law_pick (K : PySem.W.Frag) : Addr := He.ga K "_law_pick"
def v_f_law_odd (K : PySem.W.Frag) : Addr := He.ga K "_law_odd"
def v_f_law_by_place (K : PySem.W.Frag) : Addr := He.ga K "_law_by_place"
def v_f_law_by_word (K : PySem.W.Frag) : Addr := He.ga K "_law_by_word"
def v_f_law_sorts (K : PySem.W.Frag) : Addr := He.ga K "_law_sorts"
def v_f_law_kept (K : PySem.W.Frag) : Addr := He.ga K "_law_kept"
def v_f_law_right (K : PySem.W.Frag) : Addr := He.ga K "_law_right"
def v_f_law_jar (K : PySem.W.Frag) : Addr := He.ga K "_law_jar"
def v_f_law (K : PySem.W.Frag) : Addr := He.ga K "law"
def v_C_InvalidText (K : PySem.W.Frag) : Addr := He.ga K "InvalidText"
def v_i_InvalidText (K : PySem.W.Frag) : Addr := He.ma K (He.ga K "InvalidText") "__init__"
def v_C_InvalidPart (K : PySem.W.Frag) : Addr := He.ga K "InvalidPart"
def v_i_InvalidPart (K : PySem.W.Frag) : Addr := He.ma K (He.ga K "InvalidPart") "__init__"
def v_C_InvalidSquare (K : PySem.W.Frag) : Addr := He.ga K "InvalidSquare"
def v_i_InvalidSquare (K : PySem.W.Frag) : Addr := He.ma K (He.ga K "InvalidSquare") "__init__"
def v_C_InvalidFact (K : PySem.W.Frag) : Addr := He.ga K "InvalidFact"
def v_i_InvalidFact (K : PySem.W.Frag) : Addr := He.ma K (He.ga K "InvalidFact") "__init__"
def v_C_InvalidIndex (K : PySem.W.Frag) : Addr := He.ga K "InvalidIndex"
def v_i_InvalidIndex (K : PySem.W.Frag) : Addr := He.ma K (He.ga K "InvalidIndex") "__init__"
def v_C_InvalidWish (K : PySem.W.Frag) : Addr := He.ga K "InvalidWish"
def v_i_InvalidWish (K : PySem.W.Frag) : Addr := He.ma K (He.ga K "InvalidWish") "__init__"
def v_C_InvalidCommand (K : PySem.W.Frag) : Addr := He.ga K "InvalidCommand"
def v_i_InvalidCommand (K : PySem.W.Frag) : Addr := He.ma K (He.ga K "InvalidCommand") "__init__"
def v_C_NotABoard (K : PySem.W.Frag) : Addr := He.ga K "NotABoard"
def v_i_NotABoard (K : PySem.W.Frag) : Addr := He.ma K (He.ga K "NotABoard") "__init__"
def v_C_NotNotes (K : PySem.W.Frag) : Addr := He.ga K "NotNotes"
def v_i_NotNotes (K : PySem.W.Frag) : Addr := He.ma K (He.ga K "NotNotes") "__init__"
def v_C_NotARanking (K : PySem.W.Frag) : Addr := He.ga K "NotARanking"
def v_i_NotARanking (K : PySem.W.Frag) : Addr := He.ma K (He.ga K "NotARanking") "__init__"
def v_C_OtherBoard (K : PySem.W.Frag) : Addr := He.ga K "OtherBoard"
def v_i_OtherBoard (K : PySem.W.Frag) : Addr := He.ma K (He.ga K "OtherBoard") "__init__"
def v_C_SameSetting (K : PySem.W.Frag) : Addr := He.ga K "SameSetting"
def v_i_SameSetting (K : PySem.W.Frag) : Addr := He.ma K (He.ga K "SameSetting") "__init__"
def v_C_InvalidSizes (K : PySem.W.Frag) : Addr := He.ga K "InvalidSizes"
def v_i_InvalidSizes (K : PySem.W.Frag) : Addr := He.ma K (He.ga K "InvalidSizes") "__init__"
def v_C_InvalidFacts (K : PySem.W.Frag) : Addr := He.ga K "InvalidFacts"
def v_i_InvalidFacts (K : PySem.W.Frag) : Addr := He.ma K (He.ga K "InvalidFacts") "__init__"
def v_C_InvalidOrder (K : PySem.W.Frag) : Addr := He.ga K "InvalidOrder"
def v_i_InvalidOrder (K : PySem.W.Frag) : Addr := He.ma K (He.ga K "InvalidOrder") "__init__"
def v_C_InvalidPeaks (K : PySem.W.Frag) : Addr := He.ga K "InvalidPeaks"
def v_i_InvalidPeaks (K : PySem.W.Frag) : Addr := He.ma K (He.ga K "InvalidPeaks") "__init__"
def v_C_InvalidWalks (K : PySem.W.Frag) : Addr := He.ga K "InvalidWalks"
def v_i_InvalidWalks (K : PySem.W.Frag) : Addr := He.ma K (He.ga K "InvalidWalks") "__init__"
def v_C_InvalidRests (K : PySem.W.Frag) : Addr := He.ga K "InvalidRests"
def v_i_InvalidRests (K : PySem.W.Frag) : Addr := He.ma K (He.ga K "InvalidRests") "__init__"
def v_C_UnknownSetting (K : PySem.W.Frag) : Addr := He.ga K "UnknownSetting"
def v_i_UnknownSetting (K : PySem.W.Frag) : Addr := He.ma K (He.ga K "UnknownSetting") "__init__"
def v_C_TooMany (K : PySem.W.Frag) : Addr := He.ga K "TooMany"
def v_i_TooMany (K : PySem.W.Frag) : Addr := He.ma K (He.ga K "TooMany") "__init__"
def v_C_Broken (K : PySem.W.Frag) : Addr := He.ga K "Broken"
def v_i_Broken (K : PySem.W.Frag) : Addr := He.ma K (He.ga K "Broken") "__init__"
def v_C_WrongValue (K : PySem.W.Frag) : Addr := He.ga K "WrongValue"
def v_C_WrongName (K : PySem.W.Frag) : Addr := He.ga K "WrongName"
def v_C_NotPossible (K : PySem.W.Frag) : Addr := He.ga K "NotPossible"
def v_C_NothingToUndo (K : PySem.W.Frag) : Addr := He.ga K "NothingToUndo"
def m_law_bases : HdM.DfM := ⟨v_f_law_bases, "_law_bases", "_law_bases", defArgs s_law_bases, defBody s_law_bases, defScope s_law_bases, []⟩
def m_law_dip : HdM.DfM := ⟨v_f_law_dip, "_law_dip", "_law_dip", defArgs s_law_dip, defBody s_law_dip, defScope s_law_dip, []⟩
def m_law_pick : HdM.DfM := ⟨v_f_law_pick, "_law_pick", "_law_pick", defArgs s_law_pick, defBody s_law_pick, defScope s_law_pick, []⟩
def m_law_odd : HdM.DfM := ⟨v_f_law_odd, "_law_odd", "_law_odd", defArgs s_law_odd, defBody s_law_odd, defScope s_law_odd, []⟩
def m_law_by_place : HdM.DfM := ⟨v_f_law_by_place, "_law_by_place", "_law_by_place", defArgs s_law_by_place, defBody s_law_by_place, defScope s_law_by_place, []⟩
def m_law_by_word : HdM.DfM := ⟨v_f_law_by_word, "_law_by_word", "_law_by_word", defArgs s_law_by_word, defBody s_law_by_word, defScope s_law_by_word, []⟩
def m_law_sorts : HdM.DfM := ⟨v_f_law_sorts, "_law_sorts", "_law_sorts", defArgs s_law_sorts, defBody s_law_sorts, defScope s_law_sorts, []⟩
def m_law_kept : HdM.DfM := ⟨v_f_law_kept, "_law_kept", "_law_kept", defArgs s_law_kept, defBody s_law_kept, defScope s_law_kept, []⟩
def m_law_right : HdM.DfM := ⟨v_f_law_right, "_law_right", "_law_right", defArgs s_law_right, defBody s_law_right, defScope s_law_right, []⟩
def m_law_jar : HdM.DfM := ⟨v_f_law_jar, "_law_jar", "_law_jar", defArgs s_law_jar, defBody s_law_jar, defScope s_law_jar, []⟩
def m_law : HdM.DfM := ⟨v_f_law, "law", "law", defArgs s_law, defBody s_law, defScope s_law, []⟩
def m_x_InvalidText : HdM.DfM := ⟨v_i_InvalidText, "__init__", "InvalidText.__init__", defArgs (inClass (top 2) 0), defBody (inClass (top 2) 0), defScope (inClass (top 2) 0), []⟩
def m_x_InvalidPart : HdM.DfM := ⟨v_i_InvalidPart, "__init__", "InvalidPart.__init__", defArgs (inClass (top 3) 0), defBody (inClass (top 3) 0), defScope (inClass (top 3) 0), []⟩
def m_x_InvalidSquare : HdM.DfM := ⟨v_i_InvalidSquare, "__init__", "InvalidSquare.__init__", defArgs (inClass (top 4) 0), defBody (inClass (top 4) 0), defScope (inClass (top 4) 0), []⟩
def m_x_InvalidFact : HdM.DfM := ⟨v_i_InvalidFact, "__init__", "InvalidFact.__init__", defArgs (inClass (top 5) 0), defBody (inClass (top 5) 0), defScope (inClass (top 5) 0), []⟩
def m_x_InvalidIndex : HdM.DfM := ⟨v_i_InvalidIndex, "__init__", "InvalidIndex.__init__", defArgs (inClass (top 6) 0), defBody (inClass (top 6) 0), defScope (inClass (top 6) 0), []⟩
def m_x_InvalidWish : HdM.DfM := ⟨v_i_InvalidWish, "__init__", "InvalidWish.__init__", defArgs (inClass (top 7) 0), defBody (inClass (top 7) 0), defScope (inClass (top 7) 0), []⟩
def m_x_InvalidCommand : HdM.DfM := ⟨v_i_InvalidCommand, "__init__", "InvalidCommand.__init__", defArgs (inClass (top 8) 0), defBody (inClass (top 8) 0), defScope (inClass (top 8) 0), []⟩
def m_x_NotABoard : HdM.DfM := ⟨v_i_NotABoard, "__init__", "NotABoard.__init__", defArgs (inClass (top 9) 0), defBody (inClass (top 9) 0), defScope (inClass (top 9) 0), []⟩
def m_x_NotNotes : HdM.DfM := ⟨v_i_NotNotes, "__init__", "NotNotes.__init__", defArgs (inClass (top 10) 0), defBody (inClass (top 10) 0), defScope (inClass (top 10) 0), []⟩
def m_x_NotARanking : HdM.DfM := ⟨v_i_NotARanking, "__init__", "NotARanking.__init__", defArgs (inClass (top 11) 0), defBody (inClass (top 11) 0), defScope (inClass (top 11) 0), []⟩
def m_x_OtherBoard : HdM.DfM := ⟨v_i_OtherBoard, "__init__", "OtherBoard.__init__", defArgs (inClass (top 12) 0), defBody (inClass (top 12) 0), defScope (inClass (top 12) 0), []⟩
def m_x_SameSetting : HdM.DfM := ⟨v_i_SameSetting, "__init__", "SameSetting.__init__", defArgs (inClass (top 13) 0), defBody (inClass (top 13) 0), defScope (inClass (top 13) 0), []⟩
def m_x_InvalidSizes : HdM.DfM := ⟨v_i_InvalidSizes, "__init__", "InvalidSizes.__init__", defArgs (inClass (top 14) 0), defBody (inClass (top 14) 0), defScope (inClass (top 14) 0), []⟩
def m_x_InvalidFacts : HdM.DfM := ⟨v_i_InvalidFacts, "__init__", "InvalidFacts.__init__", defArgs (inClass (top 15) 0), defBody (inClass (top 15) 0), defScope (inClass (top 15) 0), []⟩
def m_x_InvalidOrder : HdM.DfM := ⟨v_i_InvalidOrder, "__init__", "InvalidOrder.__init__", defArgs (inClass (top 16) 0), defBody (inClass (top 16) 0), defScope (inClass (top 16) 0), []⟩
def m_x_InvalidPeaks : HdM.DfM := ⟨v_i_InvalidPeaks, "__init__", "InvalidPeaks.__init__", defArgs (inClass (top 17) 0), defBody (inClass (top 17) 0), defScope (inClass (top 17) 0), []⟩
def m_x_InvalidWalks : HdM.DfM := ⟨v_i_InvalidWalks, "__init__", "InvalidWalks.__init__", defArgs (inClass (top 18) 0), defBody (inClass (top 18) 0), defScope (inClass (top 18) 0), []⟩
def m_x_InvalidRests : HdM.DfM := ⟨v_i_InvalidRests, "__init__", "InvalidRests.__init__", defArgs (inClass (top 19) 0), defBody (inClass (top 19) 0), defScope (inClass (top 19) 0), []⟩
def m_x_UnknownSetting : HdM.DfM := ⟨v_i_UnknownSetting, "__init__", "UnknownSetting.__init__", defArgs (inClass (top 21) 0), defBody (inClass (top 21) 0), defScope (inClass (top 21) 0), []⟩
def m_x_TooMany : HdM.DfM := ⟨v_i_TooMany, "__init__", "TooMany.__init__", defArgs (inClass (top 24) 0), defBody (inClass (top 24) 0), defScope (inClass (top 24) 0), []⟩
def m_x_Broken : HdM.DfM := ⟨v_i_Broken, "__init__", "Broken.__init__", defArgs (inClass (top 25) 0), defBody (inClass (top 25) 0), defScope (inClass (top 25) 0), []⟩
def q_0 : PySem.W.Frag → Bool := fun K => decide (PySem.W.nsIn K mainGlobals "_law_bases" = some (some (.ref (v_f_law_bases K))))
def q_1 : PySem.W.Frag → Bool := fun K => decide (PySem.W.keepIn K (.ref (v_f_law_bases K)) = true)
def q_2 : PySem.W.Frag → Bool := fun K => decide (PySem.W.nsIn K mainGlobals "_law_dip" = some (some (.ref (v_f_law_dip K))))
def q_3 : PySem.W.Frag → Bool := fun K => decide (PySem.W.keepIn K (.ref (v_f_law_dip K)) = true)
def q_4 : PySem.W.Frag → Bool := fun K => decide (PySem.W.nsIn K mainGlobals "_law_pick" = some (some (.ref (v_f_law_pick K))))
def q_5 : PySem.W.Frag → Bool := fun K => decide (PySem.W.keepIn K (.ref (v_f_law_pick K)) = true)
def q_6 : PySem.W.Frag → Bool := fun K => decide (PySem.W.nsIn K mainGlobals "_law_odd" = some (some (.ref (v_f_law_odd K))))
def q_7 : PySem.W.Frag → Bool := fun K => decide (PySem.W.keepIn K (.ref (v_f_law_odd K)) = true)
def q_8 : PySem.W.Frag → Bool := fun K => decide (PySem.W.nsIn K mainGlobals "_law_by_place" = some (some (.ref (v_f_law_by_place K))))
def q_9 : PySem.W.Frag → Bool := fun K => decide (PySem.W.keepIn K (.ref (v_f_law_by_place K)) = true)
def q_10 : PySem.W.Frag → Bool := fun K => decide (PySem.W.nsIn K mainGlobals "_law_by_word" = some (some (.ref (v_f_law_by_word K))))
def q_11 : PySem.W.Frag → Bool := fun K => decide (PySem.W.keepIn K (.ref (v_f_law_by_word K)) = true)
def q_12 : PySem.W.Frag → Bool := fun K => decide (PySem.W.nsIn K mainGlobals "_law_sorts" = some (some (.ref (v_f_law_sorts K))))
def q_13 : PySem.W.Frag → Bool := fun K => decide (PySem.W.keepIn K (.ref (v_f_law_sorts K)) = true)
def q_14 : PySem.W.Frag → Bool := fun K => decide (PySem.W.nsIn K mainGlobals "_law_kept" = some (some (.ref (v_f_law_kept K))))
def q_15 : PySem.W.Frag → Bool := fun K => decide (PySem.W.keepIn K (.ref (v_f_law_kept K)) = true)
def q_16 : PySem.W.Frag → Bool := fun K => decide (PySem.W.nsIn K mainGlobals "_law_right" = some (some (.ref (v_f_law_right K))))
def q_17 : PySem.W.Frag → Bool := fun K => decide (PySem.W.keepIn K (.ref (v_f_law_right K)) = true)
def q_18 : PySem.W.Frag → Bool := fun K => decide (PySem.W.nsIn K mainGlobals "_law_jar" = some (some (.ref (v_f_law_jar K))))
def q_19 : PySem.W.Frag → Bool := fun K => decide (PySem.W.keepIn K (.ref (v_f_law_jar K)) = true)
def q_20 : PySem.W.Frag → Bool := fun K => decide (PySem.W.nsIn K mainGlobals "law" = some (some (.ref (v_f_law K))))
def q_21 : PySem.W.Frag → Bool := fun K => decide (PySem.W.keepIn K (.ref (v_f_law K)) = true)
def q_22 : PySem.W.Frag → Bool := fun K => decide (PySem.W.specialIn K (.builtin "object.__class__") "__get__" = some (some (.builtin "getset_descriptor.__get__")))
def q_23 : PySem.W.Frag → Bool := fun K => decide (PySem.W.takesIn K (.builtin "object.__class__") = some true)
def q_24 : PySem.W.Frag → Bool := fun K => HdM.intB K "MOST_COUNTED" 8
def q_25 : PySem.W.Frag → Bool := fun K => HdM.intB K "MOST_SEARCHED" 16
def q_26 : PySem.W.Frag → Bool := fun K => HdM.intB K "MOST_SETTINGS" 48
def q_27 : PySem.W.Frag → Bool := fun K => HdM.intB K "MOST_SWITCHES" 5
def q_28 : PySem.W.Frag → Bool := fun K => decide (PySem.W.nsIn K mainGlobals "ArithmeticError" = some none)
def q_29 : PySem.W.Frag → Bool := fun K => decide (PySem.W.nsIn K mainGlobals "LookupError" = some none)
def q_30 : PySem.W.Frag → Bool := fun K => decide (PySem.W.nsIn K mainGlobals "ValueError" = some none)
def q_31 : PySem.W.Frag → Bool := fun K => decide (PySem.W.nsIn K mainGlobals "abs" = some none)
def q_32 : PySem.W.Frag → Bool := fun K => decide (PySem.W.nsIn K mainGlobals "all" = some none)
def q_33 : PySem.W.Frag → Bool := fun K => decide (PySem.W.nsIn K mainGlobals "int" = some none)
def q_34 : PySem.W.Frag → Bool := fun K => decide (PySem.W.nsIn K mainGlobals "isinstance" = some none)
def q_35 : PySem.W.Frag → Bool := fun K => decide (PySem.W.nsIn K mainGlobals "len" = some none)
def q_36 : PySem.W.Frag → Bool := fun K => decide (PySem.W.nsIn K mainGlobals "max" = some none)
def q_37 : PySem.W.Frag → Bool := fun K => decide (PySem.W.nsIn K mainGlobals "min" = some none)
def q_38 : PySem.W.Frag → Bool := fun K => decide (PySem.W.nsIn K mainGlobals "range" = some none)
def q_39 : PySem.W.Frag → Bool := fun K => decide (PySem.W.nsIn K mainGlobals "repr" = some none)
def q_40 : PySem.W.Frag → Bool := fun K => decide (PySem.W.nsIn K mainGlobals "WrongValue" = some (some (.ref (v_C_WrongValue K))))
def q_41 : PySem.W.Frag → Bool := fun K => decide (PySem.W.nsIn K mainGlobals "WrongName" = some (some (.ref (v_C_WrongName K))))
def q_42 : PySem.W.Frag → Bool := fun K => decide (PySem.W.nsIn K mainGlobals "NotPossible" = some (some (.ref (v_C_NotPossible K))))
def q_43 : PySem.W.Frag → Bool := fun K => decide (PySem.W.nsIn K mainGlobals "InvalidText" = some (some (.ref (v_C_InvalidText K))))
def q_44 : PySem.W.Frag → Bool := fun K => decide (PySem.W.nsIn K mainGlobals "InvalidPart" = some (some (.ref (v_C_InvalidPart K))))
def q_45 : PySem.W.Frag → Bool := fun K => decide (PySem.W.nsIn K mainGlobals "InvalidSquare" = some (some (.ref (v_C_InvalidSquare K))))
def q_46 : PySem.W.Frag → Bool := fun K => decide (PySem.W.nsIn K mainGlobals "InvalidFact" = some (some (.ref (v_C_InvalidFact K))))
def q_47 : PySem.W.Frag → Bool := fun K => decide (PySem.W.nsIn K mainGlobals "InvalidIndex" = some (some (.ref (v_C_InvalidIndex K))))
def q_48 : PySem.W.Frag → Bool := fun K => decide (PySem.W.nsIn K mainGlobals "InvalidWish" = some (some (.ref (v_C_InvalidWish K))))
def q_49 : PySem.W.Frag → Bool := fun K => decide (PySem.W.nsIn K mainGlobals "InvalidCommand" = some (some (.ref (v_C_InvalidCommand K))))
def q_50 : PySem.W.Frag → Bool := fun K => decide (PySem.W.nsIn K mainGlobals "NotABoard" = some (some (.ref (v_C_NotABoard K))))
def q_51 : PySem.W.Frag → Bool := fun K => decide (PySem.W.nsIn K mainGlobals "NotNotes" = some (some (.ref (v_C_NotNotes K))))
def q_52 : PySem.W.Frag → Bool := fun K => decide (PySem.W.nsIn K mainGlobals "NotARanking" = some (some (.ref (v_C_NotARanking K))))
def q_53 : PySem.W.Frag → Bool := fun K => decide (PySem.W.nsIn K mainGlobals "OtherBoard" = some (some (.ref (v_C_OtherBoard K))))
def q_54 : PySem.W.Frag → Bool := fun K => decide (PySem.W.nsIn K mainGlobals "SameSetting" = some (some (.ref (v_C_SameSetting K))))
def q_55 : PySem.W.Frag → Bool := fun K => decide (PySem.W.nsIn K mainGlobals "InvalidSizes" = some (some (.ref (v_C_InvalidSizes K))))
def q_56 : PySem.W.Frag → Bool := fun K => decide (PySem.W.nsIn K mainGlobals "InvalidFacts" = some (some (.ref (v_C_InvalidFacts K))))
def q_57 : PySem.W.Frag → Bool := fun K => decide (PySem.W.nsIn K mainGlobals "InvalidOrder" = some (some (.ref (v_C_InvalidOrder K))))
def q_58 : PySem.W.Frag → Bool := fun K => decide (PySem.W.nsIn K mainGlobals "InvalidPeaks" = some (some (.ref (v_C_InvalidPeaks K))))
def q_59 : PySem.W.Frag → Bool := fun K => decide (PySem.W.nsIn K mainGlobals "InvalidWalks" = some (some (.ref (v_C_InvalidWalks K))))
def q_60 : PySem.W.Frag → Bool := fun K => decide (PySem.W.nsIn K mainGlobals "InvalidRests" = some (some (.ref (v_C_InvalidRests K))))
def q_61 : PySem.W.Frag → Bool := fun K => decide (PySem.W.nsIn K mainGlobals "UnknownSetting" = some (some (.ref (v_C_UnknownSetting K))))
def q_62 : PySem.W.Frag → Bool := fun K => decide (PySem.W.nsIn K mainGlobals "TooMany" = some (some (.ref (v_C_TooMany K))))
def q_63 : PySem.W.Frag → Bool := fun K => decide (PySem.W.nsIn K mainGlobals "Broken" = some (some (.ref (v_C_Broken K))))
def q_64 : PySem.W.Frag → Bool := fun K => decide (PySem.W.nsIn K mainGlobals "NothingToUndo" = some (some (.ref (v_C_NothingToUndo K))))
def q_65 : PySem.W.Frag → Bool := fun K => decide (PySem.W.subIn K (.ref (v_C_WrongValue K)) (.type "BaseException") = some true)
def q_66 : PySem.W.Frag → Bool := fun K => decide (PySem.W.hasDictIn K (v_C_WrongValue K) = true)
def q_67 : PySem.W.Frag → Bool := fun K => decide (PySem.W.subIn K (.ref (v_C_WrongName K)) (.type "BaseException") = some true)
def q_68 : PySem.W.Frag → Bool := fun K => decide (PySem.W.hasDictIn K (v_C_WrongName K) = true)
def q_69 : PySem.W.Frag → Bool := fun K => decide (PySem.W.subIn K (.ref (v_C_NotPossible K)) (.type "BaseException") = some true)
def q_70 : PySem.W.Frag → Bool := fun K => decide (PySem.W.hasDictIn K (v_C_NotPossible K) = true)
def q_71 : PySem.W.Frag → Bool := fun K => decide (PySem.W.subIn K (.ref (v_C_NothingToUndo K)) (.type "BaseException") = some true)
def q_72 : PySem.W.Frag → Bool := fun K => decide (PySem.W.hasDictIn K (v_C_NothingToUndo K) = true)
def q_73 : PySem.W.Frag → Bool := fun K => decide ((PySem.W.clsIn K (v_C_InvalidText K)).isSome = true)
def q_74 : PySem.W.Frag → Bool := fun K => decide (PySem.W.findIn K (.ref (v_C_InvalidText K)) "__getattribute__" = some (some (.builtin "BaseException.__getattribute__")))
def q_75 : PySem.W.Frag → Bool := fun K => decide (PySem.W.findIn K (.ref (v_C_InvalidText K)) "__getattr__" = some none)
def q_76 : PySem.W.Frag → Bool := fun K => decide (PySem.W.findIn K (.ref (v_C_InvalidText K)) "__class__" = some (some (.builtin "object.__class__")))
def q_77 : PySem.W.Frag → Bool := fun K => decide (PySem.W.mroIn K (v_C_InvalidText K) (.type "object") = some true)
def q_78 : PySem.W.Frag → Bool := fun K => decide ((PySem.W.clsIn K (v_C_InvalidPart K)).isSome = true)
def q_79 : PySem.W.Frag → Bool := fun K => decide (PySem.W.findIn K (.ref (v_C_InvalidPart K)) "__getattribute__" = some (some (.builtin "BaseException.__getattribute__")))
def q_80 : PySem.W.Frag → Bool := fun K => decide (PySem.W.findIn K (.ref (v_C_InvalidPart K)) "__getattr__" = some none)
def q_81 : PySem.W.Frag → Bool := fun K => decide (PySem.W.findIn K (.ref (v_C_InvalidPart K)) "__class__" = some (some (.builtin "object.__class__")))
def q_82 : PySem.W.Frag → Bool := fun K => decide (PySem.W.mroIn K (v_C_InvalidPart K) (.type "object") = some true)
def q_83 : PySem.W.Frag → Bool := fun K => decide ((PySem.W.clsIn K (v_C_InvalidSquare K)).isSome = true)
def q_84 : PySem.W.Frag → Bool := fun K => decide (PySem.W.findIn K (.ref (v_C_InvalidSquare K)) "__getattribute__" = some (some (.builtin "BaseException.__getattribute__")))
def q_85 : PySem.W.Frag → Bool := fun K => decide (PySem.W.findIn K (.ref (v_C_InvalidSquare K)) "__getattr__" = some none)
def q_86 : PySem.W.Frag → Bool := fun K => decide (PySem.W.findIn K (.ref (v_C_InvalidSquare K)) "__class__" = some (some (.builtin "object.__class__")))
def q_87 : PySem.W.Frag → Bool := fun K => decide (PySem.W.mroIn K (v_C_InvalidSquare K) (.type "object") = some true)
def q_88 : PySem.W.Frag → Bool := fun K => decide ((PySem.W.clsIn K (v_C_InvalidFact K)).isSome = true)
def q_89 : PySem.W.Frag → Bool := fun K => decide (PySem.W.findIn K (.ref (v_C_InvalidFact K)) "__getattribute__" = some (some (.builtin "BaseException.__getattribute__")))
def q_90 : PySem.W.Frag → Bool := fun K => decide (PySem.W.findIn K (.ref (v_C_InvalidFact K)) "__getattr__" = some none)
def q_91 : PySem.W.Frag → Bool := fun K => decide (PySem.W.findIn K (.ref (v_C_InvalidFact K)) "__class__" = some (some (.builtin "object.__class__")))
def q_92 : PySem.W.Frag → Bool := fun K => decide (PySem.W.mroIn K (v_C_InvalidFact K) (.type "object") = some true)
def q_93 : PySem.W.Frag → Bool := fun K => decide ((PySem.W.clsIn K (v_C_InvalidIndex K)).isSome = true)
def q_94 : PySem.W.Frag → Bool := fun K => decide (PySem.W.findIn K (.ref (v_C_InvalidIndex K)) "__getattribute__" = some (some (.builtin "BaseException.__getattribute__")))
def q_95 : PySem.W.Frag → Bool := fun K => decide (PySem.W.findIn K (.ref (v_C_InvalidIndex K)) "__getattr__" = some none)
def q_96 : PySem.W.Frag → Bool := fun K => decide (PySem.W.findIn K (.ref (v_C_InvalidIndex K)) "__class__" = some (some (.builtin "object.__class__")))
def q_97 : PySem.W.Frag → Bool := fun K => decide (PySem.W.mroIn K (v_C_InvalidIndex K) (.type "object") = some true)
def q_98 : PySem.W.Frag → Bool := fun K => decide ((PySem.W.clsIn K (v_C_InvalidWish K)).isSome = true)
def q_99 : PySem.W.Frag → Bool := fun K => decide (PySem.W.findIn K (.ref (v_C_InvalidWish K)) "__getattribute__" = some (some (.builtin "BaseException.__getattribute__")))
def q_100 : PySem.W.Frag → Bool := fun K => decide (PySem.W.findIn K (.ref (v_C_InvalidWish K)) "__getattr__" = some none)
def q_101 : PySem.W.Frag → Bool := fun K => decide (PySem.W.findIn K (.ref (v_C_InvalidWish K)) "__class__" = some (some (.builtin "object.__class__")))
def q_102 : PySem.W.Frag → Bool := fun K => decide (PySem.W.mroIn K (v_C_InvalidWish K) (.type "object") = some true)
def q_103 : PySem.W.Frag → Bool := fun K => decide ((PySem.W.clsIn K (v_C_InvalidCommand K)).isSome = true)
def q_104 : PySem.W.Frag → Bool := fun K => decide (PySem.W.findIn K (.ref (v_C_InvalidCommand K)) "__getattribute__" = some (some (.builtin "BaseException.__getattribute__")))
def q_105 : PySem.W.Frag → Bool := fun K => decide (PySem.W.findIn K (.ref (v_C_InvalidCommand K)) "__getattr__" = some none)
def q_106 : PySem.W.Frag → Bool := fun K => decide (PySem.W.findIn K (.ref (v_C_InvalidCommand K)) "__class__" = some (some (.builtin "object.__class__")))
def q_107 : PySem.W.Frag → Bool := fun K => decide (PySem.W.mroIn K (v_C_InvalidCommand K) (.type "object") = some true)
def q_108 : PySem.W.Frag → Bool := fun K => decide ((PySem.W.clsIn K (v_C_NotABoard K)).isSome = true)
def q_109 : PySem.W.Frag → Bool := fun K => decide (PySem.W.findIn K (.ref (v_C_NotABoard K)) "__getattribute__" = some (some (.builtin "BaseException.__getattribute__")))
def q_110 : PySem.W.Frag → Bool := fun K => decide (PySem.W.findIn K (.ref (v_C_NotABoard K)) "__getattr__" = some none)
def q_111 : PySem.W.Frag → Bool := fun K => decide (PySem.W.findIn K (.ref (v_C_NotABoard K)) "__class__" = some (some (.builtin "object.__class__")))
def q_112 : PySem.W.Frag → Bool := fun K => decide (PySem.W.mroIn K (v_C_NotABoard K) (.type "object") = some true)
def q_113 : PySem.W.Frag → Bool := fun K => decide ((PySem.W.clsIn K (v_C_NotNotes K)).isSome = true)
def q_114 : PySem.W.Frag → Bool := fun K => decide (PySem.W.findIn K (.ref (v_C_NotNotes K)) "__getattribute__" = some (some (.builtin "BaseException.__getattribute__")))
def q_115 : PySem.W.Frag → Bool := fun K => decide (PySem.W.findIn K (.ref (v_C_NotNotes K)) "__getattr__" = some none)
def q_116 : PySem.W.Frag → Bool := fun K => decide (PySem.W.findIn K (.ref (v_C_NotNotes K)) "__class__" = some (some (.builtin "object.__class__")))
def q_117 : PySem.W.Frag → Bool := fun K => decide (PySem.W.mroIn K (v_C_NotNotes K) (.type "object") = some true)
def q_118 : PySem.W.Frag → Bool := fun K => decide ((PySem.W.clsIn K (v_C_NotARanking K)).isSome = true)
def q_119 : PySem.W.Frag → Bool := fun K => decide (PySem.W.findIn K (.ref (v_C_NotARanking K)) "__getattribute__" = some (some (.builtin "BaseException.__getattribute__")))
def q_120 : PySem.W.Frag → Bool := fun K => decide (PySem.W.findIn K (.ref (v_C_NotARanking K)) "__getattr__" = some none)
def q_121 : PySem.W.Frag → Bool := fun K => decide (PySem.W.findIn K (.ref (v_C_NotARanking K)) "__class__" = some (some (.builtin "object.__class__")))
def q_122 : PySem.W.Frag → Bool := fun K => decide (PySem.W.mroIn K (v_C_NotARanking K) (.type "object") = some true)
def q_123 : PySem.W.Frag → Bool := fun K => decide ((PySem.W.clsIn K (v_C_OtherBoard K)).isSome = true)
def q_124 : PySem.W.Frag → Bool := fun K => decide (PySem.W.findIn K (.ref (v_C_OtherBoard K)) "__getattribute__" = some (some (.builtin "BaseException.__getattribute__")))
def q_125 : PySem.W.Frag → Bool := fun K => decide (PySem.W.findIn K (.ref (v_C_OtherBoard K)) "__getattr__" = some none)
def q_126 : PySem.W.Frag → Bool := fun K => decide (PySem.W.findIn K (.ref (v_C_OtherBoard K)) "__class__" = some (some (.builtin "object.__class__")))
def q_127 : PySem.W.Frag → Bool := fun K => decide (PySem.W.mroIn K (v_C_OtherBoard K) (.type "object") = some true)
def q_128 : PySem.W.Frag → Bool := fun K => decide ((PySem.W.clsIn K (v_C_SameSetting K)).isSome = true)
def q_129 : PySem.W.Frag → Bool := fun K => decide (PySem.W.findIn K (.ref (v_C_SameSetting K)) "__getattribute__" = some (some (.builtin "BaseException.__getattribute__")))
def q_130 : PySem.W.Frag → Bool := fun K => decide (PySem.W.findIn K (.ref (v_C_SameSetting K)) "__getattr__" = some none)
def q_131 : PySem.W.Frag → Bool := fun K => decide (PySem.W.findIn K (.ref (v_C_SameSetting K)) "__class__" = some (some (.builtin "object.__class__")))
def q_132 : PySem.W.Frag → Bool := fun K => decide (PySem.W.mroIn K (v_C_SameSetting K) (.type "object") = some true)
def q_133 : PySem.W.Frag → Bool := fun K => decide ((PySem.W.clsIn K (v_C_InvalidSizes K)).isSome = true)
def q_134 : PySem.W.Frag → Bool := fun K => decide (PySem.W.findIn K (.ref (v_C_InvalidSizes K)) "__getattribute__" = some (some (.builtin "BaseException.__getattribute__")))
def q_135 : PySem.W.Frag → Bool := fun K => decide (PySem.W.findIn K (.ref (v_C_InvalidSizes K)) "__getattr__" = some none)
def q_136 : PySem.W.Frag → Bool := fun K => decide (PySem.W.findIn K (.ref (v_C_InvalidSizes K)) "__class__" = some (some (.builtin "object.__class__")))
def q_137 : PySem.W.Frag → Bool := fun K => decide (PySem.W.mroIn K (v_C_InvalidSizes K) (.type "object") = some true)
def q_138 : PySem.W.Frag → Bool := fun K => decide ((PySem.W.clsIn K (v_C_InvalidFacts K)).isSome = true)
def q_139 : PySem.W.Frag → Bool := fun K => decide (PySem.W.findIn K (.ref (v_C_InvalidFacts K)) "__getattribute__" = some (some (.builtin "BaseException.__getattribute__")))
def q_140 : PySem.W.Frag → Bool := fun K => decide (PySem.W.findIn K (.ref (v_C_InvalidFacts K)) "__getattr__" = some none)
def q_141 : PySem.W.Frag → Bool := fun K => decide (PySem.W.findIn K (.ref (v_C_InvalidFacts K)) "__class__" = some (some (.builtin "object.__class__")))
def q_142 : PySem.W.Frag → Bool := fun K => decide (PySem.W.mroIn K (v_C_InvalidFacts K) (.type "object") = some true)
def q_143 : PySem.W.Frag → Bool := fun K => decide ((PySem.W.clsIn K (v_C_InvalidOrder K)).isSome = true)
def q_144 : PySem.W.Frag → Bool := fun K => decide (PySem.W.findIn K (.ref (v_C_InvalidOrder K)) "__getattribute__" = some (some (.builtin "BaseException.__getattribute__")))
def q_145 : PySem.W.Frag → Bool := fun K => decide (PySem.W.findIn K (.ref (v_C_InvalidOrder K)) "__getattr__" = some none)
def q_146 : PySem.W.Frag → Bool := fun K => decide (PySem.W.findIn K (.ref (v_C_InvalidOrder K)) "__class__" = some (some (.builtin "object.__class__")))
def q_147 : PySem.W.Frag → Bool := fun K => decide (PySem.W.mroIn K (v_C_InvalidOrder K) (.type "object") = some true)
def q_148 : PySem.W.Frag → Bool := fun K => decide ((PySem.W.clsIn K (v_C_InvalidPeaks K)).isSome = true)
def q_149 : PySem.W.Frag → Bool := fun K => decide (PySem.W.findIn K (.ref (v_C_InvalidPeaks K)) "__getattribute__" = some (some (.builtin "BaseException.__getattribute__")))
def q_150 : PySem.W.Frag → Bool := fun K => decide (PySem.W.findIn K (.ref (v_C_InvalidPeaks K)) "__getattr__" = some none)
def q_151 : PySem.W.Frag → Bool := fun K => decide (PySem.W.findIn K (.ref (v_C_InvalidPeaks K)) "__class__" = some (some (.builtin "object.__class__")))
def q_152 : PySem.W.Frag → Bool := fun K => decide (PySem.W.mroIn K (v_C_InvalidPeaks K) (.type "object") = some true)
def q_153 : PySem.W.Frag → Bool := fun K => decide ((PySem.W.clsIn K (v_C_InvalidWalks K)).isSome = true)
def q_154 : PySem.W.Frag → Bool := fun K => decide (PySem.W.findIn K (.ref (v_C_InvalidWalks K)) "__getattribute__" = some (some (.builtin "BaseException.__getattribute__")))
def q_155 : PySem.W.Frag → Bool := fun K => decide (PySem.W.findIn K (.ref (v_C_InvalidWalks K)) "__getattr__" = some none)
def q_156 : PySem.W.Frag → Bool := fun K => decide (PySem.W.findIn K (.ref (v_C_InvalidWalks K)) "__class__" = some (some (.builtin "object.__class__")))
def q_157 : PySem.W.Frag → Bool := fun K => decide (PySem.W.mroIn K (v_C_InvalidWalks K) (.type "object") = some true)
def q_158 : PySem.W.Frag → Bool := fun K => decide ((PySem.W.clsIn K (v_C_InvalidRests K)).isSome = true)
def q_159 : PySem.W.Frag → Bool := fun K => decide (PySem.W.findIn K (.ref (v_C_InvalidRests K)) "__getattribute__" = some (some (.builtin "BaseException.__getattribute__")))
def q_160 : PySem.W.Frag → Bool := fun K => decide (PySem.W.findIn K (.ref (v_C_InvalidRests K)) "__getattr__" = some none)
def q_161 : PySem.W.Frag → Bool := fun K => decide (PySem.W.findIn K (.ref (v_C_InvalidRests K)) "__class__" = some (some (.builtin "object.__class__")))
def q_162 : PySem.W.Frag → Bool := fun K => decide (PySem.W.mroIn K (v_C_InvalidRests K) (.type "object") = some true)
def q_163 : PySem.W.Frag → Bool := fun K => decide ((PySem.W.clsIn K (v_C_UnknownSetting K)).isSome = true)
def q_164 : PySem.W.Frag → Bool := fun K => decide (PySem.W.findIn K (.ref (v_C_UnknownSetting K)) "__getattribute__" = some (some (.builtin "BaseException.__getattribute__")))
def q_165 : PySem.W.Frag → Bool := fun K => decide (PySem.W.findIn K (.ref (v_C_UnknownSetting K)) "__getattr__" = some none)
def q_166 : PySem.W.Frag → Bool := fun K => decide (PySem.W.findIn K (.ref (v_C_UnknownSetting K)) "__class__" = some (some (.builtin "object.__class__")))
def q_167 : PySem.W.Frag → Bool := fun K => decide (PySem.W.mroIn K (v_C_UnknownSetting K) (.type "object") = some true)
def q_168 : PySem.W.Frag → Bool := fun K => decide ((PySem.W.clsIn K (v_C_TooMany K)).isSome = true)
def q_169 : PySem.W.Frag → Bool := fun K => decide (PySem.W.findIn K (.ref (v_C_TooMany K)) "__getattribute__" = some (some (.builtin "BaseException.__getattribute__")))
def q_170 : PySem.W.Frag → Bool := fun K => decide (PySem.W.findIn K (.ref (v_C_TooMany K)) "__getattr__" = some none)
def q_171 : PySem.W.Frag → Bool := fun K => decide (PySem.W.findIn K (.ref (v_C_TooMany K)) "__class__" = some (some (.builtin "object.__class__")))
def q_172 : PySem.W.Frag → Bool := fun K => decide (PySem.W.mroIn K (v_C_TooMany K) (.type "object") = some true)
def q_173 : PySem.W.Frag → Bool := fun K => decide ((PySem.W.clsIn K (v_C_Broken K)).isSome = true)
def q_174 : PySem.W.Frag → Bool := fun K => decide (PySem.W.findIn K (.ref (v_C_Broken K)) "__getattribute__" = some (some (.builtin "BaseException.__getattribute__")))
def q_175 : PySem.W.Frag → Bool := fun K => decide (PySem.W.findIn K (.ref (v_C_Broken K)) "__getattr__" = some none)
def q_176 : PySem.W.Frag → Bool := fun K => decide (PySem.W.findIn K (.ref (v_C_Broken K)) "__class__" = some (some (.builtin "object.__class__")))
def q_177 : PySem.W.Frag → Bool := fun K => decide (PySem.W.mroIn K (v_C_Broken K) (.type "object") = some true)
def q_178 : PySem.W.Frag → Bool := fun K => decide ((PySem.W.clsIn K (v_C_WrongValue K)).isSome = true)
def q_179 : PySem.W.Frag → Bool := fun K => decide (PySem.W.findIn K (.ref (v_C_WrongValue K)) "__getattribute__" = some (some (.builtin "BaseException.__getattribute__")))
def q_180 : PySem.W.Frag → Bool := fun K => decide (PySem.W.findIn K (.ref (v_C_WrongValue K)) "__getattr__" = some none)
def q_181 : PySem.W.Frag → Bool := fun K => decide (PySem.W.findIn K (.ref (v_C_WrongValue K)) "__class__" = some (some (.builtin "object.__class__")))
def q_182 : PySem.W.Frag → Bool := fun K => decide (PySem.W.mroIn K (v_C_WrongValue K) (.type "object") = some true)
def q_183 : PySem.W.Frag → Bool := fun K => decide ((PySem.W.clsIn K (v_C_WrongName K)).isSome = true)
def q_184 : PySem.W.Frag → Bool := fun K => decide (PySem.W.findIn K (.ref (v_C_WrongName K)) "__getattribute__" = some (some (.builtin "BaseException.__getattribute__")))
def q_185 : PySem.W.Frag → Bool := fun K => decide (PySem.W.findIn K (.ref (v_C_WrongName K)) "__getattr__" = some none)
def q_186 : PySem.W.Frag → Bool := fun K => decide (PySem.W.findIn K (.ref (v_C_WrongName K)) "__class__" = some (some (.builtin "object.__class__")))
def q_187 : PySem.W.Frag → Bool := fun K => decide (PySem.W.mroIn K (v_C_WrongName K) (.type "object") = some true)
def q_188 : PySem.W.Frag → Bool := fun K => decide ((PySem.W.clsIn K (v_C_NotPossible K)).isSome = true)
def q_189 : PySem.W.Frag → Bool := fun K => decide (PySem.W.findIn K (.ref (v_C_NotPossible K)) "__getattribute__" = some (some (.builtin "BaseException.__getattribute__")))
def q_190 : PySem.W.Frag → Bool := fun K => decide (PySem.W.findIn K (.ref (v_C_NotPossible K)) "__getattr__" = some none)
def q_191 : PySem.W.Frag → Bool := fun K => decide (PySem.W.findIn K (.ref (v_C_NotPossible K)) "__class__" = some (some (.builtin "object.__class__")))
def q_192 : PySem.W.Frag → Bool := fun K => decide (PySem.W.mroIn K (v_C_NotPossible K) (.type "object") = some true)
def q_193 : PySem.W.Frag → Bool := fun K => decide ((PySem.W.clsIn K (v_C_NothingToUndo K)).isSome = true)
def q_194 : PySem.W.Frag → Bool := fun K => decide (PySem.W.findIn K (.ref (v_C_NothingToUndo K)) "__getattribute__" = some (some (.builtin "BaseException.__getattribute__")))
def q_195 : PySem.W.Frag → Bool := fun K => decide (PySem.W.findIn K (.ref (v_C_NothingToUndo K)) "__getattr__" = some none)
def q_196 : PySem.W.Frag → Bool := fun K => decide (PySem.W.findIn K (.ref (v_C_NothingToUndo K)) "__class__" = some (some (.builtin "object.__class__")))
def q_197 : PySem.W.Frag → Bool := fun K => decide (PySem.W.mroIn K (v_C_NothingToUndo K) (.type "object") = some true)
def q_198 : PySem.W.Frag → Bool := fun K => decide (PySem.W.findIn K (.ref (v_C_InvalidText K)) "given" = some none)
def q_199 : PySem.W.Frag → Bool := fun K => decide (PySem.W.findIn K (.ref (v_C_InvalidPart K)) "given" = some none)
def q_200 : PySem.W.Frag → Bool := fun K => decide (PySem.W.findIn K (.ref (v_C_InvalidSquare K)) "given" = some none)
def q_201 : PySem.W.Frag → Bool := fun K => decide (PySem.W.findIn K (.ref (v_C_InvalidFact K)) "given" = some none)
def q_202 : PySem.W.Frag → Bool := fun K => decide (PySem.W.findIn K (.ref (v_C_InvalidIndex K)) "given" = some none)
def q_203 : PySem.W.Frag → Bool := fun K => decide (PySem.W.findIn K (.ref (v_C_InvalidWish K)) "given" = some none)
def q_204 : PySem.W.Frag → Bool := fun K => decide (PySem.W.findIn K (.ref (v_C_InvalidCommand K)) "given" = some none)
def q_205 : PySem.W.Frag → Bool := fun K => decide (PySem.W.findIn K (.ref (v_C_NotABoard K)) "given" = some none)
def q_206 : PySem.W.Frag → Bool := fun K => decide (PySem.W.findIn K (.ref (v_C_NotNotes K)) "given" = some none)
def q_207 : PySem.W.Frag → Bool := fun K => decide (PySem.W.findIn K (.ref (v_C_NotARanking K)) "given" = some none)
def q_208 : PySem.W.Frag → Bool := fun K => decide (PySem.W.findIn K (.ref (v_C_OtherBoard K)) "given" = some none)
def q_209 : PySem.W.Frag → Bool := fun K => decide (PySem.W.findIn K (.ref (v_C_SameSetting K)) "given" = some none)
def q_210 : PySem.W.Frag → Bool := fun K => decide (PySem.W.findIn K (.ref (v_C_InvalidSizes K)) "index" = some none)
def q_211 : PySem.W.Frag → Bool := fun K => decide (PySem.W.findIn K (.ref (v_C_InvalidFacts K)) "index" = some none)
def q_212 : PySem.W.Frag → Bool := fun K => decide (PySem.W.findIn K (.ref (v_C_InvalidOrder K)) "index" = some none)
def q_213 : PySem.W.Frag → Bool := fun K => decide (PySem.W.findIn K (.ref (v_C_InvalidPeaks K)) "index" = some none)
def q_214 : PySem.W.Frag → Bool := fun K => decide (PySem.W.findIn K (.ref (v_C_InvalidWalks K)) "index" = some none)
def q_215 : PySem.W.Frag → Bool := fun K => decide (PySem.W.findIn K (.ref (v_C_InvalidRests K)) "index" = some none)
def q_216 : PySem.W.Frag → Bool := fun K => decide (PySem.W.findIn K (.ref (v_C_UnknownSetting K)) "given" = some none)
def q_217 : PySem.W.Frag → Bool := fun K => decide (PySem.W.findIn K (.ref (v_C_TooMany K)) "given" = some none)
def q_218 : PySem.W.Frag → Bool := fun K => decide (PySem.W.findIn K (.ref (v_C_Broken K)) "index" = some none)
def q_219 : PySem.W.Frag → Bool := fun K => decide (PySem.W.excIn K (v_C_WrongValue K) [.type "ValueError", .type "Exception", .type "BaseException", .type "object"] "ValueError.__new__" = true)
def q_220 : PySem.W.Frag → Bool := fun K => decide (PySem.W.keepIn K (.ref (v_C_WrongValue K)) = true)
def q_221 : PySem.W.Frag → Bool := fun K => decide (PySem.W.excIn K (v_C_WrongName K) [.type "LookupError", .type "Exception", .type "BaseException", .type "object"] "LookupError.__new__" = true)
def q_222 : PySem.W.Frag → Bool := fun K => decide (PySem.W.keepIn K (.ref (v_C_WrongName K)) = true)
def q_223 : PySem.W.Frag → Bool := fun K => decide (PySem.W.excIn K (v_C_NotPossible K) [.type "ArithmeticError", .type "Exception", .type "BaseException", .type "object"] "ArithmeticError.__new__" = true)
def q_224 : PySem.W.Frag → Bool := fun K => decide (PySem.W.keepIn K (.ref (v_C_NotPossible K)) = true)
def q_225 : PySem.W.Frag → Bool := fun K => decide (PySem.W.excIn K (v_C_NothingToUndo K) [.type "ArithmeticError", .type "Exception", .type "BaseException", .type "object"] "ArithmeticError.__new__" = true)
def q_226 : PySem.W.Frag → Bool := fun K => decide (PySem.W.keepIn K (.ref (v_C_NothingToUndo K)) = true)
def q_227 : PySem.W.Frag → Bool := fun K => decide ((([(.ref (v_C_WrongValue K), true), (.type "ValueError", true), (.ref (v_C_WrongName K), false), (.type "LookupError", false), (.ref (v_C_NotPossible K), false), (.type "ArithmeticError", false), (.ref (v_C_InvalidText K), true), (.ref (v_C_InvalidPart K), false), (.ref (v_C_InvalidSquare K), false), (.ref (v_C_InvalidFact K), false), (.ref (v_C_InvalidIndex K), false), (.ref (v_C_InvalidWish K), false), (.ref (v_C_InvalidCommand K), false), (.ref (v_C_NotABoard K), false), (.ref (v_C_NotNotes K), false), (.ref (v_C_NotARanking K), false), (.ref (v_C_OtherBoard K), false), (.ref (v_C_SameSetting K), false), (.ref (v_C_InvalidSizes K), false), (.ref (v_C_InvalidFacts K), false), (.ref (v_C_InvalidOrder K), false), (.ref (v_C_InvalidPeaks K), false), (.ref (v_C_InvalidWalks K), false), (.ref (v_C_InvalidRests K), false), (.ref (v_C_UnknownSetting K), false), (.ref (v_C_TooMany K), false), (.ref (v_C_Broken K), false), (.ref (v_C_NothingToUndo K), false)] : List (Value × Bool)).all fun p => PySem.W.kitOne K (.ref (v_C_InvalidText K)) p.1 == some p.2) = true)
def q_228 : PySem.W.Frag → Bool := fun K => decide ((([(.ref (v_C_WrongValue K), true), (.type "ValueError", true), (.ref (v_C_WrongName K), false), (.type "LookupError", false), (.ref (v_C_NotPossible K), false), (.type "ArithmeticError", false), (.ref (v_C_InvalidText K), false), (.ref (v_C_InvalidPart K), true), (.ref (v_C_InvalidSquare K), false), (.ref (v_C_InvalidFact K), false), (.ref (v_C_InvalidIndex K), false), (.ref (v_C_InvalidWish K), false), (.ref (v_C_InvalidCommand K), false), (.ref (v_C_NotABoard K), false), (.ref (v_C_NotNotes K), false), (.ref (v_C_NotARanking K), false), (.ref (v_C_OtherBoard K), false), (.ref (v_C_SameSetting K), false), (.ref (v_C_InvalidSizes K), false), (.ref (v_C_InvalidFacts K), false), (.ref (v_C_InvalidOrder K), false), (.ref (v_C_InvalidPeaks K), false), (.ref (v_C_InvalidWalks K), false), (.ref (v_C_InvalidRests K), false), (.ref (v_C_UnknownSetting K), false), (.ref (v_C_TooMany K), false), (.ref (v_C_Broken K), false), (.ref (v_C_NothingToUndo K), false)] : List (Value × Bool)).all fun p => PySem.W.kitOne K (.ref (v_C_InvalidPart K)) p.1 == some p.2) = true)
def q_229 : PySem.W.Frag → Bool := fun K => decide ((([(.ref (v_C_WrongValue K), true), (.type "ValueError", true), (.ref (v_C_WrongName K), false), (.type "LookupError", false), (.ref (v_C_NotPossible K), false), (.type "ArithmeticError", false), (.ref (v_C_InvalidText K), false), (.ref (v_C_InvalidPart K), false), (.ref (v_C_InvalidSquare K), true), (.ref (v_C_InvalidFact K), false), (.ref (v_C_InvalidIndex K), false), (.ref (v_C_InvalidWish K), false), (.ref (v_C_InvalidCommand K), false), (.ref (v_C_NotABoard K), false), (.ref (v_C_NotNotes K), false), (.ref (v_C_NotARanking K), false), (.ref (v_C_OtherBoard K), false), (.ref (v_C_SameSetting K), false), (.ref (v_C_InvalidSizes K), false), (.ref (v_C_InvalidFacts K), false), (.ref (v_C_InvalidOrder K), false), (.ref (v_C_InvalidPeaks K), false), (.ref (v_C_InvalidWalks K), false), (.ref (v_C_InvalidRests K), false), (.ref (v_C_UnknownSetting K), false), (.ref (v_C_TooMany K), false), (.ref (v_C_Broken K), false), (.ref (v_C_NothingToUndo K), false)] : List (Value × Bool)).all fun p => PySem.W.kitOne K (.ref (v_C_InvalidSquare K)) p.1 == some p.2) = true)
def q_230 : PySem.W.Frag → Bool := fun K => decide ((([(.ref (v_C_WrongValue K), true), (.type "ValueError", true), (.ref (v_C_WrongName K), false), (.type "LookupError", false), (.ref (v_C_NotPossible K), false), (.type "ArithmeticError", false), (.ref (v_C_InvalidText K), false), (.ref (v_C_InvalidPart K), false), (.ref (v_C_InvalidSquare K), false), (.ref (v_C_InvalidFact K), true), (.ref (v_C_InvalidIndex K), false), (.ref (v_C_InvalidWish K), false), (.ref (v_C_InvalidCommand K), false), (.ref (v_C_NotABoard K), false), (.ref (v_C_NotNotes K), false), (.ref (v_C_NotARanking K), false), (.ref (v_C_OtherBoard K), false), (.ref (v_C_SameSetting K), false), (.ref (v_C_InvalidSizes K), false), (.ref (v_C_InvalidFacts K), false), (.ref (v_C_InvalidOrder K), false), (.ref (v_C_InvalidPeaks K), false), (.ref (v_C_InvalidWalks K), false), (.ref (v_C_InvalidRests K), false), (.ref (v_C_UnknownSetting K), false), (.ref (v_C_TooMany K), false), (.ref (v_C_Broken K), false), (.ref (v_C_NothingToUndo K), false)] : List (Value × Bool)).all fun p => PySem.W.kitOne K (.ref (v_C_InvalidFact K)) p.1 == some p.2) = true)
def q_231 : PySem.W.Frag → Bool := fun K => decide ((([(.ref (v_C_WrongValue K), true), (.type "ValueError", true), (.ref (v_C_WrongName K), false), (.type "LookupError", false), (.ref (v_C_NotPossible K), false), (.type "ArithmeticError", false), (.ref (v_C_InvalidText K), false), (.ref (v_C_InvalidPart K), false), (.ref (v_C_InvalidSquare K), false), (.ref (v_C_InvalidFact K), false), (.ref (v_C_InvalidIndex K), true), (.ref (v_C_InvalidWish K), false), (.ref (v_C_InvalidCommand K), false), (.ref (v_C_NotABoard K), false), (.ref (v_C_NotNotes K), false), (.ref (v_C_NotARanking K), false), (.ref (v_C_OtherBoard K), false), (.ref (v_C_SameSetting K), false), (.ref (v_C_InvalidSizes K), false), (.ref (v_C_InvalidFacts K), false), (.ref (v_C_InvalidOrder K), false), (.ref (v_C_InvalidPeaks K), false), (.ref (v_C_InvalidWalks K), false), (.ref (v_C_InvalidRests K), false), (.ref (v_C_UnknownSetting K), false), (.ref (v_C_TooMany K), false), (.ref (v_C_Broken K), false), (.ref (v_C_NothingToUndo K), false)] : List (Value × Bool)).all fun p => PySem.W.kitOne K (.ref (v_C_InvalidIndex K)) p.1 == some p.2) = true)
def q_232 : PySem.W.Frag → Bool := fun K => decide ((([(.ref (v_C_WrongValue K), true), (.type "ValueError", true), (.ref (v_C_WrongName K), false), (.type "LookupError", false), (.ref (v_C_NotPossible K), false), (.type "ArithmeticError", false), (.ref (v_C_InvalidText K), false), (.ref (v_C_InvalidPart K), false), (.ref (v_C_InvalidSquare K), false), (.ref (v_C_InvalidFact K), false), (.ref (v_C_InvalidIndex K), false), (.ref (v_C_InvalidWish K), true), (.ref (v_C_InvalidCommand K), false), (.ref (v_C_NotABoard K), false), (.ref (v_C_NotNotes K), false), (.ref (v_C_NotARanking K), false), (.ref (v_C_OtherBoard K), false), (.ref (v_C_SameSetting K), false), (.ref (v_C_InvalidSizes K), false), (.ref (v_C_InvalidFacts K), false), (.ref (v_C_InvalidOrder K), false), (.ref (v_C_InvalidPeaks K), false), (.ref (v_C_InvalidWalks K), false), (.ref (v_C_InvalidRests K), false), (.ref (v_C_UnknownSetting K), false), (.ref (v_C_TooMany K), false), (.ref (v_C_Broken K), false), (.ref (v_C_NothingToUndo K), false)] : List (Value × Bool)).all fun p => PySem.W.kitOne K (.ref (v_C_InvalidWish K)) p.1 == some p.2) = true)
def q_233 : PySem.W.Frag → Bool := fun K => decide ((([(.ref (v_C_WrongValue K), true), (.type "ValueError", true), (.ref (v_C_WrongName K), false), (.type "LookupError", false), (.ref (v_C_NotPossible K), false), (.type "ArithmeticError", false), (.ref (v_C_InvalidText K), false), (.ref (v_C_InvalidPart K), false), (.ref (v_C_InvalidSquare K), false), (.ref (v_C_InvalidFact K), false), (.ref (v_C_InvalidIndex K), false), (.ref (v_C_InvalidWish K), false), (.ref (v_C_InvalidCommand K), true), (.ref (v_C_NotABoard K), false), (.ref (v_C_NotNotes K), false), (.ref (v_C_NotARanking K), false), (.ref (v_C_OtherBoard K), false), (.ref (v_C_SameSetting K), false), (.ref (v_C_InvalidSizes K), false), (.ref (v_C_InvalidFacts K), false), (.ref (v_C_InvalidOrder K), false), (.ref (v_C_InvalidPeaks K), false), (.ref (v_C_InvalidWalks K), false), (.ref (v_C_InvalidRests K), false), (.ref (v_C_UnknownSetting K), false), (.ref (v_C_TooMany K), false), (.ref (v_C_Broken K), false), (.ref (v_C_NothingToUndo K), false)] : List (Value × Bool)).all fun p => PySem.W.kitOne K (.ref (v_C_InvalidCommand K)) p.1 == some p.2) = true)
def q_234 : PySem.W.Frag → Bool := fun K => decide ((([(.ref (v_C_WrongValue K), true), (.type "ValueError", true), (.ref (v_C_WrongName K), false), (.type "LookupError", false), (.ref (v_C_NotPossible K), false), (.type "ArithmeticError", false), (.ref (v_C_InvalidText K), false), (.ref (v_C_InvalidPart K), false), (.ref (v_C_InvalidSquare K), false), (.ref (v_C_InvalidFact K), false), (.ref (v_C_InvalidIndex K), false), (.ref (v_C_InvalidWish K), false), (.ref (v_C_InvalidCommand K), false), (.ref (v_C_NotABoard K), true), (.ref (v_C_NotNotes K), false), (.ref (v_C_NotARanking K), false), (.ref (v_C_OtherBoard K), false), (.ref (v_C_SameSetting K), false), (.ref (v_C_InvalidSizes K), false), (.ref (v_C_InvalidFacts K), false), (.ref (v_C_InvalidOrder K), false), (.ref (v_C_InvalidPeaks K), false), (.ref (v_C_InvalidWalks K), false), (.ref (v_C_InvalidRests K), false), (.ref (v_C_UnknownSetting K), false), (.ref (v_C_TooMany K), false), (.ref (v_C_Broken K), false), (.ref (v_C_NothingToUndo K), false)] : List (Value × Bool)).all fun p => PySem.W.kitOne K (.ref (v_C_NotABoard K)) p.1 == some p.2) = true)
def q_235 : PySem.W.Frag → Bool := fun K => decide ((([(.ref (v_C_WrongValue K), true), (.type "ValueError", true), (.ref (v_C_WrongName K), false), (.type "LookupError", false), (.ref (v_C_NotPossible K), false), (.type "ArithmeticError", false), (.ref (v_C_InvalidText K), false), (.ref (v_C_InvalidPart K), false), (.ref (v_C_InvalidSquare K), false), (.ref (v_C_InvalidFact K), false), (.ref (v_C_InvalidIndex K), false), (.ref (v_C_InvalidWish K), false), (.ref (v_C_InvalidCommand K), false), (.ref (v_C_NotABoard K), false), (.ref (v_C_NotNotes K), true), (.ref (v_C_NotARanking K), false), (.ref (v_C_OtherBoard K), false), (.ref (v_C_SameSetting K), false), (.ref (v_C_InvalidSizes K), false), (.ref (v_C_InvalidFacts K), false), (.ref (v_C_InvalidOrder K), false), (.ref (v_C_InvalidPeaks K), false), (.ref (v_C_InvalidWalks K), false), (.ref (v_C_InvalidRests K), false), (.ref (v_C_UnknownSetting K), false), (.ref (v_C_TooMany K), false), (.ref (v_C_Broken K), false), (.ref (v_C_NothingToUndo K), false)] : List (Value × Bool)).all fun p => PySem.W.kitOne K (.ref (v_C_NotNotes K)) p.1 == some p.2) = true)
def q_236 : PySem.W.Frag → Bool := fun K => decide ((([(.ref (v_C_WrongValue K), true), (.type "ValueError", true), (.ref (v_C_WrongName K), false), (.type "LookupError", false), (.ref (v_C_NotPossible K), false), (.type "ArithmeticError", false), (.ref (v_C_InvalidText K), false), (.ref (v_C_InvalidPart K), false), (.ref (v_C_InvalidSquare K), false), (.ref (v_C_InvalidFact K), false), (.ref (v_C_InvalidIndex K), false), (.ref (v_C_InvalidWish K), false), (.ref (v_C_InvalidCommand K), false), (.ref (v_C_NotABoard K), false), (.ref (v_C_NotNotes K), false), (.ref (v_C_NotARanking K), true), (.ref (v_C_OtherBoard K), false), (.ref (v_C_SameSetting K), false), (.ref (v_C_InvalidSizes K), false), (.ref (v_C_InvalidFacts K), false), (.ref (v_C_InvalidOrder K), false), (.ref (v_C_InvalidPeaks K), false), (.ref (v_C_InvalidWalks K), false), (.ref (v_C_InvalidRests K), false), (.ref (v_C_UnknownSetting K), false), (.ref (v_C_TooMany K), false), (.ref (v_C_Broken K), false), (.ref (v_C_NothingToUndo K), false)] : List (Value × Bool)).all fun p => PySem.W.kitOne K (.ref (v_C_NotARanking K)) p.1 == some p.2) = true)
def q_237 : PySem.W.Frag → Bool := fun K => decide ((([(.ref (v_C_WrongValue K), true), (.type "ValueError", true), (.ref (v_C_WrongName K), false), (.type "LookupError", false), (.ref (v_C_NotPossible K), false), (.type "ArithmeticError", false), (.ref (v_C_InvalidText K), false), (.ref (v_C_InvalidPart K), false), (.ref (v_C_InvalidSquare K), false), (.ref (v_C_InvalidFact K), false), (.ref (v_C_InvalidIndex K), false), (.ref (v_C_InvalidWish K), false), (.ref (v_C_InvalidCommand K), false), (.ref (v_C_NotABoard K), false), (.ref (v_C_NotNotes K), false), (.ref (v_C_NotARanking K), false), (.ref (v_C_OtherBoard K), true), (.ref (v_C_SameSetting K), false), (.ref (v_C_InvalidSizes K), false), (.ref (v_C_InvalidFacts K), false), (.ref (v_C_InvalidOrder K), false), (.ref (v_C_InvalidPeaks K), false), (.ref (v_C_InvalidWalks K), false), (.ref (v_C_InvalidRests K), false), (.ref (v_C_UnknownSetting K), false), (.ref (v_C_TooMany K), false), (.ref (v_C_Broken K), false), (.ref (v_C_NothingToUndo K), false)] : List (Value × Bool)).all fun p => PySem.W.kitOne K (.ref (v_C_OtherBoard K)) p.1 == some p.2) = true)
def q_238 : PySem.W.Frag → Bool := fun K => decide ((([(.ref (v_C_WrongValue K), true), (.type "ValueError", true), (.ref (v_C_WrongName K), false), (.type "LookupError", false), (.ref (v_C_NotPossible K), false), (.type "ArithmeticError", false), (.ref (v_C_InvalidText K), false), (.ref (v_C_InvalidPart K), false), (.ref (v_C_InvalidSquare K), false), (.ref (v_C_InvalidFact K), false), (.ref (v_C_InvalidIndex K), false), (.ref (v_C_InvalidWish K), false), (.ref (v_C_InvalidCommand K), false), (.ref (v_C_NotABoard K), false), (.ref (v_C_NotNotes K), false), (.ref (v_C_NotARanking K), false), (.ref (v_C_OtherBoard K), false), (.ref (v_C_SameSetting K), true), (.ref (v_C_InvalidSizes K), false), (.ref (v_C_InvalidFacts K), false), (.ref (v_C_InvalidOrder K), false), (.ref (v_C_InvalidPeaks K), false), (.ref (v_C_InvalidWalks K), false), (.ref (v_C_InvalidRests K), false), (.ref (v_C_UnknownSetting K), false), (.ref (v_C_TooMany K), false), (.ref (v_C_Broken K), false), (.ref (v_C_NothingToUndo K), false)] : List (Value × Bool)).all fun p => PySem.W.kitOne K (.ref (v_C_SameSetting K)) p.1 == some p.2) = true)
def q_239 : PySem.W.Frag → Bool := fun K => decide ((([(.ref (v_C_WrongValue K), true), (.type "ValueError", true), (.ref (v_C_WrongName K), false), (.type "LookupError", false), (.ref (v_C_NotPossible K), false), (.type "ArithmeticError", false), (.ref (v_C_InvalidText K), false), (.ref (v_C_InvalidPart K), false), (.ref (v_C_InvalidSquare K), false), (.ref (v_C_InvalidFact K), false), (.ref (v_C_InvalidIndex K), false), (.ref (v_C_InvalidWish K), false), (.ref (v_C_InvalidCommand K), false), (.ref (v_C_NotABoard K), false), (.ref (v_C_NotNotes K), false), (.ref (v_C_NotARanking K), false), (.ref (v_C_OtherBoard K), false), (.ref (v_C_SameSetting K), false), (.ref (v_C_InvalidSizes K), true), (.ref (v_C_InvalidFacts K), false), (.ref (v_C_InvalidOrder K), false), (.ref (v_C_InvalidPeaks K), false), (.ref (v_C_InvalidWalks K), false), (.ref (v_C_InvalidRests K), false), (.ref (v_C_UnknownSetting K), false), (.ref (v_C_TooMany K), false), (.ref (v_C_Broken K), false), (.ref (v_C_NothingToUndo K), false)] : List (Value × Bool)).all fun p => PySem.W.kitOne K (.ref (v_C_InvalidSizes K)) p.1 == some p.2) = true)
def q_240 : PySem.W.Frag → Bool := fun K => decide ((([(.ref (v_C_WrongValue K), true), (.type "ValueError", true), (.ref (v_C_WrongName K), false), (.type "LookupError", false), (.ref (v_C_NotPossible K), false), (.type "ArithmeticError", false), (.ref (v_C_InvalidText K), false), (.ref (v_C_InvalidPart K), false), (.ref (v_C_InvalidSquare K), false), (.ref (v_C_InvalidFact K), false), (.ref (v_C_InvalidIndex K), false), (.ref (v_C_InvalidWish K), false), (.ref (v_C_InvalidCommand K), false), (.ref (v_C_NotABoard K), false), (.ref (v_C_NotNotes K), false), (.ref (v_C_NotARanking K), false), (.ref (v_C_OtherBoard K), false), (.ref (v_C_SameSetting K), false), (.ref (v_C_InvalidSizes K), false), (.ref (v_C_InvalidFacts K), true), (.ref (v_C_InvalidOrder K), false), (.ref (v_C_InvalidPeaks K), false), (.ref (v_C_InvalidWalks K), false), (.ref (v_C_InvalidRests K), false), (.ref (v_C_UnknownSetting K), false), (.ref (v_C_TooMany K), false), (.ref (v_C_Broken K), false), (.ref (v_C_NothingToUndo K), false)] : List (Value × Bool)).all fun p => PySem.W.kitOne K (.ref (v_C_InvalidFacts K)) p.1 == some p.2) = true)
def q_241 : PySem.W.Frag → Bool := fun K => decide ((([(.ref (v_C_WrongValue K), true), (.type "ValueError", true), (.ref (v_C_WrongName K), false), (.type "LookupError", false), (.ref (v_C_NotPossible K), false), (.type "ArithmeticError", false), (.ref (v_C_InvalidText K), false), (.ref (v_C_InvalidPart K), false), (.ref (v_C_InvalidSquare K), false), (.ref (v_C_InvalidFact K), false), (.ref (v_C_InvalidIndex K), false), (.ref (v_C_InvalidWish K), false), (.ref (v_C_InvalidCommand K), false), (.ref (v_C_NotABoard K), false), (.ref (v_C_NotNotes K), false), (.ref (v_C_NotARanking K), false), (.ref (v_C_OtherBoard K), false), (.ref (v_C_SameSetting K), false), (.ref (v_C_InvalidSizes K), false), (.ref (v_C_InvalidFacts K), false), (.ref (v_C_InvalidOrder K), true), (.ref (v_C_InvalidPeaks K), false), (.ref (v_C_InvalidWalks K), false), (.ref (v_C_InvalidRests K), false), (.ref (v_C_UnknownSetting K), false), (.ref (v_C_TooMany K), false), (.ref (v_C_Broken K), false), (.ref (v_C_NothingToUndo K), false)] : List (Value × Bool)).all fun p => PySem.W.kitOne K (.ref (v_C_InvalidOrder K)) p.1 == some p.2) = true)
def q_242 : PySem.W.Frag → Bool := fun K => decide ((([(.ref (v_C_WrongValue K), true), (.type "ValueError", true), (.ref (v_C_WrongName K), false), (.type "LookupError", false), (.ref (v_C_NotPossible K), false), (.type "ArithmeticError", false), (.ref (v_C_InvalidText K), false), (.ref (v_C_InvalidPart K), false), (.ref (v_C_InvalidSquare K), false), (.ref (v_C_InvalidFact K), false), (.ref (v_C_InvalidIndex K), false), (.ref (v_C_InvalidWish K), false), (.ref (v_C_InvalidCommand K), false), (.ref (v_C_NotABoard K), false), (.ref (v_C_NotNotes K), false), (.ref (v_C_NotARanking K), false), (.ref (v_C_OtherBoard K), false), (.ref (v_C_SameSetting K), false), (.ref (v_C_InvalidSizes K), false), (.ref (v_C_InvalidFacts K), false), (.ref (v_C_InvalidOrder K), false), (.ref (v_C_InvalidPeaks K), true), (.ref (v_C_InvalidWalks K), false), (.ref (v_C_InvalidRests K), false), (.ref (v_C_UnknownSetting K), false), (.ref (v_C_TooMany K), false), (.ref (v_C_Broken K), false), (.ref (v_C_NothingToUndo K), false)] : List (Value × Bool)).all fun p => PySem.W.kitOne K (.ref (v_C_InvalidPeaks K)) p.1 == some p.2) = true)
def q_243 : PySem.W.Frag → Bool := fun K => decide ((([(.ref (v_C_WrongValue K), true), (.type "ValueError", true), (.ref (v_C_WrongName K), false), (.type "LookupError", false), (.ref (v_C_NotPossible K), false), (.type "ArithmeticError", false), (.ref (v_C_InvalidText K), false), (.ref (v_C_InvalidPart K), false), (.ref (v_C_InvalidSquare K), false), (.ref (v_C_InvalidFact K), false), (.ref (v_C_InvalidIndex K), false), (.ref (v_C_InvalidWish K), false), (.ref (v_C_InvalidCommand K), false), (.ref (v_C_NotABoard K), false), (.ref (v_C_NotNotes K), false), (.ref (v_C_NotARanking K), false), (.ref (v_C_OtherBoard K), false), (.ref (v_C_SameSetting K), false), (.ref (v_C_InvalidSizes K), false), (.ref (v_C_InvalidFacts K), false), (.ref (v_C_InvalidOrder K), false), (.ref (v_C_InvalidPeaks K), false), (.ref (v_C_InvalidWalks K), true), (.ref (v_C_InvalidRests K), false), (.ref (v_C_UnknownSetting K), false), (.ref (v_C_TooMany K), false), (.ref (v_C_Broken K), false), (.ref (v_C_NothingToUndo K), false)] : List (Value × Bool)).all fun p => PySem.W.kitOne K (.ref (v_C_InvalidWalks K)) p.1 == some p.2) = true)
def q_244 : PySem.W.Frag → Bool := fun K => decide ((([(.ref (v_C_WrongValue K), true), (.type "ValueError", true), (.ref (v_C_WrongName K), false), (.type "LookupError", false), (.ref (v_C_NotPossible K), false), (.type "ArithmeticError", false), (.ref (v_C_InvalidText K), false), (.ref (v_C_InvalidPart K), false), (.ref (v_C_InvalidSquare K), false), (.ref (v_C_InvalidFact K), false), (.ref (v_C_InvalidIndex K), false), (.ref (v_C_InvalidWish K), false), (.ref (v_C_InvalidCommand K), false), (.ref (v_C_NotABoard K), false), (.ref (v_C_NotNotes K), false), (.ref (v_C_NotARanking K), false), (.ref (v_C_OtherBoard K), false), (.ref (v_C_SameSetting K), false), (.ref (v_C_InvalidSizes K), false), (.ref (v_C_InvalidFacts K), false), (.ref (v_C_InvalidOrder K), false), (.ref (v_C_InvalidPeaks K), false), (.ref (v_C_InvalidWalks K), false), (.ref (v_C_InvalidRests K), true), (.ref (v_C_UnknownSetting K), false), (.ref (v_C_TooMany K), false), (.ref (v_C_Broken K), false), (.ref (v_C_NothingToUndo K), false)] : List (Value × Bool)).all fun p => PySem.W.kitOne K (.ref (v_C_InvalidRests K)) p.1 == some p.2) = true)
def q_245 : PySem.W.Frag → Bool := fun K => decide ((([(.ref (v_C_WrongValue K), false), (.type "ValueError", false), (.ref (v_C_WrongName K), true), (.type "LookupError", true), (.ref (v_C_NotPossible K), false), (.type "ArithmeticError", false), (.ref (v_C_InvalidText K), false), (.ref (v_C_InvalidPart K), false), (.ref (v_C_InvalidSquare K), false), (.ref (v_C_InvalidFact K), false), (.ref (v_C_InvalidIndex K), false), (.ref (v_C_InvalidWish K), false), (.ref (v_C_InvalidCommand K), false), (.ref (v_C_NotABoard K), false), (.ref (v_C_NotNotes K), false), (.ref (v_C_NotARanking K), false), (.ref (v_C_OtherBoard K), false), (.ref (v_C_SameSetting K), false), (.ref (v_C_InvalidSizes K), false), (.ref (v_C_InvalidFacts K), false), (.ref (v_C_InvalidOrder K), false), (.ref (v_C_InvalidPeaks K), false), (.ref (v_C_InvalidWalks K), false), (.ref (v_C_InvalidRests K), false), (.ref (v_C_UnknownSetting K), true), (.ref (v_C_TooMany K), false), (.ref (v_C_Broken K), false), (.ref (v_C_NothingToUndo K), false)] : List (Value × Bool)).all fun p => PySem.W.kitOne K (.ref (v_C_UnknownSetting K)) p.1 == some p.2) = true)
def q_246 : PySem.W.Frag → Bool := fun K => decide ((([(.ref (v_C_WrongValue K), false), (.type "ValueError", false), (.ref (v_C_WrongName K), false), (.type "LookupError", false), (.ref (v_C_NotPossible K), true), (.type "ArithmeticError", true), (.ref (v_C_InvalidText K), false), (.ref (v_C_InvalidPart K), false), (.ref (v_C_InvalidSquare K), false), (.ref (v_C_InvalidFact K), false), (.ref (v_C_InvalidIndex K), false), (.ref (v_C_InvalidWish K), false), (.ref (v_C_InvalidCommand K), false), (.ref (v_C_NotABoard K), false), (.ref (v_C_NotNotes K), false), (.ref (v_C_NotARanking K), false), (.ref (v_C_OtherBoard K), false), (.ref (v_C_SameSetting K), false), (.ref (v_C_InvalidSizes K), false), (.ref (v_C_InvalidFacts K), false), (.ref (v_C_InvalidOrder K), false), (.ref (v_C_InvalidPeaks K), false), (.ref (v_C_InvalidWalks K), false), (.ref (v_C_InvalidRests K), false), (.ref (v_C_UnknownSetting K), false), (.ref (v_C_TooMany K), true), (.ref (v_C_Broken K), false), (.ref (v_C_NothingToUndo K), false)] : List (Value × Bool)).all fun p => PySem.W.kitOne K (.ref (v_C_TooMany K)) p.1 == some p.2) = true)
def q_247 : PySem.W.Frag → Bool := fun K => decide ((([(.ref (v_C_WrongValue K), false), (.type "ValueError", false), (.ref (v_C_WrongName K), false), (.type "LookupError", false), (.ref (v_C_NotPossible K), true), (.type "ArithmeticError", true), (.ref (v_C_InvalidText K), false), (.ref (v_C_InvalidPart K), false), (.ref (v_C_InvalidSquare K), false), (.ref (v_C_InvalidFact K), false), (.ref (v_C_InvalidIndex K), false), (.ref (v_C_InvalidWish K), false), (.ref (v_C_InvalidCommand K), false), (.ref (v_C_NotABoard K), false), (.ref (v_C_NotNotes K), false), (.ref (v_C_NotARanking K), false), (.ref (v_C_OtherBoard K), false), (.ref (v_C_SameSetting K), false), (.ref (v_C_InvalidSizes K), false), (.ref (v_C_InvalidFacts K), false), (.ref (v_C_InvalidOrder K), false), (.ref (v_C_InvalidPeaks K), false), (.ref (v_C_InvalidWalks K), false), (.ref (v_C_InvalidRests K), false), (.ref (v_C_UnknownSetting K), false), (.ref (v_C_TooMany K), false), (.ref (v_C_Broken K), true), (.ref (v_C_NothingToUndo K), false)] : List (Value × Bool)).all fun p => PySem.W.kitOne K (.ref (v_C_Broken K)) p.1 == some p.2) = true)
def q_248 : PySem.W.Frag → Bool := fun K => decide ((([(.ref (v_C_WrongValue K), true), (.type "ValueError", true), (.ref (v_C_WrongName K), false), (.type "LookupError", false), (.ref (v_C_NotPossible K), false), (.type "ArithmeticError", false), (.ref (v_C_InvalidText K), false), (.ref (v_C_InvalidPart K), false), (.ref (v_C_InvalidSquare K), false), (.ref (v_C_InvalidFact K), false), (.ref (v_C_InvalidIndex K), false), (.ref (v_C_InvalidWish K), false), (.ref (v_C_InvalidCommand K), false), (.ref (v_C_NotABoard K), false), (.ref (v_C_NotNotes K), false), (.ref (v_C_NotARanking K), false), (.ref (v_C_OtherBoard K), false), (.ref (v_C_SameSetting K), false), (.ref (v_C_InvalidSizes K), false), (.ref (v_C_InvalidFacts K), false), (.ref (v_C_InvalidOrder K), false), (.ref (v_C_InvalidPeaks K), false), (.ref (v_C_InvalidWalks K), false), (.ref (v_C_InvalidRests K), false), (.ref (v_C_UnknownSetting K), false), (.ref (v_C_TooMany K), false), (.ref (v_C_Broken K), false), (.ref (v_C_NothingToUndo K), false)] : List (Value × Bool)).all fun p => PySem.W.kitOne K (.ref (v_C_WrongValue K)) p.1 == some p.2) = true)
def q_249 : PySem.W.Frag → Bool := fun K => decide ((([(.ref (v_C_WrongValue K), false), (.type "ValueError", false), (.ref (v_C_WrongName K), true), (.type "LookupError", true), (.ref (v_C_NotPossible K), false), (.type "ArithmeticError", false), (.ref (v_C_InvalidText K), false), (.ref (v_C_InvalidPart K), false), (.ref (v_C_InvalidSquare K), false), (.ref (v_C_InvalidFact K), false), (.ref (v_C_InvalidIndex K), false), (.ref (v_C_InvalidWish K), false), (.ref (v_C_InvalidCommand K), false), (.ref (v_C_NotABoard K), false), (.ref (v_C_NotNotes K), false), (.ref (v_C_NotARanking K), false), (.ref (v_C_OtherBoard K), false), (.ref (v_C_SameSetting K), false), (.ref (v_C_InvalidSizes K), false), (.ref (v_C_InvalidFacts K), false), (.ref (v_C_InvalidOrder K), false), (.ref (v_C_InvalidPeaks K), false), (.ref (v_C_InvalidWalks K), false), (.ref (v_C_InvalidRests K), false), (.ref (v_C_UnknownSetting K), false), (.ref (v_C_TooMany K), false), (.ref (v_C_Broken K), false), (.ref (v_C_NothingToUndo K), false)] : List (Value × Bool)).all fun p => PySem.W.kitOne K (.ref (v_C_WrongName K)) p.1 == some p.2) = true)
def q_250 : PySem.W.Frag → Bool := fun K => decide ((([(.ref (v_C_WrongValue K), false), (.type "ValueError", false), (.ref (v_C_WrongName K), false), (.type "LookupError", false), (.ref (v_C_NotPossible K), true), (.type "ArithmeticError", true), (.ref (v_C_InvalidText K), false), (.ref (v_C_InvalidPart K), false), (.ref (v_C_InvalidSquare K), false), (.ref (v_C_InvalidFact K), false), (.ref (v_C_InvalidIndex K), false), (.ref (v_C_InvalidWish K), false), (.ref (v_C_InvalidCommand K), false), (.ref (v_C_NotABoard K), false), (.ref (v_C_NotNotes K), false), (.ref (v_C_NotARanking K), false), (.ref (v_C_OtherBoard K), false), (.ref (v_C_SameSetting K), false), (.ref (v_C_InvalidSizes K), false), (.ref (v_C_InvalidFacts K), false), (.ref (v_C_InvalidOrder K), false), (.ref (v_C_InvalidPeaks K), false), (.ref (v_C_InvalidWalks K), false), (.ref (v_C_InvalidRests K), false), (.ref (v_C_UnknownSetting K), false), (.ref (v_C_TooMany K), false), (.ref (v_C_Broken K), false), (.ref (v_C_NothingToUndo K), false)] : List (Value × Bool)).all fun p => PySem.W.kitOne K (.ref (v_C_NotPossible K)) p.1 == some p.2) = true)
def q_251 : PySem.W.Frag → Bool := fun K => decide ((([(.ref (v_C_WrongValue K), false), (.type "ValueError", false), (.ref (v_C_WrongName K), false), (.type "LookupError", false), (.ref (v_C_NotPossible K), true), (.type "ArithmeticError", true), (.ref (v_C_InvalidText K), false), (.ref (v_C_InvalidPart K), false), (.ref (v_C_InvalidSquare K), false), (.ref (v_C_InvalidFact K), false), (.ref (v_C_InvalidIndex K), false), (.ref (v_C_InvalidWish K), false), (.ref (v_C_InvalidCommand K), false), (.ref (v_C_NotABoard K), false), (.ref (v_C_NotNotes K), false), (.ref (v_C_NotARanking K), false), (.ref (v_C_OtherBoard K), false), (.ref (v_C_SameSetting K), false), (.ref (v_C_InvalidSizes K), false), (.ref (v_C_InvalidFacts K), false), (.ref (v_C_InvalidOrder K), false), (.ref (v_C_InvalidPeaks K), false), (.ref (v_C_InvalidWalks K), false), (.ref (v_C_InvalidRests K), false), (.ref (v_C_UnknownSetting K), false), (.ref (v_C_TooMany K), false), (.ref (v_C_Broken K), false), (.ref (v_C_NothingToUndo K), true)] : List (Value × Bool)).all fun p => PySem.W.kitOne K (.ref (v_C_NothingToUndo K)) p.1 == some p.2) = true)
def q_252 : PySem.W.Frag → Bool := fun K => decide (PySem.W.nsIn K mainGlobals "InvalidText" = some (some (.ref (v_C_InvalidText K))))
def q_253 : PySem.W.Frag → Bool := fun K => decide (PySem.W.excInitIn K (v_C_InvalidText K) [.type "ValueError", .type "Exception", .type "BaseException", .type "object"] "ValueError.__new__" = true)
def q_254 : PySem.W.Frag → Bool := fun K => decide (PySem.W.hasDictIn K (v_C_InvalidText K) = true)
def q_255 : PySem.W.Frag → Bool := fun K => decide (PySem.W.findIn K (.ref (v_C_InvalidText K)) "__setattr__" = some (some (.builtin "object.__setattr__")))
def q_256 : PySem.W.Frag → Bool := fun K => decide (PySem.W.takerIn K (v_C_InvalidText K) "given" = some none)
def q_257 : PySem.W.Frag → Bool := fun K => decide (PySem.W.findIn K (.ref (v_C_InvalidText K)) "__init__" = some (some (.ref (v_i_InvalidText K))))
def q_258 : PySem.W.Frag → Bool := fun K => decide (PySem.W.typeIn K (.ref (v_i_InvalidText K)) = some (.type "function"))
def q_259 : PySem.W.Frag → Bool := fun K => decide (PySem.W.keepIn K (.ref (v_C_InvalidText K)) = true)
def q_260 : PySem.W.Frag → Bool := fun K => decide (PySem.W.subIn K (.ref (v_C_InvalidText K)) (.type "BaseException") = some true)
def q_261 : PySem.W.Frag → Bool := fun K => decide (PySem.W.typeIn K (.ref (v_C_InvalidText K)) = some (.type "type"))
def q_262 : PySem.W.Frag → Bool := fun K => decide (ExL.kwB K (v_i_InvalidText K) = true)
def q_263 : PySem.W.Frag → Bool := fun K => decide (PySem.W.nsIn K mainGlobals "InvalidPart" = some (some (.ref (v_C_InvalidPart K))))
def q_264 : PySem.W.Frag → Bool := fun K => decide (PySem.W.excInitIn K (v_C_InvalidPart K) [.type "ValueError", .type "Exception", .type "BaseException", .type "object"] "ValueError.__new__" = true)
def q_265 : PySem.W.Frag → Bool := fun K => decide (PySem.W.hasDictIn K (v_C_InvalidPart K) = true)
def q_266 : PySem.W.Frag → Bool := fun K => decide (PySem.W.findIn K (.ref (v_C_InvalidPart K)) "__setattr__" = some (some (.builtin "object.__setattr__")))
def q_267 : PySem.W.Frag → Bool := fun K => decide (PySem.W.takerIn K (v_C_InvalidPart K) "given" = some none)
def q_268 : PySem.W.Frag → Bool := fun K => decide (PySem.W.findIn K (.ref (v_C_InvalidPart K)) "__init__" = some (some (.ref (v_i_InvalidPart K))))
def q_269 : PySem.W.Frag → Bool := fun K => decide (PySem.W.typeIn K (.ref (v_i_InvalidPart K)) = some (.type "function"))
def q_270 : PySem.W.Frag → Bool := fun K => decide (PySem.W.keepIn K (.ref (v_C_InvalidPart K)) = true)
def q_271 : PySem.W.Frag → Bool := fun K => decide (PySem.W.subIn K (.ref (v_C_InvalidPart K)) (.type "BaseException") = some true)
def q_272 : PySem.W.Frag → Bool := fun K => decide (PySem.W.typeIn K (.ref (v_C_InvalidPart K)) = some (.type "type"))
def q_273 : PySem.W.Frag → Bool := fun K => decide (ExL.kwB K (v_i_InvalidPart K) = true)
def q_274 : PySem.W.Frag → Bool := fun K => decide (PySem.W.nsIn K mainGlobals "InvalidSquare" = some (some (.ref (v_C_InvalidSquare K))))
def q_275 : PySem.W.Frag → Bool := fun K => decide (PySem.W.excInitIn K (v_C_InvalidSquare K) [.type "ValueError", .type "Exception", .type "BaseException", .type "object"] "ValueError.__new__" = true)
def q_276 : PySem.W.Frag → Bool := fun K => decide (PySem.W.hasDictIn K (v_C_InvalidSquare K) = true)
def q_277 : PySem.W.Frag → Bool := fun K => decide (PySem.W.findIn K (.ref (v_C_InvalidSquare K)) "__setattr__" = some (some (.builtin "object.__setattr__")))
def q_278 : PySem.W.Frag → Bool := fun K => decide (PySem.W.takerIn K (v_C_InvalidSquare K) "given" = some none)
def q_279 : PySem.W.Frag → Bool := fun K => decide (PySem.W.findIn K (.ref (v_C_InvalidSquare K)) "__init__" = some (some (.ref (v_i_InvalidSquare K))))
def q_280 : PySem.W.Frag → Bool := fun K => decide (PySem.W.typeIn K (.ref (v_i_InvalidSquare K)) = some (.type "function"))
def q_281 : PySem.W.Frag → Bool := fun K => decide (PySem.W.keepIn K (.ref (v_C_InvalidSquare K)) = true)
def q_282 : PySem.W.Frag → Bool := fun K => decide (PySem.W.subIn K (.ref (v_C_InvalidSquare K)) (.type "BaseException") = some true)
def q_283 : PySem.W.Frag → Bool := fun K => decide (PySem.W.typeIn K (.ref (v_C_InvalidSquare K)) = some (.type "type"))
def q_284 : PySem.W.Frag → Bool := fun K => decide (ExL.kwB K (v_i_InvalidSquare K) = true)
def q_285 : PySem.W.Frag → Bool := fun K => decide (PySem.W.nsIn K mainGlobals "InvalidFact" = some (some (.ref (v_C_InvalidFact K))))
def q_286 : PySem.W.Frag → Bool := fun K => decide (PySem.W.excInitIn K (v_C_InvalidFact K) [.type "ValueError", .type "Exception", .type "BaseException", .type "object"] "ValueError.__new__" = true)
def q_287 : PySem.W.Frag → Bool := fun K => decide (PySem.W.hasDictIn K (v_C_InvalidFact K) = true)
def q_288 : PySem.W.Frag → Bool := fun K => decide (PySem.W.findIn K (.ref (v_C_InvalidFact K)) "__setattr__" = some (some (.builtin "object.__setattr__")))
def q_289 : PySem.W.Frag → Bool := fun K => decide (PySem.W.takerIn K (v_C_InvalidFact K) "given" = some none)
def q_290 : PySem.W.Frag → Bool := fun K => decide (PySem.W.findIn K (.ref (v_C_InvalidFact K)) "__init__" = some (some (.ref (v_i_InvalidFact K))))
def q_291 : PySem.W.Frag → Bool := fun K => decide (PySem.W.typeIn K (.ref (v_i_InvalidFact K)) = some (.type "function"))
def q_292 : PySem.W.Frag → Bool := fun K => decide (PySem.W.keepIn K (.ref (v_C_InvalidFact K)) = true)
def q_293 : PySem.W.Frag → Bool := fun K => decide (PySem.W.subIn K (.ref (v_C_InvalidFact K)) (.type "BaseException") = some true)
def q_294 : PySem.W.Frag → Bool := fun K => decide (PySem.W.typeIn K (.ref (v_C_InvalidFact K)) = some (.type "type"))
def q_295 : PySem.W.Frag → Bool := fun K => decide (ExL.kwB K (v_i_InvalidFact K) = true)
def q_296 : PySem.W.Frag → Bool := fun K => decide (PySem.W.nsIn K mainGlobals "InvalidIndex" = some (some (.ref (v_C_InvalidIndex K))))
def q_297 : PySem.W.Frag → Bool := fun K => decide (PySem.W.excInitIn K (v_C_InvalidIndex K) [.type "ValueError", .type "Exception", .type "BaseException", .type "object"] "ValueError.__new__" = true)
def q_298 : PySem.W.Frag → Bool := fun K => decide (PySem.W.hasDictIn K (v_C_InvalidIndex K) = true)
def q_299 : PySem.W.Frag → Bool := fun K => decide (PySem.W.findIn K (.ref (v_C_InvalidIndex K)) "__setattr__" = some (some (.builtin "object.__setattr__")))
def q_300 : PySem.W.Frag → Bool := fun K => decide (PySem.W.takerIn K (v_C_InvalidIndex K) "given" = some none)
def q_301 : PySem.W.Frag → Bool := fun K => decide (PySem.W.findIn K (.ref (v_C_InvalidIndex K)) "__init__" = some (some (.ref (v_i_InvalidIndex K))))
def q_302 : PySem.W.Frag → Bool := fun K => decide (PySem.W.typeIn K (.ref (v_i_InvalidIndex K)) = some (.type "function"))
def q_303 : PySem.W.Frag → Bool := fun K => decide (PySem.W.keepIn K (.ref (v_C_InvalidIndex K)) = true)
def q_304 : PySem.W.Frag → Bool := fun K => decide (PySem.W.subIn K (.ref (v_C_InvalidIndex K)) (.type "BaseException") = some true)
def q_305 : PySem.W.Frag → Bool := fun K => decide (PySem.W.typeIn K (.ref (v_C_InvalidIndex K)) = some (.type "type"))
def q_306 : PySem.W.Frag → Bool := fun K => decide (ExL.kwB K (v_i_InvalidIndex K) = true)
def q_307 : PySem.W.Frag → Bool := fun K => decide (PySem.W.nsIn K mainGlobals "InvalidWish" = some (some (.ref (v_C_InvalidWish K))))
def q_308 : PySem.W.Frag → Bool := fun K => decide (PySem.W.excInitIn K (v_C_InvalidWish K) [.type "ValueError", .type "Exception", .type "BaseException", .type "object"] "ValueError.__new__" = true)
def q_309 : PySem.W.Frag → Bool := fun K => decide (PySem.W.hasDictIn K (v_C_InvalidWish K) = true)
def q_310 : PySem.W.Frag → Bool := fun K => decide (PySem.W.findIn K (.ref (v_C_InvalidWish K)) "__setattr__" = some (some (.builtin "object.__setattr__")))
def q_311 : PySem.W.Frag → Bool := fun K => decide (PySem.W.takerIn K (v_C_InvalidWish K) "given" = some none)
def q_312 : PySem.W.Frag → Bool := fun K => decide (PySem.W.findIn K (.ref (v_C_InvalidWish K)) "__init__" = some (some (.ref (v_i_InvalidWish K))))
def q_313 : PySem.W.Frag → Bool := fun K => decide (PySem.W.typeIn K (.ref (v_i_InvalidWish K)) = some (.type "function"))
def q_314 : PySem.W.Frag → Bool := fun K => decide (PySem.W.keepIn K (.ref (v_C_InvalidWish K)) = true)
def q_315 : PySem.W.Frag → Bool := fun K => decide (PySem.W.subIn K (.ref (v_C_InvalidWish K)) (.type "BaseException") = some true)
def q_316 : PySem.W.Frag → Bool := fun K => decide (PySem.W.typeIn K (.ref (v_C_InvalidWish K)) = some (.type "type"))
def q_317 : PySem.W.Frag → Bool := fun K => decide (ExL.kwB K (v_i_InvalidWish K) = true)
def q_318 : PySem.W.Frag → Bool := fun K => decide (PySem.W.nsIn K mainGlobals "InvalidCommand" = some (some (.ref (v_C_InvalidCommand K))))
def q_319 : PySem.W.Frag → Bool := fun K => decide (PySem.W.excInitIn K (v_C_InvalidCommand K) [.type "ValueError", .type "Exception", .type "BaseException", .type "object"] "ValueError.__new__" = true)
def q_320 : PySem.W.Frag → Bool := fun K => decide (PySem.W.hasDictIn K (v_C_InvalidCommand K) = true)
def q_321 : PySem.W.Frag → Bool := fun K => decide (PySem.W.findIn K (.ref (v_C_InvalidCommand K)) "__setattr__" = some (some (.builtin "object.__setattr__")))
def q_322 : PySem.W.Frag → Bool := fun K => decide (PySem.W.takerIn K (v_C_InvalidCommand K) "given" = some none)
def q_323 : PySem.W.Frag → Bool := fun K => decide (PySem.W.findIn K (.ref (v_C_InvalidCommand K)) "__init__" = some (some (.ref (v_i_InvalidCommand K))))
def q_324 : PySem.W.Frag → Bool := fun K => decide (PySem.W.typeIn K (.ref (v_i_InvalidCommand K)) = some (.type "function"))
def q_325 : PySem.W.Frag → Bool := fun K => decide (PySem.W.keepIn K (.ref (v_C_InvalidCommand K)) = true)
def q_326 : PySem.W.Frag → Bool := fun K => decide (PySem.W.subIn K (.ref (v_C_InvalidCommand K)) (.type "BaseException") = some true)
def q_327 : PySem.W.Frag → Bool := fun K => decide (PySem.W.typeIn K (.ref (v_C_InvalidCommand K)) = some (.type "type"))
def q_328 : PySem.W.Frag → Bool := fun K => decide (ExL.kwB K (v_i_InvalidCommand K) = true)
def q_329 : PySem.W.Frag → Bool := fun K => decide (PySem.W.nsIn K mainGlobals "NotABoard" = some (some (.ref (v_C_NotABoard K))))
def q_330 : PySem.W.Frag → Bool := fun K => decide (PySem.W.excInitIn K (v_C_NotABoard K) [.type "ValueError", .type "Exception", .type "BaseException", .type "object"] "ValueError.__new__" = true)
def q_331 : PySem.W.Frag → Bool := fun K => decide (PySem.W.hasDictIn K (v_C_NotABoard K) = true)
def q_332 : PySem.W.Frag → Bool := fun K => decide (PySem.W.findIn K (.ref (v_C_NotABoard K)) "__setattr__" = some (some (.builtin "object.__setattr__")))
def q_333 : PySem.W.Frag → Bool := fun K => decide (PySem.W.takerIn K (v_C_NotABoard K) "given" = some none)
def q_334 : PySem.W.Frag → Bool := fun K => decide (PySem.W.findIn K (.ref (v_C_NotABoard K)) "__init__" = some (some (.ref (v_i_NotABoard K))))
def q_335 : PySem.W.Frag → Bool := fun K => decide (PySem.W.typeIn K (.ref (v_i_NotABoard K)) = some (.type "function"))
def q_336 : PySem.W.Frag → Bool := fun K => decide (PySem.W.keepIn K (.ref (v_C_NotABoard K)) = true)
def q_337 : PySem.W.Frag → Bool := fun K => decide (PySem.W.subIn K (.ref (v_C_NotABoard K)) (.type "BaseException") = some true)
def q_338 : PySem.W.Frag → Bool := fun K => decide (PySem.W.typeIn K (.ref (v_C_NotABoard K)) = some (.type "type"))
def q_339 : PySem.W.Frag → Bool := fun K => decide (ExL.kwB K (v_i_NotABoard K) = true)
def q_340 : PySem.W.Frag → Bool := fun K => decide (PySem.W.nsIn K mainGlobals "NotNotes" = some (some (.ref (v_C_NotNotes K))))
def q_341 : PySem.W.Frag → Bool := fun K => decide (PySem.W.excInitIn K (v_C_NotNotes K) [.type "ValueError", .type "Exception", .type "BaseException", .type "object"] "ValueError.__new__" = true)
def q_342 : PySem.W.Frag → Bool := fun K => decide (PySem.W.hasDictIn K (v_C_NotNotes K) = true)
def q_343 : PySem.W.Frag → Bool := fun K => decide (PySem.W.findIn K (.ref (v_C_NotNotes K)) "__setattr__" = some (some (.builtin "object.__setattr__")))
def q_344 : PySem.W.Frag → Bool := fun K => decide (PySem.W.takerIn K (v_C_NotNotes K) "given" = some none)
def q_345 : PySem.W.Frag → Bool := fun K => decide (PySem.W.findIn K (.ref (v_C_NotNotes K)) "__init__" = some (some (.ref (v_i_NotNotes K))))
def q_346 : PySem.W.Frag → Bool := fun K => decide (PySem.W.typeIn K (.ref (v_i_NotNotes K)) = some (.type "function"))
def q_347 : PySem.W.Frag → Bool := fun K => decide (PySem.W.keepIn K (.ref (v_C_NotNotes K)) = true)
def q_348 : PySem.W.Frag → Bool := fun K => decide (PySem.W.subIn K (.ref (v_C_NotNotes K)) (.type "BaseException") = some true)
def q_349 : PySem.W.Frag → Bool := fun K => decide (PySem.W.typeIn K (.ref (v_C_NotNotes K)) = some (.type "type"))
def q_350 : PySem.W.Frag → Bool := fun K => decide (ExL.kwB K (v_i_NotNotes K) = true)
def q_351 : PySem.W.Frag → Bool := fun K => decide (PySem.W.nsIn K mainGlobals "NotARanking" = some (some (.ref (v_C_NotARanking K))))
def q_352 : PySem.W.Frag → Bool := fun K => decide (PySem.W.excInitIn K (v_C_NotARanking K) [.type "ValueError", .type "Exception", .type "BaseException", .type "object"] "ValueError.__new__" = true)
def q_353 : PySem.W.Frag → Bool := fun K => decide (PySem.W.hasDictIn K (v_C_NotARanking K) = true)
def q_354 : PySem.W.Frag → Bool := fun K => decide (PySem.W.findIn K (.ref (v_C_NotARanking K)) "__setattr__" = some (some (.builtin "object.__setattr__")))
def q_355 : PySem.W.Frag → Bool := fun K => decide (PySem.W.takerIn K (v_C_NotARanking K) "given" = some none)
def q_356 : PySem.W.Frag → Bool := fun K => decide (PySem.W.findIn K (.ref (v_C_NotARanking K)) "__init__" = some (some (.ref (v_i_NotARanking K))))
def q_357 : PySem.W.Frag → Bool := fun K => decide (PySem.W.typeIn K (.ref (v_i_NotARanking K)) = some (.type "function"))
def q_358 : PySem.W.Frag → Bool := fun K => decide (PySem.W.keepIn K (.ref (v_C_NotARanking K)) = true)
def q_359 : PySem.W.Frag → Bool := fun K => decide (PySem.W.subIn K (.ref (v_C_NotARanking K)) (.type "BaseException") = some true)
def q_360 : PySem.W.Frag → Bool := fun K => decide (PySem.W.typeIn K (.ref (v_C_NotARanking K)) = some (.type "type"))
def q_361 : PySem.W.Frag → Bool := fun K => decide (ExL.kwB K (v_i_NotARanking K) = true)
def q_362 : PySem.W.Frag → Bool := fun K => decide (PySem.W.nsIn K mainGlobals "OtherBoard" = some (some (.ref (v_C_OtherBoard K))))
def q_363 : PySem.W.Frag → Bool := fun K => decide (PySem.W.excInitIn K (v_C_OtherBoard K) [.type "ValueError", .type "Exception", .type "BaseException", .type "object"] "ValueError.__new__" = true)
def q_364 : PySem.W.Frag → Bool := fun K => decide (PySem.W.hasDictIn K (v_C_OtherBoard K) = true)
def q_365 : PySem.W.Frag → Bool := fun K => decide (PySem.W.findIn K (.ref (v_C_OtherBoard K)) "__setattr__" = some (some (.builtin "object.__setattr__")))
def q_366 : PySem.W.Frag → Bool := fun K => decide (PySem.W.takerIn K (v_C_OtherBoard K) "given" = some none)
def q_367 : PySem.W.Frag → Bool := fun K => decide (PySem.W.findIn K (.ref (v_C_OtherBoard K)) "__init__" = some (some (.ref (v_i_OtherBoard K))))
def q_368 : PySem.W.Frag → Bool := fun K => decide (PySem.W.typeIn K (.ref (v_i_OtherBoard K)) = some (.type "function"))
def q_369 : PySem.W.Frag → Bool := fun K => decide (PySem.W.keepIn K (.ref (v_C_OtherBoard K)) = true)
def q_370 : PySem.W.Frag → Bool := fun K => decide (PySem.W.subIn K (.ref (v_C_OtherBoard K)) (.type "BaseException") = some true)
def q_371 : PySem.W.Frag → Bool := fun K => decide (PySem.W.typeIn K (.ref (v_C_OtherBoard K)) = some (.type "type"))
def q_372 : PySem.W.Frag → Bool := fun K => decide (ExL.kwB K (v_i_OtherBoard K) = true)
def q_373 : PySem.W.Frag → Bool := fun K => decide (PySem.W.nsIn K mainGlobals "SameSetting" = some (some (.ref (v_C_SameSetting K))))
def q_374 : PySem.W.Frag → Bool := fun K => decide (PySem.W.excInitIn K (v_C_SameSetting K) [.type "ValueError", .type "Exception", .type "BaseException", .type "object"] "ValueError.__new__" = true)
def q_375 : PySem.W.Frag → Bool := fun K => decide (PySem.W.hasDictIn K (v_C_SameSetting K) = true)
def q_376 : PySem.W.Frag → Bool := fun K => decide (PySem.W.findIn K (.ref (v_C_SameSetting K)) "__setattr__" = some (some (.builtin "object.__setattr__")))
def q_377 : PySem.W.Frag → Bool := fun K => decide (PySem.W.takerIn K (v_C_SameSetting K) "given" = some none)
def q_378 : PySem.W.Frag → Bool := fun K => decide (PySem.W.findIn K (.ref (v_C_SameSetting K)) "__init__" = some (some (.ref (v_i_SameSetting K))))
def q_379 : PySem.W.Frag → Bool := fun K => decide (PySem.W.typeIn K (.ref (v_i_SameSetting K)) = some (.type "function"))
def q_380 : PySem.W.Frag → Bool := fun K => decide (PySem.W.keepIn K (.ref (v_C_SameSetting K)) = true)
def q_381 : PySem.W.Frag → Bool := fun K => decide (PySem.W.subIn K (.ref (v_C_SameSetting K)) (.type "BaseException") = some true)
def q_382 : PySem.W.Frag → Bool := fun K => decide (PySem.W.typeIn K (.ref (v_C_SameSetting K)) = some (.type "type"))
def q_383 : PySem.W.Frag → Bool := fun K => decide (ExL.kwB K (v_i_SameSetting K) = true)
def q_384 : PySem.W.Frag → Bool := fun K => decide (PySem.W.nsIn K mainGlobals "InvalidSizes" = some (some (.ref (v_C_InvalidSizes K))))
def q_385 : PySem.W.Frag → Bool := fun K => decide (PySem.W.excInitIn K (v_C_InvalidSizes K) [.type "ValueError", .type "Exception", .type "BaseException", .type "object"] "ValueError.__new__" = true)
def q_386 : PySem.W.Frag → Bool := fun K => decide (PySem.W.hasDictIn K (v_C_InvalidSizes K) = true)
def q_387 : PySem.W.Frag → Bool := fun K => decide (PySem.W.findIn K (.ref (v_C_InvalidSizes K)) "__setattr__" = some (some (.builtin "object.__setattr__")))
def q_388 : PySem.W.Frag → Bool := fun K => decide (PySem.W.takerIn K (v_C_InvalidSizes K) "index" = some none)
def q_389 : PySem.W.Frag → Bool := fun K => decide (PySem.W.findIn K (.ref (v_C_InvalidSizes K)) "__init__" = some (some (.ref (v_i_InvalidSizes K))))
def q_390 : PySem.W.Frag → Bool := fun K => decide (PySem.W.typeIn K (.ref (v_i_InvalidSizes K)) = some (.type "function"))
def q_391 : PySem.W.Frag → Bool := fun K => decide (PySem.W.keepIn K (.ref (v_C_InvalidSizes K)) = true)
def q_392 : PySem.W.Frag → Bool := fun K => decide (PySem.W.subIn K (.ref (v_C_InvalidSizes K)) (.type "BaseException") = some true)
def q_393 : PySem.W.Frag → Bool := fun K => decide (PySem.W.typeIn K (.ref (v_C_InvalidSizes K)) = some (.type "type"))
def q_394 : PySem.W.Frag → Bool := fun K => decide (ExL.kwB K (v_i_InvalidSizes K) = true)
def q_395 : PySem.W.Frag → Bool := fun K => decide (PySem.W.nsIn K mainGlobals "InvalidFacts" = some (some (.ref (v_C_InvalidFacts K))))
def q_396 : PySem.W.Frag → Bool := fun K => decide (PySem.W.excInitIn K (v_C_InvalidFacts K) [.type "ValueError", .type "Exception", .type "BaseException", .type "object"] "ValueError.__new__" = true)
def q_397 : PySem.W.Frag → Bool := fun K => decide (PySem.W.hasDictIn K (v_C_InvalidFacts K) = true)
def q_398 : PySem.W.Frag → Bool := fun K => decide (PySem.W.findIn K (.ref (v_C_InvalidFacts K)) "__setattr__" = some (some (.builtin "object.__setattr__")))
def q_399 : PySem.W.Frag → Bool := fun K => decide (PySem.W.takerIn K (v_C_InvalidFacts K) "index" = some none)
def q_400 : PySem.W.Frag → Bool := fun K => decide (PySem.W.findIn K (.ref (v_C_InvalidFacts K)) "__init__" = some (some (.ref (v_i_InvalidFacts K))))
def q_401 : PySem.W.Frag → Bool := fun K => decide (PySem.W.typeIn K (.ref (v_i_InvalidFacts K)) = some (.type "function"))
def q_402 : PySem.W.Frag → Bool := fun K => decide (PySem.W.keepIn K (.ref (v_C_InvalidFacts K)) = true)
def q_403 : PySem.W.Frag → Bool := fun K => decide (PySem.W.subIn K (.ref (v_C_InvalidFacts K)) (.type "BaseException") = some true)
def q_404 : PySem.W.Frag → Bool := fun K => decide (PySem.W.typeIn K (.ref (v_C_InvalidFacts K)) = some (.type "type"))
def q_405 : PySem.W.Frag → Bool := fun K => decide (ExL.kwB K (v_i_InvalidFacts K) = true)
def q_406 : PySem.W.Frag → Bool := fun K => decide (PySem.W.nsIn K mainGlobals "InvalidOrder" = some (some (.ref (v_C_InvalidOrder K))))
def q_407 : PySem.W.Frag → Bool := fun K => decide (PySem.W.excInitIn K (v_C_InvalidOrder K) [.type "ValueError", .type "Exception", .type "BaseException", .type "object"] "ValueError.__new__" = true)
def q_408 : PySem.W.Frag → Bool := fun K => decide (PySem.W.hasDictIn K (v_C_InvalidOrder K) = true)
def q_409 : PySem.W.Frag → Bool := fun K => decide (PySem.W.findIn K (.ref (v_C_InvalidOrder K)) "__setattr__" = some (some (.builtin "object.__setattr__")))
def q_410 : PySem.W.Frag → Bool := fun K => decide (PySem.W.takerIn K (v_C_InvalidOrder K) "index" = some none)
def q_411 : PySem.W.Frag → Bool := fun K => decide (PySem.W.findIn K (.ref (v_C_InvalidOrder K)) "__init__" = some (some (.ref (v_i_InvalidOrder K))))
def q_412 : PySem.W.Frag → Bool := fun K => decide (PySem.W.typeIn K (.ref (v_i_InvalidOrder K)) = some (.type "function"))
def q_413 : PySem.W.Frag → Bool := fun K => decide (PySem.W.keepIn K (.ref (v_C_InvalidOrder K)) = true)
def q_414 : PySem.W.Frag → Bool := fun K => decide (PySem.W.subIn K (.ref (v_C_InvalidOrder K)) (.type "BaseException") = some true)
def q_415 : PySem.W.Frag → Bool := fun K => decide (PySem.W.typeIn K (.ref (v_C_InvalidOrder K)) = some (.type "type"))
def q_416 : PySem.W.Frag → Bool := fun K => decide (ExL.kwB K (v_i_InvalidOrder K) = true)
def q_417 : PySem.W.Frag → Bool := fun K => decide (PySem.W.nsIn K mainGlobals "InvalidPeaks" = some (some (.ref (v_C_InvalidPeaks K))))
def q_418 : PySem.W.Frag → Bool := fun K => decide (PySem.W.excInitIn K (v_C_InvalidPeaks K) [.type "ValueError", .type "Exception", .type "BaseException", .type "object"] "ValueError.__new__" = true)
def q_419 : PySem.W.Frag → Bool := fun K => decide (PySem.W.hasDictIn K (v_C_InvalidPeaks K) = true)
def q_420 : PySem.W.Frag → Bool := fun K => decide (PySem.W.findIn K (.ref (v_C_InvalidPeaks K)) "__setattr__" = some (some (.builtin "object.__setattr__")))
def q_421 : PySem.W.Frag → Bool := fun K => decide (PySem.W.takerIn K (v_C_InvalidPeaks K) "index" = some none)
def q_422 : PySem.W.Frag → Bool := fun K => decide (PySem.W.findIn K (.ref (v_C_InvalidPeaks K)) "__init__" = some (some (.ref (v_i_InvalidPeaks K))))
def q_423 : PySem.W.Frag → Bool := fun K => decide (PySem.W.typeIn K (.ref (v_i_InvalidPeaks K)) = some (.type "function"))
def q_424 : PySem.W.Frag → Bool := fun K => decide (PySem.W.keepIn K (.ref (v_C_InvalidPeaks K)) = true)
def q_425 : PySem.W.Frag → Bool := fun K => decide (PySem.W.subIn K (.ref (v_C_InvalidPeaks K)) (.type "BaseException") = some true)
def q_426 : PySem.W.Frag → Bool := fun K => decide (PySem.W.typeIn K (.ref (v_C_InvalidPeaks K)) = some (.type "type"))
def q_427 : PySem.W.Frag → Bool := fun K => decide (ExL.kwB K (v_i_InvalidPeaks K) = true)
def q_428 : PySem.W.Frag → Bool := fun K => decide (PySem.W.nsIn K mainGlobals "InvalidWalks" = some (some (.ref (v_C_InvalidWalks K))))
def q_429 : PySem.W.Frag → Bool := fun K => decide (PySem.W.excInitIn K (v_C_InvalidWalks K) [.type "ValueError", .type "Exception", .type "BaseException", .type "object"] "ValueError.__new__" = true)
def q_430 : PySem.W.Frag → Bool := fun K => decide (PySem.W.hasDictIn K (v_C_InvalidWalks K) = true)
def q_431 : PySem.W.Frag → Bool := fun K => decide (PySem.W.findIn K (.ref (v_C_InvalidWalks K)) "__setattr__" = some (some (.builtin "object.__setattr__")))
def q_432 : PySem.W.Frag → Bool := fun K => decide (PySem.W.takerIn K (v_C_InvalidWalks K) "index" = some none)
def q_433 : PySem.W.Frag → Bool := fun K => decide (PySem.W.findIn K (.ref (v_C_InvalidWalks K)) "__init__" = some (some (.ref (v_i_InvalidWalks K))))
def q_434 : PySem.W.Frag → Bool := fun K => decide (PySem.W.typeIn K (.ref (v_i_InvalidWalks K)) = some (.type "function"))
def q_435 : PySem.W.Frag → Bool := fun K => decide (PySem.W.keepIn K (.ref (v_C_InvalidWalks K)) = true)
def q_436 : PySem.W.Frag → Bool := fun K => decide (PySem.W.subIn K (.ref (v_C_InvalidWalks K)) (.type "BaseException") = some true)
def q_437 : PySem.W.Frag → Bool := fun K => decide (PySem.W.typeIn K (.ref (v_C_InvalidWalks K)) = some (.type "type"))
def q_438 : PySem.W.Frag → Bool := fun K => decide (ExL.kwB K (v_i_InvalidWalks K) = true)
def q_439 : PySem.W.Frag → Bool := fun K => decide (PySem.W.nsIn K mainGlobals "InvalidRests" = some (some (.ref (v_C_InvalidRests K))))
def q_440 : PySem.W.Frag → Bool := fun K => decide (PySem.W.excInitIn K (v_C_InvalidRests K) [.type "ValueError", .type "Exception", .type "BaseException", .type "object"] "ValueError.__new__" = true)
def q_441 : PySem.W.Frag → Bool := fun K => decide (PySem.W.hasDictIn K (v_C_InvalidRests K) = true)
def q_442 : PySem.W.Frag → Bool := fun K => decide (PySem.W.findIn K (.ref (v_C_InvalidRests K)) "__setattr__" = some (some (.builtin "object.__setattr__")))
def q_443 : PySem.W.Frag → Bool := fun K => decide (PySem.W.takerIn K (v_C_InvalidRests K) "index" = some none)
def q_444 : PySem.W.Frag → Bool := fun K => decide (PySem.W.findIn K (.ref (v_C_InvalidRests K)) "__init__" = some (some (.ref (v_i_InvalidRests K))))
def q_445 : PySem.W.Frag → Bool := fun K => decide (PySem.W.typeIn K (.ref (v_i_InvalidRests K)) = some (.type "function"))
def q_446 : PySem.W.Frag → Bool := fun K => decide (PySem.W.keepIn K (.ref (v_C_InvalidRests K)) = true)
def q_447 : PySem.W.Frag → Bool := fun K => decide (PySem.W.subIn K (.ref (v_C_InvalidRests K)) (.type "BaseException") = some true)
def q_448 : PySem.W.Frag → Bool := fun K => decide (PySem.W.typeIn K (.ref (v_C_InvalidRests K)) = some (.type "type"))
def q_449 : PySem.W.Frag → Bool := fun K => decide (ExL.kwB K (v_i_InvalidRests K) = true)
def q_450 : PySem.W.Frag → Bool := fun K => decide (PySem.W.nsIn K mainGlobals "UnknownSetting" = some (some (.ref (v_C_UnknownSetting K))))
def q_451 : PySem.W.Frag → Bool := fun K => decide (PySem.W.excInitIn K (v_C_UnknownSetting K) [.type "LookupError", .type "Exception", .type "BaseException", .type "object"] "LookupError.__new__" = true)
def q_452 : PySem.W.Frag → Bool := fun K => decide (PySem.W.hasDictIn K (v_C_UnknownSetting K) = true)
def q_453 : PySem.W.Frag → Bool := fun K => decide (PySem.W.findIn K (.ref (v_C_UnknownSetting K)) "__setattr__" = some (some (.builtin "object.__setattr__")))
def q_454 : PySem.W.Frag → Bool := fun K => decide (PySem.W.takerIn K (v_C_UnknownSetting K) "given" = some none)
def q_455 : PySem.W.Frag → Bool := fun K => decide (PySem.W.findIn K (.ref (v_C_UnknownSetting K)) "__init__" = some (some (.ref (v_i_UnknownSetting K))))
def q_456 : PySem.W.Frag → Bool := fun K => decide (PySem.W.typeIn K (.ref (v_i_UnknownSetting K)) = some (.type "function"))
def q_457 : PySem.W.Frag → Bool := fun K => decide (PySem.W.keepIn K (.ref (v_C_UnknownSetting K)) = true)
def q_458 : PySem.W.Frag → Bool := fun K => decide (PySem.W.subIn K (.ref (v_C_UnknownSetting K)) (.type "BaseException") = some true)
def q_459 : PySem.W.Frag → Bool := fun K => decide (PySem.W.typeIn K (.ref (v_C_UnknownSetting K)) = some (.type "type"))
def q_460 : PySem.W.Frag → Bool := fun K => decide (ExL.kwB K (v_i_UnknownSetting K) = true)
def q_461 : PySem.W.Frag → Bool := fun K => decide (PySem.W.nsIn K mainGlobals "TooMany" = some (some (.ref (v_C_TooMany K))))
def q_462 : PySem.W.Frag → Bool := fun K => decide (PySem.W.excInitIn K (v_C_TooMany K) [.type "ArithmeticError", .type "Exception", .type "BaseException", .type "object"] "ArithmeticError.__new__" = true)
def q_463 : PySem.W.Frag → Bool := fun K => decide (PySem.W.hasDictIn K (v_C_TooMany K) = true)
def q_464 : PySem.W.Frag → Bool := fun K => decide (PySem.W.findIn K (.ref (v_C_TooMany K)) "__setattr__" = some (some (.builtin "object.__setattr__")))
def q_465 : PySem.W.Frag → Bool := fun K => decide (PySem.W.takerIn K (v_C_TooMany K) "given" = some none)
def q_466 : PySem.W.Frag → Bool := fun K => decide (PySem.W.findIn K (.ref (v_C_TooMany K)) "__init__" = some (some (.ref (v_i_TooMany K))))
def q_467 : PySem.W.Frag → Bool := fun K => decide (PySem.W.typeIn K (.ref (v_i_TooMany K)) = some (.type "function"))
def q_468 : PySem.W.Frag → Bool := fun K => decide (PySem.W.keepIn K (.ref (v_C_TooMany K)) = true)
def q_469 : PySem.W.Frag → Bool := fun K => decide (PySem.W.subIn K (.ref (v_C_TooMany K)) (.type "BaseException") = some true)
def q_470 : PySem.W.Frag → Bool := fun K => decide (PySem.W.typeIn K (.ref (v_C_TooMany K)) = some (.type "type"))
def q_471 : PySem.W.Frag → Bool := fun K => decide (ExL.kwB K (v_i_TooMany K) = true)
def q_472 : PySem.W.Frag → Bool := fun K => decide (PySem.W.nsIn K mainGlobals "Broken" = some (some (.ref (v_C_Broken K))))
def q_473 : PySem.W.Frag → Bool := fun K => decide (PySem.W.excInitIn K (v_C_Broken K) [.type "ArithmeticError", .type "Exception", .type "BaseException", .type "object"] "ArithmeticError.__new__" = true)
def q_474 : PySem.W.Frag → Bool := fun K => decide (PySem.W.hasDictIn K (v_C_Broken K) = true)
def q_475 : PySem.W.Frag → Bool := fun K => decide (PySem.W.findIn K (.ref (v_C_Broken K)) "__setattr__" = some (some (.builtin "object.__setattr__")))
def q_476 : PySem.W.Frag → Bool := fun K => decide (PySem.W.takerIn K (v_C_Broken K) "index" = some none)
def q_477 : PySem.W.Frag → Bool := fun K => decide (PySem.W.findIn K (.ref (v_C_Broken K)) "__init__" = some (some (.ref (v_i_Broken K))))
def q_478 : PySem.W.Frag → Bool := fun K => decide (PySem.W.typeIn K (.ref (v_i_Broken K)) = some (.type "function"))
def q_479 : PySem.W.Frag → Bool := fun K => decide (PySem.W.keepIn K (.ref (v_C_Broken K)) = true)
def q_480 : PySem.W.Frag → Bool := fun K => decide (PySem.W.subIn K (.ref (v_C_Broken K)) (.type "BaseException") = some true)
def q_481 : PySem.W.Frag → Bool := fun K => decide (PySem.W.typeIn K (.ref (v_C_Broken K)) = some (.type "type"))
def q_482 : PySem.W.Frag → Bool := fun K => decide (ExL.kwB K (v_i_Broken K) = true)
def fs_0 : List (PySem.W.Frag → Bool) := [q_0, q_1, q_2, q_3, q_4, q_5, q_6, q_7, q_8, q_9, q_10, q_11, q_12, q_13, q_14, q_15, q_16, q_17, q_18, q_19, q_20, q_21, q_22, q_23, q_24]
def fs_1 : List (PySem.W.Frag → Bool) := [q_25, q_26, q_27, q_28, q_29, q_30, q_31, q_32, q_33, q_34, q_35, q_36, q_37, q_38, q_39, q_40, q_41, q_42, q_43, q_44, q_45, q_46, q_47, q_48, q_49]
def fs_2 : List (PySem.W.Frag → Bool) := [q_50, q_51, q_52, q_53, q_54, q_55, q_56, q_57, q_58, q_59, q_60, q_61, q_62, q_63, q_64, q_65, q_66, q_67, q_68, q_69, q_70, q_71, q_72, q_73, q_74]
def fs_3 : List (PySem.W.Frag → Bool) := [q_75, q_76, q_77, q_78, q_79, q_80, q_81, q_82, q_83, q_84, q_85, q_86, q_87, q_88, q_89, q_90, q_91, q_92, q_93, q_94, q_95, q_96, q_97, q_98, q_99]
def fs_4 : List (PySem.W.Frag → Bool) := [q_100, q_101, q_102, q_103, q_104, q_105, q_106, q_107, q_108, q_109, q_110, q_111, q_112, q_113, q_114, q_115, q_116, q_117, q_118, q_119, q_120, q_121, q_122, q_123, q_124]
def fs_5 : List (PySem.W.Frag → Bool) := [q_125, q_126, q_127, q_128, q_129, q_130, q_131, q_132, q_133, q_134, q_135, q_136, q_137, q_138, q_139, q_140, q_141, q_142, q_143, q_144, q_145, q_146, q_147, q_148, q_149]
def fs_6 : List (PySem.W.Frag → Bool) := [q_150, q_151, q_152, q_153, q_154, q_155, q_156, q_157, q_158, q_159, q_160, q_161, q_162, q_163, q_164, q_165, q_166, q_167, q_168, q_169, q_170, q_171, q_172, q_173, q_174]
def fs_7 : List (PySem.W.Frag → Bool) := [q_175, q_176, q_177, q_178, q_179, q_180, q_181, q_182, q_183, q_184, q_185, q_186, q_187, q_188, q_189, q_190, q_191, q_192, q_193, q_194, q_195, q_196, q_197, q_198, q_199]
def fs_8 : List (PySem.W.Frag → Bool) := [q_200, q_201, q_202, q_203, q_204, q_205, q_206, q_207, q_208, q_209, q_210, q_211, q_212, q_213, q_214, q_215, q_216, q_217, q_218, q_219, q_220, q_221, q_222, q_223, q_224]
def fs_9 : List (PySem.W.Frag → Bool) := [q_225, q_226, q_227, q_228, q_229, q_230, q_231, q_232, q_233, q_234, q_235, q_236, q_237, q_238, q_239, q_240, q_241, q_242, q_243, q_244, q_245, q_246, q_247, q_248, q_249]
def fs_10 : List (PySem.W.Frag → Bool) := [q_250, q_251, q_252, q_253, q_254, q_255, q_256, q_257, q_258, q_259, q_260, q_261, q_262, q_263, q_264, q_265, q_266, q_267, q_268, q_269, q_270, q_271, q_272, q_273, q_274]
def fs_11 : List (PySem.W.Frag → Bool) := [q_275, q_276, q_277, q_278, q_279, q_280, q_281, q_282, q_283, q_284, q_285, q_286, q_287, q_288, q_289, q_290, q_291, q_292, q_293, q_294, q_295, q_296, q_297, q_298, q_299]
def fs_12 : List (PySem.W.Frag → Bool) := [q_300, q_301, q_302, q_303, q_304, q_305, q_306, q_307, q_308, q_309, q_310, q_311, q_312, q_313, q_314, q_315, q_316, q_317, q_318, q_319, q_320, q_321, q_322, q_323, q_324]
def fs_13 : List (PySem.W.Frag → Bool) := [q_325, q_326, q_327, q_328, q_329, q_330, q_331, q_332, q_333, q_334, q_335, q_336, q_337, q_338, q_339, q_340, q_341, q_342, q_343, q_344, q_345, q_346, q_347, q_348, q_349]
def fs_14 : List (PySem.W.Frag → Bool) := [q_350, q_351, q_352, q_353, q_354, q_355, q_356, q_357, q_358, q_359, q_360, q_361, q_362, q_363, q_364, q_365, q_366, q_367, q_368, q_369, q_370, q_371, q_372, q_373, q_374]
def fs_15 : List (PySem.W.Frag → Bool) := [q_375, q_376, q_377, q_378, q_379, q_380, q_381, q_382, q_383, q_384, q_385, q_386, q_387, q_388, q_389, q_390, q_391, q_392, q_393, q_394, q_395, q_396, q_397, q_398, q_399]
def fs_16 : List (PySem.W.Frag → Bool) := [q_400, q_401, q_402, q_403, q_404, q_405, q_406, q_407, q_408, q_409, q_410, q_411, q_412, q_413, q_414, q_415, q_416, q_417, q_418, q_419, q_420, q_421, q_422, q_423, q_424]
def fs_17 : List (PySem.W.Frag → Bool) := [q_425, q_426, q_427, q_428, q_429, q_430, q_431, q_432, q_433, q_434, q_435, q_436, q_437, q_438, q_439, q_440, q_441, q_442, q_443, q_444, q_445, q_446, q_447, q_448, q_449]
def fs_18 : List (PySem.W.Frag → Bool) := [q_450, q_451, q_452, q_453, q_454, q_455, q_456, q_457, q_458, q_459, q_460, q_461, q_462, q_463, q_464, q_465, q_466, q_467, q_468, q_469, q_470, q_471, q_472, q_473, q_474]
def fs_19 : List (PySem.W.Frag → Bool) := [q_475, q_476, q_477, q_478, q_479, q_480, q_481, q_482]
def fs : List (PySem.W.Frag → Bool) := fs_0 ++ (fs_1 ++ (fs_2 ++ (fs_3 ++ (fs_4 ++ (fs_5 ++ (fs_6 ++ (fs_7 ++ (fs_8 ++ (fs_9 ++ (fs_10 ++ (fs_11 ++ (fs_12 ++ (fs_13 ++ (fs_14 ++ (fs_15 ++ (fs_16 ++ (fs_17 ++ (fs_18 ++ (fs_19)))))))))))))))))))
def fn_0 : List HdM.DfM := [m_law_bases, m_law_dip, m_law_pick, m_law_odd, m_law_by_place, m_law_by_word, m_law_sorts, m_law_kept, m_law_right, m_law_jar, m_law, m_x_InvalidText, m_x_InvalidPart, m_x_InvalidSquare, m_x_InvalidFact, m_x_InvalidIndex, m_x_InvalidWish, m_x_InvalidCommand, m_x_NotABoard, m_x_NotNotes, m_x_NotARanking, m_x_OtherBoard, m_x_SameSetting, m_x_InvalidSizes, m_x_InvalidFacts]
def fn_1 : List HdM.DfM := [m_x_InvalidOrder, m_x_InvalidPeaks, m_x_InvalidWalks, m_x_InvalidRests, m_x_UnknownSetting, m_x_TooMany, m_x_Broken]
def fn : List HdM.DfM := fn_0 ++ (fn_1)
def dc : List (PySem.W.Frag → Addr) := []
def hs : List (List Key) := []
theorem all_mk {l : PySem.W.OpenLaw} {w : World} {K : PySem.W.Frag} {h : Heap} {mg : Str → Option Value} {fa : Addr} (X : K.In h) (c : HdM.SaysM fs fn dc hs w K) (G : h.Ns mainGlobals mg) (hfa : mg "law" = some (.ref fa))
    : ∃ (G : Gm) (fd : FuncData), G.K = K ∧ G.tb = [] ∧ (∀ (s : Shared) (v : Value), BindsTo s fd ⟨[v], []⟩ [("script", v)]) ∧ ∀ base : Heap, K.In base → base.Ns mainGlobals mg → FnG l.prog w K mg base 5 fa fd ["script"] (lift G sp_law) := by
  have a_law_bases : PySem.W.nsIn K mainGlobals "_law_bases" = some (some (.ref (v_f_law_bases K))) := of_decide_eq_true (c.fact 0 (f := q_0))
  have k_law_bases : PySem.W.keepIn K (.ref (v_f_law_bases K)) = true := of_decide_eq_true (c.fact 1 (f := q_1))
  have a_law_dip : PySem.W.nsIn K mainGlobals "_law_dip" = some (some (.ref (v_f_law_dip K))) := of_decide_eq_true (c.fact 2 (f := q_2))
  have k_law_dip : PySem.W.keepIn K (.ref (v_f_law_dip K)) = true := of_decide_eq_true (c.fact 3 (f := q_3))
  have a_law_pick : PySem.W.nsIn K mainGlobals "_law_pick" = some (some (.ref (v_f_law_pick K))) := of_decide_eq_true (c.fact 4 (f := q_4))
  have k_law_pick : PySem.W.keepIn K (.ref (v_f_law_pick K)) = true := of_decide_eq_true (c.fact 5 (f := q_5))
  have a_law_odd : PySem.W.nsIn K mainGlobals "_law_odd" = some (some (.ref (v_f_law_odd K))) := of_decide_eq_true (c.fact 6 (f := q_6))
  have k_law_odd : PySem.W.keepIn K (.ref (v_f_law_odd K)) = true := of_decide_eq_true (c.fact 7 (f := q_7))
  have a_law_by_place : PySem.W.nsIn K mainGlobals "_law_by_place" = some (some (.ref (v_f_law_by_place K))) := of_decide_eq_true (c.fact 8 (f := q_8))
  have k_law_by_place : PySem.W.keepIn K (.ref (v_f_law_by_place K)) = true := of_decide_eq_true (c.fact 9 (f := q_9))
  have a_law_by_word : PySem.W.nsIn K mainGlobals "_law_by_word" = some (some (.ref (v_f_law_by_word K))) := of_decide_eq_true (c.fact 10 (f := q_10))
  have k_law_by_word : PySem.W.keepIn K (.ref (v_f_law_by_word K)) = true := of_decide_eq_true (c.fact 11 (f := q_11))
  have a_law_sorts : PySem.W.nsIn K mainGlobals "_law_sorts" = some (some (.ref (v_f_law_sorts K))) := of_decide_eq_true (c.fact 12 (f := q_12))
  have k_law_sorts : PySem.W.keepIn K (.ref (v_f_law_sorts K)) = true := of_decide_eq_true (c.fact 13 (f := q_13))
  have a_law_kept : PySem.W.nsIn K mainGlobals "_law_kept" = some (some (.ref (v_f_law_kept K))) := of_decide_eq_true (c.fact 14 (f := q_14))
  have k_law_kept : PySem.W.keepIn K (.ref (v_f_law_kept K)) = true := of_decide_eq_true (c.fact 15 (f := q_15))
  have a_law_right : PySem.W.nsIn K mainGlobals "_law_right" = some (some (.ref (v_f_law_right K))) := of_decide_eq_true (c.fact 16 (f := q_16))
  have k_law_right : PySem.W.keepIn K (.ref (v_f_law_right K)) = true := of_decide_eq_true (c.fact 17 (f := q_17))
  have a_law_jar : PySem.W.nsIn K mainGlobals "_law_jar" = some (some (.ref (v_f_law_jar K))) := of_decide_eq_true (c.fact 18 (f := q_18))
  have k_law_jar : PySem.W.keepIn K (.ref (v_f_law_jar K)) = true := of_decide_eq_true (c.fact 19 (f := q_19))
  have a_law : PySem.W.nsIn K mainGlobals "law" = some (some (.ref (v_f_law K))) := of_decide_eq_true (c.fact 20 (f := q_20))
  have k_law : PySem.W.keepIn K (.ref (v_f_law K)) = true := of_decide_eq_true (c.fact 21 (f := q_21))
  have cg_ : PySem.W.specialIn K (.builtin "object.__class__") "__get__" = some (some (.builtin "getset_descriptor.__get__")) := of_decide_eq_true (c.fact 22 (f := q_22))
  have ct_ : PySem.W.takesIn K (.builtin "object.__class__") = some true := of_decide_eq_true (c.fact 23 (f := q_23))
  obtain ⟨tk_MOST_COUNTED, g_MOST_COUNTED⟩ := HdM.int_ok (show HdM.intB K "MOST_COUNTED" 8 = true from c.fact 24 (f := q_24))
  obtain ⟨tk_MOST_SEARCHED, g_MOST_SEARCHED⟩ := HdM.int_ok (show HdM.intB K "MOST_SEARCHED" 16 = true from c.fact 25 (f := q_25))
  obtain ⟨tk_MOST_SETTINGS, g_MOST_SETTINGS⟩ := HdM.int_ok (show HdM.intB K "MOST_SETTINGS" 48 = true from c.fact 26 (f := q_26))
  obtain ⟨tk_MOST_SWITCHES, g_MOST_SWITCHES⟩ := HdM.int_ok (show HdM.intB K "MOST_SWITCHES" 5 = true from c.fact 27 (f := q_27))
  have z_ArithmeticError : PySem.W.nsIn K mainGlobals "ArithmeticError" = some none := of_decide_eq_true (c.fact 28 (f := q_28))
  have z_LookupError : PySem.W.nsIn K mainGlobals "LookupError" = some none := of_decide_eq_true (c.fact 29 (f := q_29))
  have z_ValueError : PySem.W.nsIn K mainGlobals "ValueError" = some none := of_decide_eq_true (c.fact 30 (f := q_30))
  have z_abs : PySem.W.nsIn K mainGlobals "abs" = some none := of_decide_eq_true (c.fact 31 (f := q_31))
  have z_all : PySem.W.nsIn K mainGlobals "all" = some none := of_decide_eq_true (c.fact 32 (f := q_32))
  have z_int : PySem.W.nsIn K mainGlobals "int" = some none := of_decide_eq_true (c.fact 33 (f := q_33))
  have z_isinstance : PySem.W.nsIn K mainGlobals "isinstance" = some none := of_decide_eq_true (c.fact 34 (f := q_34))
  have z_len : PySem.W.nsIn K mainGlobals "len" = some none := of_decide_eq_true (c.fact 35 (f := q_35))
  have z_max : PySem.W.nsIn K mainGlobals "max" = some none := of_decide_eq_true (c.fact 36 (f := q_36))
  have z_min : PySem.W.nsIn K mainGlobals "min" = some none := of_decide_eq_true (c.fact 37 (f := q_37))
  have z_range : PySem.W.nsIn K mainGlobals "range" = some none := of_decide_eq_true (c.fact 38 (f := q_38))
  have z_repr : PySem.W.nsIn K mainGlobals "repr" = some none := of_decide_eq_true (c.fact 39 (f := q_39))
  have xg_WrongValue : PySem.W.nsIn K mainGlobals "WrongValue" = some (some (.ref (v_C_WrongValue K))) := of_decide_eq_true (c.fact 40 (f := q_40))
  have xg_WrongName : PySem.W.nsIn K mainGlobals "WrongName" = some (some (.ref (v_C_WrongName K))) := of_decide_eq_true (c.fact 41 (f := q_41))
  have xg_NotPossible : PySem.W.nsIn K mainGlobals "NotPossible" = some (some (.ref (v_C_NotPossible K))) := of_decide_eq_true (c.fact 42 (f := q_42))
  have xg_InvalidText : PySem.W.nsIn K mainGlobals "InvalidText" = some (some (.ref (v_C_InvalidText K))) := of_decide_eq_true (c.fact 43 (f := q_43))
  have xg_InvalidPart : PySem.W.nsIn K mainGlobals "InvalidPart" = some (some (.ref (v_C_InvalidPart K))) := of_decide_eq_true (c.fact 44 (f := q_44))
  have xg_InvalidSquare : PySem.W.nsIn K mainGlobals "InvalidSquare" = some (some (.ref (v_C_InvalidSquare K))) := of_decide_eq_true (c.fact 45 (f := q_45))
  have xg_InvalidFact : PySem.W.nsIn K mainGlobals "InvalidFact" = some (some (.ref (v_C_InvalidFact K))) := of_decide_eq_true (c.fact 46 (f := q_46))
  have xg_InvalidIndex : PySem.W.nsIn K mainGlobals "InvalidIndex" = some (some (.ref (v_C_InvalidIndex K))) := of_decide_eq_true (c.fact 47 (f := q_47))
  have xg_InvalidWish : PySem.W.nsIn K mainGlobals "InvalidWish" = some (some (.ref (v_C_InvalidWish K))) := of_decide_eq_true (c.fact 48 (f := q_48))
  have xg_InvalidCommand : PySem.W.nsIn K mainGlobals "InvalidCommand" = some (some (.ref (v_C_InvalidCommand K))) := of_decide_eq_true (c.fact 49 (f := q_49))
  have xg_NotABoard : PySem.W.nsIn K mainGlobals "NotABoard" = some (some (.ref (v_C_NotABoard K))) := of_decide_eq_true (c.fact 50 (f := q_50))
  have xg_NotNotes : PySem.W.nsIn K mainGlobals "NotNotes" = some (some (.ref (v_C_NotNotes K))) := of_decide_eq_true (c.fact 51 (f := q_51))
  have xg_NotARanking : PySem.W.nsIn K mainGlobals "NotARanking" = some (some (.ref (v_C_NotARanking K))) := of_decide_eq_true (c.fact 52 (f := q_52))
  have xg_OtherBoard : PySem.W.nsIn K mainGlobals "OtherBoard" = some (some (.ref (v_C_OtherBoard K))) := of_decide_eq_true (c.fact 53 (f := q_53))
  have xg_SameSetting : PySem.W.nsIn K mainGlobals "SameSetting" = some (some (.ref (v_C_SameSetting K))) := of_decide_eq_true (c.fact 54 (f := q_54))
  have xg_InvalidSizes : PySem.W.nsIn K mainGlobals "InvalidSizes" = some (some (.ref (v_C_InvalidSizes K))) := of_decide_eq_true (c.fact 55 (f := q_55))
  have xg_InvalidFacts : PySem.W.nsIn K mainGlobals "InvalidFacts" = some (some (.ref (v_C_InvalidFacts K))) := of_decide_eq_true (c.fact 56 (f := q_56))
  have xg_InvalidOrder : PySem.W.nsIn K mainGlobals "InvalidOrder" = some (some (.ref (v_C_InvalidOrder K))) := of_decide_eq_true (c.fact 57 (f := q_57))
  have xg_InvalidPeaks : PySem.W.nsIn K mainGlobals "InvalidPeaks" = some (some (.ref (v_C_InvalidPeaks K))) := of_decide_eq_true (c.fact 58 (f := q_58))
  have xg_InvalidWalks : PySem.W.nsIn K mainGlobals "InvalidWalks" = some (some (.ref (v_C_InvalidWalks K))) := of_decide_eq_true (c.fact 59 (f := q_59))
  have xg_InvalidRests : PySem.W.nsIn K mainGlobals "InvalidRests" = some (some (.ref (v_C_InvalidRests K))) := of_decide_eq_true (c.fact 60 (f := q_60))
  have xg_UnknownSetting : PySem.W.nsIn K mainGlobals "UnknownSetting" = some (some (.ref (v_C_UnknownSetting K))) := of_decide_eq_true (c.fact 61 (f := q_61))
  have xg_TooMany : PySem.W.nsIn K mainGlobals "TooMany" = some (some (.ref (v_C_TooMany K))) := of_decide_eq_true (c.fact 62 (f := q_62))
  have xg_Broken : PySem.W.nsIn K mainGlobals "Broken" = some (some (.ref (v_C_Broken K))) := of_decide_eq_true (c.fact 63 (f := q_63))
  have xg_NothingToUndo : PySem.W.nsIn K mainGlobals "NothingToUndo" = some (some (.ref (v_C_NothingToUndo K))) := of_decide_eq_true (c.fact 64 (f := q_64))
  have x8_WrongValue : PySem.W.subIn K (.ref (v_C_WrongValue K)) (.type "BaseException") = some true := of_decide_eq_true (c.fact 65 (f := q_65))
  have x2_WrongValue : PySem.W.hasDictIn K (v_C_WrongValue K) = true := of_decide_eq_true (c.fact 66 (f := q_66))
  have x8_WrongName : PySem.W.subIn K (.ref (v_C_WrongName K)) (.type "BaseException") = some true := of_decide_eq_true (c.fact 67 (f := q_67))
  have x2_WrongName : PySem.W.hasDictIn K (v_C_WrongName K) = true := of_decide_eq_true (c.fact 68 (f := q_68))
  have x8_NotPossible : PySem.W.subIn K (.ref (v_C_NotPossible K)) (.type "BaseException") = some true := of_decide_eq_true (c.fact 69 (f := q_69))
  have x2_NotPossible : PySem.W.hasDictIn K (v_C_NotPossible K) = true := of_decide_eq_true (c.fact 70 (f := q_70))
  have x8_NothingToUndo : PySem.W.subIn K (.ref (v_C_NothingToUndo K)) (.type "BaseException") = some true := of_decide_eq_true (c.fact 71 (f := q_71))
  have x2_NothingToUndo : PySem.W.hasDictIn K (v_C_NothingToUndo K) = true := of_decide_eq_true (c.fact 72 (f := q_72))
  have f1_InvalidText : (PySem.W.clsIn K (v_C_InvalidText K)).isSome = true := of_decide_eq_true (c.fact 73 (f := q_73))
  have f2_InvalidText : PySem.W.findIn K (.ref (v_C_InvalidText K)) "__getattribute__" = some (some (.builtin "BaseException.__getattribute__")) := of_decide_eq_true (c.fact 74 (f := q_74))
  have f3_InvalidText : PySem.W.findIn K (.ref (v_C_InvalidText K)) "__getattr__" = some none := of_decide_eq_true (c.fact 75 (f := q_75))
  have f4_InvalidText : PySem.W.findIn K (.ref (v_C_InvalidText K)) "__class__" = some (some (.builtin "object.__class__")) := of_decide_eq_true (c.fact 76 (f := q_76))
  have f5_InvalidText : PySem.W.mroIn K (v_C_InvalidText K) (.type "object") = some true := of_decide_eq_true (c.fact 77 (f := q_77))
  have f1_InvalidPart : (PySem.W.clsIn K (v_C_InvalidPart K)).isSome = true := of_decide_eq_true (c.fact 78 (f := q_78))
  have f2_InvalidPart : PySem.W.findIn K (.ref (v_C_InvalidPart K)) "__getattribute__" = some (some (.builtin "BaseException.__getattribute__")) := of_decide_eq_true (c.fact 79 (f := q_79))
  have f3_InvalidPart : PySem.W.findIn K (.ref (v_C_InvalidPart K)) "__getattr__" = some none := of_decide_eq_true (c.fact 80 (f := q_80))
  have f4_InvalidPart : PySem.W.findIn K (.ref (v_C_InvalidPart K)) "__class__" = some (some (.builtin "object.__class__")) := of_decide_eq_true (c.fact 81 (f := q_81))
  have f5_InvalidPart : PySem.W.mroIn K (v_C_InvalidPart K) (.type "object") = some true := of_decide_eq_true (c.fact 82 (f := q_82))
  have f1_InvalidSquare : (PySem.W.clsIn K (v_C_InvalidSquare K)).isSome = true := of_decide_eq_true (c.fact 83 (f := q_83))
  have f2_InvalidSquare : PySem.W.findIn K (.ref (v_C_InvalidSquare K)) "__getattribute__" = some (some (.builtin "BaseException.__getattribute__")) := of_decide_eq_true (c.fact 84 (f := q_84))
  have f3_InvalidSquare : PySem.W.findIn K (.ref (v_C_InvalidSquare K)) "__getattr__" = some none := of_decide_eq_true (c.fact 85 (f := q_85))
  have f4_InvalidSquare : PySem.W.findIn K (.ref (v_C_InvalidSquare K)) "__class__" = some (some (.builtin "object.__class__")) := of_decide_eq_true (c.fact 86 (f := q_86))
  have f5_InvalidSquare : PySem.W.mroIn K (v_C_InvalidSquare K) (.type "object") = some true := of_decide_eq_true (c.fact 87 (f := q_87))
  have f1_InvalidFact : (PySem.W.clsIn K (v_C_InvalidFact K)).isSome = true := of_decide_eq_true (c.fact 88 (f := q_88))
  have f2_InvalidFact : PySem.W.findIn K (.ref (v_C_InvalidFact K)) "__getattribute__" = some (some (.builtin "BaseException.__getattribute__")) := of_decide_eq_true (c.fact 89 (f := q_89))
  have f3_InvalidFact : PySem.W.findIn K (.ref (v_C_InvalidFact K)) "__getattr__" = some none := of_decide_eq_true (c.fact 90 (f := q_90))
  have f4_InvalidFact : PySem.W.findIn K (.ref (v_C_InvalidFact K)) "__class__" = some (some (.builtin "object.__class__")) := of_decide_eq_true (c.fact 91 (f := q_91))
  have f5_InvalidFact : PySem.W.mroIn K (v_C_InvalidFact K) (.type "object") = some true := of_decide_eq_true (c.fact 92 (f := q_92))
  have f1_InvalidIndex : (PySem.W.clsIn K (v_C_InvalidIndex K)).isSome = true := of_decide_eq_true (c.fact 93 (f := q_93))
  have f2_InvalidIndex : PySem.W.findIn K (.ref (v_C_InvalidIndex K)) "__getattribute__" = some (some (.builtin "BaseException.__getattribute__")) := of_decide_eq_true (c.fact 94 (f := q_94))
  have f3_InvalidIndex : PySem.W.findIn K (.ref (v_C_InvalidIndex K)) "__getattr__" = some none := of_decide_eq_true (c.fact 95 (f := q_95))
  have f4_InvalidIndex : PySem.W.findIn K (.ref (v_C_InvalidIndex K)) "__class__" = some (some (.builtin "object.__class__")) := of_decide_eq_true (c.fact 96 (f := q_96))
  have f5_InvalidIndex : PySem.W.mroIn K (v_C_InvalidIndex K) (.type "object") = some true := of_decide_eq_true (c.fact 97 (f := q_97))
  have f1_InvalidWish : (PySem.W.clsIn K (v_C_InvalidWish K)).isSome = true := of_decide_eq_true (c.fact 98 (f := q_98))
  have f2_InvalidWish : PySem.W.findIn K (.ref (v_C_InvalidWish K)) "__getattribute__" = some (some (.builtin "BaseException.__getattribute__")) := of_decide_eq_true (c.fact 99 (f := q_99))
  have f3_InvalidWish : PySem.W.findIn K (.ref (v_C_InvalidWish K)) "__getattr__" = some none := of_decide_eq_true (c.fact 100 (f := q_100))
  have f4_InvalidWish : PySem.W.findIn K (.ref (v_C_InvalidWish K)) "__class__" = some (some (.builtin "object.__class__")) := of_decide_eq_true (c.fact 101 (f := q_101))
  have f5_InvalidWish : PySem.W.mroIn K (v_C_InvalidWish K) (.type "object") = some true := of_decide_eq_true (c.fact 102 (f := q_102))
  have f1_InvalidCommand : (PySem.W.clsIn K (v_C_InvalidCommand K)).isSome = true := of_decide_eq_true (c.fact 103 (f := q_103))
  have f2_InvalidCommand : PySem.W.findIn K (.ref (v_C_InvalidCommand K)) "__getattribute__" = some (some (.builtin "BaseException.__getattribute__")) := of_decide_eq_true (c.fact 104 (f := q_104))
  have f3_InvalidCommand : PySem.W.findIn K (.ref (v_C_InvalidCommand K)) "__getattr__" = some none := of_decide_eq_true (c.fact 105 (f := q_105))
  have f4_InvalidCommand : PySem.W.findIn K (.ref (v_C_InvalidCommand K)) "__class__" = some (some (.builtin "object.__class__")) := of_decide_eq_true (c.fact 106 (f := q_106))
  have f5_InvalidCommand : PySem.W.mroIn K (v_C_InvalidCommand K) (.type "object") = some true := of_decide_eq_true (c.fact 107 (f := q_107))
  have f1_NotABoard : (PySem.W.clsIn K (v_C_NotABoard K)).isSome = true := of_decide_eq_true (c.fact 108 (f := q_108))
  have f2_NotABoard : PySem.W.findIn K (.ref (v_C_NotABoard K)) "__getattribute__" = some (some (.builtin "BaseException.__getattribute__")) := of_decide_eq_true (c.fact 109 (f := q_109))
  have f3_NotABoard : PySem.W.findIn K (.ref (v_C_NotABoard K)) "__getattr__" = some none := of_decide_eq_true (c.fact 110 (f := q_110))
  have f4_NotABoard : PySem.W.findIn K (.ref (v_C_NotABoard K)) "__class__" = some (some (.builtin "object.__class__")) := of_decide_eq_true (c.fact 111 (f := q_111))
  have f5_NotABoard : PySem.W.mroIn K (v_C_NotABoard K) (.type "object") = some true := of_decide_eq_true (c.fact 112 (f := q_112))
  have f1_NotNotes : (PySem.W.clsIn K (v_C_NotNotes K)).isSome = true := of_decide_eq_true (c.fact 113 (f := q_113))
  have f2_NotNotes : PySem.W.findIn K (.ref (v_C_NotNotes K)) "__getattribute__" = some (some (.builtin "BaseException.__getattribute__")) := of_decide_eq_true (c.fact 114 (f := q_114))
  have f3_NotNotes : PySem.W.findIn K (.ref (v_C_NotNotes K)) "__getattr__" = some none := of_decide_eq_true (c.fact 115 (f := q_115))
  have f4_NotNotes : PySem.W.findIn K (.ref (v_C_NotNotes K)) "__class__" = some (some (.builtin "object.__class__")) := of_decide_eq_true (c.fact 116 (f := q_116))
  have f5_NotNotes : PySem.W.mroIn K (v_C_NotNotes K) (.type "object") = some true := of_decide_eq_true (c.fact 117 (f := q_117))
  have f1_NotARanking : (PySem.W.clsIn K (v_C_NotARanking K)).isSome = true := of_decide_eq_true (c.fact 118 (f := q_118))
  have f2_NotARanking : PySem.W.findIn K (.ref (v_C_NotARanking K)) "__getattribute__" = some (some (.builtin "BaseException.__getattribute__")) := of_decide_eq_true (c.fact 119 (f := q_119))
  have f3_NotARanking : PySem.W.findIn K (.ref (v_C_NotARanking K)) "__getattr__" = some none := of_decide_eq_true (c.fact 120 (f := q_120))
  have f4_NotARanking : PySem.W.findIn K (.ref (v_C_NotARanking K)) "__class__" = some (some (.builtin "object.__class__")) := of_decide_eq_true (c.fact 121 (f := q_121))
  have f5_NotARanking : PySem.W.mroIn K (v_C_NotARanking K) (.type "object") = some true := of_decide_eq_true (c.fact 122 (f := q_122))
  have f1_OtherBoard : (PySem.W.clsIn K (v_C_OtherBoard K)).isSome = true := of_decide_eq_true (c.fact 123 (f := q_123))
  have f2_OtherBoard : PySem.W.findIn K (.ref (v_C_OtherBoard K)) "__getattribute__" = some (some (.builtin "BaseException.__getattribute__")) := of_decide_eq_true (c.fact 124 (f := q_124))
  have f3_OtherBoard : PySem.W.findIn K (.ref (v_C_OtherBoard K)) "__getattr__" = some none := of_decide_eq_true (c.fact 125 (f := q_125))
  have f4_OtherBoard : PySem.W.findIn K (.ref (v_C_OtherBoard K)) "__class__" = some (some (.builtin "object.__class__")) := of_decide_eq_true (c.fact 126 (f := q_126))
  have f5_OtherBoard : PySem.W.mroIn K (v_C_OtherBoard K) (.type "object") = some true := of_decide_eq_true (c.fact 127 (f := q_127))
  have f1_SameSetting : (PySem.W.clsIn K (v_C_SameSetting K)).isSome = true := of_decide_eq_true (c.fact 128 (f := q_128))
  have f2_SameSetting : PySem.W.findIn K (.ref (v_C_SameSetting K)) "__getattribute__" = some (some (.builtin "BaseException.__getattribute__")) := of_decide_eq_true (c.fact 129 (f := q_129))
  have f3_SameSetting : PySem.W.findIn K (.ref (v_C_SameSetting K)) "__getattr__" = some none := of_decide_eq_true (c.fact 130 (f := q_130))
  have f4_SameSetting : PySem.W.findIn K (.ref (v_C_SameSetting K)) "__class__" = some (some (.builtin "object.__class__")) := of_decide_eq_true (c.fact 131 (f := q_131))
  have f5_SameSetting : PySem.W.mroIn K (v_C_SameSetting K) (.type "object") = some true := of_decide_eq_true (c.fact 132 (f := q_132))
  have f1_InvalidSizes : (PySem.W.clsIn K (v_C_InvalidSizes K)).isSome = true := of_decide_eq_true (c.fact 133 (f := q_133))
  have f2_InvalidSizes : PySem.W.findIn K (.ref (v_C_InvalidSizes K)) "__getattribute__" = some (some (.builtin "BaseException.__getattribute__")) := of_decide_eq_true (c.fact 134 (f := q_134))
  have f3_InvalidSizes : PySem.W.findIn K (.ref (v_C_InvalidSizes K)) "__getattr__" = some none := of_decide_eq_true (c.fact 135 (f := q_135))
  have f4_InvalidSizes : PySem.W.findIn K (.ref (v_C_InvalidSizes K)) "__class__" = some (some (.builtin "object.__class__")) := of_decide_eq_true (c.fact 136 (f := q_136))
  have f5_InvalidSizes : PySem.W.mroIn K (v_C_InvalidSizes K) (.type "object") = some true := of_decide_eq_true (c.fact 137 (f := q_137))
  have f1_InvalidFacts : (PySem.W.clsIn K (v_C_InvalidFacts K)).isSome = true := of_decide_eq_true (c.fact 138 (f := q_138))
  have f2_InvalidFacts : PySem.W.findIn K (.ref (v_C_InvalidFacts K)) "__getattribute__" = some (some (.builtin "BaseException.__getattribute__")) := of_decide_eq_true (c.fact 139 (f := q_139))
  have f3_InvalidFacts : PySem.W.findIn K (.ref (v_C_InvalidFacts K)) "__getattr__" = some none := of_decide_eq_true (c.fact 140 (f := q_140))
  have f4_InvalidFacts : PySem.W.findIn K (.ref (v_C_InvalidFacts K)) "__class__" = some (some (.builtin "object.__class__")) := of_decide_eq_true (c.fact 141 (f := q_141))
  have f5_InvalidFacts : PySem.W.mroIn K (v_C_InvalidFacts K) (.type "object") = some true := of_decide_eq_true (c.fact 142 (f := q_142))
  have f1_InvalidOrder : (PySem.W.clsIn K (v_C_InvalidOrder K)).isSome = true := of_decide_eq_true (c.fact 143 (f := q_143))
  have f2_InvalidOrder : PySem.W.findIn K (.ref (v_C_InvalidOrder K)) "__getattribute__" = some (some (.builtin "BaseException.__getattribute__")) := of_decide_eq_true (c.fact 144 (f := q_144))
  have f3_InvalidOrder : PySem.W.findIn K (.ref (v_C_InvalidOrder K)) "__getattr__" = some none := of_decide_eq_true (c.fact 145 (f := q_145))
  have f4_InvalidOrder : PySem.W.findIn K (.ref (v_C_InvalidOrder K)) "__class__" = some (some (.builtin "object.__class__")) := of_decide_eq_true (c.fact 146 (f := q_146))
  have f5_InvalidOrder : PySem.W.mroIn K (v_C_InvalidOrder K) (.type "object") = some true := of_decide_eq_true (c.fact 147 (f := q_147))
  have f1_InvalidPeaks : (PySem.W.clsIn K (v_C_InvalidPeaks K)).isSome = true := of_decide_eq_true (c.fact 148 (f := q_148))
  have f2_InvalidPeaks : PySem.W.findIn K (.ref (v_C_InvalidPeaks K)) "__getattribute__" = some (some (.builtin "BaseException.__getattribute__")) := of_decide_eq_true (c.fact 149 (f := q_149))
  have f3_InvalidPeaks : PySem.W.findIn K (.ref (v_C_InvalidPeaks K)) "__getattr__" = some none := of_decide_eq_true (c.fact 150 (f := q_150))
  have f4_InvalidPeaks : PySem.W.findIn K (.ref (v_C_InvalidPeaks K)) "__class__" = some (some (.builtin "object.__class__")) := of_decide_eq_true (c.fact 151 (f := q_151))
  have f5_InvalidPeaks : PySem.W.mroIn K (v_C_InvalidPeaks K) (.type "object") = some true := of_decide_eq_true (c.fact 152 (f := q_152))
  have f1_InvalidWalks : (PySem.W.clsIn K (v_C_InvalidWalks K)).isSome = true := of_decide_eq_true (c.fact 153 (f := q_153))
  have f2_InvalidWalks : PySem.W.findIn K (.ref (v_C_InvalidWalks K)) "__getattribute__" = some (some (.builtin "BaseException.__getattribute__")) := of_decide_eq_true (c.fact 154 (f := q_154))
  have f3_InvalidWalks : PySem.W.findIn K (.ref (v_C_InvalidWalks K)) "__getattr__" = some none := of_decide_eq_true (c.fact 155 (f := q_155))
  have f4_InvalidWalks : PySem.W.findIn K (.ref (v_C_InvalidWalks K)) "__class__" = some (some (.builtin "object.__class__")) := of_decide_eq_true (c.fact 156 (f := q_156))
  have f5_InvalidWalks : PySem.W.mroIn K (v_C_InvalidWalks K) (.type "object") = some true := of_decide_eq_true (c.fact 157 (f := q_157))
  have f1_InvalidRests : (PySem.W.clsIn K (v_C_InvalidRests K)).isSome = true := of_decide_eq_true (c.fact 158 (f := q_158))
  have f2_InvalidRests : PySem.W.findIn K (.ref (v_C_InvalidRests K)) "__getattribute__" = some (some (.builtin "BaseException.__getattribute__")) := of_decide_eq_true (c.fact 159 (f := q_159))
  have f3_InvalidRests : PySem.W.findIn K (.ref (v_C_InvalidRests K)) "__getattr__" = some none := of_decide_eq_true (c.fact 160 (f := q_160))
  have f4_InvalidRests : PySem.W.findIn K (.ref (v_C_InvalidRests K)) "__class__" = some (some (.builtin "object.__class__")) := of_decide_eq_true (c.fact 161 (f := q_161))
  have f5_InvalidRests : PySem.W.mroIn K (v_C_InvalidRests K) (.type "object") = some true := of_decide_eq_true (c.fact 162 (f := q_162))
  have f1_UnknownSetting : (PySem.W.clsIn K (v_C_UnknownSetting K)).isSome = true := of_decide_eq_true (c.fact 163 (f := q_163))
  have f2_UnknownSetting : PySem.W.findIn K (.ref (v_C_UnknownSetting K)) "__getattribute__" = some (some (.builtin "BaseException.__getattribute__")) := of_decide_eq_true (c.fact 164 (f := q_164))
  have f3_UnknownSetting : PySem.W.findIn K (.ref (v_C_UnknownSetting K)) "__getattr__" = some none := of_decide_eq_true (c.fact 165 (f := q_165))
  have f4_UnknownSetting : PySem.W.findIn K (.ref (v_C_UnknownSetting K)) "__class__" = some (some (.builtin "object.__class__")) := of_decide_eq_true (c.fact 166 (f := q_166))
  have f5_UnknownSetting : PySem.W.mroIn K (v_C_UnknownSetting K) (.type "object") = some true := of_decide_eq_true (c.fact 167 (f := q_167))
  have f1_TooMany : (PySem.W.clsIn K (v_C_TooMany K)).isSome = true := of_decide_eq_true (c.fact 168 (f := q_168))
  have f2_TooMany : PySem.W.findIn K (.ref (v_C_TooMany K)) "__getattribute__" = some (some (.builtin "BaseException.__getattribute__")) := of_decide_eq_true (c.fact 169 (f := q_169))
  have f3_TooMany : PySem.W.findIn K (.ref (v_C_TooMany K)) "__getattr__" = some none := of_decide_eq_true (c.fact 170 (f := q_170))
  have f4_TooMany : PySem.W.findIn K (.ref (v_C_TooMany K)) "__class__" = some (some (.builtin "object.__class__")) := of_decide_eq_true (c.fact 171 (f := q_171))
  have f5_TooMany : PySem.W.mroIn K (v_C_TooMany K) (.type "object") = some true := of_decide_eq_true (c.fact 172 (f := q_172))
  have f1_Broken : (PySem.W.clsIn K (v_C_Broken K)).isSome = true := of_decide_eq_true (c.fact 173 (f := q_173))
  have f2_Broken : PySem.W.findIn K (.ref (v_C_Broken K)) "__getattribute__" = some (some (.builtin "BaseException.__getattribute__")) := of_decide_eq_true (c.fact 174 (f := q_174))
  have f3_Broken : PySem.W.findIn K (.ref (v_C_Broken K)) "__getattr__" = some none := of_decide_eq_true (c.fact 175 (f := q_175))
  have f4_Broken : PySem.W.findIn K (.ref (v_C_Broken K)) "__class__" = some (some (.builtin "object.__class__")) := of_decide_eq_true (c.fact 176 (f := q_176))
  have f5_Broken : PySem.W.mroIn K (v_C_Broken K) (.type "object") = some true := of_decide_eq_true (c.fact 177 (f := q_177))
  have f1_WrongValue : (PySem.W.clsIn K (v_C_WrongValue K)).isSome = true := of_decide_eq_true (c.fact 178 (f := q_178))
  have f2_WrongValue : PySem.W.findIn K (.ref (v_C_WrongValue K)) "__getattribute__" = some (some (.builtin "BaseException.__getattribute__")) := of_decide_eq_true (c.fact 179 (f := q_179))
  have f3_WrongValue : PySem.W.findIn K (.ref (v_C_WrongValue K)) "__getattr__" = some none := of_decide_eq_true (c.fact 180 (f := q_180))
  have f4_WrongValue : PySem.W.findIn K (.ref (v_C_WrongValue K)) "__class__" = some (some (.builtin "object.__class__")) := of_decide_eq_true (c.fact 181 (f := q_181))
  have f5_WrongValue : PySem.W.mroIn K (v_C_WrongValue K) (.type "object") = some true := of_decide_eq_true (c.fact 182 (f := q_182))
  have f1_WrongName : (PySem.W.clsIn K (v_C_WrongName K)).isSome = true := of_decide_eq_true (c.fact 183 (f := q_183))
  have f2_WrongName : PySem.W.findIn K (.ref (v_C_WrongName K)) "__getattribute__" = some (some (.builtin "BaseException.__getattribute__")) := of_decide_eq_true (c.fact 184 (f := q_184))
  have f3_WrongName : PySem.W.findIn K (.ref (v_C_WrongName K)) "__getattr__" = some none := of_decide_eq_true (c.fact 185 (f := q_185))
  have f4_WrongName : PySem.W.findIn K (.ref (v_C_WrongName K)) "__class__" = some (some (.builtin "object.__class__")) := of_decide_eq_true (c.fact 186 (f := q_186))
  have f5_WrongName : PySem.W.mroIn K (v_C_WrongName K) (.type "object") = some true := of_decide_eq_true (c.fact 187 (f := q_187))
  have f1_NotPossible : (PySem.W.clsIn K (v_C_NotPossible K)).isSome = true := of_decide_eq_true (c.fact 188 (f := q_188))
  have f2_NotPossible : PySem.W.findIn K (.ref (v_C_NotPossible K)) "__getattribute__" = some (some (.builtin "BaseException.__getattribute__")) := of_decide_eq_true (c.fact 189 (f := q_189))
  have f3_NotPossible : PySem.W.findIn K (.ref (v_C_NotPossible K)) "__getattr__" = some none := of_decide_eq_true (c.fact 190 (f := q_190))
  have f4_NotPossible : PySem.W.findIn K (.ref (v_C_NotPossible K)) "__class__" = some (some (.builtin "object.__class__")) := of_decide_eq_true (c.fact 191 (f := q_191))
  have f5_NotPossible : PySem.W.mroIn K (v_C_NotPossible K) (.type "object") = some true := of_decide_eq_true (c.fact 192 (f := q_192))
  have f1_NothingToUndo : (PySem.W.clsIn K (v_C_NothingToUndo K)).isSome = true := of_decide_eq_true (c.fact 193 (f := q_193))
  have f2_NothingToUndo : PySem.W.findIn K (.ref (v_C_NothingToUndo K)) "__getattribute__" = some (some (.builtin "BaseException.__getattribute__")) := of_decide_eq_true (c.fact 194 (f := q_194))
  have f3_NothingToUndo : PySem.W.findIn K (.ref (v_C_NothingToUndo K)) "__getattr__" = some none := of_decide_eq_true (c.fact 195 (f := q_195))
  have f4_NothingToUndo : PySem.W.findIn K (.ref (v_C_NothingToUndo K)) "__class__" = some (some (.builtin "object.__class__")) := of_decide_eq_true (c.fact 196 (f := q_196))
  have f5_NothingToUndo : PySem.W.mroIn K (v_C_NothingToUndo K) (.type "object") = some true := of_decide_eq_true (c.fact 197 (f := q_197))
  have xn_InvalidText : PySem.W.findIn K (.ref (v_C_InvalidText K)) "given" = some none := of_decide_eq_true (c.fact 198 (f := q_198))
  have xn_InvalidPart : PySem.W.findIn K (.ref (v_C_InvalidPart K)) "given" = some none := of_decide_eq_true (c.fact 199 (f := q_199))
  have xn_InvalidSquare : PySem.W.findIn K (.ref (v_C_InvalidSquare K)) "given" = some none := of_decide_eq_true (c.fact 200 (f := q_200))
  have xn_InvalidFact : PySem.W.findIn K (.ref (v_C_InvalidFact K)) "given" = some none := of_decide_eq_true (c.fact 201 (f := q_201))
  have xn_InvalidIndex : PySem.W.findIn K (.ref (v_C_InvalidIndex K)) "given" = some none := of_decide_eq_true (c.fact 202 (f := q_202))
  have xn_InvalidWish : PySem.W.findIn K (.ref (v_C_InvalidWish K)) "given" = some none := of_decide_eq_true (c.fact 203 (f := q_203))
  have xn_InvalidCommand : PySem.W.findIn K (.ref (v_C_InvalidCommand K)) "given" = some none := of_decide_eq_true (c.fact 204 (f := q_204))
  have xn_NotABoard : PySem.W.findIn K (.ref (v_C_NotABoard K)) "given" = some none := of_decide_eq_true (c.fact 205 (f := q_205))
  have xn_NotNotes : PySem.W.findIn K (.ref (v_C_NotNotes K)) "given" = some none := of_decide_eq_true (c.fact 206 (f := q_206))
  have xn_NotARanking : PySem.W.findIn K (.ref (v_C_NotARanking K)) "given" = some none := of_decide_eq_true (c.fact 207 (f := q_207))
  have xn_OtherBoard : PySem.W.findIn K (.ref (v_C_OtherBoard K)) "given" = some none := of_decide_eq_true (c.fact 208 (f := q_208))
  have xn_SameSetting : PySem.W.findIn K (.ref (v_C_SameSetting K)) "given" = some none := of_decide_eq_true (c.fact 209 (f := q_209))
  have xn_InvalidSizes : PySem.W.findIn K (.ref (v_C_InvalidSizes K)) "index" = some none := of_decide_eq_true (c.fact 210 (f := q_210))
  have xn_InvalidFacts : PySem.W.findIn K (.ref (v_C_InvalidFacts K)) "index" = some none := of_decide_eq_true (c.fact 211 (f := q_211))
  have xn_InvalidOrder : PySem.W.findIn K (.ref (v_C_InvalidOrder K)) "index" = some none := of_decide_eq_true (c.fact 212 (f := q_212))
  have xn_InvalidPeaks : PySem.W.findIn K (.ref (v_C_InvalidPeaks K)) "index" = some none := of_decide_eq_true (c.fact 213 (f := q_213))
  have xn_InvalidWalks : PySem.W.findIn K (.ref (v_C_InvalidWalks K)) "index" = some none := of_decide_eq_true (c.fact 214 (f := q_214))
  have xn_InvalidRests : PySem.W.findIn K (.ref (v_C_InvalidRests K)) "index" = some none := of_decide_eq_true (c.fact 215 (f := q_215))
  have xn_UnknownSetting : PySem.W.findIn K (.ref (v_C_UnknownSetting K)) "given" = some none := of_decide_eq_true (c.fact 216 (f := q_216))
  have xn_TooMany : PySem.W.findIn K (.ref (v_C_TooMany K)) "given" = some none := of_decide_eq_true (c.fact 217 (f := q_217))
  have xn_Broken : PySem.W.findIn K (.ref (v_C_Broken K)) "index" = some none := of_decide_eq_true (c.fact 218 (f := q_218))
  have xe_WrongValue : PySem.W.excIn K (v_C_WrongValue K) [.type "ValueError", .type "Exception", .type "BaseException", .type "object"] "ValueError.__new__" = true := of_decide_eq_true (c.fact 219 (f := q_219))
  have xk_WrongValue : PySem.W.keepIn K (.ref (v_C_WrongValue K)) = true := of_decide_eq_true (c.fact 220 (f := q_220))
  have xe_WrongName : PySem.W.excIn K (v_C_WrongName K) [.type "LookupError", .type "Exception", .type "BaseException", .type "object"] "LookupError.__new__" = true := of_decide_eq_true (c.fact 221 (f := q_221))
  have xk_WrongName : PySem.W.keepIn K (.ref (v_C_WrongName K)) = true := of_decide_eq_true (c.fact 222 (f := q_222))
  have xe_NotPossible : PySem.W.excIn K (v_C_NotPossible K) [.type "ArithmeticError", .type "Exception", .type "BaseException", .type "object"] "ArithmeticError.__new__" = true := of_decide_eq_true (c.fact 223 (f := q_223))
  have xk_NotPossible : PySem.W.keepIn K (.ref (v_C_NotPossible K)) = true := of_decide_eq_true (c.fact 224 (f := q_224))
  have xe_NothingToUndo : PySem.W.excIn K (v_C_NothingToUndo K) [.type "ArithmeticError", .type "Exception", .type "BaseException", .type "object"] "ArithmeticError.__new__" = true := of_decide_eq_true (c.fact 225 (f := q_225))
  have xk_NothingToUndo : PySem.W.keepIn K (.ref (v_C_NothingToUndo K)) = true := of_decide_eq_true (c.fact 226 (f := q_226))
  have kx_InvalidText : (([(.ref (v_C_WrongValue K), true), (.type "ValueError", true), (.ref (v_C_WrongName K), false), (.type "LookupError", false), (.ref (v_C_NotPossible K), false), (.type "ArithmeticError", false), (.ref (v_C_InvalidText K), true), (.ref (v_C_InvalidPart K), false), (.ref (v_C_InvalidSquare K), false), (.ref (v_C_InvalidFact K), false), (.ref (v_C_InvalidIndex K), false), (.ref (v_C_InvalidWish K), false), (.ref (v_C_InvalidCommand K), false), (.ref (v_C_NotABoard K), false), (.ref (v_C_NotNotes K), false), (.ref (v_C_NotARanking K), false), (.ref (v_C_OtherBoard K), false), (.ref (v_C_SameSetting K), false), (.ref (v_C_InvalidSizes K), false), (.ref (v_C_InvalidFacts K), false), (.ref (v_C_InvalidOrder K), false), (.ref (v_C_InvalidPeaks K), false), (.ref (v_C_InvalidWalks K), false), (.ref (v_C_InvalidRests K), false), (.ref (v_C_UnknownSetting K), false), (.ref (v_C_TooMany K), false), (.ref (v_C_Broken K), false), (.ref (v_C_NothingToUndo K), false)] : List (Value × Bool)).all fun p => PySem.W.kitOne K (.ref (v_C_InvalidText K)) p.1 == some p.2) = true := of_decide_eq_true (c.fact 227 (f := q_227))
  have kx_InvalidPart : (([(.ref (v_C_WrongValue K), true), (.type "ValueError", true), (.ref (v_C_WrongName K), false), (.type "LookupError", false), (.ref (v_C_NotPossible K), false), (.type "ArithmeticError", false), (.ref (v_C_InvalidText K), false), (.ref (v_C_InvalidPart K), true), (.ref (v_C_InvalidSquare K), false), (.ref (v_C_InvalidFact K), false), (.ref (v_C_InvalidIndex K), false), (.ref (v_C_InvalidWish K), false), (.ref (v_C_InvalidCommand K), false), (.ref (v_C_NotABoard K), false), (.ref (v_C_NotNotes K), false), (.ref (v_C_NotARanking K), false), (.ref (v_C_OtherBoard K), false), (.ref (v_C_SameSetting K), false), (.ref (v_C_InvalidSizes K), false), (.ref (v_C_InvalidFacts K), false), (.ref (v_C_InvalidOrder K), false), (.ref (v_C_InvalidPeaks K), false), (.ref (v_C_InvalidWalks K), false), (.ref (v_C_InvalidRests K), false), (.ref (v_C_UnknownSetting K), false), (.ref (v_C_TooMany K), false), (.ref (v_C_Broken K), false), (.ref (v_C_NothingToUndo K), false)] : List (Value × Bool)).all fun p => PySem.W.kitOne K (.ref (v_C_InvalidPart K)) p.1 == some p.2) = true := of_decide_eq_true (c.fact 228 (f := q_228))
  have kx_InvalidSquare : (([(.ref (v_C_WrongValue K), true), (.type "ValueError", true), (.ref (v_C_WrongName K), false), (.type "LookupError", false), (.ref (v_C_NotPossible K), false), (.type "ArithmeticError", false), (.ref (v_C_InvalidText K), false), (.ref (v_C_InvalidPart K), false), (.ref (v_C_InvalidSquare K), true), (.ref (v_C_InvalidFact K), false), (.ref (v_C_InvalidIndex K), false), (.ref (v_C_InvalidWish K), false), (.ref (v_C_InvalidCommand K), false), (.ref (v_C_NotABoard K), false), (.ref (v_C_NotNotes K), false), (.ref (v_C_NotARanking K), false), (.ref (v_C_OtherBoard K), false), (.ref (v_C_SameSetting K), false), (.ref (v_C_InvalidSizes K), false), (.ref (v_C_InvalidFacts K), false), (.ref (v_C_InvalidOrder K), false), (.ref (v_C_InvalidPeaks K), false), (.ref (v_C_InvalidWalks K), false), (.ref (v_C_InvalidRests K), false), (.ref (v_C_UnknownSetting K), false), (.ref (v_C_TooMany K), false), (.ref (v_C_Broken K), false), (.ref (v_C_NothingToUndo K), false)] : List (Value × Bool)).all fun p => PySem.W.kitOne K (.ref (v_C_InvalidSquare K)) p.1 == some p.2) = true := of_decide_eq_true (c.fact 229 (f := q_229))
  have kx_InvalidFact : (([(.ref (v_C_WrongValue K), true), (.type "ValueError", true), (.ref (v_C_WrongName K), false), (.type "LookupError", false), (.ref (v_C_NotPossible K), false), (.type "ArithmeticError", false), (.ref (v_C_InvalidText K), false), (.ref (v_C_InvalidPart K), false), (.ref (v_C_InvalidSquare K), false), (.ref (v_C_InvalidFact K), true), (.ref (v_C_InvalidIndex K), false), (.ref (v_C_InvalidWish K), false), (.ref (v_C_InvalidCommand K), false), (.ref (v_C_NotABoard K), false), (.ref (v_C_NotNotes K), false), (.ref (v_C_NotARanking K), false), (.ref (v_C_OtherBoard K), false), (.ref (v_C_SameSetting K), false), (.ref (v_C_InvalidSizes K), false), (.ref (v_C_InvalidFacts K), false), (.ref (v_C_InvalidOrder K), false), (.ref (v_C_InvalidPeaks K), false), (.ref (v_C_InvalidWalks K), false), (.ref (v_C_InvalidRests K), false), (.ref (v_C_UnknownSetting K), false), (.ref (v_C_TooMany K), false), (.ref (v_C_Broken K), false), (.ref (v_C_NothingToUndo K), false)] : List (Value × Bool)).all fun p => PySem.W.kitOne K (.ref (v_C_InvalidFact K)) p.1 == some p.2) = true := of_decide_eq_true (c.fact 230 (f := q_230))
  have kx_InvalidIndex : (([(.ref (v_C_WrongValue K), true), (.type "ValueError", true), (.ref (v_C_WrongName K), false), (.type "LookupError", false), (.ref (v_C_NotPossible K), false), (.type "ArithmeticError", false), (.ref (v_C_InvalidText K), false), (.ref (v_C_InvalidPart K), false), (.ref (v_C_InvalidSquare K), false), (.ref (v_C_InvalidFact K), false), (.ref (v_C_InvalidIndex K), true), (.ref (v_C_InvalidWish K), false), (.ref (v_C_InvalidCommand K), false), (.ref (v_C_NotABoard K), false), (.ref (v_C_NotNotes K), false), (.ref (v_C_NotARanking K), false), (.ref (v_C_OtherBoard K), false), (.ref (v_C_SameSetting K), false), (.ref (v_C_InvalidSizes K), false), (.ref (v_C_InvalidFacts K), false), (.ref (v_C_InvalidOrder K), false), (.ref (v_C_InvalidPeaks K), false), (.ref (v_C_InvalidWalks K), false), (.ref (v_C_InvalidRests K), false), (.ref (v_C_UnknownSetting K), false), (.ref (v_C_TooMany K), false), (.ref (v_C_Broken K), false), (.ref (v_C_NothingToUndo K), false)] : List (Value × Bool)).all fun p => PySem.W.kitOne K (.ref (v_C_InvalidIndex K)) p.1 == some p.2) = true := of_decide_eq_true (c.fact 231 (f := q_231))
  have kx_InvalidWish : (([(.ref (v_C_WrongValue K), true), (.type "ValueError", true), (.ref (v_C_WrongName K), false), (.type "LookupError", false), (.ref (v_C_NotPossible K), false), (.type "ArithmeticError", false), (.ref (v_C_InvalidText K), false), (.ref (v_C_InvalidPart K), false), (.ref (v_C_InvalidSquare K), false), (.ref (v_C_InvalidFact K), false), (.ref (v_C_InvalidIndex K), false), (.ref (v_C_InvalidWish K), true), (.ref (v_C_InvalidCommand K), false), (.ref (v_C_NotABoard K), false), (.ref (v_C_NotNotes K), false), (.ref (v_C_NotARanking K), false), (.ref (v_C_OtherBoard K), false), (.ref (v_C_SameSetting K), false), (.ref (v_C_InvalidSizes K), false), (.ref (v_C_InvalidFacts K), false), (.ref (v_C_InvalidOrder K), false), (.ref (v_C_InvalidPeaks K), false), (.ref (v_C_InvalidWalks K), false), (.ref (v_C_InvalidRests K), false), (.ref (v_C_UnknownSetting K), false), (.ref (v_C_TooMany K), false), (.ref (v_C_Broken K), false), (.ref (v_C_NothingToUndo K), false)] : List (Value × Bool)).all fun p => PySem.W.kitOne K (.ref (v_C_InvalidWish K)) p.1 == some p.2) = true := of_decide_eq_true (c.fact 232 (f := q_232))
  have kx_InvalidCommand : (([(.ref (v_C_WrongValue K), true), (.type "ValueError", true), (.ref (v_C_WrongName K), false), (.type "LookupError", false), (.ref (v_C_NotPossible K), false), (.type "ArithmeticError", false), (.ref (v_C_InvalidText K), false), (.ref (v_C_InvalidPart K), false), (.ref (v_C_InvalidSquare K), false), (.ref (v_C_InvalidFact K), false), (.ref (v_C_InvalidIndex K), false), (.ref (v_C_InvalidWish K), false), (.ref (v_C_InvalidCommand K), true), (.ref (v_C_NotABoard K), false), (.ref (v_C_NotNotes K), false), (.ref (v_C_NotARanking K), false), (.ref (v_C_OtherBoard K), false), (.ref (v_C_SameSetting K), false), (.ref (v_C_InvalidSizes K), false), (.ref (v_C_InvalidFacts K), false), (.ref (v_C_InvalidOrder K), false), (.ref (v_C_InvalidPeaks K), false), (.ref (v_C_InvalidWalks K), false), (.ref (v_C_InvalidRests K), false), (.ref (v_C_UnknownSetting K), false), (.ref (v_C_TooMany K), false), (.ref (v_C_Broken K), false), (.ref (v_C_NothingToUndo K), false)] : List (Value × Bool)).all fun p => PySem.W.kitOne K (.ref (v_C_InvalidCommand K)) p.1 == some p.2) = true := of_decide_eq_true (c.fact 233 (f := q_233))
  have kx_NotABoard : (([(.ref (v_C_WrongValue K), true), (.type "ValueError", true), (.ref (v_C_WrongName K), false), (.type "LookupError", false), (.ref (v_C_NotPossible K), false), (.type "ArithmeticError", false), (.ref (v_C_InvalidText K), false), (.ref (v_C_InvalidPart K), false), (.ref (v_C_InvalidSquare K), false), (.ref (v_C_InvalidFact K), false), (.ref (v_C_InvalidIndex K), false), (.ref (v_C_InvalidWish K), false), (.ref (v_C_InvalidCommand K), false), (.ref (v_C_NotABoard K), true), (.ref (v_C_NotNotes K), false), (.ref (v_C_NotARanking K), false), (.ref (v_C_OtherBoard K), false), (.ref (v_C_SameSetting K), false), (.ref (v_C_InvalidSizes K), false), (.ref (v_C_InvalidFacts K), false), (.ref (v_C_InvalidOrder K), false), (.ref (v_C_InvalidPeaks K), false), (.ref (v_C_InvalidWalks K), false), (.ref (v_C_InvalidRests K), false), (.ref (v_C_UnknownSetting K), false), (.ref (v_C_TooMany K), false), (.ref (v_C_Broken K), false), (.ref (v_C_NothingToUndo K), false)] : List (Value × Bool)).all fun p => PySem.W.kitOne K (.ref (v_C_NotABoard K)) p.1 == some p.2) = true := of_decide_eq_true (c.fact 234 (f := q_234))
  have kx_NotNotes : (([(.ref (v_C_WrongValue K), true), (.type "ValueError", true), (.ref (v_C_WrongName K), false), (.type "LookupError", false), (.ref (v_C_NotPossible K), false), (.type "ArithmeticError", false), (.ref (v_C_InvalidText K), false), (.ref (v_C_InvalidPart K), false), (.ref (v_C_InvalidSquare K), false), (.ref (v_C_InvalidFact K), false), (.ref (v_C_InvalidIndex K), false), (.ref (v_C_InvalidWish K), false), (.ref (v_C_InvalidCommand K), false), (.ref (v_C_NotABoard K), false), (.ref (v_C_NotNotes K), true), (.ref (v_C_NotARanking K), false), (.ref (v_C_OtherBoard K), false), (.ref (v_C_SameSetting K), false), (.ref (v_C_InvalidSizes K), false), (.ref (v_C_InvalidFacts K), false), (.ref (v_C_InvalidOrder K), false), (.ref (v_C_InvalidPeaks K), false), (.ref (v_C_InvalidWalks K), false), (.ref (v_C_InvalidRests K), false), (.ref (v_C_UnknownSetting K), false), (.ref (v_C_TooMany K), false), (.ref (v_C_Broken K), false), (.ref (v_C_NothingToUndo K), false)] : List (Value × Bool)).all fun p => PySem.W.kitOne K (.ref (v_C_NotNotes K)) p.1 == some p.2) = true := of_decide_eq_true (c.fact 235 (f := q_235))
  have kx_NotARanking : (([(.ref (v_C_WrongValue K), true), (.type "ValueError", true), (.ref (v_C_WrongName K), false), (.type "LookupError", false), (.ref (v_C_NotPossible K), false), (.type "ArithmeticError", false), (.ref (v_C_InvalidText K), false), (.ref (v_C_InvalidPart K), false), (.ref (v_C_InvalidSquare K), false), (.ref (v_C_InvalidFact K), false), (.ref (v_C_InvalidIndex K), false), (.ref (v_C_InvalidWish K), false), (.ref (v_C_InvalidCommand K), false), (.ref (v_C_NotABoard K), false), (.ref (v_C_NotNotes K), false), (.ref (v_C_NotARanking K), true), (.ref (v_C_OtherBoard K), false), (.ref (v_C_SameSetting K), false), (.ref (v_C_InvalidSizes K), false), (.ref (v_C_InvalidFacts K), false), (.ref (v_C_InvalidOrder K), false), (.ref (v_C_InvalidPeaks K), false), (.ref (v_C_InvalidWalks K), false), (.ref (v_C_InvalidRests K), false), (.ref (v_C_UnknownSetting K), false), (.ref (v_C_TooMany K), false), (.ref (v_C_Broken K), false), (.ref (v_C_NothingToUndo K), false)] : List (Value × Bool)).all fun p => PySem.W.kitOne K (.ref (v_C_NotARanking K)) p.1 == some p.2) = true := of_decide_eq_true (c.fact 236 (f := q_236))
  have kx_OtherBoard : (([(.ref (v_C_WrongValue K), true), (.type "ValueError", true), (.ref (v_C_WrongName K), false), (.type "LookupError", false), (.ref (v_C_NotPossible K), false), (.type "ArithmeticError", false), (.ref (v_C_InvalidText K), false), (.ref (v_C_InvalidPart K), false), (.ref (v_C_InvalidSquare K), false), (.ref (v_C_InvalidFact K), false), (.ref (v_C_InvalidIndex K), false), (.ref (v_C_InvalidWish K), false), (.ref (v_C_InvalidCommand K), false), (.ref (v_C_NotABoard K), false), (.ref (v_C_NotNotes K), false), (.ref (v_C_NotARanking K), false), (.ref (v_C_OtherBoard K), true), (.ref (v_C_SameSetting K), false), (.ref (v_C_InvalidSizes K), false), (.ref (v_C_InvalidFacts K), false), (.ref (v_C_InvalidOrder K), false), (.ref (v_C_InvalidPeaks K), false), (.ref (v_C_InvalidWalks K), false), (.ref (v_C_InvalidRests K), false), (.ref (v_C_UnknownSetting K), false), (.ref (v_C_TooMany K), false), (.ref (v_C_Broken K), false), (.ref (v_C_NothingToUndo K), false)] : List (Value × Bool)).all fun p => PySem.W.kitOne K (.ref (v_C_OtherBoard K)) p.1 == some p.2) = true := of_decide_eq_true (c.fact 237 (f := q_237))
  have kx_SameSetting : (([(.ref (v_C_WrongValue K), true), (.type "ValueError", true), (.ref (v_C_WrongName K), false), (.type "LookupError", false), (.ref (v_C_NotPossible K), false), (.type "ArithmeticError", false), (.ref (v_C_InvalidText K), false), (.ref (v_C_InvalidPart K), false), (.ref (v_C_InvalidSquare K), false), (.ref (v_C_InvalidFact K), false), (.ref (v_C_InvalidIndex K), false), (.ref (v_C_InvalidWish K), false), (.ref (v_C_InvalidCommand K), false), (.ref (v_C_NotABoard K), false), (.ref (v_C_NotNotes K), false), (.ref (v_C_NotARanking K), false), (.ref (v_C_OtherBoard K), false), (.ref (v_C_SameSetting K), true), (.ref (v_C_InvalidSizes K), false), (.ref (v_C_InvalidFacts K), false), (.ref (v_C_InvalidOrder K), false), (.ref (v_C_InvalidPeaks K), false), (.ref (v_C_InvalidWalks K), false), (.ref (v_C_InvalidRests K), false), (.ref (v_C_UnknownSetting K), false), (.ref (v_C_TooMany K), false), (.ref (v_C_Broken K), false), (.ref (v_C_NothingToUndo K), false)] : List (Value × Bool)).all fun p => PySem.W.kitOne K (.ref (v_C_SameSetting K)) p.1 == some p.2) = true := of_decide_eq_true (c.fact 238 (f := q_238))
  have kx_InvalidSizes : (([(.ref (v_C_WrongValue K), true), (.type "ValueError", true), (.ref (v_C_WrongName K), false), (.type "LookupError", false), (.ref (v_C_NotPossible K), false), (.type "ArithmeticError", false), (.ref (v_C_InvalidText K), false), (.ref (v_C_InvalidPart K), false), (.ref (v_C_InvalidSquare K), false), (.ref (v_C_InvalidFact K), false), (.ref (v_C_InvalidIndex K), false), (.ref (v_C_InvalidWish K), false), (.ref (v_C_InvalidCommand K), false), (.ref (v_C_NotABoard K), false), (.ref (v_C_NotNotes K), false), (.ref (v_C_NotARanking K), false), (.ref (v_C_OtherBoard K), false), (.ref (v_C_SameSetting K), false), (.ref (v_C_InvalidSizes K), true), (.ref (v_C_InvalidFacts K), false), (.ref (v_C_InvalidOrder K), false), (.ref (v_C_InvalidPeaks K), false), (.ref (v_C_InvalidWalks K), false), (.ref (v_C_InvalidRests K), false), (.ref (v_C_UnknownSetting K), false), (.ref (v_C_TooMany K), false), (.ref (v_C_Broken K), false), (.ref (v_C_NothingToUndo K), false)] : List (Value × Bool)).all fun p => PySem.W.kitOne K (.ref (v_C_InvalidSizes K)) p.1 == some p.2) = true := of_decide_eq_true (c.fact 239 (f := q_239))
  have kx_InvalidFacts : (([(.ref (v_C_WrongValue K), true), (.type "ValueError", true), (.ref (v_C_WrongName K), false), (.type "LookupError", false), (.ref (v_C_NotPossible K), false), (.type "ArithmeticError", false), (.ref (v_C_InvalidText K), false), (.ref (v_C_InvalidPart K), false), (.ref (v_C_InvalidSquare K), false), (.ref (v_C_InvalidFact K), false), (.ref (v_C_InvalidIndex K), false), (.ref (v_C_InvalidWish K), false), (.ref (v_C_InvalidCommand K), false), (.ref (v_C_NotABoard K), false), (.ref (v_C_NotNotes K), false), (.ref (v_C_NotARanking K), false), (.ref (v_C_OtherBoard K), false), (.ref (v_C_SameSetting K), false), (.ref (v_C_InvalidSizes K), false), (.ref (v_C_InvalidFacts K), true), (.ref (v_C_InvalidOrder K), false), (.ref (v_C_InvalidPeaks K), false), (.ref (v_C_InvalidWalks K), false), (.ref (v_C_InvalidRests K), false), (.ref (v_C_UnknownSetting K), false), (.ref (v_C_TooMany K), false), (.ref (v_C_Broken K), false), (.ref (v_C_NothingToUndo K), false)] : List (Value × Bool)).all fun p => PySem.W.kitOne K (.ref (v_C_InvalidFacts K)) p.1 == some p.2) = true := of_decide_eq_true (c.fact 240 (f := q_240))
  have kx_InvalidOrder : (([(.ref (v_C_WrongValue K), true), (.type "ValueError", true), (.ref (v_C_WrongName K), false), (.type "LookupError", false), (.ref (v_C_NotPossible K), false), (.type "ArithmeticError", false), (.ref (v_C_InvalidText K), false), (.ref (v_C_InvalidPart K), false), (.ref (v_C_InvalidSquare K), false), (.ref (v_C_InvalidFact K), false), (.ref (v_C_InvalidIndex K), false), (.ref (v_C_InvalidWish K), false), (.ref (v_C_InvalidCommand K), false), (.ref (v_C_NotABoard K), false), (.ref (v_C_NotNotes K), false), (.ref (v_C_NotARanking K), false), (.ref (v_C_OtherBoard K), false), (.ref (v_C_SameSetting K), false), (.ref (v_C_InvalidSizes K), false), (.ref (v_C_InvalidFacts K), false), (.ref (v_C_InvalidOrder K), true), (.ref (v_C_InvalidPeaks K), false), (.ref (v_C_InvalidWalks K), false), (.ref (v_C_InvalidRests K), false), (.ref (v_C_UnknownSetting K), false), (.ref (v_C_TooMany K), false), (.ref (v_C_Broken K), false), (.ref (v_C_NothingToUndo K), false)] : List (Value × Bool)).all fun p => PySem.W.kitOne K (.ref (v_C_InvalidOrder K)) p.1 == some p.2) = true := of_decide_eq_true (c.fact 241 (f := q_241))
  have kx_InvalidPeaks : (([(.ref (v_C_WrongValue K), true), (.type "ValueError", true), (.ref (v_C_WrongName K), false), (.type "LookupError", false), (.ref (v_C_NotPossible K), false), (.type "ArithmeticError", false), (.ref (v_C_InvalidText K), false), (.ref (v_C_InvalidPart K), false), (.ref (v_C_InvalidSquare K), false), (.ref (v_C_InvalidFact K), false), (.ref (v_C_InvalidIndex K), false), (.ref (v_C_InvalidWish K), false), (.ref (v_C_InvalidCommand K), false), (.ref (v_C_NotABoard K), false), (.ref (v_C_NotNotes K), false), (.ref (v_C_NotARanking K), false), (.ref (v_C_OtherBoard K), false), (.ref (v_C_SameSetting K), false), (.ref (v_C_InvalidSizes K), false), (.ref (v_C_InvalidFacts K), false), (.ref (v_C_InvalidOrder K), false), (.ref (v_C_InvalidPeaks K), true), (.ref (v_C_InvalidWalks K), false), (.ref (v_C_InvalidRests K), false), (.ref (v_C_UnknownSetting K), false), (.ref (v_C_TooMany K), false), (.ref (v_C_Broken K), false), (.ref (v_C_NothingToUndo K), false)] : List (Value × Bool)).all fun p => PySem.W.kitOne K (.ref (v_C_InvalidPeaks K)) p.1 == some p.2) = true := of_decide_eq_true (c.fact 242 (f := q_242))
  have kx_InvalidWalks : (([(.ref (v_C_WrongValue K), true), (.type "ValueError", true), (.ref (v_C_WrongName K), false), (.type "LookupError", false), (.ref (v_C_NotPossible K), false), (.type "ArithmeticError", false), (.ref (v_C_InvalidText K), false), (.ref (v_C_InvalidPart K), false), (.ref (v_C_InvalidSquare K), false), (.ref (v_C_InvalidFact K), false), (.ref (v_C_InvalidIndex K), false), (.ref (v_C_InvalidWish K), false), (.ref (v_C_InvalidCommand K), false), (.ref (v_C_NotABoard K), false), (.ref (v_C_NotNotes K), false), (.ref (v_C_NotARanking K), false), (.ref (v_C_OtherBoard K), false), (.ref (v_C_SameSetting K), false), (.ref (v_C_InvalidSizes K), false), (.ref (v_C_InvalidFacts K), false), (.ref (v_C_InvalidOrder K), false), (.ref (v_C_InvalidPeaks K), false), (.ref (v_C_InvalidWalks K), true), (.ref (v_C_InvalidRests K), false), (.ref (v_C_UnknownSetting K), false), (.ref (v_C_TooMany K), false), (.ref (v_C_Broken K), false), (.ref (v_C_NothingToUndo K), false)] : List (Value × Bool)).all fun p => PySem.W.kitOne K (.ref (v_C_InvalidWalks K)) p.1 == some p.2) = true := of_decide_eq_true (c.fact 243 (f := q_243))
  have kx_InvalidRests : (([(.ref (v_C_WrongValue K), true), (.type "ValueError", true), (.ref (v_C_WrongName K), false), (.type "LookupError", false), (.ref (v_C_NotPossible K), false), (.type "ArithmeticError", false), (.ref (v_C_InvalidText K), false), (.ref (v_C_InvalidPart K), false), (.ref (v_C_InvalidSquare K), false), (.ref (v_C_InvalidFact K), false), (.ref (v_C_InvalidIndex K), false), (.ref (v_C_InvalidWish K), false), (.ref (v_C_InvalidCommand K), false), (.ref (v_C_NotABoard K), false), (.ref (v_C_NotNotes K), false), (.ref (v_C_NotARanking K), false), (.ref (v_C_OtherBoard K), false), (.ref (v_C_SameSetting K), false), (.ref (v_C_InvalidSizes K), false), (.ref (v_C_InvalidFacts K), false), (.ref (v_C_InvalidOrder K), false), (.ref (v_C_InvalidPeaks K), false), (.ref (v_C_InvalidWalks K), false), (.ref (v_C_InvalidRests K), true), (.ref (v_C_UnknownSetting K), false), (.ref (v_C_TooMany K), false), (.ref (v_C_Broken K), false), (.ref (v_C_NothingToUndo K), false)] : List (Value × Bool)).all fun p => PySem.W.kitOne K (.ref (v_C_InvalidRests K)) p.1 == some p.2) = true := of_decide_eq_true (c.fact 244 (f := q_244))
  have kx_UnknownSetting : (([(.ref (v_C_WrongValue K), false), (.type "ValueError", false), (.ref (v_C_WrongName K), true), (.type "LookupError", true), (.ref (v_C_NotPossible K), false), (.type "ArithmeticError", false), (.ref (v_C_InvalidText K), false), (.ref (v_C_InvalidPart K), false), (.ref (v_C_InvalidSquare K), false), (.ref (v_C_InvalidFact K), false), (.ref (v_C_InvalidIndex K), false), (.ref (v_C_InvalidWish K), false), (.ref (v_C_InvalidCommand K), false), (.ref (v_C_NotABoard K), false), (.ref (v_C_NotNotes K), false), (.ref (v_C_NotARanking K), false), (.ref (v_C_OtherBoard K), false), (.ref (v_C_SameSetting K), false), (.ref (v_C_InvalidSizes K), false), (.ref (v_C_InvalidFacts K), false), (.ref (v_C_InvalidOrder K), false), (.ref (v_C_InvalidPeaks K), false), (.ref (v_C_InvalidWalks K), false), (.ref (v_C_InvalidRests K), false), (.ref (v_C_UnknownSetting K), true), (.ref (v_C_TooMany K), false), (.ref (v_C_Broken K), false), (.ref (v_C_NothingToUndo K), false)] : List (Value × Bool)).all fun p => PySem.W.kitOne K (.ref (v_C_UnknownSetting K)) p.1 == some p.2) = true := of_decide_eq_true (c.fact 245 (f := q_245))
  have kx_TooMany : (([(.ref (v_C_WrongValue K), false), (.type "ValueError", false), (.ref (v_C_WrongName K), false), (.type "LookupError", false), (.ref (v_C_NotPossible K), true), (.type "ArithmeticError", true), (.ref (v_C_InvalidText K), false), (.ref (v_C_InvalidPart K), false), (.ref (v_C_InvalidSquare K), false), (.ref (v_C_InvalidFact K), false), (.ref (v_C_InvalidIndex K), false), (.ref (v_C_InvalidWish K), false), (.ref (v_C_InvalidCommand K), false), (.ref (v_C_NotABoard K), false), (.ref (v_C_NotNotes K), false), (.ref (v_C_NotARanking K), false), (.ref (v_C_OtherBoard K), false), (.ref (v_C_SameSetting K), false), (.ref (v_C_InvalidSizes K), false), (.ref (v_C_InvalidFacts K), false), (.ref (v_C_InvalidOrder K), false), (.ref (v_C_InvalidPeaks K), false), (.ref (v_C_InvalidWalks K), false), (.ref (v_C_InvalidRests K), false), (.ref (v_C_UnknownSetting K), false), (.ref (v_C_TooMany K), true), (.ref (v_C_Broken K), false), (.ref (v_C_NothingToUndo K), false)] : List (Value × Bool)).all fun p => PySem.W.kitOne K (.ref (v_C_TooMany K)) p.1 == some p.2) = true := of_decide_eq_true (c.fact 246 (f := q_246))
  have kx_Broken : (([(.ref (v_C_WrongValue K), false), (.type "ValueError", false), (.ref (v_C_WrongName K), false), (.type "LookupError", false), (.ref (v_C_NotPossible K), true), (.type "ArithmeticError", true), (.ref (v_C_InvalidText K), false), (.ref (v_C_InvalidPart K), false), (.ref (v_C_InvalidSquare K), false), (.ref (v_C_InvalidFact K), false), (.ref (v_C_InvalidIndex K), false), (.ref (v_C_InvalidWish K), false), (.ref (v_C_InvalidCommand K), false), (.ref (v_C_NotABoard K), false), (.ref (v_C_NotNotes K), false), (.ref (v_C_NotARanking K), false), (.ref (v_C_OtherBoard K), false), (.ref (v_C_SameSetting K), false), (.ref (v_C_InvalidSizes K), false), (.ref (v_C_InvalidFacts K), false), (.ref (v_C_InvalidOrder K), false), (.ref (v_C_InvalidPeaks K), false), (.ref (v_C_InvalidWalks K), false), (.ref (v_C_InvalidRests K), false), (.ref (v_C_UnknownSetting K), false), (.ref (v_C_TooMany K), false), (.ref (v_C_Broken K), true), (.ref (v_C_NothingToUndo K), false)] : List (Value × Bool)).all fun p => PySem.W.kitOne K (.ref (v_C_Broken K)) p.1 == some p.2) = true := of_decide_eq_true (c.fact 247 (f := q_247))
  have kx_WrongValue : (([(.ref (v_C_WrongValue K), true), (.type "ValueError", true), (.ref (v_C_WrongName K), false), (.type "LookupError", false), (.ref (v_C_NotPossible K), false), (.type "ArithmeticError", false), (.ref (v_C_InvalidText K), false), (.ref (v_C_InvalidPart K), false), (.ref (v_C_InvalidSquare K), false), (.ref (v_C_InvalidFact K), false), (.ref (v_C_InvalidIndex K), false), (.ref (v_C_InvalidWish K), false), (.ref (v_C_InvalidCommand K), false), (.ref (v_C_NotABoard K), false), (.ref (v_C_NotNotes K), false), (.ref (v_C_NotARanking K), false), (.ref (v_C_OtherBoard K), false), (.ref (v_C_SameSetting K), false), (.ref (v_C_InvalidSizes K), false), (.ref (v_C_InvalidFacts K), false), (.ref (v_C_InvalidOrder K), false), (.ref (v_C_InvalidPeaks K), false), (.ref (v_C_InvalidWalks K), false), (.ref (v_C_InvalidRests K), false), (.ref (v_C_UnknownSetting K), false), (.ref (v_C_TooMany K), false), (.ref (v_C_Broken K), false), (.ref (v_C_NothingToUndo K), false)] : List (Value × Bool)).all fun p => PySem.W.kitOne K (.ref (v_C_WrongValue K)) p.1 == some p.2) = true := of_decide_eq_true (c.fact 248 (f := q_248))
  have kx_WrongName : (([(.ref (v_C_WrongValue K), false), (.type "ValueError", false), (.ref (v_C_WrongName K), true), (.type "LookupError", true), (.ref (v_C_NotPossible K), false), (.type "ArithmeticError", false), (.ref (v_C_InvalidText K), false), (.ref (v_C_InvalidPart K), false), (.ref (v_C_InvalidSquare K), false), (.ref (v_C_InvalidFact K), false), (.ref (v_C_InvalidIndex K), false), (.ref (v_C_InvalidWish K), false), (.ref (v_C_InvalidCommand K), false), (.ref (v_C_NotABoard K), false), (.ref (v_C_NotNotes K), false), (.ref (v_C_NotARanking K), false), (.ref (v_C_OtherBoard K), false), (.ref (v_C_SameSetting K), false), (.ref (v_C_InvalidSizes K), false), (.ref (v_C_InvalidFacts K), false), (.ref (v_C_InvalidOrder K), false), (.ref (v_C_InvalidPeaks K), false), (.ref (v_C_InvalidWalks K), false), (.ref (v_C_InvalidRests K), false), (.ref (v_C_UnknownSetting K), false), (.ref (v_C_TooMany K), false), (.ref (v_C_Broken K), false), (.ref (v_C_NothingToUndo K), false)] : List (Value × Bool)).all fun p => PySem.W.kitOne K (.ref (v_C_WrongName K)) p.1 == some p.2) = true := of_decide_eq_true (c.fact 249 (f := q_249))
  have kx_NotPossible : (([(.ref (v_C_WrongValue K), false), (.type "ValueError", false), (.ref (v_C_WrongName K), false), (.type "LookupError", false), (.ref (v_C_NotPossible K), true), (.type "ArithmeticError", true), (.ref (v_C_InvalidText K), false), (.ref (v_C_InvalidPart K), false), (.ref (v_C_InvalidSquare K), false), (.ref (v_C_InvalidFact K), false), (.ref (v_C_InvalidIndex K), false), (.ref (v_C_InvalidWish K), false), (.ref (v_C_InvalidCommand K), false), (.ref (v_C_NotABoard K), false), (.ref (v_C_NotNotes K), false), (.ref (v_C_NotARanking K), false), (.ref (v_C_OtherBoard K), false), (.ref (v_C_SameSetting K), false), (.ref (v_C_InvalidSizes K), false), (.ref (v_C_InvalidFacts K), false), (.ref (v_C_InvalidOrder K), false), (.ref (v_C_InvalidPeaks K), false), (.ref (v_C_InvalidWalks K), false), (.ref (v_C_InvalidRests K), false), (.ref (v_C_UnknownSetting K), false), (.ref (v_C_TooMany K), false), (.ref (v_C_Broken K), false), (.ref (v_C_NothingToUndo K), false)] : List (Value × Bool)).all fun p => PySem.W.kitOne K (.ref (v_C_NotPossible K)) p.1 == some p.2) = true := of_decide_eq_true (c.fact 250 (f := q_250))
  have kx_NothingToUndo : (([(.ref (v_C_WrongValue K), false), (.type "ValueError", false), (.ref (v_C_WrongName K), false), (.type "LookupError", false), (.ref (v_C_NotPossible K), true), (.type "ArithmeticError", true), (.ref (v_C_InvalidText K), false), (.ref (v_C_InvalidPart K), false), (.ref (v_C_InvalidSquare K), false), (.ref (v_C_InvalidFact K), false), (.ref (v_C_InvalidIndex K), false), (.ref (v_C_InvalidWish K), false), (.ref (v_C_InvalidCommand K), false), (.ref (v_C_NotABoard K), false), (.ref (v_C_NotNotes K), false), (.ref (v_C_NotARanking K), false), (.ref (v_C_OtherBoard K), false), (.ref (v_C_SameSetting K), false), (.ref (v_C_InvalidSizes K), false), (.ref (v_C_InvalidFacts K), false), (.ref (v_C_InvalidOrder K), false), (.ref (v_C_InvalidPeaks K), false), (.ref (v_C_InvalidWalks K), false), (.ref (v_C_InvalidRests K), false), (.ref (v_C_UnknownSetting K), false), (.ref (v_C_TooMany K), false), (.ref (v_C_Broken K), false), (.ref (v_C_NothingToUndo K), true)] : List (Value × Bool)).all fun p => PySem.W.kitOne K (.ref (v_C_NothingToUndo K)) p.1 == some p.2) = true := of_decide_eq_true (c.fact 251 (f := q_251))
  have xg_InvalidText : PySem.W.nsIn K mainGlobals "InvalidText" = some (some (.ref (v_C_InvalidText K))) := of_decide_eq_true (c.fact 252 (f := q_252))
  have x1_InvalidText : PySem.W.excInitIn K (v_C_InvalidText K) [.type "ValueError", .type "Exception", .type "BaseException", .type "object"] "ValueError.__new__" = true := of_decide_eq_true (c.fact 253 (f := q_253))
  have x2_InvalidText : PySem.W.hasDictIn K (v_C_InvalidText K) = true := of_decide_eq_true (c.fact 254 (f := q_254))
  have x3_InvalidText : PySem.W.findIn K (.ref (v_C_InvalidText K)) "__setattr__" = some (some (.builtin "object.__setattr__")) := of_decide_eq_true (c.fact 255 (f := q_255))
  have x4_InvalidText : PySem.W.takerIn K (v_C_InvalidText K) "given" = some none := of_decide_eq_true (c.fact 256 (f := q_256))
  have x5_InvalidText : PySem.W.findIn K (.ref (v_C_InvalidText K)) "__init__" = some (some (.ref (v_i_InvalidText K))) := of_decide_eq_true (c.fact 257 (f := q_257))
  have x6_InvalidText : PySem.W.typeIn K (.ref (v_i_InvalidText K)) = some (.type "function") := of_decide_eq_true (c.fact 258 (f := q_258))
  have x7_InvalidText : PySem.W.keepIn K (.ref (v_C_InvalidText K)) = true := of_decide_eq_true (c.fact 259 (f := q_259))
  have x8_InvalidText : PySem.W.subIn K (.ref (v_C_InvalidText K)) (.type "BaseException") = some true := of_decide_eq_true (c.fact 260 (f := q_260))
  have x9_InvalidText : PySem.W.typeIn K (.ref (v_C_InvalidText K)) = some (.type "type") := of_decide_eq_true (c.fact 261 (f := q_261))
  have x0_InvalidText : ExL.kwB K (v_i_InvalidText K) = true := of_decide_eq_true (c.fact 262 (f := q_262))
  have xg_InvalidPart : PySem.W.nsIn K mainGlobals "InvalidPart" = some (some (.ref (v_C_InvalidPart K))) := of_decide_eq_true (c.fact 263 (f := q_263))
  have x1_InvalidPart : PySem.W.excInitIn K (v_C_InvalidPart K) [.type "ValueError", .type "Exception", .type "BaseException", .type "object"] "ValueError.__new__" = true := of_decide_eq_true (c.fact 264 (f := q_264))
  have x2_InvalidPart : PySem.W.hasDictIn K (v_C_InvalidPart K) = true := of_decide_eq_true (c.fact 265 (f := q_265))
  have x3_InvalidPart : PySem.W.findIn K (.ref (v_C_InvalidPart K)) "__setattr__" = some (some (.builtin "object.__setattr__")) := of_decide_eq_true (c.fact 266 (f := q_266))
  have x4_InvalidPart : PySem.W.takerIn K (v_C_InvalidPart K) "given" = some none := of_decide_eq_true (c.fact 267 (f := q_267))
  have x5_InvalidPart : PySem.W.findIn K (.ref (v_C_InvalidPart K)) "__init__" = some (some (.ref (v_i_InvalidPart K))) := of_decide_eq_true (c.fact 268 (f := q_268))
  have x6_InvalidPart : PySem.W.typeIn K (.ref (v_i_InvalidPart K)) = some (.type "function") := of_decide_eq_true (c.fact 269 (f := q_269))
  have x7_InvalidPart : PySem.W.keepIn K (.ref (v_C_InvalidPart K)) = true := of_decide_eq_true (c.fact 270 (f := q_270))
  have x8_InvalidPart : PySem.W.subIn K (.ref (v_C_InvalidPart K)) (.type "BaseException") = some true := of_decide_eq_true (c.fact 271 (f := q_271))
  have x9_InvalidPart : PySem.W.typeIn K (.ref (v_C_InvalidPart K)) = some (.type "type") := of_decide_eq_true (c.fact 272 (f := q_272))
  have x0_InvalidPart : ExL.kwB K (v_i_InvalidPart K) = true := of_decide_eq_true (c.fact 273 (f := q_273))
  have xg_InvalidSquare : PySem.W.nsIn K mainGlobals "InvalidSquare" = some (some (.ref (v_C_InvalidSquare K))) := of_decide_eq_true (c.fact 274 (f := q_274))
  have x1_InvalidSquare : PySem.W.excInitIn K (v_C_InvalidSquare K) [.type "ValueError", .type "Exception", .type "BaseException", .type "object"] "ValueError.__new__" = true := of_decide_eq_true (c.fact 275 (f := q_275))
  have x2_InvalidSquare : PySem.W.hasDictIn K (v_C_InvalidSquare K) = true := of_decide_eq_true (c.fact 276 (f := q_276))
  have x3_InvalidSquare : PySem.W.findIn K (.ref (v_C_InvalidSquare K)) "__setattr__" = some (some (.builtin "object.__setattr__")) := of_decide_eq_true (c.fact 277 (f := q_277))
  have x4_InvalidSquare : PySem.W.takerIn K (v_C_InvalidSquare K) "given" = some none := of_decide_eq_true (c.fact 278 (f := q_278))
  have x5_InvalidSquare : PySem.W.findIn K (.ref (v_C_InvalidSquare K)) "__init__" = some (some (.ref (v_i_InvalidSquare K))) := of_decide_eq_true (c.fact 279 (f := q_279))
  have x6_InvalidSquare : PySem.W.typeIn K (.ref (v_i_InvalidSquare K)) = some (.type "function") := of_decide_eq_true (c.fact 280 (f := q_280))
  have x7_InvalidSquare : PySem.W.keepIn K (.ref (v_C_InvalidSquare K)) = true := of_decide_eq_true (c.fact 281 (f := q_281))
  have x8_InvalidSquare : PySem.W.subIn K (.ref (v_C_InvalidSquare K)) (.type "BaseException") = some true := of_decide_eq_true (c.fact 282 (f := q_282))
  have x9_InvalidSquare : PySem.W.typeIn K (.ref (v_C_InvalidSquare K)) = some (.type "type") := of_decide_eq_true (c.fact 283 (f := q_283))
  have x0_InvalidSquare : ExL.kwB K (v_i_InvalidSquare K) = true := of_decide_eq_true (c.fact 284 (f := q_284))
  have xg_InvalidFact : PySem.W.nsIn K mainGlobals "InvalidFact" = some (some (.ref (v_C_InvalidFact K))) := of_decide_eq_true (c.fact 285 (f := q_285))
  have x1_InvalidFact : PySem.W.excInitIn K (v_C_InvalidFact K) [.type "ValueError", .type "Exception", .type "BaseException", .type "object"] "ValueError.__new__" = true := of_decide_eq_true (c.fact 286 (f := q_286))
  have x2_InvalidFact : PySem.W.hasDictIn K (v_C_InvalidFact K) = true := of_decide_eq_true (c.fact 287 (f := q_287))
  have x3_InvalidFact : PySem.W.findIn K (.ref (v_C_InvalidFact K)) "__setattr__" = some (some (.builtin "object.__setattr__")) := of_decide_eq_true (c.fact 288 (f := q_288))
  have x4_InvalidFact : PySem.W.takerIn K (v_C_InvalidFact K) "given" = some none := of_decide_eq_true (c.fact 289 (f := q_289))
  have x5_InvalidFact : PySem.W.findIn K (.ref (v_C_InvalidFact K)) "__init__" = some (some (.ref (v_i_InvalidFact K))) := of_decide_eq_true (c.fact 290 (f := q_290))
  have x6_InvalidFact : PySem.W.typeIn K (.ref (v_i_InvalidFact K)) = some (.type "function") := of_decide_eq_true (c.fact 291 (f := q_291))
  have x7_InvalidFact : PySem.W.keepIn K (.ref (v_C_InvalidFact K)) = true := of_decide_eq_true (c.fact 292 (f := q_292))
  have x8_InvalidFact : PySem.W.subIn K (.ref (v_C_InvalidFact K)) (.type "BaseException") = some true := of_decide_eq_true (c.fact 293 (f := q_293))
  have x9_InvalidFact : PySem.W.typeIn K (.ref (v_C_InvalidFact K)) = some (.type "type") := of_decide_eq_true (c.fact 294 (f := q_294))
  have x0_InvalidFact : ExL.kwB K (v_i_InvalidFact K) = true := of_decide_eq_true (c.fact 295 (f := q_295))
  have xg_InvalidIndex : PySem.W.nsIn K mainGlobals "InvalidIndex" = some (some (.ref (v_C_InvalidIndex K))) := of_decide_eq_true (c.fact 296 (f := q_296))
  have x1_InvalidIndex : PySem.W.excInitIn K (v_C_InvalidIndex K) [.type "ValueError", .type "Exception", .type "BaseException", .type "object"] "ValueError.__new__" = true := of_decide_eq_true (c.fact 297 (f := q_297))
  have x2_InvalidIndex : PySem.W.hasDictIn K (v_C_InvalidIndex K) = true := of_decide_eq_true (c.fact 298 (f := q_298))
  have x3_InvalidIndex : PySem.W.findIn K (.ref (v_C_InvalidIndex K)) "__setattr__" = some (some (.builtin "object.__setattr__")) := of_decide_eq_true (c.fact 299 (f := q_299))
  have x4_InvalidIndex : PySem.W.takerIn K (v_C_InvalidIndex K) "given" = some none := of_decide_eq_true (c.fact 300 (f := q_300))
  have x5_InvalidIndex : PySem.W.findIn K (.ref (v_C_InvalidIndex K)) "__init__" = some (some (.ref (v_i_InvalidIndex K))) := of_decide_eq_true (c.fact 301 (f := q_301))
  have x6_InvalidIndex : PySem.W.typeIn K (.ref (v_i_InvalidIndex K)) = some (.type "function") := of_decide_eq_true (c.fact 302 (f := q_302))
  have x7_InvalidIndex : PySem.W.keepIn K (.ref (v_C_InvalidIndex K)) = true := of_decide_eq_true (c.fact 303 (f := q_303))
  have x8_InvalidIndex : PySem.W.subIn K (.ref (v_C_InvalidIndex K)) (.type "BaseException") = some true := of_decide_eq_true (c.fact 304 (f := q_304))
  have x9_InvalidIndex : PySem.W.typeIn K (.ref (v_C_InvalidIndex K)) = some (.type "type") := of_decide_eq_true (c.fact 305 (f := q_305))
  have x0_InvalidIndex : ExL.kwB K (v_i_InvalidIndex K) = true := of_decide_eq_true (c.fact 306 (f := q_306))
  have xg_InvalidWish : PySem.W.nsIn K mainGlobals "InvalidWish" = some (some (.ref (v_C_InvalidWish K))) := of_decide_eq_true (c.fact 307 (f := q_307))
  have x1_InvalidWish : PySem.W.excInitIn K (v_C_InvalidWish K) [.type "ValueError", .type "Exception", .type "BaseException", .type "object"] "ValueError.__new__" = true := of_decide_eq_true (c.fact 308 (f := q_308))
  have x2_InvalidWish : PySem.W.hasDictIn K (v_C_InvalidWish K) = true := of_decide_eq_true (c.fact 309 (f := q_309))
  have x3_InvalidWish : PySem.W.findIn K (.ref (v_C_InvalidWish K)) "__setattr__" = some (some (.builtin "object.__setattr__")) := of_decide_eq_true (c.fact 310 (f := q_310))
  have x4_InvalidWish : PySem.W.takerIn K (v_C_InvalidWish K) "given" = some none := of_decide_eq_true (c.fact 311 (f := q_311))
  have x5_InvalidWish : PySem.W.findIn K (.ref (v_C_InvalidWish K)) "__init__" = some (some (.ref (v_i_InvalidWish K))) := of_decide_eq_true (c.fact 312 (f := q_312))
  have x6_InvalidWish : PySem.W.typeIn K (.ref (v_i_InvalidWish K)) = some (.type "function") := of_decide_eq_true (c.fact 313 (f := q_313))
  have x7_InvalidWish : PySem.W.keepIn K (.ref (v_C_InvalidWish K)) = true := of_decide_eq_true (c.fact 314 (f := q_314))
  have x8_InvalidWish : PySem.W.subIn K (.ref (v_C_InvalidWish K)) (.type "BaseException") = some true := of_decide_eq_true (c.fact 315 (f := q_315))
  have x9_InvalidWish : PySem.W.typeIn K (.ref (v_C_InvalidWish K)) = some (.type "type") := of_decide_eq_true (c.fact 316 (f := q_316))
  have x0_InvalidWish : ExL.kwB K (v_i_InvalidWish K) = true := of_decide_eq_true (c.fact 317 (f := q_317))
  have xg_InvalidCommand : PySem.W.nsIn K mainGlobals "InvalidCommand" = some (some (.ref (v_C_InvalidCommand K))) := of_decide_eq_true (c.fact 318 (f := q_318))
  have x1_InvalidCommand : PySem.W.excInitIn K (v_C_InvalidCommand K) [.type "ValueError", .type "Exception", .type "BaseException", .type "object"] "ValueError.__new__" = true := of_decide_eq_true (c.fact 319 (f := q_319))
  have x2_InvalidCommand : PySem.W.hasDictIn K (v_C_InvalidCommand K) = true := of_decide_eq_true (c.fact 320 (f := q_320))
  have x3_InvalidCommand : PySem.W.findIn K (.ref (v_C_InvalidCommand K)) "__setattr__" = some (some (.builtin "object.__setattr__")) := of_decide_eq_true (c.fact 321 (f := q_321))
  have x4_InvalidCommand : PySem.W.takerIn K (v_C_InvalidCommand K) "given" = some none := of_decide_eq_true (c.fact 322 (f := q_322))
  have x5_InvalidCommand : PySem.W.findIn K (.ref (v_C_InvalidCommand K)) "__init__" = some (some (.ref (v_i_InvalidCommand K))) := of_decide_eq_true (c.fact 323 (f := q_323))
  have x6_InvalidCommand : PySem.W.typeIn K (.ref (v_i_InvalidCommand K)) = some (.type "function") := of_decide_eq_true (c.fact 324 (f := q_324))
  have x7_InvalidCommand : PySem.W.keepIn K (.ref (v_C_InvalidCommand K)) = true := of_decide_eq_true (c.fact 325 (f := q_325))
  have x8_InvalidCommand : PySem.W.subIn K (.ref (v_C_InvalidCommand K)) (.type "BaseException") = some true := of_decide_eq_true (c.fact 326 (f := q_326))
  have x9_InvalidCommand : PySem.W.typeIn K (.ref (v_C_InvalidCommand K)) = some (.type "type") := of_decide_eq_true (c.fact 327 (f := q_327))
  have x0_InvalidCommand : ExL.kwB K (v_i_InvalidCommand K) = true := of_decide_eq_true (c.fact 328 (f := q_328))
  have xg_NotABoard : PySem.W.nsIn K mainGlobals "NotABoard" = some (some (.ref (v_C_NotABoard K))) := of_decide_eq_true (c.fact 329 (f := q_329))
  have x1_NotABoard : PySem.W.excInitIn K (v_C_NotABoard K) [.type "ValueError", .type "Exception", .type "BaseException", .type "object"] "ValueError.__new__" = true := of_decide_eq_true (c.fact 330 (f := q_330))
  have x2_NotABoard : PySem.W.hasDictIn K (v_C_NotABoard K) = true := of_decide_eq_true (c.fact 331 (f := q_331))
  have x3_NotABoard : PySem.W.findIn K (.ref (v_C_NotABoard K)) "__setattr__" = some (some (.builtin "object.__setattr__")) := of_decide_eq_true (c.fact 332 (f := q_332))
  have x4_NotABoard : PySem.W.takerIn K (v_C_NotABoard K) "given" = some none := of_decide_eq_true (c.fact 333 (f := q_333))
  have x5_NotABoard : PySem.W.findIn K (.ref (v_C_NotABoard K)) "__init__" = some (some (.ref (v_i_NotABoard K))) := of_decide_eq_true (c.fact 334 (f := q_334))
  have x6_NotABoard : PySem.W.typeIn K (.ref (v_i_NotABoard K)) = some (.type "function") := of_decide_eq_true (c.fact 335 (f := q_335))
  have x7_NotABoard : PySem.W.keepIn K (.ref (v_C_NotABoard K)) = true := of_decide_eq_true (c.fact 336 (f := q_336))
  have x8_NotABoard : PySem.W.subIn K (.ref (v_C_NotABoard K)) (.type "BaseException") = some true := of_decide_eq_true (c.fact 337 (f := q_337))
  have x9_NotABoard : PySem.W.typeIn K (.ref (v_C_NotABoard K)) = some (.type "type") := of_decide_eq_true (c.fact 338 (f := q_338))
  have x0_NotABoard : ExL.kwB K (v_i_NotABoard K) = true := of_decide_eq_true (c.fact 339 (f := q_339))
  have xg_NotNotes : PySem.W.nsIn K mainGlobals "NotNotes" = some (some (.ref (v_C_NotNotes K))) := of_decide_eq_true (c.fact 340 (f := q_340))
  have x1_NotNotes : PySem.W.excInitIn K (v_C_NotNotes K) [.type "ValueError", .type "Exception", .type "BaseException", .type "object"] "ValueError.__new__" = true := of_decide_eq_true (c.fact 341 (f := q_341))
  have x2_NotNotes : PySem.W.hasDictIn K (v_C_NotNotes K) = true := of_decide_eq_true (c.fact 342 (f := q_342))
  have x3_NotNotes : PySem.W.findIn K (.ref (v_C_NotNotes K)) "__setattr__" = some (some (.builtin "object.__setattr__")) := of_decide_eq_true (c.fact 343 (f := q_343))
  have x4_NotNotes : PySem.W.takerIn K (v_C_NotNotes K) "given" = some none := of_decide_eq_true (c.fact 344 (f := q_344))
  have x5_NotNotes : PySem.W.findIn K (.ref (v_C_NotNotes K)) "__init__" = some (some (.ref (v_i_NotNotes K))) := of_decide_eq_true (c.fact 345 (f := q_345))
  have x6_NotNotes : PySem.W.typeIn K (.ref (v_i_NotNotes K)) = some (.type "function") := of_decide_eq_true (c.fact 346 (f := q_346))
  have x7_NotNotes : PySem.W.keepIn K (.ref (v_C_NotNotes K)) = true := of_decide_eq_true (c.fact 347 (f := q_347))
  have x8_NotNotes : PySem.W.subIn K (.ref (v_C_NotNotes K)) (.type "BaseException") = some true := of_decide_eq_true (c.fact 348 (f := q_348))
  have x9_NotNotes : PySem.W.typeIn K (.ref (v_C_NotNotes K)) = some (.type "type") := of_decide_eq_true (c.fact 349 (f := q_349))
  have x0_NotNotes : ExL.kwB K (v_i_NotNotes K) = true := of_decide_eq_true (c.fact 350 (f := q_350))
  have xg_NotARanking : PySem.W.nsIn K mainGlobals "NotARanking" = some (some (.ref (v_C_NotARanking K))) := of_decide_eq_true (c.fact 351 (f := q_351))
  have x1_NotARanking : PySem.W.excInitIn K (v_C_NotARanking K) [.type "ValueError", .type "Exception", .type "BaseException", .type "object"] "ValueError.__new__" = true := of_decide_eq_true (c.fact 352 (f := q_352))
  have x2_NotARanking : PySem.W.hasDictIn K (v_C_NotARanking K) = true := of_decide_eq_true (c.fact 353 (f := q_353))
  have x3_NotARanking : PySem.W.findIn K (.ref (v_C_NotARanking K)) "__setattr__" = some (some (.builtin "object.__setattr__")) := of_decide_eq_true (c.fact 354 (f := q_354))
  have x4_NotARanking : PySem.W.takerIn K (v_C_NotARanking K) "given" = some none := of_decide_eq_true (c.fact 355 (f := q_355))
  have x5_NotARanking : PySem.W.findIn K (.ref (v_C_NotARanking K)) "__init__" = some (some (.ref (v_i_NotARanking K))) := of_decide_eq_true (c.fact 356 (f := q_356))
  have x6_NotARanking : PySem.W.typeIn K (.ref (v_i_NotARanking K)) = some (.type "function") := of_decide_eq_true (c.fact 357 (f := q_357))
  have x7_NotARanking : PySem.W.keepIn K (.ref (v_C_NotARanking K)) = true := of_decide_eq_true (c.fact 358 (f := q_358))
  have x8_NotARanking : PySem.W.subIn K (.ref (v_C_NotARanking K)) (.type "BaseException") = some true := of_decide_eq_true (c.fact 359 (f := q_359))
  have x9_NotARanking : PySem.W.typeIn K (.ref (v_C_NotARanking K)) = some (.type "type") := of_decide_eq_true (c.fact 360 (f := q_360))
  have x0_NotARanking : ExL.kwB K (v_i_NotARanking K) = true := of_decide_eq_true (c.fact 361 (f := q_361))
  have xg_OtherBoard : PySem.W.nsIn K mainGlobals "OtherBoard" = some (some (.ref (v_C_OtherBoard K))) := of_decide_eq_true (c.fact 362 (f := q_362))
  have x1_OtherBoard : PySem.W.excInitIn K (v_C_OtherBoard K) [.type "ValueError", .type "Exception", .type "BaseException", .type "object"] "ValueError.__new__" = true := of_decide_eq_true (c.fact 363 (f := q_363))
  have x2_OtherBoard : PySem.W.hasDictIn K (v_C_OtherBoard K) = true := of_decide_eq_true (c.fact 364 (f := q_364))
  have x3_OtherBoard : PySem.W.findIn K (.ref (v_C_OtherBoard K)) "__setattr__" = some (some (.builtin "object.__setattr__")) := of_decide_eq_true (c.fact 365 (f := q_365))
  have x4_OtherBoard : PySem.W.takerIn K (v_C_OtherBoard K) "given" = some none := of_decide_eq_true (c.fact 366 (f := q_366))
  have x5_OtherBoard : PySem.W.findIn K (.ref (v_C_OtherBoard K)) "__init__" = some (some (.ref (v_i_OtherBoard K))) := of_decide_eq_true (c.fact 367 (f := q_367))
  have x6_OtherBoard : PySem.W.typeIn K (.ref (v_i_OtherBoard K)) = some (.type "function") := of_decide_eq_true (c.fact 368 (f := q_368))
  have x7_OtherBoard : PySem.W.keepIn K (.ref (v_C_OtherBoard K)) = true := of_decide_eq_true (c.fact 369 (f := q_369))
  have x8_OtherBoard : PySem.W.subIn K (.ref (v_C_OtherBoard K)) (.type "BaseException") = some true := of_decide_eq_true (c.fact 370 (f := q_370))
  have x9_OtherBoard : PySem.W.typeIn K (.ref (v_C_OtherBoard K)) = some (.type "type") := of_decide_eq_true (c.fact 371 (f := q_371))
  have x0_OtherBoard : ExL.kwB K (v_i_OtherBoard K) = true := of_decide_eq_true (c.fact 372 (f := q_372))
  have xg_SameSetting : PySem.W.nsIn K mainGlobals "SameSetting" = some (some (.ref (v_C_SameSetting K))) := of_decide_eq_true (c.fact 373 (f := q_373))
  have x1_SameSetting : PySem.W.excInitIn K (v_C_SameSetting K) [.type "ValueError", .type "Exception", .type "BaseException", .type "object"] "ValueError.__new__" = true := of_decide_eq_true (c.fact 374 (f := q_374))
  have x2_SameSetting : PySem.W.hasDictIn K (v_C_SameSetting K) = true := of_decide_eq_true (c.fact 375 (f := q_375))
  have x3_SameSetting : PySem.W.findIn K (.ref (v_C_SameSetting K)) "__setattr__" = some (some (.builtin "object.__setattr__")) := of_decide_eq_true (c.fact 376 (f := q_376))
  have x4_SameSetting : PySem.W.takerIn K (v_C_SameSetting K) "given" = some none := of_decide_eq_true (c.fact 377 (f := q_377))
  have x5_SameSetting : PySem.W.findIn K (.ref (v_C_SameSetting K)) "__init__" = some (some (.ref (v_i_SameSetting K))) := of_decide_eq_true (c.fact 378 (f := q_378))
  have x6_SameSetting : PySem.W.typeIn K (.ref (v_i_SameSetting K)) = some (.type "function") := of_decide_eq_true (c.fact 379 (f := q_379))
  have x7_SameSetting : PySem.W.keepIn K (.ref (v_C_SameSetting K)) = true := of_decide_eq_true (c.fact 380 (f := q_380))
  have x8_SameSetting : PySem.W.subIn K (.ref (v_C_SameSetting K)) (.type "BaseException") = some true := of_decide_eq_true (c.fact 381 (f := q_381))
  have x9_SameSetting : PySem.W.typeIn K (.ref (v_C_SameSetting K)) = some (.type "type") := of_decide_eq_true (c.fact 382 (f := q_382))
  have x0_SameSetting : ExL.kwB K (v_i_SameSetting K) = true := of_decide_eq_true (c.fact 383 (f := q_383))
  have xg_InvalidSizes : PySem.W.nsIn K mainGlobals "InvalidSizes" = some (some (.ref (v_C_InvalidSizes K))) := of_decide_eq_true (c.fact 384 (f := q_384))
  have x1_InvalidSizes : PySem.W.excInitIn K (v_C_InvalidSizes K) [.type "ValueError", .type "Exception", .type "BaseException", .type "object"] "ValueError.__new__" = true := of_decide_eq_true (c.fact 385 (f := q_385))
  have x2_InvalidSizes : PySem.W.hasDictIn K (v_C_InvalidSizes K) = true := of_decide_eq_true (c.fact 386 (f := q_386))
  have x3_InvalidSizes : PySem.W.findIn K (.ref (v_C_InvalidSizes K)) "__setattr__" = some (some (.builtin "object.__setattr__")) := of_decide_eq_true (c.fact 387 (f := q_387))
  have x4_InvalidSizes : PySem.W.takerIn K (v_C_InvalidSizes K) "index" = some none := of_decide_eq_true (c.fact 388 (f := q_388))
  have x5_InvalidSizes : PySem.W.findIn K (.ref (v_C_InvalidSizes K)) "__init__" = some (some (.ref (v_i_InvalidSizes K))) := of_decide_eq_true (c.fact 389 (f := q_389))
  have x6_InvalidSizes : PySem.W.typeIn K (.ref (v_i_InvalidSizes K)) = some (.type "function") := of_decide_eq_true (c.fact 390 (f := q_390))
  have x7_InvalidSizes : PySem.W.keepIn K (.ref (v_C_InvalidSizes K)) = true := of_decide_eq_true (c.fact 391 (f := q_391))
  have x8_InvalidSizes : PySem.W.subIn K (.ref (v_C_InvalidSizes K)) (.type "BaseException") = some true := of_decide_eq_true (c.fact 392 (f := q_392))
  have x9_InvalidSizes : PySem.W.typeIn K (.ref (v_C_InvalidSizes K)) = some (.type "type") := of_decide_eq_true (c.fact 393 (f := q_393))
  have x0_InvalidSizes : ExL.kwB K (v_i_InvalidSizes K) = true := of_decide_eq_true (c.fact 394 (f := q_394))
  have xg_InvalidFacts : PySem.W.nsIn K mainGlobals "InvalidFacts" = some (some (.ref (v_C_InvalidFacts K))) := of_decide_eq_true (c.fact 395 (f := q_395))
  have x1_InvalidFacts : PySem.W.excInitIn K (v_C_InvalidFacts K) [.type "ValueError", .type "Exception", .type "BaseException", .type "object"] "ValueError.__new__" = true := of_decide_eq_true (c.fact 396 (f := q_396))
  have x2_InvalidFacts : PySem.W.hasDictIn K (v_C_InvalidFacts K) = true := of_decide_eq_true (c.fact 397 (f := q_397))
  have x3_InvalidFacts : PySem.W.findIn K (.ref (v_C_InvalidFacts K)) "__setattr__" = some (some (.builtin "object.__setattr__")) := of_decide_eq_true (c.fact 398 (f := q_398))
  have x4_InvalidFacts : PySem.W.takerIn K (v_C_InvalidFacts K) "index" = some none := of_decide_eq_true (c.fact 399 (f := q_399))
  have x5_InvalidFacts : PySem.W.findIn K (.ref (v_C_InvalidFacts K)) "__init__" = some (some (.ref (v_i_InvalidFacts K))) := of_decide_eq_true (c.fact 400 (f := q_400))
  have x6_InvalidFacts : PySem.W.typeIn K (.ref (v_i_InvalidFacts K)) = some (.type "function") := of_decide_eq_true (c.fact 401 (f := q_401))
  have x7_InvalidFacts : PySem.W.keepIn K (.ref (v_C_InvalidFacts K)) = true := of_decide_eq_true (c.fact 402 (f := q_402))
  have x8_InvalidFacts : PySem.W.subIn K (.ref (v_C_InvalidFacts K)) (.type "BaseException") = some true := of_decide_eq_true (c.fact 403 (f := q_403))
  have x9_InvalidFacts : PySem.W.typeIn K (.ref (v_C_InvalidFacts K)) = some (.type "type") := of_decide_eq_true (c.fact 404 (f := q_404))
  have x0_InvalidFacts : ExL.kwB K (v_i_InvalidFacts K) = true := of_decide_eq_true (c.fact 405 (f := q_405))
  have xg_InvalidOrder : PySem.W.nsIn K mainGlobals "InvalidOrder" = some (some (.ref (v_C_InvalidOrder K))) := of_decide_eq_true (c.fact 406 (f := q_406))
  have x1_InvalidOrder : PySem.W.excInitIn K (v_C_InvalidOrder K) [.type "ValueError", .type "Exception", .type "BaseException", .type "object"] "ValueError.__new__" = true := of_decide_eq_true (c.fact 407 (f := q_407))
  have x2_InvalidOrder : PySem.W.hasDictIn K (v_C_InvalidOrder K) = true := of_decide_eq_true (c.fact 408 (f := q_408))
  have x3_InvalidOrder : PySem.W.findIn K (.ref (v_C_InvalidOrder K)) "__setattr__" = some (some (.builtin "object.__setattr__")) := of_decide_eq_true (c.fact 409 (f := q_409))
  have x4_InvalidOrder : PySem.W.takerIn K (v_C_InvalidOrder K) "index" = some none := of_decide_eq_true (c.fact 410 (f := q_410))
  have x5_InvalidOrder : PySem.W.findIn K (.ref (v_C_InvalidOrder K)) "__init__" = some (some (.ref (v_i_InvalidOrder K))) := of_decide_eq_true (c.fact 411 (f := q_411))
  have x6_InvalidOrder : PySem.W.typeIn K (.ref (v_i_InvalidOrder K)) = some (.type "function") := of_decide_eq_true (c.fact 412 (f := q_412))
  have x7_InvalidOrder : PySem.W.keepIn K (.ref (v_C_InvalidOrder K)) = true := of_decide_eq_true (c.fact 413 (f := q_413))
  have x8_InvalidOrder : PySem.W.subIn K (.ref (v_C_InvalidOrder K)) (.type "BaseException") = some true := of_decide_eq_true (c.fact 414 (f := q_414))
  have x9_InvalidOrder : PySem.W.typeIn K (.ref (v_C_InvalidOrder K)) = some (.type "type") := of_decide_eq_true (c.fact 415 (f := q_415))
  have x0_InvalidOrder : ExL.kwB K (v_i_InvalidOrder K) = true := of_decide_eq_true (c.fact 416 (f := q_416))
  have xg_InvalidPeaks : PySem.W.nsIn K mainGlobals "InvalidPeaks" = some (some (.ref (v_C_InvalidPeaks K))) := of_decide_eq_true (c.fact 417 (f := q_417))
  have x1_InvalidPeaks : PySem.W.excInitIn K (v_C_InvalidPeaks K) [.type "ValueError", .type "Exception", .type "BaseException", .type "object"] "ValueError.__new__" = true := of_decide_eq_true (c.fact 418 (f := q_418))
  have x2_InvalidPeaks : PySem.W.hasDictIn K (v_C_InvalidPeaks K) = true := of_decide_eq_true (c.fact 419 (f := q_419))
  have x3_InvalidPeaks : PySem.W.findIn K (.ref (v_C_InvalidPeaks K)) "__setattr__" = some (some (.builtin "object.__setattr__")) := of_decide_eq_true (c.fact 420 (f := q_420))
  have x4_InvalidPeaks : PySem.W.takerIn K (v_C_InvalidPeaks K) "index" = some none := of_decide_eq_true (c.fact 421 (f := q_421))
  have x5_InvalidPeaks : PySem.W.findIn K (.ref (v_C_InvalidPeaks K)) "__init__" = some (some (.ref (v_i_InvalidPeaks K))) := of_decide_eq_true (c.fact 422 (f := q_422))
  have x6_InvalidPeaks : PySem.W.typeIn K (.ref (v_i_InvalidPeaks K)) = some (.type "function") := of_decide_eq_true (c.fact 423 (f := q_423))
  have x7_InvalidPeaks : PySem.W.keepIn K (.ref (v_C_InvalidPeaks K)) = true := of_decide_eq_true (c.fact 424 (f := q_424))
  have x8_InvalidPeaks : PySem.W.subIn K (.ref (v_C_InvalidPeaks K)) (.type "BaseException") = some true := of_decide_eq_true (c.fact 425 (f := q_425))
  have x9_InvalidPeaks : PySem.W.typeIn K (.ref (v_C_InvalidPeaks K)) = some (.type "type") := of_decide_eq_true (c.fact 426 (f := q_426))
  have x0_InvalidPeaks : ExL.kwB K (v_i_InvalidPeaks K) = true := of_decide_eq_true (c.fact 427 (f := q_427))
  have xg_InvalidWalks : PySem.W.nsIn K mainGlobals "InvalidWalks" = some (some (.ref (v_C_InvalidWalks K))) := of_decide_eq_true (c.fact 428 (f := q_428))
  have x1_InvalidWalks : PySem.W.excInitIn K (v_C_InvalidWalks K) [.type "ValueError", .type "Exception", .type "BaseException", .type "object"] "ValueError.__new__" = true := of_decide_eq_true (c.fact 429 (f := q_429))
  have x2_InvalidWalks : PySem.W.hasDictIn K (v_C_InvalidWalks K) = true := of_decide_eq_true (c.fact 430 (f := q_430))
  have x3_InvalidWalks : PySem.W.findIn K (.ref (v_C_InvalidWalks K)) "__setattr__" = some (some (.builtin "object.__setattr__")) := of_decide_eq_true (c.fact 431 (f := q_431))
  have x4_InvalidWalks : PySem.W.takerIn K (v_C_InvalidWalks K) "index" = some none := of_decide_eq_true (c.fact 432 (f := q_432))
  have x5_InvalidWalks : PySem.W.findIn K (.ref (v_C_InvalidWalks K)) "__init__" = some (some (.ref (v_i_InvalidWalks K))) := of_decide_eq_true (c.fact 433 (f := q_433))
  have x6_InvalidWalks : PySem.W.typeIn K (.ref (v_i_InvalidWalks K)) = some (.type "function") := of_decide_eq_true (c.fact 434 (f := q_434))
  have x7_InvalidWalks : PySem.W.keepIn K (.ref (v_C_InvalidWalks K)) = true := of_decide_eq_true (c.fact 435 (f := q_435))
  have x8_InvalidWalks : PySem.W.subIn K (.ref (v_C_InvalidWalks K)) (.type "BaseException") = some true := of_decide_eq_true (c.fact 436 (f := q_436))
  have x9_InvalidWalks : PySem.W.typeIn K (.ref (v_C_InvalidWalks K)) = some (.type "type") := of_decide_eq_true (c.fact 437 (f := q_437))
  have x0_InvalidWalks : ExL.kwB K (v_i_InvalidWalks K) = true := of_decide_eq_true (c.fact 438 (f := q_438))
  have xg_InvalidRests : PySem.W.nsIn K mainGlobals "InvalidRests" = some (some (.ref (v_C_InvalidRests K))) := of_decide_eq_true (c.fact 439 (f := q_439))
  have x1_InvalidRests : PySem.W.excInitIn K (v_C_InvalidRests K) [.type "ValueError", .type "Exception", .type "BaseException", .type "object"] "ValueError.__new__" = true := of_decide_eq_true (c.fact 440 (f := q_440))
  have x2_InvalidRests : PySem.W.hasDictIn K (v_C_InvalidRests K) = true := of_decide_eq_true (c.fact 441 (f := q_441))
  have x3_InvalidRests : PySem.W.findIn K (.ref (v_C_InvalidRests K)) "__setattr__" = some (some (.builtin "object.__setattr__")) := of_decide_eq_true (c.fact 442 (f := q_442))
  have x4_InvalidRests : PySem.W.takerIn K (v_C_InvalidRests K) "index" = some none := of_decide_eq_true (c.fact 443 (f := q_443))
  have x5_InvalidRests : PySem.W.findIn K (.ref (v_C_InvalidRests K)) "__init__" = some (some (.ref (v_i_InvalidRests K))) := of_decide_eq_true (c.fact 444 (f := q_444))
  have x6_InvalidRests : PySem.W.typeIn K (.ref (v_i_InvalidRests K)) = some (.type "function") := of_decide_eq_true (c.fact 445 (f := q_445))
  have x7_InvalidRests : PySem.W.keepIn K (.ref (v_C_InvalidRests K)) = true := of_decide_eq_true (c.fact 446 (f := q_446))
  have x8_InvalidRests : PySem.W.subIn K (.ref (v_C_InvalidRests K)) (.type "BaseException") = some true := of_decide_eq_true (c.fact 447 (f := q_447))
  have x9_InvalidRests : PySem.W.typeIn K (.ref (v_C_InvalidRests K)) = some (.type "type") := of_decide_eq_true (c.fact 448 (f := q_448))
  have x0_InvalidRests : ExL.kwB K (v_i_InvalidRests K) = true := of_decide_eq_true (c.fact 449 (f := q_449))
  have xg_UnknownSetting : PySem.W.nsIn K mainGlobals "UnknownSetting" = some (some (.ref (v_C_UnknownSetting K))) := of_decide_eq_true (c.fact 450 (f := q_450))
  have x1_UnknownSetting : PySem.W.excInitIn K (v_C_UnknownSetting K) [.type "LookupError", .type "Exception", .type "BaseException", .type "object"] "LookupError.__new__" = true := of_decide_eq_true (c.fact 451 (f := q_451))
  have x2_UnknownSetting : PySem.W.hasDictIn K (v_C_UnknownSetting K) = true := of_decide_eq_true (c.fact 452 (f := q_452))
  have x3_UnknownSetting : PySem.W.findIn K (.ref (v_C_UnknownSetting K)) "__setattr__" = some (some (.builtin "object.__setattr__")) := of_decide_eq_true (c.fact 453 (f := q_453))
  have x4_UnknownSetting : PySem.W.takerIn K (v_C_UnknownSetting K) "given" = some none := of_decide_eq_true (c.fact 454 (f := q_454))
  have x5_UnknownSetting : PySem.W.findIn K (.ref (v_C_UnknownSetting K)) "__init__" = some (some (.ref (v_i_UnknownSetting K))) := of_decide_eq_true (c.fact 455 (f := q_455))
  have x6_UnknownSetting : PySem.W.typeIn K (.ref (v_i_UnknownSetting K)) = some (.type "function") := of_decide_eq_true (c.fact 456 (f := q_456))
  have x7_UnknownSetting : PySem.W.keepIn K (.ref (v_C_UnknownSetting K)) = true := of_decide_eq_true (c.fact 457 (f := q_457))
  have x8_UnknownSetting : PySem.W.subIn K (.ref (v_C_UnknownSetting K)) (.type "BaseException") = some true := of_decide_eq_true (c.fact 458 (f := q_458))
  have x9_UnknownSetting : PySem.W.typeIn K (.ref (v_C_UnknownSetting K)) = some (.type "type") := of_decide_eq_true (c.fact 459 (f := q_459))
  have x0_UnknownSetting : ExL.kwB K (v_i_UnknownSetting K) = true := of_decide_eq_true (c.fact 460 (f := q_460))
  have xg_TooMany : PySem.W.nsIn K mainGlobals "TooMany" = some (some (.ref (v_C_TooMany K))) := of_decide_eq_true (c.fact 461 (f := q_461))
  have x1_TooMany : PySem.W.excInitIn K (v_C_TooMany K) [.type "ArithmeticError", .type "Exception", .type "BaseException", .type "object"] "ArithmeticError.__new__" = true := of_decide_eq_true (c.fact 462 (f := q_462))
  have x2_TooMany : PySem.W.hasDictIn K (v_C_TooMany K) = true := of_decide_eq_true (c.fact 463 (f := q_463))
  have x3_TooMany : PySem.W.findIn K (.ref (v_C_TooMany K)) "__setattr__" = some (some (.builtin "object.__setattr__")) := of_decide_eq_true (c.fact 464 (f := q_464))
  have x4_TooMany : PySem.W.takerIn K (v_C_TooMany K) "given" = some none := of_decide_eq_true (c.fact 465 (f := q_465))
  have x5_TooMany : PySem.W.findIn K (.ref (v_C_TooMany K)) "__init__" = some (some (.ref (v_i_TooMany K))) := of_decide_eq_true (c.fact 466 (f := q_466))
  have x6_TooMany : PySem.W.typeIn K (.ref (v_i_TooMany K)) = some (.type "function") := of_decide_eq_true (c.fact 467 (f := q_467))
  have x7_TooMany : PySem.W.keepIn K (.ref (v_C_TooMany K)) = true := of_decide_eq_true (c.fact 468 (f := q_468))
  have x8_TooMany : PySem.W.subIn K (.ref (v_C_TooMany K)) (.type "BaseException") = some true := of_decide_eq_true (c.fact 469 (f := q_469))
  have x9_TooMany : PySem.W.typeIn K (.ref (v_C_TooMany K)) = some (.type "type") := of_decide_eq_true (c.fact 470 (f := q_470))
  have x0_TooMany : ExL.kwB K (v_i_TooMany K) = true := of_decide_eq_true (c.fact 471 (f := q_471))
  have xg_Broken : PySem.W.nsIn K mainGlobals "Broken" = some (some (.ref (v_C_Broken K))) := of_decide_eq_true (c.fact 472 (f := q_472))
  have x1_Broken : PySem.W.excInitIn K (v_C_Broken K) [.type "ArithmeticError", .type "Exception", .type "BaseException", .type "object"] "ArithmeticError.__new__" = true := of_decide_eq_true (c.fact 473 (f := q_473))
  have x2_Broken : PySem.W.hasDictIn K (v_C_Broken K) = true := of_decide_eq_true (c.fact 474 (f := q_474))
  have x3_Broken : PySem.W.findIn K (.ref (v_C_Broken K)) "__setattr__" = some (some (.builtin "object.__setattr__")) := of_decide_eq_true (c.fact 475 (f := q_475))
  have x4_Broken : PySem.W.takerIn K (v_C_Broken K) "index" = some none := of_decide_eq_true (c.fact 476 (f := q_476))
  have x5_Broken : PySem.W.findIn K (.ref (v_C_Broken K)) "__init__" = some (some (.ref (v_i_Broken K))) := of_decide_eq_true (c.fact 477 (f := q_477))
  have x6_Broken : PySem.W.typeIn K (.ref (v_i_Broken K)) = some (.type "function") := of_decide_eq_true (c.fact 478 (f := q_478))
  have x7_Broken : PySem.W.keepIn K (.ref (v_C_Broken K)) = true := of_decide_eq_true (c.fact 479 (f := q_479))
  have x8_Broken : PySem.W.subIn K (.ref (v_C_Broken K)) (.type "BaseException") = some true := of_decide_eq_true (c.fact 480 (f := q_480))
  have x9_Broken : PySem.W.typeIn K (.ref (v_C_Broken K)) = some (.type "type") := of_decide_eq_true (c.fact 481 (f := q_481))
  have x0_Broken : ExL.kwB K (v_i_Broken K) = true := of_decide_eq_true (c.fact 482 (f := q_482))
  have e := hfa.symm.trans (PySem.W.mg_of X G a_law)
  have e2 : fa = v_f_law K := by injection e with e; injection e with e
  have T : Txt K w mg ⟨(v_f_law_bases K), (v_f_law_dip K), (v_f_law_pick K), (v_f_law_odd K), (v_f_law_by_place K), (v_f_law_by_word K), (v_f_law_sorts K), (v_f_law_kept K), (v_f_law_right K), (v_f_law_jar K), fa, (v_C_InvalidText K), (v_i_InvalidText K), (v_C_InvalidPart K), (v_i_InvalidPart K), (v_C_InvalidSquare K), (v_i_InvalidSquare K), (v_C_InvalidFact K), (v_i_InvalidFact K), (v_C_InvalidIndex K), (v_i_InvalidIndex K), (v_C_InvalidWish K), (v_i_InvalidWish K), (v_C_InvalidCommand K), (v_i_InvalidCommand K), (v_C_NotABoard K), (v_i_NotABoard K), (v_C_NotNotes K), (v_i_NotNotes K), (v_C_NotARanking K), (v_i_NotARanking K), (v_C_OtherBoard K), (v_i_OtherBoard K), (v_C_SameSetting K), (v_i_SameSetting K), (v_C_InvalidSizes K), (v_i_InvalidSizes K), (v_C_InvalidFacts K), (v_i_InvalidFacts K), (v_C_InvalidOrder K), (v_i_InvalidOrder K), (v_C_InvalidPeaks K), (v_i_InvalidPeaks K), (v_C_InvalidWalks K), (v_i_InvalidWalks K), (v_C_InvalidRests K), (v_i_InvalidRests K), (v_C_UnknownSetting K), (v_i_UnknownSetting K), (v_C_TooMany K), (v_i_TooMany K), (v_C_Broken K), (v_i_Broken K), (v_C_WrongValue K), (v_C_WrongName K), (v_C_NotPossible K), (v_C_NothingToUndo K)⟩ := {
    F_law_bases := HdM.fun_of (c.def_ 0 (d := m_law_bases))
    m_law_bases := PySem.W.mg_of X G a_law_bases
    k_law_bases := k_law_bases
    F_law_dip := HdM.fun_of (c.def_ 1 (d := m_law_dip))
    m_law_dip := PySem.W.mg_of X G a_law_dip
    k_law_dip := k_law_dip
    F_law_pick := HdM.fun_of (c.def_ 2 (d := m_law_pick))
    m_law_pick := PySem.W.mg_of X G a_law_pick
    k_law_pick := k_law_pick
    F_law_odd := HdM.fun_of (c.def_ 3 (d := m_law_odd))
    m_law_odd := PySem.W.mg_of X G a_law_odd
    k_law_odd := k_law_odd
    F_law_by_place := HdM.fun_of (c.def_ 4 (d := m_law_by_place))
    m_law_by_place := PySem.W.mg_of X G a_law_by_place
    k_law_by_place := k_law_by_place
    F_law_by_word := HdM.fun_of (c.def_ 5 (d := m_law_by_word))
    m_law_by_word := PySem.W.mg_of X G a_law_by_word
    k_law_by_word := k_law_by_word
    F_law_sorts := HdM.fun_of (c.def_ 6 (d := m_law_sorts))
    m_law_sorts := PySem.W.mg_of X G a_law_sorts
    k_law_sorts := k_law_sorts
    F_law_kept := HdM.fun_of (c.def_ 7 (d := m_law_kept))
    m_law_kept := PySem.W.mg_of X G a_law_kept
    k_law_kept := k_law_kept
    F_law_right := HdM.fun_of (c.def_ 8 (d := m_law_right))
    m_law_right := PySem.W.mg_of X G a_law_right
    k_law_right := k_law_right
    F_law_jar := HdM.fun_of (c.def_ 9 (d := m_law_jar))
    m_law_jar := PySem.W.mg_of X G a_law_jar
    k_law_jar := k_law_jar
    F_law := by rw [e2]; exact HdM.fun_of (c.def_ 10 (d := m_law))
    m_law := by rw [e2]; exact PySem.W.mg_of X G a_law
    k_law := by rw [e2]; exact k_law
    g_MOST_COUNTED := ⟨_, PySem.W.mg_of X G g_MOST_COUNTED, ⟨_, rfl⟩⟩
    g_MOST_SEARCHED := ⟨_, PySem.W.mg_of X G g_MOST_SEARCHED, ⟨_, rfl⟩⟩
    g_MOST_SETTINGS := ⟨_, PySem.W.mg_of X G g_MOST_SETTINGS, ⟨_, rfl⟩⟩
    g_MOST_SWITCHES := ⟨_, PySem.W.mg_of X G g_MOST_SWITCHES, ⟨_, rfl⟩⟩
    x_InvalidText := ExL.clG_of (PySem.W.mg_of X G xg_InvalidText) x1_InvalidText x2_InvalidText x3_InvalidText x4_InvalidText x5_InvalidText x6_InvalidText x7_InvalidText x8_InvalidText x9_InvalidText (c.def_ 11 (d := m_x_InvalidText)) x0_InvalidText
    x_InvalidPart := ExL.clG_of (PySem.W.mg_of X G xg_InvalidPart) x1_InvalidPart x2_InvalidPart x3_InvalidPart x4_InvalidPart x5_InvalidPart x6_InvalidPart x7_InvalidPart x8_InvalidPart x9_InvalidPart (c.def_ 12 (d := m_x_InvalidPart)) x0_InvalidPart
    x_InvalidSquare := ExL.clG_of (PySem.W.mg_of X G xg_InvalidSquare) x1_InvalidSquare x2_InvalidSquare x3_InvalidSquare x4_InvalidSquare x5_InvalidSquare x6_InvalidSquare x7_InvalidSquare x8_InvalidSquare x9_InvalidSquare (c.def_ 13 (d := m_x_InvalidSquare)) x0_InvalidSquare
    x_InvalidFact := ExL.clG_of (PySem.W.mg_of X G xg_InvalidFact) x1_InvalidFact x2_InvalidFact x3_InvalidFact x4_InvalidFact x5_InvalidFact x6_InvalidFact x7_InvalidFact x8_InvalidFact x9_InvalidFact (c.def_ 14 (d := m_x_InvalidFact)) x0_InvalidFact
    x_InvalidIndex := ExL.clG_of (PySem.W.mg_of X G xg_InvalidIndex) x1_InvalidIndex x2_InvalidIndex x3_InvalidIndex x4_InvalidIndex x5_InvalidIndex x6_InvalidIndex x7_InvalidIndex x8_InvalidIndex x9_InvalidIndex (c.def_ 15 (d := m_x_InvalidIndex)) x0_InvalidIndex
    x_InvalidWish := ExL.clG_of (PySem.W.mg_of X G xg_InvalidWish) x1_InvalidWish x2_InvalidWish x3_InvalidWish x4_InvalidWish x5_InvalidWish x6_InvalidWish x7_InvalidWish x8_InvalidWish x9_InvalidWish (c.def_ 16 (d := m_x_InvalidWish)) x0_InvalidWish
    x_InvalidCommand := ExL.clG_of (PySem.W.mg_of X G xg_InvalidCommand) x1_InvalidCommand x2_InvalidCommand x3_InvalidCommand x4_InvalidCommand x5_InvalidCommand x6_InvalidCommand x7_InvalidCommand x8_InvalidCommand x9_InvalidCommand (c.def_ 17 (d := m_x_InvalidCommand)) x0_InvalidCommand
    x_NotABoard := ExL.clG_of (PySem.W.mg_of X G xg_NotABoard) x1_NotABoard x2_NotABoard x3_NotABoard x4_NotABoard x5_NotABoard x6_NotABoard x7_NotABoard x8_NotABoard x9_NotABoard (c.def_ 18 (d := m_x_NotABoard)) x0_NotABoard
    x_NotNotes := ExL.clG_of (PySem.W.mg_of X G xg_NotNotes) x1_NotNotes x2_NotNotes x3_NotNotes x4_NotNotes x5_NotNotes x6_NotNotes x7_NotNotes x8_NotNotes x9_NotNotes (c.def_ 19 (d := m_x_NotNotes)) x0_NotNotes
    x_NotARanking := ExL.clG_of (PySem.W.mg_of X G xg_NotARanking) x1_NotARanking x2_NotARanking x3_NotARanking x4_NotARanking x5_NotARanking x6_NotARanking x7_NotARanking x8_NotARanking x9_NotARanking (c.def_ 20 (d := m_x_NotARanking)) x0_NotARanking
    x_OtherBoard := ExL.clG_of (PySem.W.mg_of X G xg_OtherBoard) x1_OtherBoard x2_OtherBoard x3_OtherBoard x4_OtherBoard x5_OtherBoard x6_OtherBoard x7_OtherBoard x8_OtherBoard x9_OtherBoard (c.def_ 21 (d := m_x_OtherBoard)) x0_OtherBoard
    x_SameSetting := ExL.clG_of (PySem.W.mg_of X G xg_SameSetting) x1_SameSetting x2_SameSetting x3_SameSetting x4_SameSetting x5_SameSetting x6_SameSetting x7_SameSetting x8_SameSetting x9_SameSetting (c.def_ 22 (d := m_x_SameSetting)) x0_SameSetting
    x_InvalidSizes := ExL.clI_of (PySem.W.mg_of X G xg_InvalidSizes) x1_InvalidSizes x2_InvalidSizes x3_InvalidSizes x4_InvalidSizes x5_InvalidSizes x6_InvalidSizes x7_InvalidSizes x8_InvalidSizes x9_InvalidSizes (c.def_ 23 (d := m_x_InvalidSizes)) x0_InvalidSizes
    x_InvalidFacts := ExL.clI_of (PySem.W.mg_of X G xg_InvalidFacts) x1_InvalidFacts x2_InvalidFacts x3_InvalidFacts x4_InvalidFacts x5_InvalidFacts x6_InvalidFacts x7_InvalidFacts x8_InvalidFacts x9_InvalidFacts (c.def_ 24 (d := m_x_InvalidFacts)) x0_InvalidFacts
    x_InvalidOrder := ExL.clI_of (PySem.W.mg_of X G xg_InvalidOrder) x1_InvalidOrder x2_InvalidOrder x3_InvalidOrder x4_InvalidOrder x5_InvalidOrder x6_InvalidOrder x7_InvalidOrder x8_InvalidOrder x9_InvalidOrder (c.def_ 25 (d := m_x_InvalidOrder)) x0_InvalidOrder
    x_InvalidPeaks := ExL.clI_of (PySem.W.mg_of X G xg_InvalidPeaks) x1_InvalidPeaks x2_InvalidPeaks x3_InvalidPeaks x4_InvalidPeaks x5_InvalidPeaks x6_InvalidPeaks x7_InvalidPeaks x8_InvalidPeaks x9_InvalidPeaks (c.def_ 26 (d := m_x_InvalidPeaks)) x0_InvalidPeaks
    x_InvalidWalks := ExL.clI_of (PySem.W.mg_of X G xg_InvalidWalks) x1_InvalidWalks x2_InvalidWalks x3_InvalidWalks x4_InvalidWalks x5_InvalidWalks x6_InvalidWalks x7_InvalidWalks x8_InvalidWalks x9_InvalidWalks (c.def_ 27 (d := m_x_InvalidWalks)) x0_InvalidWalks
    x_InvalidRests := ExL.clI_of (PySem.W.mg_of X G xg_InvalidRests) x1_InvalidRests x2_InvalidRests x3_InvalidRests x4_InvalidRests x5_InvalidRests x6_InvalidRests x7_InvalidRests x8_InvalidRests x9_InvalidRests (c.def_ 28 (d := m_x_InvalidRests)) x0_InvalidRests
    x_UnknownSetting := ExL.clG_of (PySem.W.mg_of X G xg_UnknownSetting) x1_UnknownSetting x2_UnknownSetting x3_UnknownSetting x4_UnknownSetting x5_UnknownSetting x6_UnknownSetting x7_UnknownSetting x8_UnknownSetting x9_UnknownSetting (c.def_ 29 (d := m_x_UnknownSetting)) x0_UnknownSetting
    x_TooMany := ExL.clG_of (PySem.W.mg_of X G xg_TooMany) x1_TooMany x2_TooMany x3_TooMany x4_TooMany x5_TooMany x6_TooMany x7_TooMany x8_TooMany x9_TooMany (c.def_ 30 (d := m_x_TooMany)) x0_TooMany
    x_Broken := ExL.clI_of (PySem.W.mg_of X G xg_Broken) x1_Broken x2_Broken x3_Broken x4_Broken x5_Broken x6_Broken x7_Broken x8_Broken x9_Broken (c.def_ 31 (d := m_x_Broken)) x0_Broken
    xg_WrongValue := PySem.W.mg_of X G xg_WrongValue
    xg_WrongName := PySem.W.mg_of X G xg_WrongName
    xg_NotPossible := PySem.W.mg_of X G xg_NotPossible
    xg_InvalidText := PySem.W.mg_of X G xg_InvalidText
    xg_InvalidPart := PySem.W.mg_of X G xg_InvalidPart
    xg_InvalidSquare := PySem.W.mg_of X G xg_InvalidSquare
    xg_InvalidFact := PySem.W.mg_of X G xg_InvalidFact
    xg_InvalidIndex := PySem.W.mg_of X G xg_InvalidIndex
    xg_InvalidWish := PySem.W.mg_of X G xg_InvalidWish
    xg_InvalidCommand := PySem.W.mg_of X G xg_InvalidCommand
    xg_NotABoard := PySem.W.mg_of X G xg_NotABoard
    xg_NotNotes := PySem.W.mg_of X G xg_NotNotes
    xg_NotARanking := PySem.W.mg_of X G xg_NotARanking
    xg_OtherBoard := PySem.W.mg_of X G xg_OtherBoard
    xg_SameSetting := PySem.W.mg_of X G xg_SameSetting
    xg_InvalidSizes := PySem.W.mg_of X G xg_InvalidSizes
    xg_InvalidFacts := PySem.W.mg_of X G xg_InvalidFacts
    xg_InvalidOrder := PySem.W.mg_of X G xg_InvalidOrder
    xg_InvalidPeaks := PySem.W.mg_of X G xg_InvalidPeaks
    xg_InvalidWalks := PySem.W.mg_of X G xg_InvalidWalks
    xg_InvalidRests := PySem.W.mg_of X G xg_InvalidRests
    xg_UnknownSetting := PySem.W.mg_of X G xg_UnknownSetting
    xg_TooMany := PySem.W.mg_of X G xg_TooMany
    xg_Broken := PySem.W.mg_of X G xg_Broken
    xg_NothingToUndo := PySem.W.mg_of X G xg_NothingToUndo
    xf_InvalidText := ⟨f1_InvalidText, f2_InvalidText, f3_InvalidText, x8_InvalidText, x2_InvalidText, f4_InvalidText, cg_, ct_, f5_InvalidText⟩
    xf_InvalidPart := ⟨f1_InvalidPart, f2_InvalidPart, f3_InvalidPart, x8_InvalidPart, x2_InvalidPart, f4_InvalidPart, cg_, ct_, f5_InvalidPart⟩
    xf_InvalidSquare := ⟨f1_InvalidSquare, f2_InvalidSquare, f3_InvalidSquare, x8_InvalidSquare, x2_InvalidSquare, f4_InvalidSquare, cg_, ct_, f5_InvalidSquare⟩
    xf_InvalidFact := ⟨f1_InvalidFact, f2_InvalidFact, f3_InvalidFact, x8_InvalidFact, x2_InvalidFact, f4_InvalidFact, cg_, ct_, f5_InvalidFact⟩
    xf_InvalidIndex := ⟨f1_InvalidIndex, f2_InvalidIndex, f3_InvalidIndex, x8_InvalidIndex, x2_InvalidIndex, f4_InvalidIndex, cg_, ct_, f5_InvalidIndex⟩
    xf_InvalidWish := ⟨f1_InvalidWish, f2_InvalidWish, f3_InvalidWish, x8_InvalidWish, x2_InvalidWish, f4_InvalidWish, cg_, ct_, f5_InvalidWish⟩
    xf_InvalidCommand := ⟨f1_InvalidCommand, f2_InvalidCommand, f3_InvalidCommand, x8_InvalidCommand, x2_InvalidCommand, f4_InvalidCommand, cg_, ct_, f5_InvalidCommand⟩
    xf_NotABoard := ⟨f1_NotABoard, f2_NotABoard, f3_NotABoard, x8_NotABoard, x2_NotABoard, f4_NotABoard, cg_, ct_, f5_NotABoard⟩
    xf_NotNotes := ⟨f1_NotNotes, f2_NotNotes, f3_NotNotes, x8_NotNotes, x2_NotNotes, f4_NotNotes, cg_, ct_, f5_NotNotes⟩
    xf_NotARanking := ⟨f1_NotARanking, f2_NotARanking, f3_NotARanking, x8_NotARanking, x2_NotARanking, f4_NotARanking, cg_, ct_, f5_NotARanking⟩
    xf_OtherBoard := ⟨f1_OtherBoard, f2_OtherBoard, f3_OtherBoard, x8_OtherBoard, x2_OtherBoard, f4_OtherBoard, cg_, ct_, f5_OtherBoard⟩
    xf_SameSetting := ⟨f1_SameSetting, f2_SameSetting, f3_SameSetting, x8_SameSetting, x2_SameSetting, f4_SameSetting, cg_, ct_, f5_SameSetting⟩
    xf_InvalidSizes := ⟨f1_InvalidSizes, f2_InvalidSizes, f3_InvalidSizes, x8_InvalidSizes, x2_InvalidSizes, f4_InvalidSizes, cg_, ct_, f5_InvalidSizes⟩
    xf_InvalidFacts := ⟨f1_InvalidFacts, f2_InvalidFacts, f3_InvalidFacts, x8_InvalidFacts, x2_InvalidFacts, f4_InvalidFacts, cg_, ct_, f5_InvalidFacts⟩
    xf_InvalidOrder := ⟨f1_InvalidOrder, f2_InvalidOrder, f3_InvalidOrder, x8_InvalidOrder, x2_InvalidOrder, f4_InvalidOrder, cg_, ct_, f5_InvalidOrder⟩
    xf_InvalidPeaks := ⟨f1_InvalidPeaks, f2_InvalidPeaks, f3_InvalidPeaks, x8_InvalidPeaks, x2_InvalidPeaks, f4_InvalidPeaks, cg_, ct_, f5_InvalidPeaks⟩
    xf_InvalidWalks := ⟨f1_InvalidWalks, f2_InvalidWalks, f3_InvalidWalks, x8_InvalidWalks, x2_InvalidWalks, f4_InvalidWalks, cg_, ct_, f5_InvalidWalks⟩
    xf_InvalidRests := ⟨f1_InvalidRests, f2_InvalidRests, f3_InvalidRests, x8_InvalidRests, x2_InvalidRests, f4_InvalidRests, cg_, ct_, f5_InvalidRests⟩
    xf_UnknownSetting := ⟨f1_UnknownSetting, f2_UnknownSetting, f3_UnknownSetting, x8_UnknownSetting, x2_UnknownSetting, f4_UnknownSetting, cg_, ct_, f5_UnknownSetting⟩
    xf_TooMany := ⟨f1_TooMany, f2_TooMany, f3_TooMany, x8_TooMany, x2_TooMany, f4_TooMany, cg_, ct_, f5_TooMany⟩
    xf_Broken := ⟨f1_Broken, f2_Broken, f3_Broken, x8_Broken, x2_Broken, f4_Broken, cg_, ct_, f5_Broken⟩
    xf_WrongValue := ⟨f1_WrongValue, f2_WrongValue, f3_WrongValue, x8_WrongValue, x2_WrongValue, f4_WrongValue, cg_, ct_, f5_WrongValue⟩
    xf_WrongName := ⟨f1_WrongName, f2_WrongName, f3_WrongName, x8_WrongName, x2_WrongName, f4_WrongName, cg_, ct_, f5_WrongName⟩
    xf_NotPossible := ⟨f1_NotPossible, f2_NotPossible, f3_NotPossible, x8_NotPossible, x2_NotPossible, f4_NotPossible, cg_, ct_, f5_NotPossible⟩
    xf_NothingToUndo := ⟨f1_NothingToUndo, f2_NothingToUndo, f3_NothingToUndo, x8_NothingToUndo, x2_NothingToUndo, f4_NothingToUndo, cg_, ct_, f5_NothingToUndo⟩
    xn_InvalidText := xn_InvalidText
    xn_InvalidPart := xn_InvalidPart
    xn_InvalidSquare := xn_InvalidSquare
    xn_InvalidFact := xn_InvalidFact
    xn_InvalidIndex := xn_InvalidIndex
    xn_InvalidWish := xn_InvalidWish
    xn_InvalidCommand := xn_InvalidCommand
    xn_NotABoard := xn_NotABoard
    xn_NotNotes := xn_NotNotes
    xn_NotARanking := xn_NotARanking
    xn_OtherBoard := xn_OtherBoard
    xn_SameSetting := xn_SameSetting
    xn_InvalidSizes := xn_InvalidSizes
    xn_InvalidFacts := xn_InvalidFacts
    xn_InvalidOrder := xn_InvalidOrder
    xn_InvalidPeaks := xn_InvalidPeaks
    xn_InvalidWalks := xn_InvalidWalks
    xn_InvalidRests := xn_InvalidRests
    xn_UnknownSetting := xn_UnknownSetting
    xn_TooMany := xn_TooMany
    xn_Broken := xn_Broken
    xe_WrongValue := xe_WrongValue
    xk_WrongValue := xk_WrongValue
    xe_WrongName := xe_WrongName
    xk_WrongName := xk_WrongName
    xe_NotPossible := xe_NotPossible
    xk_NotPossible := xk_NotPossible
    xe_NothingToUndo := xe_NothingToUndo
    xk_NothingToUndo := xk_NothingToUndo
    kx_InvalidText := kx_InvalidText
    kx_InvalidPart := kx_InvalidPart
    kx_InvalidSquare := kx_InvalidSquare
    kx_InvalidFact := kx_InvalidFact
    kx_InvalidIndex := kx_InvalidIndex
    kx_InvalidWish := kx_InvalidWish
    kx_InvalidCommand := kx_InvalidCommand
    kx_NotABoard := kx_NotABoard
    kx_NotNotes := kx_NotNotes
    kx_NotARanking := kx_NotARanking
    kx_OtherBoard := kx_OtherBoard
    kx_SameSetting := kx_SameSetting
    kx_InvalidSizes := kx_InvalidSizes
    kx_InvalidFacts := kx_InvalidFacts
    kx_InvalidOrder := kx_InvalidOrder
    kx_InvalidPeaks := kx_InvalidPeaks
    kx_InvalidWalks := kx_InvalidWalks
    kx_InvalidRests := kx_InvalidRests
    kx_UnknownSetting := kx_UnknownSetting
    kx_TooMany := kx_TooMany
    kx_Broken := kx_Broken
    kx_WrongValue := kx_WrongValue
    kx_WrongName := kx_WrongName
    kx_NotPossible := kx_NotPossible
    kx_NothingToUndo := kx_NothingToUndo
    z_ArithmeticError := PySem.W.mg_none_of X G z_ArithmeticError
    z_LookupError := PySem.W.mg_none_of X G z_LookupError
    z_ValueError := PySem.W.mg_none_of X G z_ValueError
    z_abs := PySem.W.mg_none_of X G z_abs
    z_all := PySem.W.mg_none_of X G z_all
    z_int := PySem.W.mg_none_of X G z_int
    z_isinstance := PySem.W.mg_none_of X G z_isinstance
    z_len := PySem.W.mg_none_of X G z_len
    z_max := PySem.W.mg_none_of X G z_max
    z_min := PySem.W.mg_none_of X G z_min
    z_range := PySem.W.mg_none_of X G z_range
    z_repr := PySem.W.mg_none_of X G z_repr }
  obtain ⟨fdl, Fl⟩ := T.F_law
  refine ⟨gm K w ⟨(v_f_law_bases K), (v_f_law_dip K), (v_f_law_pick K), (v_f_law_odd K), (v_f_law_by_place K), (v_f_law_by_word K), (v_f_law_sorts K), (v_f_law_kept K), (v_f_law_right K), (v_f_law_jar K), fa, (v_C_InvalidText K), (v_i_InvalidText K), (v_C_InvalidPart K), (v_i_InvalidPart K), (v_C_InvalidSquare K), (v_i_InvalidSquare K), (v_C_InvalidFact K), (v_i_InvalidFact K), (v_C_InvalidIndex K), (v_i_InvalidIndex K), (v_C_InvalidWish K), (v_i_InvalidWish K), (v_C_InvalidCommand K), (v_i_InvalidCommand K), (v_C_NotABoard K), (v_i_NotABoard K), (v_C_NotNotes K), (v_i_NotNotes K), (v_C_NotARanking K), (v_i_NotARanking K), (v_C_OtherBoard K), (v_i_OtherBoard K), (v_C_SameSetting K), (v_i_SameSetting K), (v_C_InvalidSizes K), (v_i_InvalidSizes K), (v_C_InvalidFacts K), (v_i_InvalidFacts K), (v_C_InvalidOrder K), (v_i_InvalidOrder K), (v_C_InvalidPeaks K), (v_i_InvalidPeaks K), (v_C_InvalidWalks K), (v_i_InvalidWalks K), (v_C_InvalidRests K), (v_i_InvalidRests K), (v_C_UnknownSetting K), (v_i_UnknownSetting K), (v_C_TooMany K), (v_i_TooMany K), (v_C_Broken K), (v_i_Broken K), (v_C_WrongValue K), (v_C_WrongName K), (v_C_NotPossible K), (v_C_NothingToUndo K)⟩, fdl, rfl, rfl, ?_, fun base _ _ => ok_law T Fl⟩
  obtain ⟨⟨oc, od, kV, doc, pm, an, cdv, ct, osl, rfl, lk, cd⟩, kp⟩ := Fl
  exact fun s v => .of_eq rfl
abbrev R : PySem.W.OpenRow := PySem.W.OpenLaw.row PySem.Challenge.rw_switchhills_k01_limits_and_errors
def nq : Nat := 41
abbrev qv : Program := PySem.W.view R.prog [nq]
def names_0 : List Str := ["__name__", "WrongValue", "InvalidText", "InvalidPart", "InvalidSquare", "InvalidFact", "InvalidIndex", "InvalidWish", "InvalidCommand", "NotABoard", "NotNotes", "NotARanking", "OtherBoard", "SameSetting", "InvalidSizes", "InvalidFacts", "InvalidOrder", "InvalidPeaks", "InvalidWalks", "InvalidRests", "WrongName", "UnknownSetting", "NotPossible", "NothingToUndo", "TooMany"]
def names_1 : List Str := ["Broken", "MOST_SWITCHES", "MOST_SETTINGS", "MOST_SEARCHED", "MOST_COUNTED", "_law_jar", "_law_dip", "_law_pick", "_law_bases", "_law_odd", "_law_sorts", "_law_by_place", "_law_by_word", "_law_kept", "_law_right"]
def names : List Str := names_0 ++ (names_1)
def xs_0 : List Str := ["_law_bases", "_law_dip", "_law_pick", "_law_odd", "_law_by_place", "_law_by_word", "_law_sorts", "_law_kept", "_law_right", "_law_jar", "law", "InvalidText", "InvalidPart", "InvalidSquare", "InvalidFact", "InvalidIndex", "InvalidWish", "InvalidCommand", "NotABoard", "NotNotes", "NotARanking", "OtherBoard", "SameSetting", "InvalidSizes", "InvalidFacts"]
def xs_1 : List Str := ["InvalidOrder", "InvalidPeaks", "InvalidWalks", "InvalidRests", "UnknownSetting", "TooMany", "Broken", "WrongValue", "WrongName", "NotPossible", "NothingToUndo"]
def xs : List Str := xs_0 ++ (xs_1)
set_option maxHeartbeats 0 in
theorem run_f (w : World) : HandSHeadRun.RunEq R qv (HdM.hookM xs fs fn dc hs) (HdM.obM xs fs fn dc) 40000 names (w.withFollow "special-get-raises" false) := by
  intro os
  kernel_rfl
set_option maxHeartbeats 0 in
theorem run_t (w : World) : HandSHeadRun.RunEq R qv (HdM.hookM xs fs fn dc hs) (HdM.obM xs fs fn dc) 40000 names (w.withFollow "special-get-raises" true) := by
  intro os
  kernel_rfl
theorem run (w : World) : HandSHeadRun.RunEq R qv (HdM.hookM xs fs fn dc hs) (HdM.obM xs fs fn dc) 40000 names w := PySem.W.byRow2 "special-get-raises" (P := fun w => HandSHeadRun.RunEq R qv (HdM.hookM xs fs fn dc hs) (HdM.obM xs fs fn dc) 40000 names w) run_f run_t w
end K01
open PySem PySem.W PySem.Calls PyProof.Rows in
set_option maxRecDepth 100000 in
set_option maxHeartbeats 0 in
theorem PySem.Challenge.cw_switchhills_k01_limits_and_errors_holds : PySem.Challenge.rw_switchhills_k01_limits_and_errors.Holds := by
  w_on; o_law
  refine HandSHeadRun.head_any (r := OpenLaw.row PySem.Challenge.rw_switchhills_k01_limits_and_errors) (q := K01.qv) (H := HdM.hookM K01.xs K01.fs K01.fn K01.dc K01.hs) (ob := HdM.obM K01.xs K01.fs K01.fn K01.dc) (M := 40000) (loose := K01.names) (d := HandSHeadRun.topDef (OpenLaw.row PySem.Challenge.rw_switchhills_k01_limits_and_errors).prog K01.nq) (kwd := []) HdM.obM_eq (by kernel_rfl) (fun s => by kernel_rfl) K01.run (by kernel_rfl) (by kernel_rfl) (by kernel_rfl) (by rfl) (by first | assumption | decide +kernel) (by decide +kernel) ⟨rfl, rfl, rfl, rfl, rfl, by decide +kernel⟩ ?hw ?hc
  case hw => w_witness2
  case hc =>
    refine HdM.walk_ofM (l := PySem.Challenge.rw_switchhills_k01_limits_and_errors) (n := 63) (k := 5) (x := "script") (sp := K01.sp_law) rfl (by decide) (by kernel_rfl) ⟨rfl, by decide, by decide⟩ ?F K01.law_asks
    intro w K mg fa h KX c G hmg0
    have hmg : mg ("law" : PySem.Str) = some (.ref fa) := by
      have e : (HandSHeadRun.topDef (OpenLaw.row PySem.Challenge.rw_switchhills_k01_limits_and_errors).prog K01.nq).name = ("law" : PySem.Str) := by kernel_rfl
      rw [← e]
      exact hmg0
    exact K01.all_mk KX c G hmg
