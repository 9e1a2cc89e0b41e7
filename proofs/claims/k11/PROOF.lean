import PyProof.Rows.All
import Wide.All
import OpenK.AllK
import Wide.FinOn
import HandS.ForMost
import HandS.IsInst
import HandS.Deep
import HandS.TupAny
import HandS.TupMul
import HandS.Flow
import HandS.Wide
import KE.KDictKeyed
import KE.DataFind
import HandS.Defaults
import HandS.Conv
import HandS.More
import KE.KDictDisplayH
import HandS.FStrTup
import PySem.Challenge.RW_manyreaders_k11_deeds_or_none
import KE.KStateDown
import Lean
import HandS.Base
import HandS.Call
import HandS.Ends
import HandS.Words
import HandS.WordsExc
import HandS.Head0
import HandS.Head1
import HandS.Head2
import HandS.HeadEnd
import HandS.HeadHook1
import HandS.HeadHook2
set_option Elab.async false
set_option linter.all false
set_option maxRecDepth 100000
/-! Z0: tuples made here are told with their whole object (no dict of their own), so that their methods are found. -/
namespace Z
open PySem L2 PySem.Spec PyProof.Rows

/-- a tuple is read: one made by these rules, or one of the module -/
def TupAt (K : PySem.W.Frag) (H : Hp) (a : Addr) (xs : List V) : Prop :=
  (∃ o : Obj, H a = some (.frz o (.tup xs)) ∧ o.dict = none) ∨
    ∃ (o : Obj) (its : Array Value) (n : Nat), K.lookup a = some o ∧ o.cls = .type "tuple" ∧ o.dict = none ∧ o.data = .seq its n ∧ its.size ≤ sizeLine ∧ Vals xs its.toList
theorem TupAt.sqT {K : PySem.W.Frag} {H : Hp} {a : Addr} {xs : List V} (h : TupAt K H a xs) : SqT K H a xs := by
  rcases h with ⟨o, h, _⟩ | ⟨o, its, n, h1, h2, _, h4, h5, h6⟩
  · exact .inl (.inr ⟨o, h⟩)
  · exact .inr ⟨o, its, n, h1, h2, h4, h5, h6⟩
section
variable {X : Cx} {pins : List (Addr × Obj)} {σ : L2.St} {H : Hp} {s : Shared}
theorem TupAt.noDict {a : Addr} {xs : List V} (I : Inv X pins σ H s) (h : TupAt X.K H a xs) : ∃ o, s.heap.get? a = some o ∧ o.dict = none := by
  rcases h with ⟨o, h, d⟩ | ⟨o, _, _, h, _, d, _⟩
  · obtain ⟨e, _⟩ := I.hok a _ h
    exact ⟨o, e, d⟩
  · exact ⟨o, I.kIn a o h, d⟩
/-- what follows where a new tuple is laid -/
theorem _root_.L2.Inv.tupZ {its : List Value} {xs : List V} {Q : VK} (I : Inv X pins σ H s) (r : Vals xs its) (hz : xs.length ≤ sizeLine)
    (q : ∀ p o, o.dict = none → H p = none → Q (.ref p) (upd H p (.frz o (.tup xs)))) : EP X pins σ Q (.ref s.heap.objs.size) { s with heap := s.heap.push { cls := .type "tuple", data := .seq its.toArray } } := by
  have hf : H s.heap.objs.size = none := I.hok.fresh (Nat.le_refl _)
  refine ⟨.ref s.heap.objs.size, _, I.laid (t' := s.toks) (o := .frz { cls := .type "tuple", data := .seq its.toArray } (.tup xs)) (fun b u e => Heap.get?_push_of_some _ e) (Nat.le_refl _) ?_, rfl, q _ { cls := .type "tuple", data := .seq its.toArray } rfl hf⟩
  exact ⟨Heap.get?_push_size _ rfl, hz, its, r, IsTup.new _ _⟩
end
section
variable {X : Cx} {es : List Expr} {t : TA} {pos : Pos}
def tTupZ (t : TA) : TE := fun σ H Q => t σ H fun xs H1 => xs.length ≤ sizeLine ∧ ∀ p o, o.dict = none → H1 p = none → Q (.ref p) (upd H1 p (.frz o (.tup xs)))
theorem pe_tupZ {x1} (h : PA X es t) : PE X (.Tuple es x1 pos) (tTupZ t) := by
  refine ⟨fun pins s σ H Q I hq => ?_⟩
  exact wpAny_Tuple_spliced (thn (h.run pos pins s σ H _ I hq) fun us s1 ⟨xs, H1, I1, r, z, q⟩ => ⟨by rw [← r.length]; exact z, I1.tupZ r z q⟩)
/-- t + u -/
def rCatZ (K : PySem.W.Frag) : R2 := fun x y H Q => ∃ a b xs ys, x = .ref a ∧ y = .ref b ∧ SqT K H a xs ∧ SqT K H b ys ∧ xs.length + ys.length ≤ sizeLine ∧
  (xs = [] → Q (.ref b) H) ∧ (xs ≠ [] → ys = [] → Q (.ref a) H) ∧ (xs ≠ [] → ys ≠ [] → ∀ p o, o.dict = none → H p = none → Q (.ref p) (upd H p (.frz o (.tup (xs ++ ys)))))
theorem op_catZ : OpR X (binaryOp .Add) (rCatZ X.K) := by
  intro pins s σ H x y v u Q I rx ry h
  obtain ⟨a, b, xs, ys, rfl, rfl, ha, hb, hz, q0, q1, q2⟩ := h
  cases rx
  cases ry
  obtain ⟨its, r1, p1, _⟩ := I.tuple ha
  obtain ⟨js, r2, p2, _⟩ := I.tuple hb
  by_cases hx : xs = []
  · subst hx
    cases r1
    exact cat_tup0 p1 p2 ⟨.ref b, H, I, rfl, q0 rfl⟩
  · have lz : (xs ++ ys).length ≤ sizeLine := by rw [List.length_append]; exact hz
    have le : its.length + js.length ≤ sizeLine := by rw [← r1.length, ← r2.length]; exact hz
    have n1 : its ≠ [] := fun e => by have := r1.length; rw [e] at this; exact hx (List.eq_nil_of_length_eq_zero this)
    refine HT.cat_tup p1 p2 n1 (fun z => ?_) (fun z => ?_) le
    · have hy : ys = [] := by have := r2.length; rw [z] at this; exact List.eq_nil_of_length_eq_zero this
      exact ⟨.ref a, H, I, rfl, q1 hx hy⟩
    · have hy : ys ≠ [] := fun e => by have := r2.length; rw [e] at this; exact z (List.eq_nil_of_length_eq_zero this.symm)
      exact I.tupZ (r1.append r2) lz (q2 hx hy)
/-- t[lo:hi] -/
def rSlZ (K : PySem.W.Frag) : V → Option Int → Option Int → Hp → VK → Prop := fun x lo hi H Q => ∃ a xs, x = .ref a ∧ SqT K H a xs ∧
  (cutV xs lo hi = xs → Q (.ref a) H) ∧ ∀ p o, o.dict = none → H p = none → Q (.ref p) (upd H p (.frz o (.tup (cutV xs lo hi))))
theorem sl_tupZ : SlR X (rSlZ X.K) := by
  intro pins s σ H x v vl vu lo hi sl Q I rx hs pl pu h
  obtain ⟨a, xs, rfl, hx, q1, q2⟩ := h
  cases rx
  obtain ⟨its, r, ht, hz⟩ := I.tuple hx
  have hl : its.toArray.size = xs.length := by rw [List.size_toArray]; exact r.length.symm
  refine ⟨"tuple", _, PyProof.Rows.slot_tuple_getitem.lookup, ht.typeIs, ?_⟩
  by_cases hw : HT.sIx xs.length 0 lo = 0 ∧ HT.sIx xs.length xs.length hi = xs.length
  · have e : cutV xs lo hi = xs := by unfold cutV; rw [hw.1, hw.2]; simp
    exact getItem_tuple_whole ht hs pl pu (by rw [hl]; exact hw) ⟨.ref a, H, I, rfl, q1 e⟩
  · refine HT.getItem_tuple_cut ht hs pl pu (by rw [hl]; exact hw) ?_ (by rw [hl]; exact hz)
    rw [hl]
    exact I.tupZ ((r.drop (HT.sIx xs.length 0 lo)).take (HT.sIx xs.length xs.length hi - HT.sIx xs.length 0 lo)) (Nat.le_trans (cutV_length xs lo hi) hz) q2
/-- tuple(xs), xs a list or a tuple -/
def rTupOf (K : PySem.W.Frag) : List V → Hp → VK → Prop := fun xs H Q => ∃ p ys, xs = [.ref p] ∧ ((SqL K H p ys ∧ ∀ l o, o.dict = none → H l = none → Q (.ref l) (upd H l (.frz o (.tup ys)))) ∨ (SqT K H p ys ∧ Q (.ref p) H))
theorem call_tupleZ : CallR X (.type "tuple") (rTupOf X.K) := by
  intro pins s σ H xs us Q I r h
  obtain ⟨p, ys, rfl, h⟩ := h
  obtain ⟨u, rfl, rx⟩ := vals1 r
  cases rx
  rcases h with ⟨hq, q⟩ | ⟨hq, q⟩
  · obtain ⟨its, r', pl, hz⟩ := I.list hq
    refine call_tuple_list pl.isList (fun h' kp => ?_) (by have := r'.length; simp only [List.size_toArray]; omega)
    have I1 : Inv X pins σ H { s with heap := h' } := I.kept (t' := s.toks) kp
    exact I1.tupZ r' hz q
  · obtain ⟨its, r', pl, hz⟩ := I.tuple hq
    exact call_tuple_same pl ⟨.ref p, H, I, rfl, q⟩
end
end Z

set_option Elab.async false
set_option linter.all false
set_option maxRecDepth 100000
/-! Z1: values of the heap as data; the state of a def's body as a list of data (what is shared and never changes: G; what the frame owns: own). -/
namespace Z
open PySem L2

abbrev D := PyData
structure Ct where
  P : Program
  w : World
  K : PySem.W.Frag
abbrev cx (X : Cx) : Ct := ⟨X.prog, X.w, X.K⟩

def Ext (H H' : Hp) : Prop := ∀ a o, H a = some o → H' a = some o
theorem Ext.refl (H : Hp) : Ext H H := fun _ _ h => h
theorem Ext.trans {H H1 H2 : Hp} (a : Ext H H1) (b : Ext H1 H2) : Ext H H2 := fun x o h => b x o (a x o h)
theorem Ext.up {H : Hp} {p : Addr} {o : HO} (h : H p = none) : Ext H (upd H p o) := fun a u e => by rw [upd_ne (ne_of_none e h)]; exact e
theorem Ext.fresh {H H' : Hp} {p : Addr} (e : Ext H H') (h : H' p = none) : H p = none := by
  cases q : H p with
  | none => rfl
  | some o => rw [e p o q] at h; cases h
theorem Ext.rd {H H' : Hp} {a : Addr} {u : HO} (e : Ext H H') (h : Rd H a u) : Rd H' a u := by
  rcases h with h | ⟨o, h⟩
  · exact .inl (e a _ h)
  · exact .inr ⟨o, e a _ h⟩
theorem Ext.sqL {K : PySem.W.Frag} {H H' : Hp} {a : Addr} {xs : List V} (e : Ext H H') (h : SqL K H a xs) : SqL K H' a xs := h.imp e.rd id
theorem Ext.tupAt {K : PySem.W.Frag} {H H' : Hp} {a : Addr} {xs : List V} (e : Ext H H') (h : TupAt K H a xs) : TupAt K H' a xs := by
  rcases h with ⟨o, h, d⟩ | h
  · exact .inl ⟨o, e _ _ h, d⟩
  · exact .inr h
theorem Ext.sqT {K : PySem.W.Frag} {H H' : Hp} {a : Addr} {xs : List V} (e : Ext H H') (h : SqT K H a xs) : SqT K H' a xs := h.imp e.rd id

/-- a dict whose keys are nested tuples, as an object -/
def dicP (c : Ct) (a : Addr) (xs : List (NestedKey × Addr × V)) (h : Heap) : Prop :=
  (a == sysModules) = false ∧ ∃ ys : List (NestedKey × Addr × Value), Paired (fun (p : NestedKey × Addr × V) (q : NestedKey × Addr × Value) => p.1 = q.1 ∧ p.2.1 = q.2.1 ∧ RelV p.2.2 q.2.2) xs ys ∧
    ∃ o es ep, h.get? a = some o ∧ o.ExactDict ∧ o.data = .dict es ep ∧ es.toList = ys.map (entryOfKey (nestedKind c.P c.w)) ∧ (ys.map (·.1)).Nodup
def dicO (c : Ct) (a : Addr) (xs : List (NestedKey × Addr × V)) : HO := .ext (dicP c a xs)

mutual
/-- the key that a datum is -/
def nkey : D → Option NestedKey
  | .none => some .none
  | .bool b => some (.num (if b = true then 1 else 0))
  | .int i => some (.num i)
  | .str x => some (.text x)
  | .tuple ds => (nkeys ds).map .tup
  | .list _ => none
  | .dict _ => none
def nkeys : List D → Option (List NestedKey)
  | [] => some []
  | d :: ds => (nkey d).bind fun k => (nkeys ds).map (k :: ·)
end

def keyD : Key → D
  | .inl i => .int i
  | .inr x => .str x
mutual
inductive Rep (c : Ct) (H : Hp) : V → D → Prop
  | non : Rep c H .non .none
  | bl (b : Bool) : Rep c H (.bl b) (.bool b)
  | int (i : Int) : Rep c H (.int i) (.int i)
  | str (x : Str) : Rep c H (.str x) (.str x)
  | lst {a : Addr} {xs : List V} {ds : List D} : H a = some (.lst xs) → RepA c H xs ds → Rep c H (.ref a) (.list ds)
  | scr {a : Addr} {xs : List V} {ds : List D} : SqL c.K H a xs → RepA c H xs ds → Rep c H (.ref a) (.dict [(.none, .list ds)])
  | tup {a : Addr} {xs : List V} {ds : List D} : TupAt c.K H a xs → RepA c H xs ds → Rep c H (.ref a) (.tuple ds)
  | txt (x : Str) : Rep c H (.str x) (.dict [(.bool true, .none)])
  | dic {a : Addr} {xs : List (NestedKey × Addr × V)} {kvs : List (D × D)} : H a = some (dicO c a xs) → xs.length ≤ sizeLine → RepK c H xs kvs → Rep c H (.ref a) (.dict kvs)
  | dk {a : Addr} {xs : List (Key × V)} {kvs : List (D × D)} : H a = some (.dK xs) → RepT c H xs kvs → Rep c H (.ref a) (.dict kvs)
inductive RepA (c : Ct) (H : Hp) : List V → List D → Prop
  | nil : RepA c H [] []
  | cons {v : V} {vs : List V} {d : D} {ds : List D} : Rep c H v d → RepA c H vs ds → RepA c H (v :: vs) (d :: ds)
inductive RepK (c : Ct) (H : Hp) : List (NestedKey × Addr × V) → List (D × D) → Prop
  | nil : RepK c H [] []
  | cons {k : NestedKey} {b : Addr} {v : V} {xs : List (NestedKey × Addr × V)} {kd d : D} {kvs : List (D × D)} : nkey kd = some k → k.depth ≤ 8 → Rep c H (.ref b) kd → Rep c H v d → RepK c H xs kvs → RepK c H ((k, b, v) :: xs) ((kd, d) :: kvs)
inductive RepT (c : Ct) (H : Hp) : List (Key × V) → List (D × D) → Prop
  | nil : RepT c H [] []
  | cons {k : Key} {v : V} {xs : List (Key × V)} {kd d : D} {kvs : List (D × D)} : kd = keyD k → Rep c H v d → RepT c H xs kvs → RepT c H ((k, v) :: xs) ((kd, d) :: kvs)
end

mutual
theorem Rep.ext {c : Ct} {H H' : Hp} (e : Ext H H') : ∀ {v : V} {d : D}, Rep c H v d → Rep c H' v d
  | _, _, .non => .non
  | _, _, .bl b => .bl b
  | _, _, .int i => .int i
  | _, _, .str x => .str x
  | _, _, .lst h r => .lst (e _ _ h) (RepA.ext e r)
  | _, _, .scr h r => .scr (e.sqL h) (RepA.ext e r)
  | _, _, .txt x => .txt x
  | _, _, .tup h r => .tup (e.tupAt h) (RepA.ext e r)
  | _, _, .dic h z r => .dic (e _ _ h) z (RepK.ext e r)
  | _, _, .dk h r => .dk (e _ _ h) (RepT.ext e r)
theorem RepA.ext {c : Ct} {H H' : Hp} (e : Ext H H') : ∀ {vs : List V} {ds : List D}, RepA c H vs ds → RepA c H' vs ds
  | _, _, .nil => .nil
  | _, _, .cons h r => .cons (Rep.ext e h) (RepA.ext e r)
theorem RepK.ext {c : Ct} {H H' : Hp} (e : Ext H H') : ∀ {xs : List (NestedKey × Addr × V)} {kvs : List (D × D)}, RepK c H xs kvs → RepK c H' xs kvs
  | _, _, .nil => .nil
  | _, _, .cons a b h1 h2 r => .cons a b (Rep.ext e h1) (Rep.ext e h2) (RepK.ext e r)
theorem RepT.ext {c : Ct} {H H' : Hp} (e : Ext H H') : ∀ {xs : List (Key × V)} {kvs : List (D × D)}, RepT c H xs kvs → RepT c H' xs kvs
  | _, _, .nil => .nil
  | _, _, .cons h1 h2 r => .cons h1 (Rep.ext e h2) (RepT.ext e r)
end

theorem RepA.length {c : Ct} {H : Hp} : ∀ {vs : List V} {ds : List D}, RepA c H vs ds → vs.length = ds.length
  | _, _, .nil => rfl
  | _, _, .cons _ r => by rw [List.length_cons, List.length_cons, RepA.length r]
theorem RepA.get {c : Ct} {H : Hp} : ∀ {vs : List V} {ds : List D} {i : Nat} {d : D}, RepA c H vs ds → ds[i]? = some d → ∃ v, vs[i]? = some v ∧ Rep c H v d
  | _, _, i, d, .nil, e => by simp at e
  | _, _, 0, d, .cons h _, e => by simp at e; subst e; exact ⟨_, rfl, h⟩
  | _, _, i + 1, d, .cons _ r, e => by
    obtain ⟨v, h1, h2⟩ := RepA.get (i := i) (d := d) r (by simpa using e)
    exact ⟨v, by simpa using h1, h2⟩
theorem RepA.getV {c : Ct} {H : Hp} : ∀ {vs : List V} {ds : List D} {i : Nat} {v : V}, RepA c H vs ds → vs[i]? = some v → ∃ d, ds[i]? = some d ∧ Rep c H v d
  | _, _, i, d, .nil, e => by simp at e
  | _, _, 0, d, .cons h _, e => by simp at e; subst e; exact ⟨_, rfl, h⟩
  | _, _, i + 1, d, .cons _ r, e => by
    obtain ⟨v, h1, h2⟩ := RepA.getV (i := i) (v := d) r (by simpa using e)
    exact ⟨v, by simpa using h1, h2⟩
theorem RepA.app {c : Ct} {H : Hp} : ∀ {vs us : List V} {ds es : List D}, RepA c H vs ds → RepA c H us es → RepA c H (vs ++ us) (ds ++ es)
  | _, _, _, _, .nil, s => s
  | _, _, _, _, .cons h r, s => .cons h (RepA.app r s)
theorem RepA.take {c : Ct} {H : Hp} : ∀ {vs : List V} {ds : List D} (n : Nat), RepA c H vs ds → RepA c H (vs.take n) (ds.take n)
  | _, _, 0, _ => .nil
  | _, _, _ + 1, .nil => .nil
  | _, _, n + 1, .cons h r => .cons h (RepA.take n r)
theorem RepA.drop {c : Ct} {H : Hp} : ∀ {vs : List V} {ds : List D} (n : Nat), RepA c H vs ds → RepA c H (vs.drop n) (ds.drop n)
  | _, _, 0, r => r
  | _, _, _ + 1, .nil => .nil
  | _, _, n + 1, .cons _ r => RepA.drop n r
theorem RepA.set {c : Ct} {H : Hp} {v : V} {d : D} (q : Rep c H v d) : ∀ {vs : List V} {ds : List D} (n : Nat), RepA c H vs ds → RepA c H (vs.set n v) (ds.set n d)
  | _, _, _, .nil => .nil
  | _, _, 0, .cons _ r => .cons q r
  | _, _, n + 1, .cons h r => .cons h (RepA.set q n r)
theorem RepA.rev {c : Ct} {H : Hp} : ∀ {vs : List V} {ds : List D}, RepA c H vs ds → RepA c H vs.reverse ds.reverse
  | _, _, .nil => .nil
  | _, _, .cons h r => by rw [List.reverse_cons, List.reverse_cons]; exact RepA.app (RepA.rev r) (.cons h .nil)
theorem RepK.length {c : Ct} {H : Hp} : ∀ {xs : List (NestedKey × Addr × V)} {kvs : List (D × D)}, RepK c H xs kvs → xs.length = kvs.length
  | _, _, .nil => rfl
  | _, _, .cons _ _ _ _ r => by rw [List.length_cons, List.length_cons, RepK.length r]

/-! data that hold no dict are what the layer's == asks -/
mutual
theorem Rep.dp {c : Ct} {H : Hp} : ∀ {d : D} {v : V}, d.canLay0 = true → Rep c H v d → Dp c.K H v d
  | .none, _, _, h => by cases h; exact .non
  | .bool b, _, _, h => by cases h; exact .bl b
  | .int i, _, _, h => by cases h; exact .int i
  | .str x, _, _, h => by cases h; exact .str x
  | .list ds, _, z, h => by
    cases h with
    | lst s r => exact .lst (SqL.of s) (RepA.dp (by rw [PyData.canLay0] at z; exact z) r)
  | .tuple ds, _, z, h => by
    cases h with
    | tup s r => exact .tup s.sqT (RepA.dp (by rw [PyData.canLay0] at z; exact z) r)
  | .dict kvs, _, z, h => by rw [PyData.canLay0] at z; cases z
theorem RepA.dp {c : Ct} {H : Hp} : ∀ {ds : List D} {vs : List V}, PyData.canLayAll0 ds = true → RepA c H vs ds → DpAll c.K H vs ds
  | [], _, _, h => by cases h; exact .nil
  | d :: ds, _, z, h => by
    rw [PyData.canLayAll0, Bool.and_eq_true] at z
    cases h with
    | cons h r => exact .cons (Rep.dp z.1 h) (RepA.dp z.2 r)
end

/-! ### what a frame owns -/
inductive MO where
  | lst (ds : List D)
  | dic (kvs : List (D × D))
  | dk (kvs : List (D × D))
def MO.toD : MO → D
  | .lst ds => .list ds
  | .dic kvs => .dict kvs
  | .dk kvs => .dict kvs
/-- the object at a is m; its parts lie in G -/
def MOk (c : Ct) (G H : Hp) (a : Addr) : MO → Prop
  | .lst ds => ∃ xs, H a = some (.lst xs) ∧ RepA c G xs ds
  | .dic kvs => ∃ xs, H a = some (dicO c a xs) ∧ xs.length ≤ sizeLine ∧ RepK c G xs kvs
  | .dk kvs => ∃ xs, H a = some (.dK xs) ∧ RepT c G xs kvs
theorem MOk.there {c : Ct} {G H : Hp} {a : Addr} : ∀ {m : MO}, MOk c G H a m → ∃ o, H a = some o ∧ ∀ C dx fs, o ≠ .ins C dx fs
  | .lst ds, ⟨xs, h, _⟩ => ⟨_, h, fun _ _ _ z => by cases z⟩
  | .dic kvs, ⟨xs, h, _⟩ => ⟨_, h, fun _ _ _ z => by unfold dicO at z; cases z⟩
  | .dk kvs, ⟨xs, h, _⟩ => ⟨_, h, fun _ _ _ z => by cases z⟩
theorem MOk.mono {c : Ct} {G G' H H' : Hp} {a : Addr} (e : Ext G G') (k : ∀ o, H a = some o → H' a = some o) : ∀ {m : MO}, MOk c G H a m → MOk c G' H' a m
  | .lst ds, ⟨xs, h, r⟩ => ⟨xs, k _ h, r.ext e⟩
  | .dic kvs, ⟨xs, h, z, r⟩ => ⟨xs, k _ h, z, r.ext e⟩
  | .dk kvs, ⟨xs, h, r⟩ => ⟨xs, k _ h, r.ext e⟩
theorem MOk.mut {c : Ct} {G H : Hp} {a : Addr} : ∀ {m : MO}, MOk c G H a m → Mut (H a)
  | .lst ds, ⟨xs, h, _⟩ => by rw [h]; exact True.intro
  | .dic kvs, ⟨xs, h, _⟩ => by rw [h]; exact True.intro
  | .dk kvs, ⟨xs, h, _⟩ => by rw [h]; exact True.intro
/-- .. seen as data -/
theorem MOk.rep {c : Ct} {G H : Hp} {a : Addr} (e : Ext G H) : ∀ {m : MO}, MOk c G H a m → Rep c H (.ref a) m.toD
  | .lst ds, ⟨xs, h, r⟩ => .lst h (r.ext e)
  | .dic kvs, ⟨xs, h, z, r⟩ => .dic h z (r.ext e)
  | .dk kvs, ⟨xs, h, r⟩ => .dk h (r.ext e)

inductive Sl where
  | no
  | v (d : D)
  | own (m : MO)
  | al (j : Nat)
  | ob (C : Addr) (fl : List (Str × Nat))
abbrev En := List Sl
/-- what stood at the entry: shared (G), all (H), what the callee may change (mt), instances that stand still -/
structure Bs where
  G : Hp
  H : Hp
  mt : Addr → Prop
  pin : List (Addr × HO)
  nl : Nat

/-- the slots' values, then values of no slot (fields of an instance, what the callee may change) -/
abbrev St2 := St × List V
def St2.get (σ : St2) (i : Nat) : Option V := ((σ.1 ++ σ.2.map some)[i]?).join
def SlOk (c : Ct) (B : Bs) (G H : Hp) (σ : St2) (x : Option V) : Sl → Prop
  | .no => True
  | .v d => ∃ v, x = some v ∧ Rep c G v d
  | .own m => ∃ a, x = some (.ref a) ∧ G a = none ∧ (B.H a = none ∨ B.mt a) ∧ MOk c G H a m
  | .al j => σ.1.length ≤ j ∧ ∃ w, x = some w ∧ σ.get j = some w
  | .ob C fl => ∃ a dx fs, x = some (.ref a) ∧ (a, HO.ins C dx fs) ∈ B.pin ∧ ∀ p ∈ fl, σ.1.length ≤ p.2 ∧ ∃ w, fs.lookup p.1 = some w ∧ σ.get p.2 = some w

structure RS (c : Ct) (B : Bs) (G H : Hp) (σ : St2) (ρ : En) : Prop where
  gext : Ext B.G G
  sub : Ext G H
  new : ∀ a o, G a = some o → B.G a = some o ∨ B.H a = none
  frm : ∀ a o, B.H a = some o → B.G a = none → ¬ B.mt a → H a = some o
  dom : ∀ a, H a = none → B.H a = none
  len : ρ.length = σ.1.length + σ.2.length
  nl : σ.1.length = B.nl
  sl : ∀ i s, ρ[i]? = some s → SlOk c B G H σ (σ.get i) s
  inj : ∀ i j m m' a, ρ[i]? = some (.own m) → ρ[j]? = some (.own m') → σ.get i = some (.ref a) → σ.get j = some (.ref a) → i = j
  pin : ∀ p ∈ B.pin, H p.1 = some p.2 ∧ ∃ C dx fs, p.2 = .ins C dx fs

inductive R where
  | v (d : D)
  | s (i : Nat)
  | n (m : MO)
def dr (ρ : En) : R → Option D
  | .v d => some d
  | .n m => some m.toD
  | .s i => match ρ[i]? with
    | some (.own m) => some m.toD
    | _ => none
def NotOwn (σ : St2) (ρ : En) (a : Addr) : Prop := ∀ i m, ρ[i]? = some (.own m) → σ.get i ≠ some (.ref a)
def RR (c : Ct) (B : Bs) (G H : Hp) (σ : St2) (ρ : En) (v : V) : R → Prop
  | .v d => Rep c G v d
  | .s i => σ.get i = some v
  | .n m => ∃ a, v = .ref a ∧ G a = none ∧ B.H a = none ∧ NotOwn σ ρ a ∧ MOk c G H a m

section
variable {c : Ct} {B : Bs} {G G' H H' : Hp} {σ : St2} {ρ ρ' : En} {a p : Addr} {o : HO} {v : V} {r : R} {d : D} {m : MO} {i : Nat}

theorem RS.fresh (S : RS c B G H σ ρ) (h : H p = none) : G p = none ∧ B.H p = none ∧ B.G p = none :=
  ⟨S.sub.fresh h, S.dom p h, S.gext.fresh (S.sub.fresh h)⟩
theorem RS.ownSome (S : RS c B G H σ ρ) (e : ρ[i]? = some (.own m)) : ∃ a, σ.get i = some (.ref a) ∧ G a = none ∧ (B.H a = none ∨ B.mt a) ∧ MOk c G H a m := S.sl i _ e
theorem RS.notOwn_none (S : RS c B G H σ ρ) (h : H p = none) : NotOwn σ ρ p := fun i m e q => by
  obtain ⟨a, h1, _, _, hm⟩ := S.ownSome e
  rw [h1] at q; cases q
  obtain ⟨o, ho, _⟩ := hm.there
  rw [h] at ho; cases ho
theorem RS.notOwn_G (S : RS c B G H σ ρ) (h : G p = some o) : NotOwn σ ρ p := fun i m e q => by
  obtain ⟨a, h1, h2, _, _⟩ := S.ownSome e
  rw [h1] at q; cases q
  rw [h] at h2; cases h2
/-- a new object is laid -/
theorem RS.laid (S : RS c B G H σ ρ) (h : H p = none) : RS c B G (upd H p o) σ ρ := by
  refine ⟨S.gext, S.sub.trans (Ext.up h), S.new, fun a u e1 e2 e3 => ?_, fun a e => ?_, S.len, S.nl, fun i s e => ?_, S.inj, fun q hq => ⟨?_, (S.pin q hq).2⟩⟩
  · exact Ext.up h a u (S.frm a u e1 e2 e3)
  · exact S.dom a ((Ext.up h).fresh e)
  · have q := S.sl i s e
    cases s with
    | no => exact True.intro
    | v d => exact q
    | own m => obtain ⟨a, h1, h2, h3, h4⟩ := q; exact ⟨a, h1, h2, h3, MOk.mono (Ext.refl _) (fun o z => Ext.up h a o z) h4⟩
    | al j => exact q
    | ob C fl => exact q
  · exact Ext.up h _ _ (S.pin q hq).1
/-- what nobody owns is shared -/
theorem RS.share (S : RS c B G H σ ρ) (h : H a = some o) (h0 : B.H a = Option.none) (hn : NotOwn σ ρ a) (hg : G a = Option.none) : RS c B (upd G a o) H σ ρ := by
  refine ⟨S.gext.trans (Ext.up hg), fun b u e => ?_, fun b u e => ?_, S.frm, S.dom, S.len, S.nl, fun i s e => ?_, S.inj, S.pin⟩
  · by_cases q : b = a
    · subst q; rw [upd_same] at e; cases e; exact h
    · rw [upd_ne q] at e; exact S.sub b u e
  · by_cases q : b = a
    · subst q; exact .inr h0
    · rw [upd_ne q] at e; exact S.new b u e
  · have q := S.sl i s e
    cases s with
    | no => exact True.intro
    | v d => obtain ⟨v, h1, h2⟩ := q; exact ⟨v, h1, h2.ext (Ext.up hg)⟩
    | own m =>
      obtain ⟨b, h1, h2, h3, h4⟩ := q
      have nb : b ≠ a := fun z => hn i m e (by rw [h1, z])
      exact ⟨b, h1, by rw [upd_ne nb]; exact h2, h3, MOk.mono (Ext.up hg) (fun _ z => z) h4⟩
    | al j => exact q
    | ob C fl => exact q
theorem RS.laidG (S : RS c B G H σ ρ) (h : H p = Option.none) : RS c B (upd G p o) (upd H p o) σ ρ :=
  (S.laid h).share upd_same (S.fresh h).2.1 (S.notOwn_none h) (S.fresh h).1
/-- a result lies on when more is shared -/
theorem RR.on (q : RR c B G H σ ρ v r) (e : Ext G G') (nn : ∀ m, r ≠ .n m) : RR c B G' H' σ ρ' v r := by
  cases r with
  | v d => exact Rep.ext e q
  | s i => exact q
  | n m => exact absurd rfl (nn m)
/-- seen as data: shared, or a thing of one's own -/
theorem RR.seen (S : RS c B G H σ ρ) (q : RR c B G H σ ρ v r) (hd : dr ρ r = some d) : Rep c G v d ∨ ∃ a m, v = .ref a ∧ d = m.toD ∧ MOk c G H a m := by
  cases r with
  | v d' =>
    simp only [dr, Option.some.injEq] at hd
    subst hd
    exact .inl q
  | n m =>
    simp only [dr, Option.some.injEq] at hd
    subst hd
    obtain ⟨a, h1, _, _, _, h5⟩ := q
    exact .inr ⟨a, m, h1, rfl, h5⟩
  | s i =>
    have q' : σ.get i = some v := q
    simp only [dr] at hd
    split at hd
    · rename_i m e
      cases hd
      obtain ⟨a, h1, _, _, h4⟩ := S.ownSome e
      rw [h1] at q'
      cases q'
      exact .inr ⟨a, m, rfl, rfl, h4⟩
    · cases hd
theorem RR.rep (S : RS c B G H σ ρ) (q : RR c B G H σ ρ v r) (hd : dr ρ r = some d) : Rep c H v d := by
  rcases q.seen S hd with h | ⟨a, m, rfl, rfl, h⟩
  · exact h.ext S.sub
  · exact h.rep S.sub
/-- a list, its items shared -/
theorem RR.list (S : RS c B G H σ ρ) {ds : List D} (q : RR c B G H σ ρ v r) (hd : dr ρ r = some (.list ds)) : ∃ a xs, v = .ref a ∧ H a = some (.lst xs) ∧ RepA c G xs ds := by
  rcases q.seen S hd with h | ⟨a, m, rfl, e, h⟩
  · cases h with
    | lst h r => exact ⟨_, _, rfl, S.sub _ _ h, r⟩
  · cases m with
    | lst es =>
      cases e
      obtain ⟨xs, h1, h2⟩ := h
      exact ⟨a, xs, rfl, h1, h2⟩
    | dic => cases e
    | dk => cases e
theorem RR.scr (S : RS c B G H σ ρ) {ds : List D} (q : RR c B G H σ ρ v r) (hd : dr ρ r = some (.dict [(.none, .list ds)])) : ∃ a xs, v = .ref a ∧ SqL c.K H a xs ∧ RepA c G xs ds := by
  have h : Rep c G v (.dict [(.none, .list ds)]) := by
    rcases q.seen S hd with h | ⟨a, m, rfl, e, h⟩
    · exact h
    · cases m with
      | lst es => cases e
      | dic kvs =>
        cases e
        obtain ⟨xs, _, _, r⟩ := h
        cases r with
        | cons _ _ h1 _ _ => cases h1
      | dk kvs =>
        cases e
        obtain ⟨xs, _, r⟩ := h
        cases r with
        | @cons k _ _ _ _ _ h1 _ _ => cases k <;> cases h1
  cases h with
  | scr h r => exact ⟨_, _, rfl, S.sub.sqL h, r⟩
  | dic _ _ r => cases r with | cons _ _ h1 _ _ => cases h1
  | dk _ r =>
    cases r with
    | @cons k _ _ _ _ _ h1 _ _ => cases k <;> cases h1
theorem RR.tuple (S : RS c B G H σ ρ) {ds : List D} (q : RR c B G H σ ρ v r) (hd : dr ρ r = some (.tuple ds)) : ∃ a xs, v = .ref a ∧ TupAt c.K G a xs ∧ RepA c G xs ds := by
  rcases q.seen S hd with h | ⟨a, m, rfl, e, h⟩
  · cases h with
    | tup h r => exact ⟨_, _, rfl, h, r⟩
  · cases m <;> cases e
theorem RR.int (S : RS c B G H σ ρ) {j : Int} (q : RR c B G H σ ρ v r) (hd : dr ρ r = some (.int j)) : v = .int j := by
  rcases q.seen S hd with h | ⟨a, m, rfl, e, h⟩
  · cases h; rfl
  · cases m <;> cases e
theorem RR.bool (S : RS c B G H σ ρ) {j : Bool} (q : RR c B G H σ ρ v r) (hd : dr ρ r = some (.bool j)) : v = .bl j := by
  rcases q.seen S hd with h | ⟨a, m, rfl, e, h⟩
  · cases h; rfl
  · cases m <;> cases e
theorem RR.str (S : RS c B G H σ ρ) {j : Str} (q : RR c B G H σ ρ v r) (hd : dr ρ r = some (.str j)) : v = .str j := by
  rcases q.seen S hd with h | ⟨a, m, rfl, e, h⟩
  · cases h; rfl
  · cases m <;> cases e
theorem RR.non (S : RS c B G H σ ρ) (q : RR c B G H σ ρ v r) (hd : dr ρ r = some .none) : v = .non := by
  rcases q.seen S hd with h | ⟨a, m, rfl, e, h⟩
  · cases h; rfl
  · cases m <;> cases e

theorem St2.get_set_self {σ : St2} {x : Option V} (h : i < σ.1.length) : St2.get (σ.1.set i x, σ.2) i = x := by
  unfold St2.get
  simp [List.getElem?_append, h]
theorem St2.get_set_ne {σ : St2} {x : Option V} {j : Nat} (h : i ≠ j) : St2.get (σ.1.set i x, σ.2) j = St2.get σ j := by
  unfold St2.get
  simp only [List.getElem?_append, List.length_set]
  split
  · rw [List.getElem?_set_ne h]
  · rfl
theorem en_set_self {ρ : En} {s t : Sl} (e : (ρ.set i t)[i]? = some s) : s = t := by
  by_cases h : i < ρ.length
  · rw [List.getElem?_set_self h] at e; cases e; rfl
  · rw [List.getElem?_eq_none (by simpa using h)] at e; cases e

theorem SlOk.set {x y : Option V} {s : Sl} (hi : i < σ.1.length) (q : SlOk c B G H σ y s) : SlOk c B G H (σ.1.set i x, σ.2) y s := by
  cases s with
  | no => exact True.intro
  | v d => exact q
  | own m => exact q
  | al j =>
    obtain ⟨h1, w, h2, h3⟩ := q
    exact ⟨by simpa using h1, w, h2, by rw [St2.get_set_ne (by omega)]; exact h3⟩
  | ob C fl =>
    obtain ⟨a, dx, fs, h1, h2, h3⟩ := q
    refine ⟨a, dx, fs, h1, h2, fun p hp => ?_⟩
    obtain ⟨k1, w, k2, k3⟩ := h3 p hp
    exact ⟨by simpa using k1, w, k2, by rw [St2.get_set_ne (by omega)]; exact k3⟩
/-- a slot is given a shared thing -/
theorem RS.setV (S : RS c B G H σ ρ) (hi : i < σ.1.length) (q : Rep c G v d) : RS c B G H (σ.1.set i (some v), σ.2) (ρ.set i (.v d)) := by
  refine ⟨S.gext, S.sub, S.new, S.frm, S.dom, by simpa using S.len, by simpa using S.nl, fun j s e => ?_, fun j k m m' a e1 e2 g1 g2 => ?_, S.pin⟩
  · by_cases hj : i = j
    · subst hj
      cases en_set_self e
      rw [St2.get_set_self hi]
      exact ⟨v, rfl, q⟩
    · rw [List.getElem?_set_ne hj] at e
      rw [St2.get_set_ne hj]
      exact (S.sl j s e).set hi
  · by_cases hj : i = j
    · subst hj; cases en_set_self e1
    · by_cases hk : i = k
      · subst hk; cases en_set_self e2
      · rw [List.getElem?_set_ne hj] at e1
        rw [List.getElem?_set_ne hk] at e2
        rw [St2.get_set_ne hj] at g1
        rw [St2.get_set_ne hk] at g2
        exact S.inj j k m m' a e1 e2 g1 g2
/-- .. nothing is known of a slot any more -/
theorem RS.setN (S : RS c B G H σ ρ) (hi : i < σ.1.length) (x : Option V) : RS c B G H (σ.1.set i x, σ.2) (ρ.set i .no) := by
  refine ⟨S.gext, S.sub, S.new, S.frm, S.dom, by simpa using S.len, by simpa using S.nl, fun j s e => ?_, fun j k m m' a e1 e2 g1 g2 => ?_, S.pin⟩
  · by_cases hj : i = j
    · subst hj
      cases en_set_self e
      exact True.intro
    · rw [List.getElem?_set_ne hj] at e
      rw [St2.get_set_ne hj]
      exact (S.sl j s e).set hi
  · by_cases hj : i = j
    · subst hj; cases en_set_self e1
    · by_cases hk : i = k
      · subst hk; cases en_set_self e2
      · rw [List.getElem?_set_ne hj] at e1
        rw [List.getElem?_set_ne hk] at e2
        rw [St2.get_set_ne hj] at g1
        rw [St2.get_set_ne hk] at g2
        exact S.inj j k m m' a e1 e2 g1 g2
theorem RS.forget (S : RS c B G H σ ρ) : RS c B G H σ (ρ.set i .no) := by
  refine ⟨S.gext, S.sub, S.new, S.frm, S.dom, by simpa using S.len, by simpa using S.nl, fun j s e => ?_, fun j k m m' a e1 e2 g1 g2 => ?_, S.pin⟩
  · by_cases hj : i = j
    · subst hj
      cases en_set_self e
      exact True.intro
    · rw [List.getElem?_set_ne hj] at e
      exact S.sl j s e
  · by_cases hj : i = j
    · subst hj; cases en_set_self e1
    · by_cases hk : i = k
      · subst hk; cases en_set_self e2
      · rw [List.getElem?_set_ne hj] at e1
        rw [List.getElem?_set_ne hk] at e2
        exact S.inj j k m m' a e1 e2 g1 g2
/-- a slot is given a new thing of its own -/
theorem RS.setO (S : RS c B G H σ ρ) (hi : i < σ.1.length) (q : RR c B G H σ ρ v (.n m)) : RS c B G H (σ.1.set i (some v), σ.2) (ρ.set i (.own m)) := by
  obtain ⟨a, rfl, hg, hb, hn, hm⟩ := q
  refine ⟨S.gext, S.sub, S.new, S.frm, S.dom, by simpa using S.len, by simpa using S.nl, fun j s e => ?_, fun j k m1 m2 b e1 e2 g1 g2 => ?_, S.pin⟩
  · by_cases hj : i = j
    · subst hj
      cases en_set_self e
      rw [St2.get_set_self hi]
      exact ⟨a, rfl, hg, .inl hb, hm⟩
    · rw [List.getElem?_set_ne hj] at e
      rw [St2.get_set_ne hj]
      exact (S.sl j s e).set hi
  · by_cases hj : i = j
    · by_cases hk : i = k
      · exact hj.symm.trans hk
      · subst hj
        rw [St2.get_set_self hi] at g1
        cases g1
        rw [List.getElem?_set_ne hk] at e2
        rw [St2.get_set_ne hk] at g2
        exact absurd g2 (hn k m2 e2)
    · rw [List.getElem?_set_ne hj] at e1
      rw [St2.get_set_ne hj] at g1
      by_cases hk : i = k
      · subst hk
        rw [St2.get_set_self hi] at g2
        cases g2
        exact absurd g1 (hn j m1 e1)
      · rw [List.getElem?_set_ne hk] at e2
        rw [St2.get_set_ne hk] at g2
        exact S.inj j k m1 m2 b e1 e2 g1 g2
/-- a thing of one's own is changed -/
theorem RS.mut {m' : MO} (S : RS c B G H σ ρ) (e : ρ[i]? = some (.own m)) (g : σ.get i = some (.ref a)) (hm : MOk c G (upd H a o) a m') : RS c B G (upd H a o) σ (ρ.set i (.own m')) := by
  obtain ⟨a', h1, h2, h3, h4⟩ := S.ownSome e
  rw [g] at h1; cases h1
  have nG : ∀ b u, G b = some u → b ≠ a := fun b u z q => by subst q; rw [h2] at z; cases z
  refine ⟨S.gext, fun b u z => by rw [upd_ne (nG b u z)]; exact S.sub b u z, S.new, fun b u z1 z2 z3 => ?_, fun b z => ?_, by simpa using S.len, S.nl, fun j s q => ?_, fun j k m1 m2 b e1 e2 g1 g2 => ?_, fun q hq => ⟨?_, (S.pin q hq).2⟩⟩
  · have nb : b ≠ a := fun q => by
      subst q
      rcases h3 with h3 | h3
      · rw [h3] at z1; cases z1
      · exact z3 h3
    rw [upd_ne nb]
    exact S.frm b u z1 z2 z3
  · by_cases q : b = a
    · subst q; rw [upd_same] at z; cases z
    · rw [upd_ne q] at z; exact S.dom b z
  · by_cases hj : i = j
    · subst hj
      cases en_set_self q
      exact ⟨a, g, h2, h3, hm⟩
    · rw [List.getElem?_set_ne hj] at q
      have w := S.sl j s q
      cases s with
      | no => exact True.intro
      | v d => exact w
      | own m1 =>
        obtain ⟨b, w1, w2, w3, w4⟩ := w
        have nb : b ≠ a := fun z => by
          subst z
          exact hj (S.inj i j m m1 b e q g w1)
        exact ⟨b, w1, w2, w3, MOk.mono (Ext.refl _) (fun o z => by rw [upd_ne nb]; exact z) w4⟩
      | al j => exact w
      | ob C fl => exact w
  · have own_of : ∀ {j : Nat} {m1 : MO}, (ρ.set i (.own m'))[j]? = some (.own m1) → ∃ m2, ρ[j]? = some (.own m2) := fun {j m1} q => by
      by_cases hj : i = j
      · subst hj; exact ⟨m, e⟩
      · rw [List.getElem?_set_ne hj] at q; exact ⟨m1, q⟩
    obtain ⟨n1, q1⟩ := own_of e1
    obtain ⟨n2, q2⟩ := own_of e2
    exact S.inj j k n1 n2 b q1 q2 g1 g2
  · obtain ⟨z, C, dx, fs, hq'⟩ := S.pin q hq
    have nb : q.1 ≠ a := fun w => by
      obtain ⟨u, hu, hne⟩ := h4.there
      rw [← w, z] at hu
      cases hu
      exact hne C dx fs hq'
    rw [upd_ne nb]
    exact z
/-- a slot whose value is not in range is none -/
theorem RS.wipe1 (S : RS c B G H σ ρ) : RS c B G H (σ.1.set i Option.none, σ.2) (ρ.set i .no) := by
  by_cases hi : i < σ.1.length
  · exact S.setN hi _
  · rw [List.set_eq_of_length_le (by omega)]
    exact S.forget
def wipeE : List Nat → En → En
  | [], ρ => ρ
  | i :: is, ρ => (wipeE is ρ).set i .no
theorem RS.wipe {w : List Nat} {s : St} {g : List V} (S : RS c B G H (s, g) ρ) : RS c B G H (L2.wipe s w, g) (wipeE w ρ) := by
  induction w with
  | nil => exact S
  | cons i is ih => exact ih.wipe1 (i := i)
theorem wipeE_mem {w : List Nat} : ∀ {ρ : En} {i : Nat} {s : Sl}, i ∈ w → (wipeE w ρ)[i]? = some s → s = .no := by
  induction w with
  | nil => intro _ _ _ h; cases h
  | cons j js ih =>
    intro ρ i s h e
    by_cases q : j = i
    · subst q; exact en_set_self e
    · rw [wipeE, List.getElem?_set_ne q] at e
      exact ih (by rcases List.mem_cons.mp h with z | z; exact absurd z.symm q; exact z) e
theorem wipe_get {w : List Nat} {s : St} {i : Nat} (h : i ∉ w) : (L2.wipe s w)[i]? = s[i]? := by
  induction w with
  | nil => rfl
  | cons j js ih =>
    rw [L2.wipe, List.getElem?_set_ne (fun z => h (by rw [z]; exact List.mem_cons_self))]
    exact ih fun z => h (List.mem_cons_of_mem _ z)
theorem wipe_get2 {w : List Nat} {s : St} {g : List V} {i : Nat} (h : i ∉ w) : St2.get (L2.wipe s w, g) i = St2.get (s, g) i := by
  unfold St2.get
  simp only [List.getElem?_append, L2.wipe_length]
  split
  · rw [wipe_get h]
  · rfl
/-- the slots of w come back: nothing was known of them -/
theorem RS.unwipe {w : List Nat} {s : St} {g : List V} (S : RS c B G H (L2.wipe s w, g) (wipeE w ρ)) (hw : ∀ i ∈ w, i < s.length) : RS c B G H (s, g) (wipeE w ρ) := by
  refine ⟨S.gext, S.sub, S.new, S.frm, S.dom, by have := S.len; rwa [L2.wipe_length] at this, by have := S.nl; rwa [L2.wipe_length] at this, fun j t e => ?_, fun j k m m' a e1 e2 g1 g2 => ?_, S.pin⟩
  · have gh : ∀ k, s.length ≤ k → St2.get (L2.wipe s w, g) k = St2.get (s, g) k := fun k hk => wipe_get2 fun z => by have := hw k z; omega
    by_cases hj : j ∈ w
    · rw [wipeE_mem hj e]; exact True.intro
    · have q := S.sl j t e
      rw [wipe_get2 hj] at q
      cases t with
      | no => exact True.intro
      | v d => exact q
      | own m => exact q
      | al k =>
        obtain ⟨h1, x, h2, h3⟩ := q
        rw [L2.wipe_length] at h1
        exact ⟨h1, x, h2, by rw [← gh k h1]; exact h3⟩
      | ob C fl =>
        obtain ⟨a, dx, fs, h1, h2, h3⟩ := q
        refine ⟨a, dx, fs, h1, h2, fun p hp => ?_⟩
        obtain ⟨k1, x, k2, k3⟩ := h3 p hp
        rw [L2.wipe_length] at k1
        exact ⟨k1, x, k2, by rw [← gh _ k1]; exact k3⟩
  · have nj : j ∉ w := fun z => by cases wipeE_mem z e1
    have nk : k ∉ w := fun z => by cases wipeE_mem z e2
    exact S.inj j k m m' a e1 e2 (by rw [wipe_get2 nj]; exact g1) (by rw [wipe_get2 nk]; exact g2)
/-- the base moved to where one stands: what nobody owns stands still -/
theorem RS.rebase (S : RS c B G H σ ρ) : ∃ B1 : Bs, B1.H = H ∧ B1.G = G ∧ B1.nl = B.nl ∧ (∀ a, NotOwn σ ρ a → ¬ B1.mt a) ∧ RS c B1 G H σ ρ ∧ ∀ G' H' σ' ρ', RS c B1 G' H' σ' ρ' → RS c B G' H' σ' ρ' := by
  refine ⟨⟨G, H, fun a => ∃ i m, ρ[i]? = some (.own m) ∧ σ.get i = some (.ref a), B.pin, B.nl⟩, rfl, rfl, rfl, fun a h ⟨i, m, e, g⟩ => h i m e g,
    ⟨Ext.refl _, S.sub, fun _ _ h => .inl h, fun _ _ h _ _ => h, fun _ h => h, S.len, S.nl, fun i s e => ?_, S.inj, S.pin⟩, fun G' H' σ' ρ' T => ?_⟩
  · have q := S.sl i s e
    cases s with
    | no => exact True.intro
    | v d => exact q
    | own m => obtain ⟨a, h1, h2, h3, h4⟩ := q; exact ⟨a, h1, h2, .inr ⟨i, m, e, h1⟩, h4⟩
    | al j => exact q
    | ob C fl => exact q
  · refine ⟨S.gext.trans T.gext, T.sub, fun a o h => ?_, fun a o h1 h2 h3 => ?_, fun a h => S.dom a (T.dom a h), T.len, T.nl, fun i s e => ?_, T.inj, T.pin⟩
    · rcases T.new a o h with z | z
      · exact S.new a o z
      · exact .inr (S.dom a z)
    · have hG : G a = Option.none := by
        cases q : G a with
        | none => rfl
        | some u =>
          rcases S.new a u q with z | z
          · rw [h2] at z; cases z
          · rw [h1] at z; cases z
      refine T.frm a o (S.frm a o h1 h2 h3) hG ?_
      rintro ⟨i, m, e, g⟩
      obtain ⟨b, k1, _, k3, _⟩ := S.ownSome e
      rw [g] at k1; cases k1
      rcases k3 with k3 | k3
      · rw [h1] at k3; cases k3
      · exact h3 k3
    · have q := T.sl i s e
      cases s with
      | no => exact True.intro
      | v d => exact q
      | own m =>
        obtain ⟨a, h1, h2, h3, h4⟩ := q
        refine ⟨a, h1, h2, ?_, h4⟩
        rcases h3 with h3 | ⟨j, m', e', g'⟩
        · exact .inl (S.dom a h3)
        · obtain ⟨b, k1, _, k3, _⟩ := S.ownSome e'
          rw [g'] at k1; cases k1
          exact k3
      | al j => exact q
      | ob C fl => exact q
end
end Z

set_option Elab.async false
set_option linter.all false
set_option maxRecDepth 100000
/-! Z2: readings over data: an expression is a function of the state, a statement too. -/
namespace Z
open PySem L2

abbrev Ev := En → Option (R × En)
abbrev Tv := En → Option (Bool × En)
abbrev Av := En → Option (List R × En)
inductive Fl where
  | nx
  | bk
  | ct
  | rt (r : R)
abbrev Sv := En → Option (Fl × En)

def RRs (c : Ct) (B : Bs) (G H : Hp) (σ : St2) (ρ : En) : List V → List R → Prop := Paired fun v r => RR c B G H σ ρ v r ∧ ∀ m, r ≠ .n m

def tE (c : Ct) (f : Ev) : TE := fun σ H Q => ∃ B G gv ρ r ρ', RS c B G H (σ, gv) ρ ∧ f ρ = some (r, ρ') ∧ ∀ v G' H', RS c B G' H' (σ, gv) ρ' → Ext G G' → RR c B G' H' (σ, gv) ρ' v r → Q v H'
def tT (c : Ct) (f : Tv) : TT := fun σ H Q => ∃ B G gv ρ b ρ', RS c B G H (σ, gv) ρ ∧ f ρ = some (b, ρ') ∧ ∀ G' H', RS c B G' H' (σ, gv) ρ' → Ext G G' → Q b H'
def tA (c : Ct) (f : Av) : TA := fun σ H Q => ∃ B G gv ρ rs ρ', RS c B G H (σ, gv) ρ ∧ f ρ = some (rs, ρ') ∧ ∀ vs G' H', RS c B G' H' (σ, gv) ρ' → Ext G G' → RRs c B G' H' (σ, gv) ρ' vs rs → Q vs H'
def kont (c : Ct) (B : Bs) (gv : List V) (D : Ends) (G : Hp) (ρ' : En) : Fl → Prop
  | .nx => ∀ σ' G' H', RS c B G' H' (σ', gv) ρ' → Ext G G' → D.nx σ' H'
  | .bk => ∀ σ' G' H', RS c B G' H' (σ', gv) ρ' → Ext G G' → D.bk σ' H'
  | .ct => ∀ σ' G' H', RS c B G' H' (σ', gv) ρ' → Ext G G' → D.ct σ' H'
  | .rt r => ∀ v σ' G' H', RS c B G' H' (σ', gv) ρ' → Ext G G' → RR c B G' H' (σ', gv) ρ' v r → D.rt v H'
def tS (c : Ct) (f : Sv) : TS := fun D σ H => ∃ B G gv ρ o ρ', RS c B G H (σ, gv) ρ ∧ f ρ = some (o, ρ') ∧ kont c B gv D G ρ' o

theorem kont.mono {c : Ct} {B : Bs} {gv : List V} {D : Ends} {G G1 : Hp} {ρ' : En} {o : Fl} (k : kont c B gv D G ρ' o) (x : Ext G G1) : kont c B gv D G1 ρ' o := by
  cases o with
  | nx => exact fun σ' G' H' S y => k σ' G' H' S (x.trans y)
  | bk => exact fun σ' G' H' S y => k σ' G' H' S (x.trans y)
  | ct => exact fun σ' G' H' S y => k σ' G' H' S (x.trans y)
  | rt r => exact fun v σ' G' H' S y q => k v σ' G' H' S (x.trans y) q

section
variable {X : Cx} {e a b : Expr} {es : List Expr} {st : Stmt} {sts : List Stmt} {pos : Pos} {c : Ct}

theorem pe_imp {t t' : TE} (h : PE X e t) (k : ∀ σ H Q, t' σ H Q → t σ H Q) : PE X e t' := ⟨fun pins s σ H Q I w => h.run pins s σ H Q I (k σ H Q w)⟩
theorem pt_imp {t t' : TT} (h : PT X e t) (k : ∀ σ H Q, t' σ H Q → t σ H Q) : PT X e t' := ⟨fun pins s σ H Q I w => h.run pins s σ H Q I (k σ H Q w)⟩
theorem pw_imp {t t' : TT} (h : PW X e t) (k : ∀ σ H Q, t' σ H Q → t σ H Q) : PW X e t' := ⟨fun wh pins s σ H Q I w => h.run wh pins s σ H Q I (k σ H Q w)⟩
theorem pa_imp {t t' : TA} (h : PA X es t) (k : ∀ σ H Q, t' σ H Q → t σ H Q) : PA X es t' := ⟨fun pos pins s σ H Q I w => h.run pos pins s σ H Q I (k σ H Q w)⟩
theorem ps_imp {t t' : TS} (h : PS X st t) (k : ∀ D σ H, σ.length = X.N.length → t' D σ H → t D σ H) : PS X st t' := ⟨fun pins s σ H D I w => h.run pins s σ H D I (k D σ H I.len w)⟩
theorem pss_imp {t t' : TS} (h : PSs X sts t) (k : ∀ D σ H, σ.length = X.N.length → t' D σ H → t D σ H) : PSs X sts t' := ⟨fun pins s σ H D I w => h.run pins s σ H D I (k D σ H I.len w)⟩
theorem pe_imp' {t t' : TE} (h : PE X e t) (k : ∀ σ H Q, σ.length = X.N.length → t' σ H Q → t σ H Q) : PE X e t' := ⟨fun pins s σ H Q I w => h.run pins s σ H Q I (k σ H Q I.len w)⟩

/-! ### what is of one's own and new becomes shared -/
def fz (f : Ev) : Ev := fun ρ => match f ρ with
  | some (.n m, ρ') => some (.v m.toD, ρ')
  | o => o
theorem MOk.repG {G H : Hp} {a : Addr} {o : HO} (e : H a = some o) (hg : G a = none) : ∀ {m : MO}, MOk c G H a m → Rep c (upd G a o) (.ref a) m.toD
  | .lst ds, ⟨xs, h, r⟩ => by rw [h] at e; cases e; exact .lst upd_same (r.ext (Ext.up hg))
  | .dic kvs, ⟨xs, h, z, r⟩ => by rw [h] at e; cases e; exact .dic upd_same z (r.ext (Ext.up hg))
  | .dk kvs, ⟨xs, h, r⟩ => by rw [h] at e; cases e; exact .dk upd_same (r.ext (Ext.up hg))
theorem z_fz {f : Ev} (h : PE X e (tE c f)) : PE X e (tE c (fz f)) := by
  refine pe_imp h fun σ H Q ⟨B, G, gv, ρ, r, ρ', S, hf, k⟩ => ?_
  unfold fz at hf
  split at hf
  · rename_i m ρ1 e1
    cases hf
    refine ⟨B, G, gv, ρ, .n m, _, S, e1, fun v G' H' S' x q => ?_⟩
    obtain ⟨a, rfl, hg, hb, hn, hm⟩ := q
    obtain ⟨o, ho, _⟩ := hm.there
    exact k _ (upd G' a o) H' (S'.share ho hb hn hg) (x.trans (Ext.up hg)) (hm.repG ho hg)
  · exact ⟨B, G, gv, ρ, r, ρ', S, hf, k⟩
theorem fz_not {f : Ev} {ρ ρ' : En} {r : R} (h : fz f ρ = some (r, ρ')) : ∀ m, r ≠ .n m := by
  intro m z
  subst z
  unfold fz at h
  split at h
  · cases h
  · rename_i o hno
    exact hno m ρ' h

/-! ### names, constants -/
def eV (i : Nat) : Ev := fun ρ => match ρ[i]? with
  | some (.v d) => some (.v d, ρ)
  | some (.own _) => some (.s i, ρ)
  | some (.al j) => some (.s j, ρ)
  | _ => none
theorem get_fst {σ : St} {gv : List V} {i : Nat} (h : i < σ.length) {v : V} (e : St2.get (σ, gv) i = some v) : σ[i]? = some (some v) := by
  unfold St2.get at e
  simp only [List.getElem?_append, h, if_true] at e
  cases q : σ[i]? with
  | none => rw [q] at e; cases e
  | some x => rw [q] at e; rw [show x = some v from e]
theorem z_pv (i : Nat) {x : Str} (hN : X.N[i]? = some x := by rfl) (hv : Vis X.env.scope x := by first | exact Or.inl rfl | exact Or.inr (Or.inl rfl) | exact Or.inr (Or.inr rfl)) (hd : (x == ("__debug__" : Str)) = false := by decide)
    (hcd : (x == ("__classdict__" : Str)) = false := by decide) : PE X (.Name x pos) (tE (cx X) (eV i)) := by
  refine pe_imp' (pe_var hN hv hd hcd) fun σ H Q hl ⟨B, G, gv, ρ, r, ρ', S, hf, k⟩ => ?_
  have hi : i < σ.length := by rw [hl]; exact (List.getElem?_eq_some_iff.mp hN).1
  unfold eV at hf
  split at hf
  · rename_i d e1
    cases hf
    obtain ⟨v, h1, h2⟩ := S.sl i _ e1
    exact ⟨v, get_fst hi h1, k v G H S (Ext.refl _) h2⟩
  · rename_i m e1
    cases hf
    obtain ⟨a, h1, _⟩ := S.ownSome e1
    exact ⟨_, get_fst hi h1, k _ G H S (Ext.refl _) h1⟩
  · rename_i j e1
    cases hf
    obtain ⟨h0, w, h1, h2⟩ := S.sl i _ e1
    exact ⟨w, get_fst hi h1, k w G H S (Ext.refl _) h2⟩
  · cases hf
def eK (d : D) : Ev := fun ρ => some (.v d, ρ)
theorem z_const {v : V} {d : D} (h : PE X e (tC v)) (r : ∀ G, Rep c G v d) : PE X e (tE c (eK d)) := by
  refine pe_imp h fun σ H Q ⟨B, G, gv, ρ, r', ρ', S, hf, k⟩ => ?_
  cases hf
  exact k v G H S (Ext.refl _) (r G)
theorem z_int {i : Int} {j} : PE X (.Constant (.int i) j pos) (tE (cx X) (eK (.int i))) := z_const pe_int fun _ => .int i
theorem z_bl {b : Bool} {j} : PE X (.Constant (.bool b) j pos) (tE (cx X) (eK (.bool b))) := z_const pe_bl fun _ => .bl b
theorem z_non {j} : PE X (.Constant .none j pos) (tE (cx X) (eK .none)) := z_const pe_non fun _ => .non
theorem z_str {x : Str} {j} : PE X (.Constant (.str x) j pos) (tE (cx X) (eK (.str x))) := z_const pe_str fun _ => .str x
/-- a constant of the module -/
theorem z_glob {x : Str} {v : V} {u : Value} {d : D} (hg : Gl X x) (hm : X.mg x = some u) (r : RelV v u) (q : ∀ G, Rep (cx X) G v d) (hd : (x == ("__debug__" : Str)) = false := by decide) : PE X (.Name x pos) (tE (cx X) (eK d)) :=
  z_const (pe_glob hg hm r hd) q

/-! ### operations on values -/
def Sem1 (c : Ct) (rr : V → Hp → VK → Prop) (g : D → Option R) : Prop := ∀ {B : Bs} {G H : Hp} {σ : St2} {ρ : En} {r1 : R} {v1 : V} {d1 : D} {r : R} (Q : VK), RS c B G H σ ρ → RR c B G H σ ρ v1 r1 → dr ρ r1 = some d1 → g d1 = some r →
  (∀ v G' H', RS c B G' H' σ ρ → Ext G G' → RR c B G' H' σ ρ v r → Q v H') → rr v1 H Q
def Sem2 (c : Ct) (rr : R2) (g : D → D → Option R) : Prop := ∀ {B : Bs} {G H : Hp} {σ : St2} {ρ : En} {r1 r2 : R} {v1 v2 : V} {d1 d2 : D} {r : R} (Q : VK), RS c B G H σ ρ → RR c B G H σ ρ v1 r1 → dr ρ r1 = some d1 → RR c B G H σ ρ v2 r2 → dr ρ r2 = some d2 → g d1 d2 = some r →
  (∀ v G' H', RS c B G' H' σ ρ → Ext G G' → RR c B G' H' σ ρ v r → Q v H') → rr v1 v2 H Q
def e1 (g : D → Option R) (f : Ev) : Ev := fun ρ => (fz f ρ).bind fun p => (dr p.2 p.1).bind fun d => (g d).map fun r => (r, p.2)
def e2 (g : D → D → Option R) (f f' : Ev) : Ev := fun ρ => (fz f ρ).bind fun p => (fz f' p.2).bind fun q => (dr q.2 p.1).bind fun d => (dr q.2 q.1).bind fun d' => (g d d').map fun r => (r, q.2)
theorem t_e2 {rr : R2} {g : D → D → Option R} {f f' : Ev} (hs : Sem2 c rr g) : ∀ σ H Q, tE c (e2 g f f') σ H Q → tOp rr (tE c (fz f)) (tE c (fz f')) σ H Q := by
  rintro σ H Q ⟨B, G, gv, ρ, r, ρ', S, hf, k⟩
  simp only [e2, Option.bind_eq_some_iff, Option.map_eq_some_iff, Prod.exists, Prod.mk.injEq] at hf
  obtain ⟨r1, ρ1, hf1, r2, ρ2, hf2, d1, hd1, d2, hd2, r', hg, rfl, rfl⟩ := hf
  refine ⟨B, G, gv, ρ, r1, ρ1, S, hf1, fun v1 G1 H1 S1 x1 q1 => ⟨B, G1, gv, ρ1, r2, ρ2, S1, hf2, fun v2 G2 H2 S2 x2 q2 => ?_⟩⟩
  exact hs Q S2 (q1.on x2 (fz_not hf1)) hd1 q2 hd2 hg fun v G' H' S' x q => k v G' H' S' ((x1.trans x2).trans x) q
theorem t_e1 {rr : V → Hp → VK → Prop} {g : D → Option R} {f : Ev} (hs : Sem1 c rr g) : ∀ σ H Q, tE c (e1 g f) σ H Q → tUn rr (tE c (fz f)) σ H Q := by
  rintro σ H Q ⟨B, G, gv, ρ, r, ρ', S, hf, k⟩
  simp only [e1, Option.bind_eq_some_iff, Option.map_eq_some_iff, Prod.exists, Prod.mk.injEq] at hf
  obtain ⟨r1, ρ1, hf1, d1, hd1, r', hg, rfl, rfl⟩ := hf
  exact ⟨B, G, gv, ρ, r1, ρ1, S, hf1, fun v1 G1 H1 S1 x1 q1 => hs Q S1 q1 hd1 hg fun v G' H' S' x q => k v G' H' S' (x1.trans x) q⟩
theorem z_op {op : Operator} {rr : R2} {g : D → D → Option R} {f f' : Ev} (ho : OpR X (binaryOp op) rr) (hs : Sem2 c rr g) (ha : PE X a (tE c f)) (hb : PE X b (tE c f')) : PE X (.BinOp a op b pos) (tE c (e2 g f f')) :=
  pe_imp (pe_op ho (z_fz ha) (z_fz hb)) (t_e2 hs)
theorem z_un {op : UnaryOp} {rr : V → Hp → VK → Prop} {g : D → Option R} {f : Ev} (ho : UnR X (unaryOp op) rr) (hs : Sem1 c rr g) (ha : PE X a (tE c f)) : PE X (.UnaryOp op a pos) (tE c (e1 g f)) :=
  pe_imp (pe_un ho (z_fz ha)) (t_e1 hs)
theorem z_cmp {op : CmpOp} {rr : R2} {g : D → D → Option R} {f f' : Ev} (ho : OpR X (compareOp op) rr) (hs : Sem2 c rr g) (ha : PE X a (tE c f)) (hb : PE X b (tE c f')) (hm : behindInMarks op b = false) : PE X (.Compare a [op] [b] pos) (tE c (e2 g f f')) :=
  pe_imp (pe_cmpR ho (z_fz ha) (z_fz hb) hm) (t_e2 hs)

/-! ### tests -/
def tb (f : Ev) : Tv := fun ρ => (f ρ).bind fun p => match p.1 with
  | .v (.bool b) => some (b, p.2)
  | _ => none
theorem t_tb {f : Ev} {σ : St} {H : Hp} {Q : Bool → Hp → Prop} (h : tT c (tb f) σ H Q) : tE c f σ H fun x H' => ∃ k, x = .bl k ∧ Q k H' := by
  obtain ⟨B, G, gv, ρ, k, ρ', S, hf, h⟩ := h
  simp only [tb, Option.bind_eq_some_iff, Prod.exists] at hf
  obtain ⟨r1, ρ1, hf1, hf2⟩ := hf
  split at hf2
  · rename_i b
    cases hf2
    exact ⟨B, G, gv, ρ, _, _, S, hf1, fun v G' H' S' x q => ⟨_, by cases q; rfl, h G' H' S' x⟩⟩
  · cases hf2
theorem z_tcmp {op : CmpOp} {rr : R2} {g : D → D → Option R} {f f' : Ev} (ho : OpR X (compareOp op) rr) (hs : Sem2 c rr g) (ha : PE X a (tE c f)) (hb : PE X b (tE c f')) (hm : behindInMarks op b = false) : PT X (.Compare a [op] [b] pos) (tT c (tb (e2 g f f'))) := by
  refine pt_imp (pt_cmpR ho (z_fz ha) (z_fz hb) hm) fun σ H Q h => ?_
  obtain ⟨B, G, gv, ρ, r, ρ', S, hf, k⟩ := t_tb h
  exact t_e2 hs σ H _ ⟨B, G, gv, ρ, r, ρ', S, hf, k⟩
/-- a value's truth -/
def truD : D → Option Bool
  | .none => some false
  | .bool b => some b
  | .int i => some (i != 0)
  | .str x => if x.length ≤ sizeLine then some ((x.length : Int) != 0) else none
  | .list ds => some (!ds.isEmpty)
  | .tuple ds => some (!ds.isEmpty)
  | .dict _ => none
def tru (f : Ev) : Tv := fun ρ => (fz f ρ).bind fun p => (dr p.2 p.1).bind fun d => (truD d).map fun b => (b, p.2)
theorem RepA.isEmpty {H : Hp} {xs : List V} {ds : List D} (r : RepA c H xs ds) : xs.isEmpty = ds.isEmpty := by cases r <;> rfl
theorem tru_sem {B : Bs} {G H : Hp} {σ : St2} {ρ : En} {r : R} {v : V} {d : D} {k : Bool} (S : RS c B G H σ ρ) (q : RR c B G H σ ρ v r) (hd : dr ρ r = some d) (ht : truD d = some k) : TruV c.K v H k := by
  cases d with
  | none => cases q.non S hd; cases ht; rfl
  | bool b => cases q.bool S hd; cases ht; rfl
  | int i => cases q.int S hd; cases ht; rfl
  | str x =>
    cases q.str S hd
    simp only [truD] at ht
    split at ht
    · rename_i hx; cases ht; exact ⟨hx, rfl⟩
    · cases ht
  | list ds =>
    obtain ⟨a, xs, rfl, h1, h2⟩ := q.list S hd
    cases ht
    exact .inl ⟨xs, SqL.of h1, by rw [h2.isEmpty]⟩
  | tuple ds =>
    obtain ⟨a, xs, rfl, h1, h2⟩ := q.tuple S hd
    cases ht
    exact .inr (.inl ⟨xs, S.sub.sqT h1.sqT, by rw [h2.isEmpty]⟩)
  | dict kvs => cases ht
theorem z_tru {f : Ev} (ha : PE X a (tE (cx X) f)) (he : ∀ whole, isTrue a X.env whole = (do let v ← whole; standAt a.pos; holding [v] (truthy v)) := by intro _; rfl) : PT X a (tT (cx X) (tru f)) := by
  refine pt_imp (pt_truth (z_fz ha) he) fun σ H Q ⟨B, G, gv, ρ, b, ρ', S, hf, k⟩ => ?_
  simp only [tru, Option.bind_eq_some_iff, Option.map_eq_some_iff, Prod.exists, Prod.mk.injEq] at hf
  obtain ⟨r1, ρ1, hf1, d1, hd1, b1, ht, rfl, rfl⟩ := hf
  exact ⟨B, G, gv, ρ, r1, ρ1, S, hf1, fun v G1 H1 S1 x1 q1 => ⟨b1, tru_sem (c := cx X) S1 q1 hd1 ht, k G1 H1 S1 x1⟩⟩
def tand (f g : Tv) : Tv := fun ρ => (f ρ).bind fun p => if p.1 = true then g p.2 else some (false, p.2)
def tor (f g : Tv) : Tv := fun ρ => (f ρ).bind fun p => if p.1 = true then some (true, p.2) else g p.2
def tnot (f : Tv) : Tv := fun ρ => (f ρ).map fun p => (!p.1, p.2)
theorem t_and {f g : Tv} {σ : St} {H : Hp} {Q : Bool → Hp → Prop} (h : tT c (tand f g) σ H Q) : tAnd (tT c f) (tT c g) σ H Q := by
  obtain ⟨B, G, gv, ρ, k, ρ', S, hf, h⟩ := h
  simp only [tand, Option.bind_eq_some_iff, Prod.exists] at hf
  obtain ⟨b1, ρ1, hf1, hf2⟩ := hf
  refine ⟨B, G, gv, ρ, b1, ρ1, S, hf1, fun G1 H1 S1 x1 => ?_⟩
  cases b1 with
  | true =>
    rw [if_pos rfl] at hf2 ⊢
    exact ⟨B, G1, gv, ρ1, k, ρ', S1, hf2, fun G2 H2 S2 x2 => h G2 H2 S2 (x1.trans x2)⟩
  | false =>
    rw [if_neg Bool.false_ne_true] at hf2 ⊢
    cases hf2
    exact h G1 H1 S1 x1
theorem t_or {f g : Tv} {σ : St} {H : Hp} {Q : Bool → Hp → Prop} (h : tT c (tor f g) σ H Q) : tOr (tT c f) (tT c g) σ H Q := by
  obtain ⟨B, G, gv, ρ, k, ρ', S, hf, h⟩ := h
  simp only [tor, Option.bind_eq_some_iff, Prod.exists] at hf
  obtain ⟨b1, ρ1, hf1, hf2⟩ := hf
  refine ⟨B, G, gv, ρ, b1, ρ1, S, hf1, fun G1 H1 S1 x1 => ?_⟩
  cases b1 with
  | false =>
    rw [if_neg Bool.false_ne_true] at hf2 ⊢
    exact ⟨B, G1, gv, ρ1, k, ρ', S1, hf2, fun G2 H2 S2 x2 => h G2 H2 S2 (x1.trans x2)⟩
  | true =>
    rw [if_pos rfl] at hf2 ⊢
    cases hf2
    exact h G1 H1 S1 x1
theorem zw_and1 {f : Tv} (ha : PT X a (tT c f)) : PW X (.BoolOp .And [a] pos) (tT c f) := pw_and1 ha
theorem zw_or1 {f : Tv} (ha : PT X a (tT c f)) : PW X (.BoolOp .Or [a] pos) (tT c f) := pw_or1 ha
theorem zw_and {f g : Tv} {rest : List Expr} (ha : PT X a (tT c f)) (hb : PW X (.BoolOp .And (b :: rest) pos) (tT c g)) : PW X (.BoolOp .And (a :: b :: rest) pos) (tT c (tand f g)) := pw_imp (pw_and ha hb) fun _ _ _ h => t_and h
theorem zw_or {f g : Tv} {rest : List Expr} (ha : PT X a (tT c f)) (hb : PW X (.BoolOp .Or (b :: rest) pos) (tT c g)) : PW X (.BoolOp .Or (a :: b :: rest) pos) (tT c (tor f g)) := pw_imp (pw_or ha hb) fun _ _ _ h => t_or h
theorem z_tnot {f : Tv} (ha : PT X a (tT c f)) : PT X (.UnaryOp .Not a pos) (tT c (tnot f)) := by
  refine pt_imp (pt_not ha) fun σ H Q ⟨B, G, gv, ρ, k, ρ', S, hf, h⟩ => ?_
  simp only [tnot, Option.map_eq_some_iff, Prod.exists, Prod.mk.injEq] at hf
  obtain ⟨b1, ρ1, hf1, rfl, rfl⟩ := hf
  exact ⟨B, G, gv, ρ, b1, ρ1, S, hf1, h⟩
/-! .. as values -/
def eand (f g : Ev) : Ev := fun ρ => (tb f ρ).bind fun p => if p.1 = true then g p.2 else some (.v (.bool false), p.2)
def eor (f g : Ev) : Ev := fun ρ => (tb f ρ).bind fun p => if p.1 = true then some (.v (.bool true), p.2) else g p.2
def enot (f : Ev) : Ev := fun ρ => (tb f ρ).map fun p => (.v (.bool (!p.1)), p.2)
theorem z_and {f g : Ev} {rest : List Expr} (ha : PE X a (tE c f)) (hb : PE X (.BoolOp .And (b :: rest) pos) (tE c g)) : PE X (.BoolOp .And (a :: b :: rest) pos) (tE c (eand f g)) := by
  refine pe_imp (pe_and ha hb) fun σ H Q ⟨B, G, gv, ρ, r, ρ', S, hf, h⟩ => ?_
  simp only [eand, Option.bind_eq_some_iff, Prod.exists] at hf
  obtain ⟨b1, ρ1, hf1, hf2⟩ := hf
  refine t_tb (Q := fun k H1 => if k = true then tE c g σ H1 Q else Q (.bl false) H1) ⟨B, G, gv, ρ, b1, ρ1, S, hf1, fun G1 H1 S1 x1 => ?_⟩
  cases b1 with
  | true =>
    rw [if_pos rfl] at hf2 ⊢
    exact ⟨B, G1, gv, ρ1, r, ρ', S1, hf2, fun v G2 H2 S2 x2 q => h v G2 H2 S2 (x1.trans x2) q⟩
  | false =>
    rw [if_neg Bool.false_ne_true] at hf2 ⊢
    cases hf2
    exact h _ G1 H1 S1 x1 (.bl false)
theorem z_or {f g : Ev} {rest : List Expr} (ha : PE X a (tE c f)) (hb : PE X (.BoolOp .Or (b :: rest) pos) (tE c g)) : PE X (.BoolOp .Or (a :: b :: rest) pos) (tE c (eor f g)) := by
  refine pe_imp (pe_or ha hb) fun σ H Q ⟨B, G, gv, ρ, r, ρ', S, hf, h⟩ => ?_
  simp only [eor, Option.bind_eq_some_iff, Prod.exists] at hf
  obtain ⟨b1, ρ1, hf1, hf2⟩ := hf
  refine t_tb (Q := fun k H1 => if k = true then Q (.bl true) H1 else tE c g σ H1 Q) ⟨B, G, gv, ρ, b1, ρ1, S, hf1, fun G1 H1 S1 x1 => ?_⟩
  cases b1 with
  | false =>
    rw [if_neg Bool.false_ne_true] at hf2 ⊢
    exact ⟨B, G1, gv, ρ1, r, ρ', S1, hf2, fun v G2 H2 S2 x2 q => h v G2 H2 S2 (x1.trans x2) q⟩
  | true =>
    rw [if_pos rfl] at hf2 ⊢
    cases hf2
    exact h _ G1 H1 S1 x1 (.bl true)
theorem z_one {op} {f : Ev} (h : PE X a (tE c f)) : PE X (.BoolOp op [a] pos) (tE c f) := pe_one h
theorem z_not {f : Ev} (ha : PE X a (tE c f)) : PE X (.UnaryOp .Not a pos) (tE c (enot f)) := by
  refine pe_imp (pe_not ha) fun σ H Q ⟨B, G, gv, ρ, r, ρ', S, hf, h⟩ => ?_
  simp only [enot, Option.map_eq_some_iff, Prod.exists, Prod.mk.injEq] at hf
  obtain ⟨b1, ρ1, hf1, rfl, rfl⟩ := hf
  exact t_tb (Q := fun k H1 => Q (.bl (!k)) H1) ⟨B, G, gv, ρ, b1, ρ1, S, hf1, fun G1 H1 S1 x1 => h _ G1 H1 S1 x1 (.bl _)⟩
def eif (t : Tv) (f g : Ev) : Ev := fun ρ => (t ρ).bind fun p => if p.1 = true then f p.2 else g p.2
theorem z_if {t : Tv} {f g : Ev} {ce : Expr} (hc : PT X ce (tT c t)) (ha : PE X a (tE c f)) (hb : PE X b (tE c g)) : PE X (.IfExp ce a b pos) (tE c (eif t f g)) := by
  refine pe_imp (pe_ifExp hc ha hb) fun σ H Q ⟨B, G, gv, ρ, r, ρ', S, hf, h⟩ => ?_
  simp only [eif, Option.bind_eq_some_iff, Prod.exists] at hf
  obtain ⟨b1, ρ1, hf1, hf2⟩ := hf
  refine ⟨B, G, gv, ρ, b1, ρ1, S, hf1, fun G1 H1 S1 x1 => ?_⟩
  cases b1 with
  | true =>
    rw [if_pos rfl] at hf2 ⊢
    exact ⟨B, G1, gv, ρ1, r, ρ', S1, hf2, fun v G2 H2 S2 x2 q => h v G2 H2 S2 (x1.trans x2) q⟩
  | false =>
    rw [if_neg Bool.false_ne_true] at hf2 ⊢
    exact ⟨B, G1, gv, ρ1, r, ρ', S1, hf2, fun v G2 H2 S2 x2 q => h v G2 H2 S2 (x1.trans x2) q⟩

/-! ### argument lists, displays -/
def a0 : Av := fun ρ => some ([], ρ)
def aC (f : Ev) (g : Av) : Av := fun ρ => (fz f ρ).bind fun p => (g p.2).map fun q => (p.1 :: q.1, q.2)
theorem z_nil : PA X [] (tA c a0) := by
  refine pa_imp pa_nil fun σ H Q ⟨B, G, gv, ρ, rs, ρ', S, hf, h⟩ => ?_
  cases hf
  exact h [] G H S (Ext.refl _) .nil
theorem RRs.on {B : Bs} {G G' H H' : Hp} {σ : St2} {ρ ρ' : En} (e : Ext G G') : ∀ {vs : List V} {rs : List R}, RRs c B G H σ ρ vs rs → RRs c B G' H' σ ρ' vs rs
  | _, _, .nil => .nil
  | _, _, .cons h r => .cons ⟨h.1.on e h.2, h.2⟩ (RRs.on e r)
theorem z_cons {f : Ev} {g : Av} (ha : PE X e (tE c f)) (hr : PA X es (tA c g)) (hs : starEach (e :: es) X.env = (false, eval e X.env) :: starEach es X.env := by rfl) : PA X (e :: es) (tA c (aC f g)) := by
  refine pa_imp (pa_cons (z_fz ha) hr hs) fun σ H Q ⟨B, G, gv, ρ, rs, ρ', S, hf, h⟩ => ?_
  simp only [aC, Option.bind_eq_some_iff, Option.map_eq_some_iff, Prod.exists, Prod.mk.injEq] at hf
  obtain ⟨r1, ρ1, hf1, rs2, ρ2, hf2, rfl, rfl⟩ := hf
  refine ⟨B, G, gv, ρ, r1, ρ1, S, hf1, fun v G1 H1 S1 x1 q1 => ⟨B, G1, gv, ρ1, rs2, ρ2, S1, hf2, fun vs G2 H2 S2 x2 q2 => ?_⟩⟩
  exact h _ G2 H2 S2 (x1.trans x2) (.cons ⟨q1.on x2 (fz_not hf1), fz_not hf1⟩ q2)
/-- all shared -/
def vals : List R → Option (List D)
  | [] => some []
  | .v d :: rs => (vals rs).map (d :: ·)
  | _ :: _ => none
theorem vals_rep {B : Bs} {G H : Hp} {σ : St2} {ρ : En} : ∀ {vs : List V} {rs : List R} {ds : List D}, RRs c B G H σ ρ vs rs → vals rs = some ds → RepA c G vs ds
  | _, _, _, .nil, e => by cases e; exact .nil
  | _, .v d :: rs, _, .cons h r, e => by
    simp only [vals, Option.map_eq_some_iff] at e
    obtain ⟨ds, e1, rfl⟩ := e
    exact .cons h.1 (vals_rep r e1)
  | _, .s _ :: rs, _, .cons h r, e => by cases e
  | _, .n _ :: rs, _, .cons h r, e => by cases e
/-- data of any kind -/
def drs (ρ : En) : List R → Option (List D)
  | [] => some []
  | r :: rs => (dr ρ r).bind fun d => (drs ρ rs).map (d :: ·)
def etup (a : Av) : Ev := fun ρ => (a ρ).bind fun p => (vals p.1).bind fun ds => if ds.length ≤ sizeLine then some (.v (.tuple ds), p.2) else none
def elst (a : Av) : Ev := fun ρ => (a ρ).bind fun p => (vals p.1).bind fun ds => if ds.length ≤ sizeLine then some (.n (.lst ds), p.2) else none
theorem RR.newL {B : Bs} {G H : Hp} {σ : St2} {ρ : En} {p : Addr} {xs : List V} {ds : List D} (S : RS c B G H σ ρ) (hp : H p = none) (r : RepA c G xs ds) : RR c B G (upd H p (.lst xs)) σ ρ (.ref p) (.n (.lst ds)) :=
  ⟨p, rfl, (S.fresh hp).1, (S.fresh hp).2.1, S.notOwn_none hp, xs, upd_same, r⟩
theorem RR.newT {B : Bs} {G H : Hp} {σ : St2} {ρ : En} {p : Addr} {o : Obj} {xs : List V} {ds : List D} (S : RS c B G H σ ρ) (hp : H p = none) (d : o.dict = none) (r : RepA c G xs ds) : RR c B (upd G p (.frz o (.tup xs))) (upd H p (.frz o (.tup xs))) σ ρ (.ref p) (.v (.tuple ds)) :=
  Rep.tup (.inl ⟨o, upd_same, d⟩) (r.ext (Ext.up (S.fresh hp).1))
theorem z_tup {n} {f : Av} (h : PA X es (tA c f)) : PE X (.Tuple es n pos) (tE c (etup f)) := by
  refine pe_imp (pe_tupZ h) fun σ H Q ⟨B, G, gv, ρ, r, ρ', S, hf, k⟩ => ?_
  simp only [etup, Option.bind_eq_some_iff, Prod.exists] at hf
  obtain ⟨rs, ρ1, hf1, ds, hv, hf2⟩ := hf
  split at hf2
  · rename_i hz
    cases hf2
    refine ⟨B, G, gv, ρ, rs, _, S, hf1, fun vs G1 H1 S1 x1 q1 => ?_⟩
    have r1 := vals_rep q1 hv
    exact ⟨by rw [r1.length]; exact hz, fun p o hd hp => k _ _ _ (S1.laidG hp) (x1.trans (Ext.up (S1.fresh hp).1)) (RR.newT S1 hp hd r1)⟩
  · cases hf2
theorem z_lst {f : Av} (h : PA X es (tA c f)) : PE X (.List es pos) (tE c (elst f)) := by
  refine pe_imp (pe_lst h) fun σ H Q ⟨B, G, gv, ρ, r, ρ', S, hf, k⟩ => ?_
  simp only [elst, Option.bind_eq_some_iff, Prod.exists] at hf
  obtain ⟨rs, ρ1, hf1, ds, hv, hf2⟩ := hf
  split at hf2
  · rename_i hz
    cases hf2
    refine ⟨B, G, gv, ρ, rs, _, S, hf1, fun vs G1 H1 S1 x1 q1 => ?_⟩
    have r1 := vals_rep q1 hv
    exact ⟨by rw [r1.length]; exact hz, fun p hp => k _ _ _ (S1.laid hp) x1 (RR.newL S1 hp r1)⟩
  · cases hf2

/-! ### calls -/
def SemC (c : Ct) (rr : List V → Hp → VK → Prop) (g : List D → Option R) : Prop := ∀ {B : Bs} {G H : Hp} {σ : St2} {ρ : En} {rs : List R} {vs : List V} {ds : List D} {r : R} (Q : VK), RS c B G H σ ρ → RRs c B G H σ ρ vs rs → drs ρ rs = some ds → g ds = some r →
  (∀ v G' H', RS c B G' H' σ ρ → Ext G G' → RR c B G' H' σ ρ v r → Q v H') → rr vs H Q
def eC (g : List D → Option R) (a : Av) : Ev := fun ρ => (a ρ).bind fun p => (drs p.2 p.1).bind fun ds => (g ds).map fun r => (r, p.2)
theorem t_eC {rr : List V → Hp → VK → Prop} {g : List D → Option R} {f : Av} (hs : SemC c rr g) : ∀ σ H Q, tE c (eC g f) σ H Q → tCB rr (tA c f) σ H Q := by
  rintro σ H Q ⟨B, G, gv, ρ, r, ρ', S, hf, k⟩
  simp only [eC, Option.bind_eq_some_iff, Option.map_eq_some_iff, Prod.exists, Prod.mk.injEq] at hf
  obtain ⟨rs, ρ1, hf1, ds, hd, r', hg, rfl, rfl⟩ := hf
  exact ⟨B, G, gv, ρ, rs, ρ1, S, hf1, fun vs G1 H1 S1 x1 q1 => hs Q S1 q1 hd hg fun v G' H' S' x q => k v G' H' S' (x1.trans x) q⟩
theorem z_callB {id : String} {x : Str} {p : Pos} {rr : List V → Hp → VK → Prop} {g : List D → Option R} {f : Av} (hc : CallR X (.builtin id) rr) (hs : SemC c rr g) (hg : Gl X x) (hm : X.mg x = none) (hv : bootBuiltins x = some (.builtin id)) (ha : PA X (e :: es) (tA c f))
    (hn : x ≠ "__name__" := by decide) (hdb : (x == ("__debug__" : Str)) = false := by decide)
    (he : starEach (e :: es) X.env = (false, eval e X.env) :: starEach es X.env := by rfl) (hpl : (backTo pos (starEach es X.env)).any (·.1) = false := by rfl) : PE X (.Call (.Name x p) (e :: es) [] pos) (tE c (eC g f)) :=
  pe_imp (pe_callB hc hg hm hv ha hn hdb he hpl) (t_eC hs)
theorem z_callTy {id : String} {x : Str} {p : Pos} {rr : List V → Hp → VK → Prop} {g : List D → Option R} {f : Av} (hc : CallR X (.type id) rr) (hs : SemC c rr g) (hg : Gl X x) (hm : X.mg x = none) (hv : bootBuiltins x = some (.type id)) (ha : PA X (e :: es) (tA c f))
    (hn : x ≠ "__name__" := by decide) (hdb : (x == ("__debug__" : Str)) = false := by decide)
    (he : starEach (e :: es) X.env = (false, eval e X.env) :: starEach es X.env := by rfl) (hpl : (backTo pos (starEach es X.env)).any (·.1) = false := by rfl) : PE X (.Call (.Name x p) (e :: es) [] pos) (tE c (eC g f)) :=
  pe_imp (pe_callTy hc hg hm hv ha hn hdb he hpl) (t_eC hs)

/-- what a call leaves -/
structure After (G H G' H' : Hp) (mt : Addr → Prop) : Prop where
  g : Ext G G'
  s : Ext G' H'
  new : ∀ a o, G' a = some o → G a = some o ∨ H a = none
  frm : ∀ a o, H a = some o → G a = none → ¬ mt a → H' a = some o
  dom : ∀ a, H' a = none → H a = none
def Res (c : Ct) (H G' H' : Hp) (v : V) : R → Prop
  | .v d => Rep c G' v d
  | .n m => ∃ a, v = .ref a ∧ G' a = none ∧ H a = none ∧ MOk c G' H' a m
  | .s _ => False
/-- a def that changes nothing: its value is a function of its arguments' -/
def spF (c : Ct) (F : List D → Option R) : Sp := fun vs H Q _ => ∃ G ds r, Ext G H ∧ RepA c G vs ds ∧ F ds = some r ∧ ∀ v G' H', After G H G' H' (fun _ => False) → Res c H G' H' v r → Q v H'
theorem RS.after {B : Bs} {G H G' H' : Hp} {σ : St2} {ρ : En} (S : RS c B G H σ ρ) (A : After G H G' H' (fun _ => False)) : RS c B G' H' σ ρ := by
  have hG : ∀ {a o}, H a = some o → G a = none → G' a = none := fun {a o} h1 h2 => by
    cases q : G' a with
    | none => rfl
    | some u =>
      rcases A.new a u q with z | z
      · rw [h2] at z; cases z
      · rw [h1] at z; cases z
  refine ⟨S.gext.trans A.g, A.s, fun a o h => ?_, fun a o h1 h2 h3 => ?_, fun a h => S.dom a (A.dom a h), S.len, S.nl, fun i s e => ?_, S.inj, fun p hp => ⟨?_, (S.pin p hp).2⟩⟩
  · rcases A.new a o h with z | z
    · exact S.new a o z
    · exact .inr (S.dom a z)
  · have h4 := S.frm a o h1 h2 h3
    refine A.frm a o h4 ?_ (fun z => z)
    cases q : G a with
    | none => rfl
    | some u =>
      rcases S.new a u q with z | z
      · rw [h2] at z; cases z
      · rw [h1] at z; cases z
  · have q := S.sl i s e
    cases s with
    | no => exact True.intro
    | v d => obtain ⟨v, h1, h2⟩ := q; exact ⟨v, h1, h2.ext A.g⟩
    | own m =>
      obtain ⟨a, h1, h2, h3, h4⟩ := q
      obtain ⟨o, ho, _⟩ := h4.there
      exact ⟨a, h1, hG ho h2, h3, h4.mono A.g fun u hu => A.frm a u hu h2 (fun z => z)⟩
    | al j => exact q
    | ob C fl => exact q
  · have h1 := (S.pin p hp).1
    cases q : G p.1 with
    | none => exact A.frm _ _ h1 q (fun z => z)
    | some u =>
      have := S.sub _ _ q
      rw [h1] at this; cases this
      exact A.s _ _ (A.g _ _ q)
theorem Res.rr {B : Bs} {G H G' H' : Hp} {σ : St2} {ρ : En} {v : V} {r : R} (S : RS c B G H σ ρ) (q : Res c H G' H' v r) : RR c B G' H' σ ρ v r := by
  cases r with
  | v d => exact q
  | n m =>
    obtain ⟨a, h1, h2, h3, h4⟩ := q
    exact ⟨a, h1, h2, S.dom a h3, S.notOwn_none h3, h4⟩
  | s i => exact q.elim
def eF (F : List D → Option R) (a : Av) : Ev := fun ρ => (a ρ).bind fun p => (vals p.1).bind fun ds => (F ds).map fun r => (r, p.2)
theorem t_eF {F : List D → Option R} {f : Av} {E : XK} : ∀ σ H Q, tE c (eF F f) σ H Q → tCall (spF c F) [] E (tA c f) σ H Q := by
  rintro σ H Q ⟨B, G, gv, ρ, r, ρ', S, hf, k⟩
  simp only [eF, Option.bind_eq_some_iff, Option.map_eq_some_iff, Prod.exists, Prod.mk.injEq] at hf
  obtain ⟨rs, ρ1, hf1, ds, hd, r', hg, rfl, rfl⟩ := hf
  refine ⟨B, G, gv, ρ, rs, ρ1, S, hf1, fun vs G1 H1 S1 x1 q1 => ?_⟩
  show spF c F (vs ++ []) H1 Q E
  rw [List.append_nil]
  exact ⟨G1, ds, r', S1.sub, vals_rep q1 hd, hg, fun v G' H' A q => k v G' H' (S1.after A) (x1.trans A.g) (q.rr S1)⟩
theorem z_call {kk : Nat} {f : Addr} {fd : FuncData} {ps : List Str} {F : List D → Option R} {fa : Av} {x : Str} {p : Pos} {E : XK} (G : FnOk X.prog X.w X.K X.mg X.base CX0 kk f fd ps (spF (cx X) F)) (hr : Room kk X.A) (hg : Gl X x) (hm : X.mg x = some (.ref f)) (hk : PySem.W.keepIn X.K (.ref f) = true) (hb : Binds X.K fd ps [])
    (ha : PA X (e :: es) (tA (cx X) fa)) (hdb : (x == ("__debug__" : Str)) = false := by decide) (he : starEach (e :: es) X.env = (false, eval e X.env) :: starEach es X.env := by rfl) (hpl : (backTo pos (starEach es X.env)).any (·.1) = false := by rfl) :
    PE X (.Call (.Name x p) (e :: es) [] pos) (tE (cx X) (eF F fa)) := pe_imp (pe_call G hr hg hm hk hb .nil (pass0 (X := X)) ha hdb he hpl) t_eF
theorem z_call0 {kk : Nat} {f : Addr} {fd : FuncData} {F : List D → Option R} {x : Str} {p : Pos} {E : XK} (G : FnOk X.prog X.w X.K X.mg X.base CX0 kk f fd [] (spF (cx X) F)) (hr : Room kk X.A) (hg : Gl X x) (hm : X.mg x = some (.ref f)) (hk : PySem.W.keepIn X.K (.ref f) = true) (hb : Binds X.K fd [] [])
    (hdb : (x == ("__debug__" : Str)) = false := by decide) : PE X (.Call (.Name x p) [] [] pos) (tE (cx X) (eF F a0)) := by
  refine pe_imp (pe_call0 G hr hg hm hk hb .nil (pass0 (X := X)) hdb) fun σ H Q h => ?_
  have h2 := t_eF (E := E0) σ H Q h
  obtain ⟨B, G, gv, ρ, rs, ρ1, S, hf1, k⟩ := h2
  cases hf1
  exact k [] G H S (Ext.refl _) .nil
end
end Z

set_option Elab.async false
set_option linter.all false
set_option maxRecDepth 100000
/-! Z3: statements, loops, comprehensions, defs, over data. -/
namespace Z
open PySem L2

section
variable {X : Cx} {e a b : Expr} {es : List Expr} {st : Stmt} {sts : List Stmt} {pos : Pos} {c : Ct}

/-! ### blocks -/
def sNil : Sv := fun ρ => some (.nx, ρ)
def sq (f g : Sv) : Sv := fun ρ => (f ρ).bind fun p => match p.1 with
  | .nx => g p.2
  | o => some (o, p.2)
theorem z_snil : PSs X [] (tS c sNil) := by
  refine pss_imp pss_nil fun D σ H _ ⟨B, G, gv, ρ, o, ρ', S, hf, k⟩ => ?_
  cases hf
  exact k σ G H S (Ext.refl _)
theorem z_seq {f g : Sv} (h1 : PS X st (tS c f)) (h2 : PSs X sts (tS c g)) : PSs X (st :: sts) (tS c (sq f g)) := by
  refine pss_imp (pss_cons h1 h2) fun D σ H _ ⟨B, G, gv, ρ, o, ρ', S, hf, k⟩ => ?_
  simp only [sq, Option.bind_eq_some_iff, Prod.exists] at hf
  obtain ⟨o1, ρ1, hf1, hf2⟩ := hf
  refine ⟨B, G, gv, ρ, o1, ρ1, S, hf1, ?_⟩
  cases o1 with
  | nx => exact fun σ1 G1 H1 S1 x1 => ⟨B, G1, gv, ρ1, o, ρ', S1, hf2, k.mono x1⟩
  | bk => cases hf2; exact k
  | ct => cases hf2; exact k
  | rt r => cases hf2; exact k
theorem z_sone {f : Sv} (h1 : PS X st (tS c f)) : PSs X [st] (tS c f) := pss_one h1
def sIf (t : Tv) (f g : Sv) : Sv := fun ρ => (t ρ).bind fun p => if p.1 = true then f p.2 else g p.2
theorem z_sif {t : Tv} {f g : Sv} {ce : Expr} {as bs : List Stmt} (hc : PT X ce (tT c t)) (ha : PSs X as (tS c f)) (hb : PSs X bs (tS c g)) : PS X (.If ce as bs pos) (tS c (sIf t f g)) := by
  refine ps_imp (ps_if hc ha hb) fun D σ H _ ⟨B, G, gv, ρ, o, ρ', S, hf, k⟩ => ?_
  simp only [sIf, Option.bind_eq_some_iff, Prod.exists] at hf
  obtain ⟨b1, ρ1, hf1, hf2⟩ := hf
  refine ⟨B, G, gv, ρ, b1, ρ1, S, hf1, fun G1 H1 S1 x1 => ?_⟩
  cases b1 with
  | true =>
    rw [if_pos rfl] at hf2 ⊢
    exact ⟨B, G1, gv, ρ1, o, ρ', S1, hf2, k.mono x1⟩
  | false =>
    rw [if_neg Bool.false_ne_true] at hf2 ⊢
    exact ⟨B, G1, gv, ρ1, o, ρ', S1, hf2, k.mono x1⟩
def sRet (f : Ev) : Sv := fun ρ => (f ρ).map fun p => (.rt p.1, p.2)
theorem z_ret {f : Ev} (h : PE X e (tE c f)) : PS X (.Return (some e) pos) (tS c (sRet f)) := by
  refine ps_imp (ps_ret h) fun D σ H _ ⟨B, G, gv, ρ, o, ρ', S, hf, k⟩ => ?_
  simp only [sRet, Option.map_eq_some_iff, Prod.exists, Prod.mk.injEq] at hf
  obtain ⟨r1, ρ1, hf1, rfl, rfl⟩ := hf
  exact ⟨B, G, gv, ρ, r1, ρ1, S, hf1, fun v G1 H1 S1 x1 q => k v σ G1 H1 S1 x1 q⟩
def sRetN : Sv := fun ρ => some (.rt (.v .none), ρ)
theorem z_retN : PS X (.Return none pos) (tS c sRetN) := by
  refine ps_imp ps_retN fun D σ H _ ⟨B, G, gv, ρ, o, ρ', S, hf, k⟩ => ?_
  cases hf
  exact k .non σ G H S (Ext.refl _) Rep.non
def sX (f : Ev) : Sv := fun ρ => (f ρ).map fun p => (.nx, p.2)
theorem z_expr {f : Ev} (h : PE X e (tE c f)) (hs : swapsWith e none pos.line X.env = pure false := by rfl) : PS X (.Expr e pos) (tS c (sX f)) := by
  refine ps_imp (ps_expr h hs) fun D σ H _ ⟨B, G, gv, ρ, o, ρ', S, hf, k⟩ => ?_
  simp only [sX, Option.map_eq_some_iff, Prod.exists, Prod.mk.injEq] at hf
  obtain ⟨r1, ρ1, hf1, rfl, rfl⟩ := hf
  exact ⟨B, G, gv, ρ, r1, ρ1, S, hf1, fun v G1 H1 S1 x1 q => k σ G1 H1 S1 x1⟩
theorem z_pass : PS X (.Pass pos) (tS c sNil) := by
  refine ps_imp ps_pass fun D σ H _ ⟨B, G, gv, ρ, o, ρ', S, hf, k⟩ => ?_
  cases hf
  exact k σ G H S (Ext.refl _)
def sBk : Sv := fun ρ => some (.bk, ρ)
def sCt : Sv := fun ρ => some (.ct, ρ)
theorem z_break : PS X (.Break pos) (tS c sBk) := by
  refine ps_imp ps_break fun D σ H _ ⟨B, G, gv, ρ, o, ρ', S, hf, k⟩ => ?_
  cases hf
  exact k σ G H S (Ext.refl _)
theorem z_continue : PS X (.Continue pos) (tS c sCt) := by
  refine ps_imp ps_continue fun D σ H _ ⟨B, G, gv, ρ, o, ρ', S, hf, k⟩ => ?_
  cases hf
  exact k σ G H S (Ext.refl _)
/-- a way that is never gone -/
def sNo : Sv := fun _ => none
theorem z_never : PS X st (tS c sNo) := by
  refine ps_imp ps_never fun D σ H _ ⟨B, G, gv, ρ, o, ρ', S, hf, k⟩ => ?_
  cases hf

/-! ### a name is given a value: shared (sV), its own (sO) -/
def sV (i : Nat) (f : Ev) : Sv := fun ρ => (fz f ρ).bind fun p => match p.1 with
  | .v d => some (.nx, p.2.set i (.v d))
  | _ => none
def sO (i : Nat) (f : Ev) : Sv := fun ρ => (f ρ).bind fun p => match p.1 with
  | .n m => some (.nx, p.2.set i (.own m))
  | _ => none
section
variable {i : Nat} {x : Str} {pos' : Pos}
theorem t_sV {f : Ev} (hi : i < X.N.length) : ∀ D σ H, σ.length = X.N.length → tS c (sV i f) D σ H → tAsg (tE c (fz f)) (gName i) D σ H := by
  rintro D σ H hl ⟨B, G, gv, ρ, o, ρ', S, hf, k⟩
  simp only [sV, Option.bind_eq_some_iff, Prod.exists] at hf
  obtain ⟨r1, ρ1, hf1, hf2⟩ := hf
  split at hf2
  · rename_i d _
    cases hf2
    exact ⟨B, G, gv, ρ, _, _, S, hf1, fun v G1 H1 S1 x1 q => k _ G1 H1 (S1.setV (by rw [show (σ, gv).1.length = X.N.length from hl]; exact hi) q) x1⟩
  · cases hf2
theorem t_sO {f : Ev} (hi : i < X.N.length) : ∀ D σ H, σ.length = X.N.length → tS c (sO i f) D σ H → tAsg (tE c f) (gName i) D σ H := by
  rintro D σ H hl ⟨B, G, gv, ρ, o, ρ', S, hf, k⟩
  simp only [sO, Option.bind_eq_some_iff, Prod.exists] at hf
  obtain ⟨r1, ρ1, hf1, hf2⟩ := hf
  split at hf2
  · rename_i m _
    cases hf2
    exact ⟨B, G, gv, ρ, _, _, S, hf1, fun v G1 H1 S1 x1 q => k _ G1 H1 (S1.setO (by rw [show (σ, gv).1.length = X.N.length from hl]; exact hi) q) x1⟩
  · cases hf2
theorem z_set {f : Ev} (i : Nat) (hN : X.N.Nodup) (hi : X.N[i]? = some x) (hx : Loc X.env.scope x) (he : PE X e (tE c f)) (hs : swapsWith e (some (.Name x pos')) pos.line X.env = pure false := by rfl)
    (hf : X.fn x = true ∨ X.env.scope.names.lookup x = some .local := by first | exact .inl rfl | exact .inr rfl | assumption) : PS X (.Assign [.Name x pos'] e pos) (tS c (sV i f)) :=
  ps_imp (ps_set hN hi hx (z_fz he) hs hf) (t_sV (List.getElem?_eq_some_iff.mp hi).1)
theorem z_setO {f : Ev} (i : Nat) (hN : X.N.Nodup) (hi : X.N[i]? = some x) (hx : Loc X.env.scope x) (he : PE X e (tE c f)) (hs : swapsWith e (some (.Name x pos')) pos.line X.env = pure false := by rfl)
    (hf : X.fn x = true ∨ X.env.scope.names.lookup x = some .local := by first | exact .inl rfl | exact .inr rfl | assumption) : PS X (.Assign [.Name x pos'] e pos) (tS c (sO i f)) :=
  ps_imp (ps_set hN hi hx he hs hf) (t_sO (List.getElem?_eq_some_iff.mp hi).1)
end

/-! ### targets -/
inductive Tg where
  | n (i : Nat)
  | t (is : List Nat)
def Tg.slots : Tg → List Nat
  | .n i => [i]
  | .t is => is
def setAll : List Nat → List V → L2.St → L2.St
  | i :: is, v :: vs, σ => setAll is vs (σ.set i (some v))
  | _, _, σ => σ
def setAllE : List Nat → List D → En → En
  | i :: is, d :: ds, ρ => setAllE is ds (ρ.set i (.v d))
  | _, _, ρ => ρ
def tgD : Tg → Bool → D → En → Option En
  | .n i, false, d, ρ => some (ρ.set i (.v d))
  | .t is, _, .tuple ds, ρ => if ds.length = is.length then some (setAllE is ds ρ) else none
  | _, _, _, _ => none
def tG (K : PySem.W.Frag) : Tg → TG
  | .n i => gName i
  | .t is => fun v σ H Q => ∃ a xs, v = .ref a ∧ SqT K H a xs ∧ xs.length = is.length ∧ Q (setAll is xs σ) H
def gAll (is : List Nat) : TGs := fun vs σ H Q => vs.length = is.length ∧ Q (setAll is vs σ) H
theorem pgs_imp {t t' : TGs} (h : PGs X es t) (k : ∀ vs σ H Q, t' vs σ H Q → t vs σ H Q) : PGs X es t' := ⟨fun pins s σ H vs us Q I r w => h.run pins s σ H vs us Q I r (k _ _ _ _ w)⟩
theorem pg_imp {t t' : TG} (h : PG X e t) (k : ∀ v σ H Q, t' v σ H Q → t v σ H Q) : PG X e t' := ⟨fun pins s σ H v u Q I r w => h.run pins s σ H v u Q I r (k _ _ _ _ w)⟩
theorem zgs_nil : PGs X [] (gAll []) := pgs_imp pgs_nil fun vs σ H Q ⟨h1, h2⟩ => by
  have e : vs = [] := List.eq_nil_of_length_eq_zero h1
  subst e
  exact ⟨rfl, h2⟩
theorem zgs_cons {i : Nat} {is : List Nat} (h1 : PG X e (gName i)) (h2 : PGs X es (gAll is)) (hs : (assignEach (e :: es) X.env).map (·.2) = assign e X.env :: (assignEach es X.env).map (·.2) := by rfl) : PGs X (e :: es) (gAll (i :: is)) :=
  pgs_imp (pgs_cons h1 h2 hs) fun vs σ H Q ⟨k1, k2⟩ => by
    cases vs with
    | nil => cases k1
    | cons v vs => exact ⟨v, vs, rfl, by simpa using k1, k2⟩
theorem zg_name {x : Str} (i' : Nat) (hN : X.N.Nodup) (hi : X.N[i']? = some x) (hx : Loc X.env.scope x) (hf : X.fn x = true ∨ X.env.scope.names.lookup x = some .local := by first | exact .inl rfl | exact .inr rfl | assumption) : PG X (.Name x pos) (tG X.K (.n i')) := pg_name hN hi hx hf
theorem zg_tup {is : List Nat} {k : Nat} (hc : X.calm = true) (h : PGs X es (gAll is)) (hn : (assignEach es X.env).length = is.length := by rfl) (hst : (assignEach es X.env).findIdx? (·.1) = none := by rfl) : PG X (.Tuple es k pos) (tG X.K (.t is)) :=
  pg_imp (pg_tup hc h hn hst) fun v σ H Q ⟨a, xs, h1, h2, h3, h4⟩ => ⟨a, xs, h1, h2, h3, h3, h4⟩

theorem setAll_length : ∀ (is : List Nat) (vs : List V) (σ : L2.St), (setAll is vs σ).length = σ.length
  | i :: is, v :: vs, σ => by rw [setAll, setAll_length is vs, List.length_set]
  | [], _, σ => rfl
  | _ :: _, [], σ => rfl
theorem wipe_set {w : List Nat} {i : Nat} (hi : i ∈ w) : ∀ (σ : L2.St) (x : Option V), wipe (σ.set i x) w = wipe σ w := by
  intro σ x
  apply List.ext_getElem?
  intro j
  have wm : ∀ (s : L2.St), j ∈ w → (wipe s w)[j]? = if j < s.length then some none else none := by
    intro s hj
    induction w with
    | nil => cases hj
    | cons k ks ih =>
      rw [wipe]
      by_cases q : k = j
      · subst q
        rw [List.getElem?_set_self']
        have hl := wipe_length s ks
        by_cases hk : k < s.length
        · rw [if_pos hk, List.getElem?_eq_getElem (by omega)]; rfl
        · rw [if_neg hk, List.getElem?_eq_none (by omega)]; rfl
      · rw [List.getElem?_set_ne q]
        have hj' : j ∈ ks := by
          rcases List.mem_cons.mp hj with z | z
          · exact absurd z.symm q
          · exact z
        by_cases hik : i ∈ ks
        · exact ih hik hj'
        · clear ih
          have gen : ∀ (l : List Nat), j ∈ l → (wipe s l)[j]? = if j < s.length then some none else none := by
            intro l
            induction l with
            | nil => intro z; cases z
            | cons k l ih =>
              intro hj
              rw [wipe]
              by_cases q : k = j
              · subst q
                rw [List.getElem?_set_self']
                have hl := wipe_length s l
                by_cases hk : k < s.length
                · rw [if_pos hk, List.getElem?_eq_getElem (by omega)]; rfl
                · rw [if_neg hk, List.getElem?_eq_none (by omega)]; rfl
              · rw [List.getElem?_set_ne q]
                rcases List.mem_cons.mp hj with z | z
                · exact absurd z.symm q
                · exact ih z
          exact gen ks hj'
  by_cases hj : j ∈ w
  · rw [wm _ hj, wm _ hj, List.length_set]
  · rw [wipe_get hj, wipe_get hj, List.getElem?_set_ne (fun z => hj (by rw [← z]; exact hi))]
theorem wipe_setAll {w : List Nat} : ∀ (is : List Nat) (vs : List V) (σ : L2.St), (∀ i ∈ is, i ∈ w) → wipe (setAll is vs σ) w = wipe σ w
  | i :: is, v :: vs, σ, h => by rw [setAll, wipe_setAll is vs _ fun j hj => h j (List.mem_cons_of_mem _ hj), wipe_set (h i List.mem_cons_self)]
  | [], _, σ, _ => rfl
  | _ :: _, [], σ, _ => rfl
theorem RS.setAll {B : Bs} {G H : Hp} {gv : List V} : ∀ {is : List Nat} {vs : List V} {ds : List D} {σ : L2.St} {ρ : En}, RS c B G H (σ, gv) ρ → (∀ i ∈ is, i < σ.length) → RepA c G vs ds → RS c B G H (Z.setAll is vs σ, gv) (setAllE is ds ρ)
  | i :: is, v :: vs, d :: ds, σ, ρ, S, h, .cons q r => by
    have S1 := S.setV (i := i) (h i List.mem_cons_self) q
    exact RS.setAll (σ := σ.set i (some v)) S1 (fun j hj => by rw [List.length_set]; exact h j (List.mem_cons_of_mem _ hj)) r
  | [], _, _, _, _, S, _, .nil => by simpa [Z.setAll, setAllE] using S
  | [], _, _, _, _, S, _, .cons _ _ => by simpa [Z.setAll, setAllE] using S
  | _ :: _, [], [], _, _, S, _, .nil => by simpa [Z.setAll, setAllE] using S
/-- what a walked thing yields: a shared thing; raw: a new tuple that is only taken apart -/
def Yl (c : Ct) (G : Hp) (H : Hp) (d : D) (x : V) (H' : Hp) : Bool → Prop
  | false => H' = H ∧ Rep c G x d
  | true => ∃ T xs es, d = .tuple es ∧ H T = none ∧ H' = upd H T (.tup xs) ∧ x = .ref T ∧ RepA c G xs es
theorem t_tg {B : Bs} {G H H' : Hp} {gv : List V} {σ : L2.St} {ρ ρ' : En} {tg : Tg} {raw : Bool} {d : D} {x : V} {Q : L2.St → Hp → Prop} (S : RS c B G H (σ, gv) ρ) (hl : ∀ i ∈ tg.slots, i < σ.length) (y : Yl c G H d x H' raw) (e : tgD tg raw d ρ = some ρ')
    (k : ∀ σ', RS c B G H' (σ', gv) ρ' → (∀ w : List Nat, (∀ i ∈ tg.slots, i ∈ w) → wipe σ' w = wipe σ w) → Q σ' H') : tG c.K tg x σ H' Q := by
  cases tg with
  | n i =>
    cases raw with
    | true => cases e
    | false =>
      cases e
      obtain ⟨rfl, q⟩ := y
      exact k _ (S.setV (hl i List.mem_cons_self) q) fun w hw => wipe_set (hw i List.mem_cons_self) _ _
  | t is =>
    cases d with
    | tuple ds =>
      have e' : (if ds.length = is.length then some (setAllE is ds ρ) else none) = some ρ' := by cases raw <;> exact e
      split at e'
      · rename_i hlen
        cases e'
        cases raw with
        | false =>
          obtain ⟨rfl, q⟩ := y
          cases q with
          | tup h r => exact ⟨_, _, rfl, S.sub.sqT h.sqT, by rw [r.length]; exact hlen, k _ (S.setAll hl r) fun w hw => wipe_setAll _ _ _ hw⟩
        | true =>
          obtain ⟨T, xs, es, e1, hT, rfl, rfl, r⟩ := y
          cases e1
          exact ⟨_, _, rfl, SqT.of upd_same, by rw [r.length]; exact hlen, k _ ((S.laid hT).setAll hl r) fun w hw => wipe_setAll _ _ _ hw⟩
      · cases e'
    | _ => cases raw <;> cases e
/-- a, b = e -/
def sU (is : List Nat) (f : Ev) : Sv := fun ρ => (fz f ρ).bind fun p => match p.1 with
  | .v d => (tgD (.t is) false d p.2).map fun ρ' => (.nx, ρ')
  | _ => none
theorem z_unp {f : Ev} {is : List Nat} {tg : Expr} (hg : PG X tg (tG X.K (.t is))) (he : PE X e (tE (cx X) f)) (hl0 : (is.all fun i => decide (i < X.N.length)) = true := by rfl) (hs : swapsWithSole [tg] e pos.line X.env = pure false := by rfl) (hw : swappedStores [tg] e X.env = pure none := by rfl)
    (h1 : (assignEach [tg] X.env).map (·.2) = [assign tg X.env] := by rfl) : PS X (.Assign [tg] e pos) (tS (cx X) (sU is f)) := by
  have hl : ∀ i ∈ is, i < X.N.length := fun i hi => of_decide_eq_true (List.all_eq_true.mp hl0 i hi)
  refine ps_imp (ps_asg (z_fz he) hg hs hw h1) fun D σ H hlen ⟨B, G, gv, ρ, o, ρ', S, hf, k⟩ => ?_
  simp only [sU, Option.bind_eq_some_iff, Prod.exists] at hf
  obtain ⟨r1, ρ1, hf1, hf2⟩ := hf
  split at hf2
  · rename_i d _
    simp only [Option.map_eq_some_iff, Prod.mk.injEq] at hf2
    obtain ⟨ρ2, hf3, rfl, rfl⟩ := hf2
    exact ⟨B, G, gv, ρ, _, _, S, hf1, fun v G1 H1 S1 x1 q => t_tg (c := cx X) (raw := false) (tg := .t is) S1 (fun i hi => by rw [hlen]; exact hl i hi) ⟨rfl, q⟩ hf3 fun σ' S' _ => k σ' G1 H1 S' x1⟩
  · cases hf2
/-- a, b = x, y, both plain names -/
def sP (i j : Nat) (f : Av) : Sv := fun ρ => (f ρ).bind fun p => (vals p.1).bind fun ds => match ds with
  | [d, d'] => some (.nx, (p.2.set i (.v d)).set j (.v d'))
  | _ => none
theorem z_par {i j : Nat} {x y : Str} {f : Av} {px py pt : Pos} {kt k2 pt2} (hc : X.calm = true) (hN : X.N.Nodup) (hi : X.N[i]? = some x) (hj : X.N[j]? = some y) (hij : i ≠ j)
    (hx : X.env.scope.names.lookup x = some .local) (hy : X.env.scope.names.lookup y = some .local) (ha : PA X [a, b] (tA c f))
    (hw : swappedStores [.Tuple [.Name x px, .Name y py] kt pt] (.Tuple [a, b] k2 pt2) X.env = pure (some [x, y]))
    (hs : swapsWithSole [.Tuple [.Name x px, .Name y py] kt pt] (.Tuple [a, b] k2 pt2) pos.line X.env = pure false := by rfl) :
    PS X (.Assign [.Tuple [.Name x px, .Name y py] kt pt] (.Tuple [a, b] k2 pt2) pos) (tS c (sP i j f)) := by
  refine ps_imp (ps_par hc hN hi hj hij hx hy ha hw hs) fun D σ H hlen ⟨B, G, gv, ρ, o, ρ', S, hf, k⟩ => ?_
  simp only [sP, Option.bind_eq_some_iff, Prod.exists] at hf
  obtain ⟨rs, ρ1, hf1, ds, hv, hf2⟩ := hf
  split at hf2
  · rename_i d d'
    cases hf2
    refine ⟨B, G, gv, ρ, rs, ρ1, S, hf1, fun vs G1 H1 S1 x1 q => ?_⟩
    have r := vals_rep q hv
    cases r with
    | cons r1 r =>
      cases r with
      | cons r2 r =>
        cases r
        have l1 : i < σ.length := by rw [hlen]; exact (List.getElem?_eq_some_iff.mp hi).1
        have l2 : j < σ.length := by rw [hlen]; exact (List.getElem?_eq_some_iff.mp hj).1
        exact ⟨_, _, rfl, k _ G1 H1 ((S1.setV (i := i) l1 r1).setV (i := j) (by simpa using l2) r2) x1⟩
  · cases hf2

/-! ### what is walked -/
structure IterOk (c : Ct) (G : Hp) (J : It) (raw : Bool) (ds : List D) : Prop where
  go : ∀ H i d, Ext G H → ds[i]? = some d → J.go i H ∧ ∀ x H', J.yld i H x H' → Yl c G H d x H' raw
  stop : ∀ H i, Ext G H → ds[i]? = none → J.stop i H
abbrev Iv := En → Option ((Bool × List D) × En)
def tI (c : Ct) (g : Iv) : TI := fun σ H R => ∃ B G gv ρ q ρ', RS c B G H (σ, gv) ρ ∧ g ρ = some (q, ρ') ∧ ∀ J G' H', RS c B G' H' (σ, gv) ρ' → Ext G G' → IterOk c G' J q.1 q.2 → R J H'
theorem pi_imp {tg it : Expr} {t t' : TI} (h : PI X tg it t) (k : ∀ σ H R, t' σ H R → t σ H R) : PI X tg it t' := ⟨fun pins s σ H R I w => h.run pins s σ H R I (k _ _ _ w)⟩
/-- the items of a list, of a tuple -/
def iL (f : Ev) : Iv := fun ρ => (fz f ρ).bind fun p => match p.1 with
  | .v (.list ds) => some ((false, ds), p.2)
  | _ => none
def iT (f : Ev) : Iv := fun ρ => (fz f ρ).bind fun p => match p.1 with
  | .v (.tuple ds) => some ((false, ds), p.2)
  | _ => none
theorem z_il {tg it : Expr} {f : Ev} (h : PE X it (tE (cx X) f)) : PI X tg it (tI (cx X) (iL f)) := by
  refine pi_imp (pi_list (z_fz h)) fun σ H R ⟨B, G, gv, ρ, q, ρ', S, hf, k⟩ => ?_
  simp only [iL, Option.bind_eq_some_iff, Prod.exists] at hf
  obtain ⟨r1, ρ1, hf1, hf2⟩ := hf
  split at hf2
  · rename_i ds _
    cases hf2
    refine ⟨B, G, gv, ρ, _, _, S, hf1, fun v G1 H1 S1 x1 q => ?_⟩
    cases q with
    | @lst a xs _ hs0 r =>
      have hs : SqL X.K G1 a xs := SqL.of hs0
      refine ⟨a, rfl, ⟨xs, S1.sub.sqL hs⟩, k _ G1 H1 S1 x1 ⟨fun H' i d x2 hd => ?_, fun H' i x2 hd => ?_⟩⟩
      · obtain ⟨v, h1, h2⟩ := r.get hd
        exact ⟨⟨xs, v, x2.sqL hs, h1⟩, fun x H2 y => ⟨y.1, by have := y.2 xs (x2.sqL hs); rw [h1] at this; cases this; exact h2⟩⟩
      · exact ⟨xs, x2.sqL hs, by rw [r.length]; exact List.getElem?_eq_none_iff.mp hd⟩
  · cases hf2
theorem z_it {tg it : Expr} {f : Ev} (h : PE X it (tE (cx X) f)) : PI X tg it (tI (cx X) (iT f)) := by
  refine pi_imp (pi_tup (z_fz h)) fun σ H R ⟨B, G, gv, ρ, q, ρ', S, hf, k⟩ => ?_
  simp only [iT, Option.bind_eq_some_iff, Prod.exists] at hf
  obtain ⟨r1, ρ1, hf1, hf2⟩ := hf
  split at hf2
  · rename_i ds _
    cases hf2
    refine ⟨B, G, gv, ρ, _, _, S, hf1, fun v G1 H1 S1 x1 q => ?_⟩
    cases q with
    | @tup a xs _ hs r =>
      have hs' := hs.sqT
      refine ⟨a, rfl, ⟨xs, S1.sub.sqT hs'⟩, k _ G1 H1 S1 x1 ⟨fun H' i d x2 hd => ?_, fun H' i x2 hd => ?_⟩⟩
      · obtain ⟨v, h1, h2⟩ := r.get hd
        exact ⟨⟨xs, v, x2.sqT hs', h1⟩, fun x H2 y => ⟨y.1, by have := y.2 xs (x2.sqT hs'); rw [h1] at this; cases this; exact h2⟩⟩
      · exact ⟨xs, x2.sqT hs', by rw [r.length]; exact List.getElem?_eq_none_iff.mp hd⟩
  · cases hf2
def rangeD (lo hi : Int) : List D := (List.range (hi - lo).toNat).map fun k => .int (lo + (k : Nat))
def iR1 (f : Av) : Iv := fun ρ => (f ρ).bind fun p => (drs p.2 p.1).bind fun ds => match ds with
  | [.int j] => if -(2 ^ 62) ≤ j ∧ j < 2 ^ 62 then some ((false, rangeD 0 j), p.2) else none
  | _ => none
def iR2 (f : Av) : Iv := fun ρ => (f ρ).bind fun p => (drs p.2 p.1).bind fun ds => match ds with
  | [.int i, .int j] => if -(2 ^ 62) ≤ i ∧ i < 2 ^ 62 ∧ -(2 ^ 62) ≤ j ∧ j < 2 ^ 62 then some ((false, rangeD i j), p.2) else none
  | _ => none
theorem range_iter {G : Hp} {lo hi : Int} : IterOk c G (Itr lo (hi - lo).toNat) false (rangeD lo hi) := by
  have hl : (rangeD lo hi).length = (hi - lo).toNat := by simp [rangeD]
  refine ⟨fun H i d _ hd => ?_, fun H i _ hd => ?_⟩
  · obtain ⟨h1, h2⟩ := List.getElem?_eq_some_iff.mp hd
    rw [hl] at h1
    refine ⟨h1, fun x H' ⟨e1, e2⟩ => ⟨e1, ?_⟩⟩
    subst e2
    have : d = .int (lo + (i : Nat)) := by rw [← h2]; simp [rangeD]
    subst this
    exact .int _
  · have := List.getElem?_eq_none_iff.mp hd
    rw [hl] at this
    exact this
theorem drs1 {ρ : En} {rs : List R} {d : D} (h : drs ρ rs = some [d]) : ∃ r, rs = [r] ∧ dr ρ r = some d := by
  cases rs with
  | nil => cases h
  | cons r rs =>
    simp only [drs, Option.bind_eq_some_iff, Option.map_eq_some_iff] at h
    obtain ⟨d1, h1, ds, h2, e⟩ := h
    cases e
    cases rs with
    | nil => exact ⟨r, rfl, h1⟩
    | cons r2 rs =>
      simp only [drs, Option.bind_eq_some_iff, Option.map_eq_some_iff] at h2
      obtain ⟨d2, _, _, _, e⟩ := h2
      cases e
theorem drs2 {ρ : En} {rs : List R} {d d' : D} (h : drs ρ rs = some [d, d']) : ∃ r r', rs = [r, r'] ∧ dr ρ r = some d ∧ dr ρ r' = some d' := by
  cases rs with
  | nil => cases h
  | cons r rs =>
    simp only [drs, Option.bind_eq_some_iff, Option.map_eq_some_iff] at h
    obtain ⟨d1, h1, ds, h2, e⟩ := h
    cases e
    obtain ⟨r', rfl, h3⟩ := drs1 h2
    exact ⟨r, r', rfl, h1, h3⟩
theorem z_range1 {tg : Expr} {f : Av} {p : Pos} (hg : Gl X "range") (hm : X.mg "range" = none) (ha : PA X [a] (tA (cx X) f)) (hs : starEach [a] X.env = [(false, eval a X.env)] := by rfl) : PI X tg (.Call (.Name "range" p) [a] [] pos) (tI (cx X) (iR1 f)) := by
  refine pi_imp (pi_range1 hg hm ha hs) fun σ H R ⟨B, G, gv, ρ, q, ρ', S, hf, k⟩ => ?_
  simp only [iR1, Option.bind_eq_some_iff, Prod.exists] at hf
  obtain ⟨rs, ρ1, hf1, ds, hd, hf2⟩ := hf
  split at hf2
  · split at hf2
    · rename_i j hj
      cases hf2
      refine ⟨B, G, gv, ρ, _, _, S, hf1, fun vs G1 H1 S1 x1 q => ?_⟩
      obtain ⟨r, rfl, hr⟩ := drs1 hd
      cases q with
      | cons q1 q2 =>
        cases q2
        have e := q1.1.int S1 hr
        subst e
        have h0 : (Itr 0 j.toNat) = Itr 0 (j - 0).toNat := by rw [Int.sub_zero]
        exact ⟨j, rfl, hj.1, hj.2, by rw [h0]; exact k _ G1 H1 S1 x1 range_iter⟩
    · cases hf2
  · cases hf2
theorem z_range2 {tg : Expr} {f : Av} {p : Pos} (hg : Gl X "range") (hm : X.mg "range" = none) (ha : PA X [a, b] (tA (cx X) f)) (hs : starEach [a, b] X.env = [(false, eval a X.env), (false, eval b X.env)] := by rfl) (hs2 : starEach [b] X.env = [(false, eval b X.env)] := by rfl) : PI X tg (.Call (.Name "range" p) [a, b] [] pos) (tI (cx X) (iR2 f)) := by
  refine pi_imp (pi_range2 hg hm ha hs hs2) fun σ H R ⟨B, G, gv, ρ, q, ρ', S, hf, k⟩ => ?_
  simp only [iR2, Option.bind_eq_some_iff, Prod.exists] at hf
  obtain ⟨rs, ρ1, hf1, ds, hd, hf2⟩ := hf
  split at hf2
  · split at hf2
    · rename_i i j hj
      cases hf2
      refine ⟨B, G, gv, ρ, _, _, S, hf1, fun vs G1 H1 S1 x1 q => ?_⟩
      obtain ⟨r, r', rfl, hr, hr'⟩ := drs2 hd
      cases q with
      | cons q1 q2 =>
        cases q2 with
        | cons q2 q3 =>
          cases q3
          have e := q1.1.int S1 hr
          have e' := q2.1.int S1 hr'
          subst e e'
          exact ⟨i, j, rfl, hj, k _ G1 H1 S1 x1 range_iter⟩
    · cases hf2
  · cases hf2

/-! ### for -/
def forL (tg : Tg) (raw : Bool) (b : Sv) : List D → Sv
  | [], ρ => some (.nx, ρ)
  | d :: ds, ρ => (tgD tg raw d ρ).bind fun ρ1 => (b ρ1).bind fun p => match p.1 with
    | .nx => forL tg raw b ds p.2
    | .ct => forL tg raw b ds p.2
    | .bk => some (.nx, p.2)
    | .rt r => some (.rt r, p.2)
def sFor (g : Iv) (tg : Tg) (b : Sv) : Sv := fun ρ => (g ρ).bind fun p => forL tg p.1.1 b p.1.2 p.2
theorem forL_out {tg : Tg} {raw : Bool} {b : Sv} : ∀ {ds : List D} {ρ ρ' : En} {o : Fl}, forL tg raw b ds ρ = some (o, ρ') → o = .nx ∨ ∃ r, o = .rt r
  | [], ρ, ρ', o, h => by cases h; exact .inl rfl
  | d :: ds, ρ, ρ', o, h => by
    simp only [forL, Option.bind_eq_some_iff, Prod.exists] at h
    obtain ⟨ρ1, h1, o2, ρ2, h2, h3⟩ := h
    cases o2 with
    | nx => exact forL_out h3
    | ct => exact forL_out h3
    | bk => cases h3; exact .inl rfl
    | rt r => cases h3; exact .inr ⟨r, rfl⟩
theorem z_for {it tg : Expr} {g : Iv} {t : Tg} {f : Sv} {body : List Stmt} (hp : PassesOwn (model X.prog X.w) X.A X.env X.xe) (hc : X.calm = true) (hi : PI X tg it (tI (cx X) g)) (hg : PG X tg (tG X.K t)) (hb : PSs X body (tS (cx X) f)) (hl0 : (t.slots.all fun i => decide (i < X.N.length)) = true := by rfl)
    (hs : ∀ x, foldedSetIterable it X.env x = pure x := by intro _; rfl) : PS X (.For tg it body [] pos) (tS (cx X) (sFor g t f)) := by
  have hl : ∀ i ∈ t.slots, i < X.N.length := fun i hi => of_decide_eq_true (List.all_eq_true.mp hl0 i hi)
  refine ps_imp (ps_for hp hc hi hg hb hs) fun D σ H hlen ⟨B, G, gv, ρ, o, ρ', S, hf, k⟩ => ?_
  simp only [sFor, Option.bind_eq_some_iff, Prod.exists] at hf
  obtain ⟨raw, ds, ρ1, hf1, hf2⟩ := hf
  refine ⟨B, G, gv, ρ, (raw, ds), ρ1, S, hf1, fun J G1 H1 S1 x1 iok => ?_⟩
  refine ⟨fun i m σ' H' => ∃ G' ρ2, RS (cx X) B G' H' (σ', gv) ρ2 ∧ Ext G1 G' ∧ m = ds.length - i ∧ i ≤ ds.length ∧ forL t raw f (ds.drop i) ρ2 = some (o, ρ'), ⟨ds.length, G1, ρ1, S1, Ext.refl _, rfl, Nat.zero_le _, by simpa using hf2⟩, ?_⟩
  rintro i m σ' H' ⟨G', ρ2, S2, x2, rfl, hil, hfor⟩
  have nl2 : σ'.length = X.N.length := by
    have n1 : σ.length = B.nl := S.nl
    have n2 : σ'.length = B.nl := S2.nl
    omega
  cases hd : ds[i]? with
  | none =>
    have hi2 : ds.length ≤ i := List.getElem?_eq_none_iff.mp hd
    rw [List.drop_eq_nil_of_le hi2] at hfor
    cases hfor
    exact .inl ⟨iok.stop H' i (x2.trans S2.sub) hd, k σ' G' H' S2 (x1.trans x2)⟩
  | some d =>
    obtain ⟨hlt, hde⟩ := List.getElem?_eq_some_iff.mp hd
    rw [List.drop_eq_getElem_cons hlt, hde] at hfor
    simp only [forL, Option.bind_eq_some_iff, Prod.exists] at hfor
    obtain ⟨ρ3, ht, o4, ρ4, hb4, hrest⟩ := hfor
    obtain ⟨hgo, hy⟩ := iok.go H' i d (x2.trans S2.sub) hd
    refine .inr ⟨hgo, fun σ5 H5 => ∃ G5 ρ5, RS (cx X) B G5 H5 (σ5, gv) ρ5 ∧ Ext G1 G5 ∧ forL t raw f (ds.drop (i + 1)) ρ5 = some (o, ρ'), fun σ5 H5 ⟨G5, ρ5, S5, x5, h5⟩ => ⟨ds.length - (i + 1), by omega, G5, ρ5, S5, x5, rfl, hlt, h5⟩, fun x H3 y => ?_⟩
    have y' : Yl (cx X) G' H' d x H3 raw := by
      have y0 := hy x H3 y
      cases raw with
      | false => exact ⟨y0.1, y0.2.ext x2⟩
      | true => obtain ⟨T, xs, es, z1, z2, z3, z4, z5⟩ := y0; exact ⟨T, xs, es, z1, z2, z3, z4, z5.ext x2⟩
    refine t_tg (c := cx X) S2 (fun j hj => by rw [nl2]; exact hl j hj) y' ht fun σ6 S6 _ => ?_
    refine ⟨B, G', gv, ρ3, o4, ρ4, S6, hb4, ?_⟩
    cases o4 with
    | nx => exact fun σ7 G7 H7 S7 x7 => ⟨G7, ρ4, S7, x2.trans x7, hrest⟩
    | ct => exact fun σ7 G7 H7 S7 x7 => ⟨G7, ρ4, S7, x2.trans x7, hrest⟩
    | bk =>
      cases hrest
      exact fun σ7 G7 H7 S7 x7 => k σ7 G7 H7 S7 ((x1.trans x2).trans x7)
    | rt r =>
      cases hrest
      exact fun v σ7 G7 H7 S7 x7 q => k v σ7 G7 H7 S7 ((x1.trans x2).trans x7) q

/-! ### while: by at most so many turns -/
def whL (t : Tv) (b : Sv) : Nat → Sv
  | 0, _ => none
  | n + 1, ρ => (t ρ).bind fun p => if p.1 = true then (b p.2).bind fun q => match q.1 with
      | .nx => whL t b n q.2
      | .ct => whL t b n q.2
      | .bk => some (.nx, q.2)
      | .rt r => some (.rt r, q.2)
    else some (.nx, p.2)
def sWh (μ : En → Nat) (t : Tv) (b : Sv) : Sv := fun ρ => whL t b (μ ρ) ρ
theorem z_while {ce : Expr} {t : Tv} {f : Sv} {body : List Stmt} (μ : En → Nat) (hp : PassesOwn (model X.prog X.w) X.A X.env X.xe) (hc : PT X ce (tT c t)) (hb : PSs X body (tS c f)) : PS X (.While ce body [] pos) (tS c (sWh μ t f)) := by
  refine ps_imp (ps_while hp hc hb) fun D σ H hlen ⟨B, G, gv, ρ, o, ρ', S, hf, k⟩ => ?_
  refine ⟨fun m σ' H' => ∃ G' ρ2, RS c B G' H' (σ', gv) ρ2 ∧ Ext G G' ∧ whL t f m ρ2 = some (o, ρ'), ⟨μ ρ, G, ρ, S, Ext.refl _, hf⟩, ?_⟩
  rintro m σ' H' ⟨G', ρ2, S2, x2, hw⟩
  cases m with
  | zero => cases hw
  | succ n =>
    simp only [whL, Option.bind_eq_some_iff, Prod.exists] at hw
    obtain ⟨b1, ρ3, ht, hw⟩ := hw
    refine ⟨B, G', gv, ρ2, b1, ρ3, S2, ht, fun G3 H3 S3 x3 => ?_⟩
    cases b1 with
    | false =>
      rw [if_neg Bool.false_ne_true] at hw ⊢
      cases hw
      exact k σ' G3 H3 S3 (x2.trans x3)
    | true =>
      rw [if_pos rfl] at hw ⊢
      simp only [Option.bind_eq_some_iff, Prod.exists] at hw
      obtain ⟨o4, ρ4, hb4, hrest⟩ := hw
      refine ⟨fun σ5 H5 => ∃ G5 ρ5, RS c B G5 H5 (σ5, gv) ρ5 ∧ Ext G G5 ∧ whL t f n ρ5 = some (o, ρ'), fun σ5 H5 h5 => ⟨n, Nat.lt_succ_self n, h5⟩, B, G3, gv, ρ3, o4, ρ4, S3, hb4, ?_⟩
      cases o4 with
      | nx => exact fun σ7 G7 H7 S7 x7 => ⟨G7, ρ4, S7, (x2.trans x3).trans x7, hrest⟩
      | ct => exact fun σ7 G7 H7 S7 x7 => ⟨G7, ρ4, S7, (x2.trans x3).trans x7, hrest⟩
      | bk =>
        cases hrest
        exact fun σ7 G7 H7 S7 x7 => k σ7 G7 H7 S7 ((x2.trans x3).trans x7)
      | rt r =>
        cases hrest
        exact fun v σ7 G7 H7 S7 x7 q => k v σ7 G7 H7 S7 ((x2.trans x3).trans x7) q

/-! ### a list comprehension -/
def lcL (tg : Tg) (raw : Bool) (t : Tv) (f : Ev) (w : List Nat) : List D → List D → En → Option (List D × En)
  | [], acc, ρ => some (acc, ρ)
  | d :: ds, acc, ρ => (tgD tg raw d ρ).bind fun ρ1 => (t ρ1).bind fun p => if p.1 = true then
      (fz f p.2).bind fun q => match q.1 with
        | .v e => if acc.length < sizeLine then lcL tg raw t f w ds (acc ++ [e]) (wipeE w q.2) else none
        | _ => none
    else lcL tg raw t f w ds acc (wipeE w p.2)
def eLc (g : Iv) (tg : Tg) (t : Tv) (f : Ev) (w : List Nat) : Ev := fun ρ => (g ρ).bind fun p => (lcL tg p.1.1 t f w p.1.2 [] (wipeE w p.2)).map fun q => (.n (.lst q.1), q.2)
theorem wipeE_length : ∀ (l : List Nat) (ρ : En), (wipeE l ρ).length = ρ.length
  | [], ρ => rfl
  | i :: l, ρ => by rw [wipeE, List.length_set, wipeE_length l]
theorem wipeE_out {j : Nat} : ∀ {l : List Nat} {ρ : En}, j ∉ l → (wipeE l ρ)[j]? = ρ[j]?
  | [], ρ, _ => rfl
  | i :: l, ρ, hj => by rw [wipeE, List.getElem?_set_ne (fun z => hj (by rw [z]; exact List.mem_cons_self)), wipeE_out fun z => hj (List.mem_cons_of_mem _ z)]
theorem wipeE_twice {w : List Nat} {ρ : En} : wipeE w (wipeE w ρ) = wipeE w ρ := by
  apply List.ext_getElem?
  intro j
  by_cases hj : j ∈ w
  · cases h1 : (wipeE w (wipeE w ρ))[j]? with
    | none =>
      have := List.getElem?_eq_none_iff.mp h1
      rw [wipeE_length, wipeE_length] at this
      exact (List.getElem?_eq_none (by rw [wipeE_length]; exact this)).symm
    | some s =>
      rw [wipeE_mem hj h1]
      have hlt : j < (wipeE w ρ).length := by
        have := (List.getElem?_eq_some_iff.mp h1).1
        rw [wipeE_length] at this
        exact this
      rw [List.getElem?_eq_getElem hlt, wipeE_mem hj (List.getElem?_eq_getElem hlt)]
  · rw [wipeE_out hj]
theorem wipe_in {j : Nat} {s : L2.St} : ∀ {l : List Nat}, j ∈ l → (wipe s l)[j]? = if j < s.length then some none else none
  | [], h => by cases h
  | k :: l, h => by
    rw [wipe]
    by_cases q : k = j
    · subst q
      rw [List.getElem?_set_self']
      have hl := wipe_length s l
      by_cases hk : k < s.length
      · rw [if_pos hk, List.getElem?_eq_getElem (by omega)]; rfl
      · rw [if_neg hk, List.getElem?_eq_none (by omega)]; rfl
    · rw [List.getElem?_set_ne q]
      rcases List.mem_cons.mp h with z | z
      · exact absurd z.symm q
      · exact wipe_in z
theorem wipe_twice {w : List Nat} {s : L2.St} : wipe (wipe s w) w = wipe s w := by
  apply List.ext_getElem?
  intro j
  by_cases hj : j ∈ w
  · rw [wipe_in hj, wipe_in hj, wipe_length]
  · rw [wipe_get hj]
theorem NotOwn.wipe {w : List Nat} {s : L2.St} {gv : List V} {ρ : En} {a : Addr} (h : NotOwn (s, gv) ρ a) : NotOwn (L2.wipe s w, gv) (wipeE w ρ) a := fun i m e g => by
  by_cases hi : i ∈ w
  · cases wipeE_mem hi e
  · rw [wipeE_out hi] at e
    rw [wipe_get2 hi] at g
    exact h i m e g
theorem NotOwn.unwipe {w : List Nat} {s : L2.St} {gv : List V} {ρ : En} {a : Addr} (h : NotOwn (L2.wipe s w, gv) (wipeE w ρ) a) : NotOwn (s, gv) (wipeE w ρ) a := fun i m e g => by
  by_cases hi : i ∈ w
  · cases wipeE_mem hi e
  · exact h i m e (by rw [wipe_get2 hi]; exact g)
/-- a thing that no slot holds is changed -/
theorem RS.wr {B : Bs} {G H : Hp} {σ : St2} {ρ : En} {a : Addr} {o o' : HO} (S : RS c B G H σ ρ) (hg : G a = none) (hb : B.H a = none) (hn : NotOwn σ ρ a) (h : H a = some o') (hi : ∀ C dx fs, o' ≠ .ins C dx fs) : RS c B G (upd H a o) σ ρ := by
  refine ⟨S.gext, fun b u z => ?_, S.new, fun b u z1 z2 z3 => ?_, fun b z => ?_, S.len, S.nl, fun i s e => ?_, S.inj, fun p hp => ⟨?_, (S.pin p hp).2⟩⟩
  · rw [upd_ne (ne_of_none z hg)]; exact S.sub b u z
  · rw [upd_ne (ne_of_none z1 hb)]; exact S.frm b u z1 z2 z3
  · by_cases q : b = a
    · subst q; rw [upd_same] at z; cases z
    · rw [upd_ne q] at z; exact S.dom b z
  · have q := S.sl i s e
    cases s with
    | no => exact True.intro
    | v d => exact q
    | own m =>
      obtain ⟨b, h1, h2, h3, h4⟩ := q
      have nb : b ≠ a := fun z => hn i m e (by rw [h1, z])
      exact ⟨b, h1, h2, h3, MOk.mono (Ext.refl _) (fun u z => by rw [upd_ne nb]; exact z) h4⟩
    | al j => exact q
    | ob C fl => exact q
  · obtain ⟨z, C, dx, fs, hq⟩ := S.pin p hp
    have nb : p.1 ≠ a := fun w => by rw [w, h] at z; cases z; exact hi C dx fs hq
    rw [upd_ne nb]
    exact z
/-- what nobody holds stands through an evaluation -/
theorem RS.hold {B : Bs} {G H : Hp} {σ : St2} {ρ : En} {a : Addr} {o : HO} (S : RS c B G H σ ρ) (hg : G a = none) (hn : NotOwn σ ρ a) (h : H a = some o) :
    ∃ B1 : Bs, RS c B1 G H σ ρ ∧ ∀ G' H' σ' ρ', RS c B1 G' H' σ' ρ' → RS c B G' H' σ' ρ' ∧ H' a = some o ∧ G' a = none ∧ NotOwn σ' ρ' a := by
  obtain ⟨B1, e1, e2, _, h1, T, back⟩ := S.rebase
  refine ⟨B1, T, fun G' H' σ' ρ' T' => ⟨back _ _ _ _ T', T'.frm a o (by rw [e1]; exact h) (by rw [e2]; exact hg) (h1 a hn), ?_, fun i m e g => ?_⟩⟩
  · cases q : G' a with
    | none => rfl
    | some u =>
      rcases T'.new a u q with z | z
      · rw [e2, hg] at z; cases z
      · rw [e1, h] at z; cases z
  · obtain ⟨b, k1, _, k3, _⟩ := T'.ownSome e
    rw [g] at k1; cases k1
    rcases k3 with k3 | k3
    · rw [e1, h] at k3; cases k3
    · exact h1 a hn k3
theorem setAllE_get {j : Nat} {s : Sl} : ∀ {is : List Nat} {ds : List D} {ρ : En}, (setAllE is ds ρ)[j]? = some s → (j ∈ is ∧ ∃ d, s = .v d) ∨ ρ[j]? = some s
  | i :: is, d :: ds, ρ, h => by
    rw [setAllE] at h
    rcases setAllE_get h with ⟨a, b⟩ | q
    · exact .inl ⟨List.mem_cons_of_mem _ a, b⟩
    · by_cases hj : i = j
      · subst hj; exact .inl ⟨List.mem_cons_self, d, en_set_self q⟩
      · rw [List.getElem?_set_ne hj] at q; exact .inr q
  | [], _, ρ, h => .inr (by simpa [setAllE] using h)
  | _ :: _, [], ρ, h => .inr (by simpa [setAllE] using h)
theorem tg_get {tg : Tg} {raw : Bool} {d : D} {ρ ρ' : En} {j : Nat} {s : Sl} (h : tgD tg raw d ρ = some ρ') (e : ρ'[j]? = some s) : (j ∈ tg.slots ∧ ∃ d, s = .v d) ∨ ρ[j]? = some s := by
  cases tg with
  | n i =>
    cases raw with
    | true => cases h
    | false =>
      cases h
      by_cases hj : i = j
      · subst hj; exact .inl ⟨List.mem_cons_self, d, en_set_self e⟩
      · rw [List.getElem?_set_ne hj] at e; exact .inr e
  | t is =>
    cases d with
    | tuple ds =>
      have h' : (if ds.length = is.length then some (setAllE is ds ρ) else none) = some ρ' := by cases raw <;> exact h
      split at h'
      · cases h'; exact setAllE_get e
      · cases h'
    | _ => cases raw <;> cases h
theorem t_lc {g : Iv} {t : Tg} {k : Tv} {f : Ev} {w : List Nat} {σ : L2.St} {H : Hp} {Q : VK} (hw : ∀ i ∈ w, i < σ.length) (ht : ∀ i ∈ t.slots, i ∈ w) (h : tE c (eLc g t k f w) σ H Q) : tLc (tI c g) (tG c.K t) (tT c k) (tE c (fz f)) w σ H Q := by
  obtain ⟨B, G, gv, ρ, r, ρ', S, hf, kk⟩ := h
  simp only [eLc, Option.bind_eq_some_iff, Option.map_eq_some_iff, Prod.exists, Prod.mk.injEq] at hf
  obtain ⟨raw, ds, ρ1, hf1, es, ρ2, hf2, rfl, rfl⟩ := hf
  refine ⟨B, G, gv, ρ, (raw, ds), ρ1, S, hf1, fun J G1 H1 S1 x1 iok Dd hD => ?_⟩
  have S1w := (S1.wipe (w := w)).laid (o := .lst []) hD
  refine ⟨fun i m H' => ∃ G' ρ3 acc xs, RS c B G' H' (wipe σ w, gv) ρ3 ∧ wipeE w ρ3 = ρ3 ∧ Ext G1 G' ∧ m = ds.length - i ∧ i ≤ ds.length ∧ lcL t raw k f w (ds.drop i) acc ρ3 = some (es, ρ2) ∧ H' Dd = some (.lst xs) ∧ RepA c G' xs acc ∧ G' Dd = none ∧ NotOwn (wipe σ w, gv) ρ3 Dd,
    ⟨ds.length, G1, wipeE w ρ1, [], [], S1w, wipeE_twice, Ext.refl _, rfl, Nat.zero_le _, by simpa using hf2, upd_same, .nil, (S1.fresh hD).1, NotOwn.wipe (S1.notOwn_none hD)⟩, ?_⟩
  rintro i m H' ⟨G', ρ3, acc, xs, S3, hρ, x3, rfl, hil, hlc, hDd, hrep, hgD, hnD⟩
  have hbD : B.H Dd = none := S1.dom Dd hD
  cases hd : ds[i]? with
  | none =>
    have hi2 : ds.length ≤ i := List.getElem?_eq_none_iff.mp hd
    rw [List.drop_eq_nil_of_le hi2] at hlc
    cases hlc
    refine .inl ⟨iok.stop H' i (x3.trans S3.sub) hd, kk _ G' H' ?_ (x1.trans x3) ⟨Dd, rfl, hgD, hbD, ?_, xs, hDd, hrep⟩⟩
    · rw [← hρ] at S3 ⊢; exact S3.unwipe hw
    · rw [← hρ] at hnD ⊢; exact hnD.unwipe
  | some d =>
    obtain ⟨hlt, hde⟩ := List.getElem?_eq_some_iff.mp hd
    rw [List.drop_eq_getElem_cons hlt, hde] at hlc
    simp only [lcL, Option.bind_eq_some_iff, Prod.exists] at hlc
    obtain ⟨ρ4, htg, b5, ρ5, hk5, hlc⟩ := hlc
    obtain ⟨hgo, hy⟩ := iok.go H' i d (x3.trans S3.sub) hd
    refine .inr ⟨hgo, fun H8 => ∃ G8 ρ8 acc8 xs8, RS c B G8 H8 (wipe σ w, gv) ρ8 ∧ wipeE w ρ8 = ρ8 ∧ Ext G1 G8 ∧ lcL t raw k f w (ds.drop (i + 1)) acc8 ρ8 = some (es, ρ2) ∧ H8 Dd = some (.lst xs8) ∧ RepA c G8 xs8 acc8 ∧ G8 Dd = none ∧ NotOwn (wipe σ w, gv) ρ8 Dd,
      fun H8 ⟨G8, ρ8, acc8, xs8, S8, z1, z2, z3, z4, z5, z6, z7⟩ => ⟨ds.length - (i + 1), by omega, G8, ρ8, acc8, xs8, S8, z1, z2, rfl, hlt, z3, z4, z5, z6, z7⟩, fun x H4 y => ?_⟩
    have y' : Yl c G' H' d x H4 raw := by
      have y0 := hy x H4 y
      cases raw with
      | false => exact ⟨y0.1, y0.2.ext x3⟩
      | true => obtain ⟨T, xs, es, z1, z2, z3, z4, z5⟩ := y0; exact ⟨T, xs, es, z1, z2, z3, z4, z5.ext x3⟩
    have hDd4 : H4 Dd = some (.lst xs) := by
      cases raw with
      | false => rw [y'.1]; exact hDd
      | true => obtain ⟨T, _, _, _, z2, z3, _⟩ := y'; rw [z3, upd_ne (ne_of_none hDd z2)]; exact hDd
    have hl0 : ∀ j ∈ t.slots, j < (wipe σ w).length := fun j hj => by rw [wipe_length]; exact hw j (ht j hj)
    refine t_tg S3 hl0 y' htg fun σ6 S6 hσ => ?_
    have eσ : wipe σ6 w = wipe σ w := (hσ w ht).trans wipe_twice
    have hn6 : NotOwn (σ6, gv) ρ4 Dd := fun j m e g => by
      obtain ⟨b, k1, k2, k3, k4⟩ := S6.ownSome e
      rw [g] at k1; cases k1
      rcases tg_get htg e with ⟨_, d', z⟩ | e3
      · cases z
      · have hjw : j ∉ w := fun z => by rw [← hρ] at e3; cases wipeE_mem z e3
        refine hnD j m e3 ?_
        rw [wipe_get2 hjw]
        have q1 : St2.get (wipe σ6 w, gv) j = St2.get (σ6, gv) j := wipe_get2 hjw
        rw [eσ, wipe_get2 hjw] at q1
        rw [q1]; exact g
    refine ⟨eσ, ?_⟩
    obtain ⟨B1, T1, back1⟩ := S6.hold hgD hn6 hDd4
    refine ⟨B1, G', gv, ρ4, b5, ρ5, T1, hk5, fun G7 H7 T7 x7 => ?_⟩
    obtain ⟨S7, hDd7, hg7, hn7⟩ := back1 _ _ _ _ T7
    cases b5 with
    | false =>
      rw [if_neg Bool.false_ne_true] at hlc ⊢
      have S8 := S7.wipe (w := w)
      have n8 := hn7.wipe (w := w)
      rw [eσ] at S8 n8
      exact ⟨G7, _, acc, xs, S8, wipeE_twice, x3.trans x7, hlc, hDd7, hrep.ext x7, hg7, n8⟩
    | true =>
      rw [if_pos rfl] at hlc ⊢
      simp only [Option.bind_eq_some_iff, Prod.exists] at hlc
      obtain ⟨r8, ρ8, hf8, hlc⟩ := hlc
      cases r8 with
      | v e8 =>
        dsimp only at hlc
        split at hlc
        · rename_i hsz
          obtain ⟨B2, T2, back2⟩ := S7.hold hg7 hn7 hDd7
          refine ⟨B2, G7, gv, ρ5, _, ρ8, T2, hf8, fun v G9 H9 T9 x9 q => ?_⟩
          obtain ⟨S9, hDd9, hg9, hn9⟩ := back2 _ _ _ _ T9
          refine ⟨xs, hDd9, by rw [hrep.length]; exact hsz, ?_⟩
          have S10 := (S9.wr (o := .lst (xs ++ [v])) hg9 hbD hn9 hDd9 (fun _ _ _ z => by cases z)).wipe (w := w)
          have n10 := hn9.wipe (w := w)
          rw [eσ] at S10 n10
          exact ⟨G9, _, acc ++ [e8], xs ++ [v], S10, wipeE_twice, (x3.trans x7).trans x9, hlc, upd_same, (hrep.ext (x7.trans x9)).app (.cons q .nil), hg9, n10⟩
        · cases hlc
      | s j => cases hlc
      | n m => cases hlc
theorem z_lc {tg it elt : Expr} {ifs : List Expr} {scope : Scope} {own : List (Str × Nat)} {g : Iv} {t : Tg} {k : Tv} {f : Ev} (hc : X.calm = true) (hN : X.N.Nodup) (hi : PI X tg it (tI (cx X) g)) (ok : BlkOk X.N X.env.scope scope own)
    (hg : ∀ (s : Shared) (H : Hp) (C : Addr) (cl : List (Str × Addr)) (fp : List Addr), PG (X.blk s H scope (compEnvC scope cl C X.env) fp) tg (tG X.K t)) (ht : ∀ (s : Shared) (H : Hp) (C : Addr) (cl : List (Str × Addr)) (fp : List Addr), PTs (X.blk s H scope (compEnvC scope cl C X.env) fp) ifs (tT (cx X) k))
    (he : ∀ (s : Shared) (H : Hp) (C : Addr) (cl : List (Str × Addr)) (fp : List Addr), PE (X.blk s H scope (compEnvC scope cl C X.env) fp) elt (tE (cx X) f)) {w : List Nat} (hw0 : (t.slots.all fun i => decide (i ∈ w)) = true := by rfl) (hw1 : own.map (·.2) = w := by rfl) (hs : ∀ x, foldedSetIterable it X.env x = pure x := by intro _; rfl) :
    PE X (.ListComp elt [⟨tg, it, ifs, 0⟩] scope pos) (tE (cx X) (eLc g t k f w)) := by
  subst hw1
  exact pe_imp' (pe_lc hc hN hi ok hg ht (fun s H C cl fp => z_fz (he s H C cl fp)) hs) fun σ H Q hl h => t_lc (fun i hi => by
    obtain ⟨p, hp, rfl⟩ := List.mem_map.mp hi
    rw [hl]
    exact (List.getElem?_eq_some_iff.mp (ok.ix p hp)).1) (fun i hi => of_decide_eq_true (List.all_eq_true.mp hw0 i hi)) h
end
end Z

set_option Elab.async false
set_option linter.all false
set_option maxRecDepth 100000
/-! Z4: defs over data: their promises, their calls; things that a callee changes. -/
namespace Z
open PySem L2

section
variable {X : Cx} {e a b : Expr} {es : List Expr} {st : Stmt} {sts : List Stmt} {pos : Pos} {c : Ct}
theorem t_fz {f : Ev} {σ : L2.St} {H : Hp} {Q : VK} (h : tE c (fz f) σ H Q) : tE c f σ H Q := by
  obtain ⟨B, G, gv, ρ, r, ρ', S, hf, k⟩ := h
  unfold fz at hf
  split at hf
  · rename_i m ρ1 e1
    cases hf
    refine ⟨B, G, gv, ρ, .n m, _, S, e1, fun v G' H' S' x q => ?_⟩
    obtain ⟨a, rfl, hg, hb, hn, hm⟩ := q
    obtain ⟨o, ho, _⟩ := hm.there
    exact k _ (upd G' a o) H' (S'.share ho hb hn hg) (x.trans (Ext.up hg)) (hm.repG ho hg)
  · exact ⟨B, G, gv, ρ, r, ρ', S, hf, k⟩
/-! ### tests of a comprehension; a name given a comprehension -/
def tyes : Tv := fun ρ => some (true, ρ)
theorem zt_nil : PTs X [] (tT c tyes) := ⟨fun pins s σ H Q I ⟨B, G, gv, ρ, b, ρ', S, hf, k⟩ => by
  cases hf
  exact pts_nil.run pins s σ H Q I (k G H S (Ext.refl _))⟩
theorem zt_one {ce : Expr} {t : Tv} (h : PT X ce (tT c t)) : PTs X [ce] (tT c t) := pts_one h
section
variable {i : Nat} {y : Str} {py spos : Pos} {tg it elt : Expr} {ifs : List Expr} {scope : Scope} {own : List (Str × Nat)} {g : Iv} {t : Tg} {k : Tv} {f : Ev}
theorem z_setLc (i : Nat) (hc : X.calm = true) (hN : X.N.Nodup) (hy : X.N[i]? = some y) (hyl : X.env.scope.names.lookup y = some .local)
    (hsw : swapsWith (.ListComp elt [⟨tg, it, ifs, 0⟩] scope pos) (some (.Name y py)) spos.line X.env = pure true) (hi : PI X tg it (tI (cx X) g)) (ok : BlkOk X.N X.env.scope scope own)
    (hg : ∀ (s : Shared) (H : Hp) (C : Addr) (cl : List (Str × Addr)) (fp : List Addr), PG (X.blk s H scope (compEnvC scope cl C X.env) fp) tg (tG X.K t)) (ht : ∀ (s : Shared) (H : Hp) (C : Addr) (cl : List (Str × Addr)) (fp : List Addr), PTs (X.blk s H scope (compEnvC scope cl C X.env) fp) ifs (tT (cx X) k))
    (he : ∀ (s : Shared) (H : Hp) (C : Addr) (cl : List (Str × Addr)) (fp : List Addr), PE (X.blk s H scope (compEnvC scope cl C X.env) fp) elt (tE (cx X) f)) {w : List Nat} (hw0 : (t.slots.all fun i => decide (i ∈ w)) = true := by rfl) (hw1 : own.map (·.2) = w := by rfl) (hs : ∀ x, foldedSetIterable it X.env x = pure x := by intro _; rfl) :
    PS X (.Assign [.Name y py] (.ListComp elt [⟨tg, it, ifs, 0⟩] scope pos) spos) (tS (cx X) (sV i (eLc g t k f w))) := by
  subst hw1
  exact ps_imp (ps_setLc hc hN hy hyl hsw hi ok hg ht (fun s H C cl fp => z_fz (he s H C cl fp)) hs) fun D σ H hl h => t_lc (fun i hi => by
    obtain ⟨p, hp, rfl⟩ := List.mem_map.mp hi
    rw [hl]
    exact (List.getElem?_eq_some_iff.mp (ok.ix p hp)).1) (fun i hi => of_decide_eq_true (List.all_eq_true.mp hw0 i hi)) (t_fz (t_sV (X := X) (List.getElem?_eq_some_iff.mp hy).1 D σ H hl h))
theorem z_setLcO (i : Nat) (hc : X.calm = true) (hN : X.N.Nodup) (hy : X.N[i]? = some y) (hyl : X.env.scope.names.lookup y = some .local)
    (hsw : swapsWith (.ListComp elt [⟨tg, it, ifs, 0⟩] scope pos) (some (.Name y py)) spos.line X.env = pure true) (hi : PI X tg it (tI (cx X) g)) (ok : BlkOk X.N X.env.scope scope own)
    (hg : ∀ (s : Shared) (H : Hp) (C : Addr) (cl : List (Str × Addr)) (fp : List Addr), PG (X.blk s H scope (compEnvC scope cl C X.env) fp) tg (tG X.K t)) (ht : ∀ (s : Shared) (H : Hp) (C : Addr) (cl : List (Str × Addr)) (fp : List Addr), PTs (X.blk s H scope (compEnvC scope cl C X.env) fp) ifs (tT (cx X) k))
    (he : ∀ (s : Shared) (H : Hp) (C : Addr) (cl : List (Str × Addr)) (fp : List Addr), PE (X.blk s H scope (compEnvC scope cl C X.env) fp) elt (tE (cx X) f)) {w : List Nat} (hw0 : (t.slots.all fun i => decide (i ∈ w)) = true := by rfl) (hw1 : own.map (·.2) = w := by rfl) (hs : ∀ x, foldedSetIterable it X.env x = pure x := by intro _; rfl) :
    PS X (.Assign [.Name y py] (.ListComp elt [⟨tg, it, ifs, 0⟩] scope pos) spos) (tS (cx X) (sO i (eLc g t k f w))) := by
  subst hw1
  exact ps_imp (ps_setLc hc hN hy hyl hsw hi ok hg ht (fun s H C cl fp => z_fz (he s H C cl fp)) hs) fun D σ H hl h => t_lc (fun i hi => by
    obtain ⟨p, hp, rfl⟩ := List.mem_map.mp hi
    rw [hl]
    exact (List.getElem?_eq_some_iff.mp (ok.ix p hp)).1) (fun i hi => of_decide_eq_true (List.all_eq_true.mp hw0 i hi)) (t_sO (X := X) (List.getElem?_eq_some_iff.mp hy).1 D σ H hl h)
end

/-! ### a def that changes nothing -/
def rtR (ρ : En) : R → Option R
  | .v d => some (.v d)
  | .n m => some (.n m)
  | .s i => match ρ[i]? with
    | some (.own m) => some (.n m)
    | _ => none
def defF (n np : Nat) (f : Sv) (ds : List D) : Option R :=
  if ds.length = np then
    match f (ds.map Sl.v ++ List.replicate (n - np) .no) with
    | some (.nx, _) => some (.v .none)
    | some (.rt r, ρ') => rtR ρ' r
    | _ => none
  else none
theorem rtR_res {B : Bs} {G' H' : Hp} {σ : St2} {ρ : En} {v : V} {r r' : R} (S : RS c B G' H' σ ρ) (hm : ∀ a, ¬ B.mt a) (q : RR c B G' H' σ ρ v r) (h : rtR ρ r = some r') : Res c B.H G' H' v r' := by
  cases r with
  | v d => cases h; exact q
  | n m => cases h; obtain ⟨a, h1, h2, h3, _, h5⟩ := q; exact ⟨a, h1, h2, h3, h5⟩
  | s i =>
    simp only [rtR] at h
    split at h
    · rename_i m e
      cases h
      obtain ⟨a, h1, h2, h3, h4⟩ := S.ownSome e
      have q' : σ.get i = some v := q
      rw [h1] at q'; cases q'
      exact ⟨a, rfl, h2, h3.resolve_right (hm a), h4⟩
    · cases h
theorem st2_get {σ : L2.St} {gv : List V} {i : Nat} (h : i < σ.length) : St2.get (σ, gv) i = σ[i]?.join := by
  unfold St2.get
  simp only [List.getElem?_append, h, if_true]
theorem st2_gv {σ : L2.St} {gv : List V} {i : Nat} (h : σ.length ≤ i) : St2.get (σ, gv) i = gv[i - σ.length]? := by
  unfold St2.get
  simp only [List.getElem?_append, Nat.not_lt.mpr h, if_false, List.getElem?_map]
  cases gv[i - σ.length]? <;> rfl
theorem RS.start {G H : Hp} {N : List Str} {vs : List V} {ds : List D} (x : Ext G H) (r : RepA c G vs ds) (hl : vs.length ≤ N.length) :
    RS c ⟨G, H, fun _ => False, [], N.length⟩ G H (L2.start N vs, []) (ds.map Sl.v ++ List.replicate (N.length - ds.length) .no) := by
  have e := r.length
  refine ⟨Ext.refl _, x, fun _ _ h => .inl h, fun _ _ h _ _ => h, fun _ h => h, ?_, ?_, fun i s hs => ?_, fun i j m m' a h1 => ?_, fun p hp => by cases hp⟩
  · simp [L2.start, e]
  · simp only [L2.start, List.length_append, List.length_map, List.length_replicate]; omega
  · by_cases hi : i < ds.length
    · rw [List.getElem?_append_left (by simpa using hi), List.getElem?_map] at hs
      cases hd : ds[i]? with
      | none => rw [hd] at hs; cases hs
      | some d =>
        rw [hd] at hs; cases hs
        obtain ⟨v, h1, h2⟩ := r.get hd
        have hi2 : i < vs.length := by omega
        refine ⟨v, ?_, h2⟩
        rw [st2_get (by simp only [L2.start, List.length_append, List.length_map, List.length_replicate]; omega), L2.start, List.getElem?_append_left (by simpa using hi2), List.getElem?_map, h1]
        rfl
    · rw [List.getElem?_append_right (by simpa using hi)] at hs
      have : s = .no := by
        have := List.mem_of_getElem? hs
        exact (List.mem_replicate.mp this).2
      rw [this]
      exact True.intro
  · exfalso
    have hm := List.mem_of_getElem? h1
    rcases List.mem_append.mp hm with q | q
    · obtain ⟨d, _, z⟩ := List.mem_map.mp q; cases z
    · cases (List.mem_replicate.mp q).2
theorem RS.out {B : Bs} {G' H' : Hp} {σ : St2} {ρ : En} (S : RS c B G' H' σ ρ) : After B.G B.H G' H' B.mt := ⟨S.gext, S.sub, S.new, S.frm, S.dom⟩
theorem defF_of {n np : Nat} {f : Sv} {ds : List D} {r : R} (h : defF n np f ds = some r) : ds.length = np ∧ ∃ o ρ', f (ds.map Sl.v ++ List.replicate (n - ds.length) .no) = some (o, ρ') ∧ ((o = .nx ∧ r = .v .none) ∨ ∃ r0, o = .rt r0 ∧ rtR ρ' r0 = some r) := by
  unfold defF at h
  split at h
  · rename_i hl
    subst hl
    split at h
    · rename_i ρ' e1; cases h; exact ⟨rfl, _, _, e1, .inl ⟨rfl, rfl⟩⟩
    · rename_i r0 ρ' e1; exact ⟨rfl, _, _, e1, .inr ⟨r0, rfl, h⟩⟩
    · cases h
  · cases h
section
variable {P : Program} {w : World} {K : PySem.W.Frag} {mg : Str → Option Value} {base : Heap}
theorem okF {x qual : Str} {st : Stmt} {f : Addr} {fd : FuncData} {N ps : List Str} {k : Nat} {body : Sv} (F : FunD K x qual (defArgs st) (defBody st) (defScope st) [] [] f fd) (S : FnScope N ps (defScope st))
    (hb : ∀ (cdv : Value) (A : Around) (outer : List Env) (s : Shared) (H : Hp) (E : XK), Room k (A.deeper (PyProof.Rows.envOfC qual (defScope st) s.heap.objs.size f cdv)) →
      PSs (cxOf CX0 P w K mg base N qual (defScope st) f cdv A outer s H E).nox (defBody st) (tS ⟨P, w, K⟩ body)) : FnOk P w K mg base CX0 (k + 1) f fd ps (spF ⟨P, w, K⟩ (defF N.length ps.length body)) := by
  have hnp : ps.length ≤ N.length := by have := congrArg List.length S.pre; rw [List.length_take] at this; omega
  refine F.ok S (fun vs H Q E ⟨G, ds, r, _, hr, hf, _⟩ => by rw [hr.length]; exact (defF_of hf).1) fun cdv A outer s H vs Q E hr h => ⟨_, (hb cdv A outer s H E hr).nox, ?_⟩
  obtain ⟨G, ds, r, x, hrep, hf, k⟩ := h
  obtain ⟨hl, o, ρ', e1, h2⟩ := defF_of hf
  have hvl : vs.length ≤ N.length := by rw [hrep.length]; omega
  refine ⟨_, G, [], _, o, ρ', RS.start x hrep hvl, e1, ?_⟩
  rcases h2 with ⟨rfl, rfl⟩ | ⟨r0, rfl, h3⟩
  · exact fun σ' G' H' S' _ => k .non G' H' S'.out Rep.non
  · exact fun v σ' G' H' S' _ q => k v G' H' S'.out (rtR_res S' (fun _ z => z) q h3)
end

/-! ### a def whose first argument is a thing that it changes -/
def spM (c : Ct) (F : MO → List D → Option (R × MO)) : Sp := fun vs H Q _ => ∃ G a m us ds r m', vs = .ref a :: us ∧ Ext G H ∧ G a = none ∧ MOk c G H a m ∧ RepA c G us ds ∧ F m ds = some (r, m') ∧
  ∀ v G' H', After G H G' H' (fun b => b = a) → G' a = none → MOk c G' H' a m' → Res c H G' H' v r → Q v H'
def rtM (n : Nat) (ρ : En) : R → Option R
  | .v d => some (.v d)
  | .n m => some (.n m)
  | .s i => if i < n then match ρ[i]? with
    | some (.own m) => some (.n m)
    | _ => none
    else none
def defM (n np : Nat) (f : Sv) (m : MO) (ds : List D) : Option (R × MO) :=
  if ds.length + 1 = np then
    match f (.al n :: (ds.map Sl.v ++ List.replicate (n - np) .no) ++ [.own m]) with
    | some (o, ρ') => match ρ'[n]? with
      | some (.own m') => match o with
        | .nx => some (.v .none, m')
        | .rt r => (rtM n ρ' r).map fun r' => (r', m')
        | _ => none
      | _ => none
    | _ => none
  else none
theorem defM_of {n np : Nat} {f : Sv} {m m' : MO} {ds : List D} {r : R} (h : defM n np f m ds = some (r, m')) : ds.length + 1 = np ∧ ∃ o ρ', f (.al n :: (ds.map Sl.v ++ List.replicate (n - (ds.length + 1)) .no) ++ [.own m]) = some (o, ρ') ∧ ρ'[n]? = some (.own m') ∧ ((o = .nx ∧ r = .v .none) ∨ ∃ r0, o = .rt r0 ∧ rtM n ρ' r0 = some r) := by
  unfold defM at h
  split at h
  · rename_i hl
    subst hl
    split at h
    · rename_i o ρ' e1
      split at h
      · rename_i m1 e2
        split at h
        · cases h; exact ⟨rfl, _, _, e1, e2, .inl ⟨rfl, rfl⟩⟩
        · rename_i r0
          simp only [Option.map_eq_some_iff, Prod.mk.injEq] at h
          obtain ⟨r1, h1, rfl, rfl⟩ := h
          exact ⟨rfl, _, _, e1, e2, .inr ⟨r0, rfl, h1⟩⟩
        · cases h
      · cases h
    · cases h
  · cases h
theorem RS.startM {G H : Hp} {N : List Str} {us : List V} {ds : List D} {a : Addr} {m : MO} (x : Ext G H) (hg : G a = none) (hm : MOk c G H a m) (r : RepA c G us ds) (hl : us.length + 1 ≤ N.length) :
    RS c ⟨G, H, fun b => b = a, [], N.length⟩ G H (L2.start N (.ref a :: us), [.ref a]) (.al N.length :: (ds.map Sl.v ++ List.replicate (N.length - (ds.length + 1)) .no) ++ [.own m]) := by
  have e := r.length
  have hσ : (L2.start N (.ref a :: us)).length = N.length := by simp only [L2.start, List.length_append, List.length_map, List.length_replicate, List.length_cons]; omega
  have hρ : (.al N.length :: (ds.map Sl.v ++ List.replicate (N.length - (ds.length + 1)) .no)).length = N.length := by simp only [List.length_append, List.length_map, List.length_replicate, List.length_cons]; omega
  have own_ix : ∀ (i : Nat) (m' : MO), (.al N.length :: (ds.map Sl.v ++ List.replicate (N.length - (ds.length + 1)) .no) ++ [.own m])[i]? = some (.own m') → i = N.length := fun i m' h => by
    by_cases hi : i < N.length
    · rw [List.getElem?_append_left (by rw [hρ]; exact hi)] at h
      have hmem := List.mem_of_getElem? h
      rcases List.mem_cons.mp hmem with z | z
      · cases z
      · rcases List.mem_append.mp z with z | z
        · obtain ⟨d, _, z⟩ := List.mem_map.mp z; cases z
        · cases (List.mem_replicate.mp z).2
    · have hlt := (List.getElem?_eq_some_iff.mp h).1
      rw [List.length_append, hρ, List.length_singleton] at hlt
      omega
  refine ⟨Ext.refl _, x, fun _ _ h => .inl h, fun _ _ h _ _ => h, fun _ h => h, ?_, hσ, fun i s hs => ?_, fun i j m1 m2 b h1 h2 _ _ => (own_ix i m1 h1).trans (own_ix j m2 h2).symm, fun p hp => by cases hp⟩
  · show (_ ++ [Sl.own m]).length = (L2.start N (.ref a :: us)).length + 1
    rw [List.length_append, hρ, List.length_singleton, hσ]
  · by_cases hi : i < N.length
    · rw [List.getElem?_append_left (by rw [hρ]; exact hi)] at hs
      rw [st2_get (by rw [hσ]; exact hi)]
      cases i with
      | zero =>
        rw [List.getElem?_cons_zero] at hs; cases hs
        exact ⟨Nat.le_of_eq hσ, .ref a, rfl, by rw [st2_gv (by rw [hσ]; exact Nat.le_refl _), hσ, Nat.sub_self]; rfl⟩
      | succ i =>
        rw [List.getElem?_cons_succ] at hs
        by_cases hi2 : i < ds.length
        · rw [List.getElem?_append_left (by simpa using hi2), List.getElem?_map] at hs
          cases hd : ds[i]? with
          | none => rw [hd] at hs; cases hs
          | some d =>
            rw [hd] at hs; cases hs
            obtain ⟨v, h1, h2⟩ := r.get hd
            refine ⟨v, ?_, h2⟩
            have hi3 : i < us.length := by omega
            rw [L2.start, List.getElem?_append_left (by simp only [List.length_map, List.length_cons]; omega), List.getElem?_map, List.getElem?_cons_succ, h1]
            rfl
        · rw [List.getElem?_append_right (by simpa using hi2)] at hs
          have : s = .no := by
            have := List.mem_of_getElem? hs
            exact (List.mem_replicate.mp this).2
          rw [this]
          exact True.intro
    · have hlt := (List.getElem?_eq_some_iff.mp hs).1
      rw [List.length_append, hρ, List.length_singleton] at hlt
      have e2 : i = N.length := by omega
      subst e2
      rw [List.getElem?_append_right (by rw [hρ]; exact Nat.le_refl _), hρ, Nat.sub_self] at hs
      cases hs
      exact ⟨a, by rw [st2_gv (by rw [hσ]; exact Nat.le_refl _), hσ, Nat.sub_self]; rfl, hg, .inr rfl, hm⟩
theorem rtM_res {B : Bs} {G' H' : Hp} {σ : L2.St} {gv : List V} {ρ : En} {v : V} {r r' : R} {a : Addr} (S : RS c B G' H' (σ, gv) ρ) (hm : ∀ b, B.mt b → b = a) (hn : σ.length = B.nl) {m' : MO} (hρ : ρ[B.nl]? = some (.own m')) (ha : St2.get (σ, gv) B.nl = some (.ref a))
    (q : RR c B G' H' (σ, gv) ρ v r) (h : rtM B.nl ρ r = some r') : Res c B.H G' H' v r' := by
  cases r with
  | v d => cases h; exact q
  | n m => cases h; obtain ⟨a, h1, h2, h3, _, h5⟩ := q; exact ⟨a, h1, h2, h3, h5⟩
  | s i =>
    simp only [rtM] at h
    split at h
    · rename_i hi
      split at h
      · rename_i m e
        cases h
        obtain ⟨b, h1, h2, h3, h4⟩ := S.ownSome e
        have q' : St2.get (σ, gv) i = some v := q
        rw [h1] at q'; cases q'
        refine ⟨b, rfl, h2, h3.resolve_right fun z => ?_, h4⟩
        have eb := hm b z
        subst eb
        have := S.inj i B.nl m m' b e hρ h1 ha
        omega
      · cases h
    · cases h
section
variable {P : Program} {w : World} {K : PySem.W.Frag} {mg : Str → Option Value} {base : Heap}
theorem okM {x qual : Str} {st : Stmt} {f : Addr} {fd : FuncData} {N ps : List Str} {k : Nat} {body : Sv} (F : FunD K x qual (defArgs st) (defBody st) (defScope st) [] [] f fd) (S : FnScope N ps (defScope st))
    (hb : ∀ (cdv : Value) (A : Around) (outer : List Env) (s : Shared) (H : Hp) (E : XK), Room k (A.deeper (PyProof.Rows.envOfC qual (defScope st) s.heap.objs.size f cdv)) →
      PSs (cxOf CX0 P w K mg base N qual (defScope st) f cdv A outer s H E).nox (defBody st) (tS ⟨P, w, K⟩ body)) : FnOk P w K mg base CX0 (k + 1) f fd ps (spM ⟨P, w, K⟩ (defM N.length ps.length body)) := by
  have hnp : ps.length ≤ N.length := by have := congrArg List.length S.pre; rw [List.length_take] at this; omega
  refine F.ok S (fun vs H Q E ⟨G, a, m, us, ds, r, m', e, _, _, _, hr, hf, _⟩ => by rw [e, List.length_cons, hr.length]; exact (defM_of hf).1) fun cdv A outer s H vs Q E hr h => ⟨_, (hb cdv A outer s H E hr).nox, ?_⟩
  obtain ⟨G, a, m, us, ds, r, m', rfl, x, hg, hm, hrep, hf, k⟩ := h
  obtain ⟨hl, o, ρ', e1, e2, h2⟩ := defM_of hf
  have hvl : us.length + 1 ≤ N.length := by rw [hrep.length]; omega
  refine ⟨_, G, [.ref a], _, o, ρ', RS.startM x hg hm hrep hvl, e1, ?_⟩
  have fin : ∀ {σ' : L2.St} {G' H' : Hp}, RS ⟨P, w, K⟩ ⟨G, H, fun b => b = a, [], N.length⟩ G' H' (σ', [.ref a]) ρ' → St2.get (σ', [.ref a]) N.length = some (.ref a) ∧ G' a = none ∧ MOk ⟨P, w, K⟩ G' H' a m' := fun {σ' G' H'} S' => by
    have n1 : σ'.length = N.length := S'.nl
    have g1 : St2.get (σ', [V.ref a]) N.length = some (.ref a) := by rw [st2_gv (by omega), n1, Nat.sub_self]; rfl
    obtain ⟨b, h1, h2, _, h4⟩ := S'.ownSome e2
    rw [g1] at h1; cases h1
    exact ⟨g1, h2, h4⟩
  rcases h2 with ⟨rfl, rfl⟩ | ⟨r0, rfl, h3⟩
  · exact fun σ' G' H' S' _ => k .non G' H' S'.out (fin S').2.1 (fin S').2.2 Rep.non
  · exact fun v σ' G' H' S' _ q => k v G' H' S'.out (fin S').2.1 (fin S').2.2 (rtM_res (a := a) S' (fun _ z => z) S'.nl e2 (fin S').1 q h3)
end
theorem RS.afterM {B : Bs} {G H G' H' : Hp} {σ : St2} {ρ : En} {j : Nat} {a : Addr} {m m' : MO} (S : RS c B G H σ ρ) (e : ρ[j]? = some (.own m)) (g : σ.get j = some (.ref a)) (A : After G H G' H' (fun b => b = a)) (hg : G' a = none) (hm : MOk c G' H' a m') : RS c B G' H' σ (ρ.set j (.own m')) := by
  obtain ⟨a', h1, h2, h3, h4⟩ := S.ownSome e
  rw [g] at h1; cases h1
  have hG : ∀ {b o}, H b = some o → G b = none → G' b = none := fun {b o} h1 h2 => by
    cases q : G' b with
    | none => rfl
    | some u =>
      rcases A.new b u q with z | z
      · rw [h2] at z; cases z
      · rw [h1] at z; cases z
  refine ⟨S.gext.trans A.g, A.s, fun b o h => ?_, fun b o z1 z2 z3 => ?_, fun b h => S.dom b (A.dom b h), by simpa using S.len, S.nl, fun i s q => ?_, fun i k m1 m2 b e1 e2 g1 g2 => ?_, fun p hp => ⟨?_, (S.pin p hp).2⟩⟩
  · rcases A.new b o h with z | z
    · exact S.new b o z
    · exact .inr (S.dom b z)
  · have h4 := S.frm b o z1 z2 z3
    refine A.frm b o h4 ?_ fun z => ?_
    · cases q : G b with
      | none => rfl
      | some u =>
        rcases S.new b u q with z | z
        · rw [z2] at z; cases z
        · rw [z1] at z; cases z
    · subst z
      rcases h3 with h3 | h3
      · rw [z1] at h3; cases h3
      · exact z3 h3
  · by_cases hj : j = i
    · subst hj
      cases en_set_self q
      exact ⟨a, g, hg, h3, hm⟩
    · rw [List.getElem?_set_ne hj] at q
      have w := S.sl i s q
      cases s with
      | no => exact True.intro
      | v d => obtain ⟨v, w1, w2⟩ := w; exact ⟨v, w1, w2.ext A.g⟩
      | own m1 =>
        obtain ⟨b, w1, w2, w3, w4⟩ := w
        have nb : b ≠ a := fun z => by
          subst z
          exact hj (S.inj j i m m1 b e q g w1)
        obtain ⟨o, ho, _⟩ := w4.there
        exact ⟨b, w1, hG ho w2, w3, MOk.mono A.g (fun u hu => A.frm b u hu w2 nb) w4⟩
      | al k => exact w
      | ob C fl => exact w
  · have own_of : ∀ {i : Nat} {m1 : MO}, (ρ.set j (.own m'))[i]? = some (.own m1) → ∃ m2, ρ[i]? = some (.own m2) := fun {i m1} q => by
      by_cases hj : j = i
      · subst hj; exact ⟨m, e⟩
      · rw [List.getElem?_set_ne hj] at q; exact ⟨m1, q⟩
    obtain ⟨n1, q1⟩ := own_of e1
    obtain ⟨n2, q2⟩ := own_of e2
    exact S.inj i k n1 n2 b q1 q2 g1 g2
  · obtain ⟨h5, C, dx, fs, h6⟩ := S.pin p hp
    have nb : p.1 ≠ a := fun w => by
      obtain ⟨o, ho, hne⟩ := h4.there
      rw [w, ho] at h5
      cases h5
      exact hne C dx fs h6
    cases q : G p.1 with
    | none => exact A.frm _ _ h5 q nb
    | some u =>
      have := S.sub _ _ q
      rw [h5] at this; cases this
      exact A.s _ _ (A.g _ _ q)
def eM (F : MO → List D → Option (R × MO)) (a : Av) : Ev := fun ρ => (a ρ).bind fun p => match p.1 with
  | .s j :: rest => (vals rest).bind fun ds => match p.2[j]? with
    | some (.own m) => (F m ds).map fun q => (q.1, p.2.set j (.own q.2))
    | _ => none
  | _ => none
theorem NotOwn.set {σ : St2} {ρ : En} {a : Addr} {j : Nat} {m m' : MO} (h : NotOwn σ ρ a) (e : ρ[j]? = some (.own m)) : NotOwn σ (ρ.set j (.own m')) a := fun i m1 q g => by
  by_cases hj : j = i
  · subst hj; exact h j m e g
  · rw [List.getElem?_set_ne hj] at q; exact h i m1 q g
theorem t_eM {F : MO → List D → Option (R × MO)} {f : Av} {E : XK} : ∀ σ H Q, tE c (eM F f) σ H Q → tCall (spM c F) [] E (tA c f) σ H Q := by
  rintro σ H Q ⟨B, G, gv, ρ, r, ρ', S, hf, k⟩
  simp only [eM, Option.bind_eq_some_iff, Prod.exists] at hf
  obtain ⟨rs, ρ1, hf1, hf⟩ := hf
  split at hf
  · rename_i j rest
    simp only [Option.bind_eq_some_iff] at hf
    obtain ⟨ds, hv, hf⟩ := hf
    split at hf
    · rename_i m em
      simp only [Option.map_eq_some_iff, Prod.exists, Prod.mk.injEq] at hf
      obtain ⟨r', m', hF, rfl, rfl⟩ := hf
      refine ⟨B, G, gv, ρ, _, ρ1, S, hf1, fun vs G1 H1 S1 x1 q1 => ?_⟩
      show spM c F (vs ++ []) H1 Q E
      rw [List.append_nil]
      cases q1 with
      | cons q1 q2 =>
        obtain ⟨a, h1, h2, h3, h4⟩ := S1.ownSome em
        have g1 : St2.get (σ, gv) j = some _ := q1.1
        rw [h1] at g1; cases g1
        refine ⟨G1, a, m, _, ds, r', m', rfl, S1.sub, h2, h4, vals_rep q2 hv, hF, fun v G' H' A hg hm q => k v G' H' (S1.afterM em h1 A hg hm) (x1.trans A.g) ?_⟩
        cases r' with
        | v d => exact q
        | n mm =>
          obtain ⟨b, k1, k2, k3, k4⟩ := q
          exact ⟨b, k1, k2, S1.dom b k3, (S1.notOwn_none k3).set em, k4⟩
        | s i => exact q.elim
    · cases hf
  · cases hf
theorem z_callM {kk : Nat} {f : Addr} {fd : FuncData} {ps : List Str} {F : MO → List D → Option (R × MO)} {fa : Av} {x : Str} {p : Pos} (G : FnOk X.prog X.w X.K X.mg X.base CX0 kk f fd ps (spM (cx X) F)) (hr : Room kk X.A) (hg : Gl X x) (hm : X.mg x = some (.ref f)) (hk : PySem.W.keepIn X.K (.ref f) = true) (hb : Binds X.K fd ps [])
    (ha : PA X (e :: es) (tA (cx X) fa)) (hdb : (x == ("__debug__" : Str)) = false := by decide) (he : starEach (e :: es) X.env = (false, eval e X.env) :: starEach es X.env := by rfl) (hpl : (backTo pos (starEach es X.env)).any (·.1) = false := by rfl) :
    PE X (.Call (.Name x p) (e :: es) [] pos) (tE (cx X) (eM F fa)) := pe_imp (pe_call G hr hg hm hk hb .nil (pass0 (X := X)) ha hdb he hpl) t_eM
end
end Z

set_option Elab.async false
set_option linter.all false
set_option maxRecDepth 100000
/-! Z5: the operations over data. -/
namespace Z
open PySem L2

section
variable {X : Cx} {e a b : Expr} {es : List Expr} {st : Stmt} {sts : List Stmt} {pos : Pos} {c : Ct}
/-! ### ints -/
def iI (C : Int → Int → Bool) (g : Int → Int → Int) : D → D → Option R
  | .int i, .int j => if C i j = true then some (.v (.int (g i j))) else none
  | _, _ => none
def iB (g : Int → Int → Bool) : D → D → Option R
  | .int i, .int j => some (.v (.bool (g i j)))
  | _, _ => none
theorem sem_iI {C : Int → Int → Bool} {C' : Int → Int → Prop} {g : Int → Int → Int} (h : ∀ i j, C i j = true → C' i j) : Sem2 c (rI C' fun i j => .int (g i j)) (iI C g) := by
  intro B G H σ ρ r1 r2 v1 v2 d1 d2 r Q S q1 h1 q2 h2 hg k
  cases d1 <;> cases d2 <;> try (cases hg; done)
  rename_i i j
  simp only [iI] at hg
  split at hg
  · rename_i hc
    cases hg
    exact ⟨i, j, q1.int S h1, q2.int S h2, h i j hc, k _ G H S (Ext.refl _) (Rep.int _)⟩
  · cases hg
theorem sem_iB {g : Int → Int → Bool} : Sem2 c (rI0 fun i j => .bl (g i j)) (iB g) := by
  intro B G H σ ρ r1 r2 v1 v2 d1 d2 r Q S q1 h1 q2 h2 hg k
  cases d1 <;> cases d2 <;> try (cases hg; done)
  rename_i i j
  cases hg
  exact ⟨i, j, q1.int S h1, q2.int S h2, k _ G H S (Ext.refl _) (Rep.bl _)⟩
theorem op_i0 {f : Value → Value → Sem Value} {g : Int → Int → Int} (h : OpR X f (rI0 fun i j => .int (g i j))) : OpR X f (rI (fun _ _ => True) fun i j => .int (g i j)) := by
  intro pins s σ H x y v u Q I rx ry ⟨i, j, h1, h2, _, q⟩
  exact h pins s σ H x y v u Q I rx ry ⟨i, j, h1, h2, q⟩
instance {i j : Int} : Decidable (CMul i j) := by unfold CMul; infer_instance
instance {i j : Int} : Decidable (CDiv i j) := by unfold CDiv; infer_instance
instance {i j : Int} : Decidable (CPow i j) := by unfold CPow; infer_instance
instance {i j : Int} : Decidable (CMulW i j) := by unfold CMulW; infer_instance
abbrev dAdd := iI (fun _ _ => true) (fun i j => i + j)
abbrev dSub := iI (fun _ _ => true) (fun i j => i - j)
abbrev dMul := iI (fun i j => decide (CMul i j)) (fun i j => i * j)
abbrev dMulW := iI (fun i j => decide (CMulW i j)) (fun i j => i * j)
abbrev dDiv := iI (fun _ j => decide (0 < j ∧ j < 1073741824)) (fun i j => i / j)
abbrev dMod := iI (fun _ j => decide (0 < j)) (fun i j => i % j)
abbrev dPow := iI (fun i j => decide (0 ≤ j ∧ j ≤ 1000000 ∧ i.natAbs < 2 ^ 64)) (fun i j => i ^ j.toNat)
theorem z_add {f f' : Ev} (ha : PE X a (tE c f)) (hb : PE X b (tE c f')) : PE X (.BinOp a .Add b pos) (tE c (e2 dAdd f f')) := z_op (op_i0 op_add) (sem_iI fun _ _ _ => True.intro) ha hb
theorem z_sub {f f' : Ev} (ha : PE X a (tE c f)) (hb : PE X b (tE c f')) : PE X (.BinOp a .Sub b pos) (tE c (e2 dSub f f')) := z_op (op_i0 op_sub) (sem_iI fun _ _ _ => True.intro) ha hb
theorem z_mul {f f' : Ev} (ha : PE X a (tE c f)) (hb : PE X b (tE c f')) : PE X (.BinOp a .Mult b pos) (tE c (e2 dMul f f')) := z_op op_mul (sem_iI (C := fun i j => decide (CMul i j)) (C' := CMul) fun i j (h : decide (CMul i j) = true) => of_decide_eq_true h) ha hb
theorem z_mulW {f f' : Ev} (ha : PE X a (tE c f)) (hb : PE X b (tE c f')) : PE X (.BinOp a .Mult b pos) (tE c (e2 dMulW f f')) := z_op op_mulW (sem_iI (C := fun i j => decide (CMulW i j)) (C' := CMulW) fun i j (h : decide (CMulW i j) = true) => of_decide_eq_true h) ha hb
theorem z_div {f f' : Ev} (ha : PE X a (tE c f)) (hb : PE X b (tE c f')) : PE X (.BinOp a .FloorDiv b pos) (tE c (e2 dDiv f f')) := z_op op_fdiv (sem_iI (C := fun _ j => decide (0 < j ∧ j < 1073741824)) (C' := CDiv) fun i j (h : decide (0 < j ∧ j < 1073741824) = true) => of_decide_eq_true h) ha hb
theorem z_mod {f f' : Ev} (ha : PE X a (tE c f)) (hb : PE X b (tE c f')) : PE X (.BinOp a .Mod b pos) (tE c (e2 dMod f f')) := z_op op_mod (sem_iI (C := fun _ j => decide (0 < j)) (C' := fun _ j => 0 < j) fun i j (h : decide (0 < j) = true) => of_decide_eq_true h) ha hb
theorem z_pow {f f' : Ev} (ha : PE X a (tE c f)) (hb : PE X b (tE c f')) : PE X (.BinOp a .Pow b pos) (tE c (e2 dPow f f')) := z_op op_pow (sem_iI (C := fun i j => decide (0 ≤ j ∧ j ≤ 1000000 ∧ i.natAbs < 2 ^ 64)) (C' := CPow) fun i j (h : decide (0 ≤ j ∧ j ≤ 1000000 ∧ i.natAbs < 2 ^ 64) = true) => of_decide_eq_true h) ha hb
def dNeg : D → Option R
  | .int i => some (.v (.int (-i)))
  | _ => none
theorem sem_neg : Sem1 c (rU fun i => .int (-i)) dNeg := by
  intro B G H σ ρ r1 v1 d1 r Q S q1 h1 hg k
  cases d1 <;> try (cases hg; done)
  cases hg
  exact ⟨_, q1.int S h1, k _ G H S (Ext.refl _) (Rep.int _)⟩
theorem z_neg {f : Ev} (ha : PE X a (tE c f)) : PE X (.UnaryOp .USub a pos) (tE c (e1 dNeg f)) := z_un un_neg sem_neg ha
abbrev dLt := iB fun i j => decide (i < j)
abbrev dLe := iB fun i j => decide (i ≤ j)
abbrev dGt := iB fun i j => decide (j < i)
abbrev dGe := iB fun i j => decide (j ≤ i)
section
variable {f f' f'' : Ev}
theorem z_lt (ha : PE X a (tE c f)) (hb : PE X b (tE c f')) : PE X (.Compare a [.Lt] [b] pos) (tE c (e2 dLt f f')) := z_cmp op_lt sem_iB ha hb (nomark _)
theorem z_le (ha : PE X a (tE c f)) (hb : PE X b (tE c f')) : PE X (.Compare a [.LtE] [b] pos) (tE c (e2 dLe f f')) := z_cmp op_le sem_iB ha hb (nomark _)
theorem z_gt (ha : PE X a (tE c f)) (hb : PE X b (tE c f')) : PE X (.Compare a [.Gt] [b] pos) (tE c (e2 dGt f f')) := z_cmp op_gt sem_iB ha hb (nomark _)
theorem z_ge (ha : PE X a (tE c f)) (hb : PE X b (tE c f')) : PE X (.Compare a [.GtE] [b] pos) (tE c (e2 dGe f f')) := z_cmp op_ge sem_iB ha hb (nomark _)
theorem zt_lt (ha : PE X a (tE c f)) (hb : PE X b (tE c f')) : PT X (.Compare a [.Lt] [b] pos) (tT c (tb (e2 dLt f f'))) := z_tcmp op_lt sem_iB ha hb (nomark _)
theorem zt_le (ha : PE X a (tE c f)) (hb : PE X b (tE c f')) : PT X (.Compare a [.LtE] [b] pos) (tT c (tb (e2 dLe f f'))) := z_tcmp op_le sem_iB ha hb (nomark _)
theorem zt_gt (ha : PE X a (tE c f)) (hb : PE X b (tE c f')) : PT X (.Compare a [.Gt] [b] pos) (tT c (tb (e2 dGt f f'))) := z_tcmp op_gt sem_iB ha hb (nomark _)
theorem zt_ge (ha : PE X a (tE c f)) (hb : PE X b (tE c f')) : PT X (.Compare a [.GtE] [b] pos) (tT c (tb (e2 dGe f f'))) := z_tcmp op_ge sem_iB ha hb (nomark _)
/-- a op b op' d, the comparisons booleans -/
def e3 (g g' : D → D → Option R) (f f' f'' : Ev) : Ev := fun ρ => (fz f ρ).bind fun p => (fz f' p.2).bind fun q => (dr q.2 p.1).bind fun d => (dr q.2 q.1).bind fun d' => (g d d').bind fun r => match r with
  | .v (.bool true) => (fz f'' q.2).bind fun s => (dr s.2 q.1).bind fun d1 => (dr s.2 s.1).bind fun d2 => (g' d1 d2).map fun r' => (r', s.2)
  | .v (.bool false) => some (.v (.bool false), q.2)
  | _ => none
theorem t_e3 {rr rr' : R2} {g g' : D → D → Option R} (hs : Sem2 c rr g) (hs' : Sem2 c rr' g') : ∀ σ H Q, tE c (e3 g g' f f' f'') σ H Q → tChain rr rr' (tE c (fz f)) (tE c (fz f')) (tE c (fz f'')) σ H Q := by
  rintro σ H Q ⟨B, G, gv, ρ, r, ρ', S, hf, k⟩
  simp only [e3, Option.bind_eq_some_iff, Prod.exists] at hf
  obtain ⟨r1, ρ1, hf1, r2, ρ2, hf2, d1, hd1, d2, hd2, r', hg, hf⟩ := hf
  refine ⟨B, G, gv, ρ, r1, ρ1, S, hf1, fun v1 G1 H1 S1 x1 q1 => ⟨B, G1, gv, ρ1, r2, ρ2, S1, hf2, fun v2 G2 H2 S2 x2 q2 => ?_⟩⟩
  refine hs _ S2 (q1.on x2 (fz_not hf1)) hd1 q2 hd2 hg fun v G' H' S' x q => ?_
  split at hf
  · cases q
    refine ⟨true, rfl, ?_⟩
    rw [if_pos rfl]
    simp only [Option.bind_eq_some_iff, Option.map_eq_some_iff, Prod.exists, Prod.mk.injEq] at hf
    obtain ⟨r3, ρ3, hf3, d3, hd3, d4, hd4, r4, hg', rfl, rfl⟩ := hf
    refine ⟨B, G', gv, ρ2, r3, ρ3, S', hf3, fun v3 G3 H3 S3 x3 q3 => ?_⟩
    exact hs' Q S3 (q2.on (x.trans x3) (fz_not hf2)) hd3 q3 hd4 hg' fun v G4 H4 S4 x4 q => k v G4 H4 S4 ((((x1.trans x2).trans x).trans x3).trans x4) q
  · cases q
    cases hf
    refine ⟨false, rfl, ?_⟩
    rw [if_neg Bool.false_ne_true]
    exact k _ G' H' S' ((x1.trans x2).trans x) (Rep.bl _)
  · cases hf
theorem z_chain {op op' : CmpOp} {d : Expr} {rr rr' : R2} {g g' : D → D → Option R} (ho : OpR X (compareOp op) rr) (ho' : OpR X (compareOp op') rr') (hs : Sem2 c rr g) (hs' : Sem2 c rr' g') (ha : PE X a (tE c f)) (hb : PE X b (tE c f')) (hd : PE X d (tE c f''))
    (hm : lastMarks [op, op'] [b, d] = false := by with_unfolding_all rfl) : PE X (.Compare a [op, op'] [b, d] pos) (tE c (e3 g g' f f' f'')) :=
  pe_imp (pe_chain ho ho' (z_fz ha) (z_fz hb) (z_fz hd) hm) (t_e3 hs hs')
theorem z_lele {d : Expr} (ha : PE X a (tE c f)) (hb : PE X b (tE c f')) (hd : PE X d (tE c f'')) (hm : lastMarks [.LtE, .LtE] [b, d] = false := by with_unfolding_all rfl) : PE X (.Compare a [.LtE, .LtE] [b, d] pos) (tE c (e3 dLe dLe f f' f'')) := z_chain op_le op_le sem_iB sem_iB ha hb hd hm

/-! ### == -/
def eqD : D → D → Option Bool
  | .int i, .int j => some (decide (i = j))
  | .str x, .str y => some (decide (x = y))
  | .bool x, .bool y => some (decide (x = y))
  | .none, .none => some true
  | .none, .int _ => some false
  | .int _, .none => some false
  | .none, .str _ => some false
  | .str _, .none => some false
  | d, d' => if (SeqAt.shaped d && SeqAt.shaped d') = true then some (PyData.eqv d d') else none
def dEq (d d' : D) : Option R := (eqD d d').map fun k => .v (.bool k)
def dNe (d d' : D) : Option R := (eqD d d').map fun k => .v (.bool (!k))
def rEqZ (K : PySem.W.Frag) : R2 := fun x y H Q => rEq x y H Q ∨ rEqD K x y H Q
def rNeZ (K : PySem.W.Frag) : R2 := fun x y H Q => rNe x y H Q ∨ rNeD K x y H Q
theorem RR.deep {B : Bs} {G H : Hp} {σ : St2} {ρ : En} {v : V} {r : R} {d : D} (S : RS c B G H σ ρ) (q : RR c B G H σ ρ v r) (hd : dr ρ r = some d) (h : SeqAt.shaped d = true) : Dp c.K H v d := (q.rep S hd).dp (SeqAt.canLay_of_shaped h)
theorem eq_cases {B : Bs} {G H : Hp} {σ : St2} {ρ : En} {r1 r2 : R} {v1 v2 : V} {d1 d2 : D} {k : Bool} (S : RS c B G H σ ρ) (q1 : RR c B G H σ ρ v1 r1) (h1 : dr ρ r1 = some d1) (q2 : RR c B G H σ ρ v2 r2) (h2 : dr ρ r2 = some d2) (hg : eqD d1 d2 = some k) :
    (scal v1 v2 = true ∧ decide (v1 = v2) = k) ∨ (Dp c.K H v1 d1 ∧ Dp c.K H v2 d2 ∧ SeqAt.shaped d1 = true ∧ SeqAt.shaped d2 = true ∧ PyData.eqv d1 d2 = k) := by
  unfold eqD at hg
  split at hg
  · cases hg; rw [q1.int S h1, q2.int S h2]; exact .inl ⟨rfl, by simp⟩
  · cases hg; rw [q1.str S h1, q2.str S h2]; exact .inl ⟨rfl, by simp⟩
  · cases hg; rw [q1.bool S h1, q2.bool S h2]; exact .inl ⟨rfl, by simp⟩
  · cases hg; rw [q1.non S h1, q2.non S h2]; exact .inl ⟨rfl, by simp⟩
  · cases hg; rw [q1.non S h1, q2.int S h2]; exact .inl ⟨rfl, by simp⟩
  · cases hg; rw [q1.int S h1, q2.non S h2]; exact .inl ⟨rfl, by simp⟩
  · cases hg; rw [q1.non S h1, q2.str S h2]; exact .inl ⟨rfl, by simp⟩
  · cases hg; rw [q1.str S h1, q2.non S h2]; exact .inl ⟨rfl, by simp⟩
  · split at hg
    · rename_i hs
      cases hg
      rw [Bool.and_eq_true] at hs
      exact .inr ⟨q1.deep S h1 hs.1, q2.deep S h2 hs.2, hs.1, hs.2, rfl⟩
    · cases hg
theorem sem_eq : Sem2 c (rEqZ c.K) dEq := by
  intro B G H σ ρ r1 r2 v1 v2 d1 d2 r Q S q1 h1 q2 h2 hg k
  simp only [dEq, Option.map_eq_some_iff] at hg
  obtain ⟨b, hg, rfl⟩ := hg
  have kk := k (.bl b) G H S (Ext.refl _) (Rep.bl _)
  rcases eq_cases S q1 h1 q2 h2 hg with ⟨z1, z2⟩ | ⟨z1, z2, z3, z4, z5⟩
  · exact .inl ⟨z1, by rw [z2]; exact kk⟩
  · exact .inr ⟨_, _, z1, z2, z3, z4, by rw [z5]; exact kk⟩
theorem sem_ne : Sem2 c (rNeZ c.K) dNe := by
  intro B G H σ ρ r1 r2 v1 v2 d1 d2 r Q S q1 h1 q2 h2 hg k
  simp only [dNe, Option.map_eq_some_iff] at hg
  obtain ⟨b, hg, rfl⟩ := hg
  have kk := k (.bl (!b)) G H S (Ext.refl _) (Rep.bl _)
  rcases eq_cases S q1 h1 q2 h2 hg with ⟨z1, z2⟩ | ⟨z1, z2, z3, z4, z5⟩
  · exact .inl ⟨z1, by rw [z2]; exact kk⟩
  · exact .inr ⟨_, _, z1, z2, z3, z4, by rw [z5]; exact kk⟩
/-- room for data -/
abbrev Hu (X : Cx) : Prop := X.A.units + 150 < cLine
theorem op_eqZ (hu : Hu X) : OpR X (compareOp .Eq) (rEqZ X.K) := op_eq.or (op_eqD (by have : X.A.units + 150 < cLine := hu; omega))
theorem op_neZ (hu : Hu X) : OpR X (compareOp .NotEq) (rNeZ X.K) := op_ne.or (op_neD (by have : X.A.units + 150 < cLine := hu; omega))
theorem z_eq (hu : Hu X) (ha : PE X a (tE (cx X) f)) (hb : PE X b (tE (cx X) f')) : PE X (.Compare a [.Eq] [b] pos) (tE (cx X) (e2 dEq f f')) := z_cmp (op_eqZ hu) (sem_eq (c := cx X)) ha hb (nomark _)
theorem z_ne (hu : Hu X) (ha : PE X a (tE (cx X) f)) (hb : PE X b (tE (cx X) f')) : PE X (.Compare a [.NotEq] [b] pos) (tE (cx X) (e2 dNe f f')) := z_cmp (op_neZ hu) (sem_ne (c := cx X)) ha hb (nomark _)
theorem zt_eq (hu : Hu X) (ha : PE X a (tE (cx X) f)) (hb : PE X b (tE (cx X) f')) : PT X (.Compare a [.Eq] [b] pos) (tT (cx X) (tb (e2 dEq f f'))) := z_tcmp (op_eqZ hu) (sem_eq (c := cx X)) ha hb (nomark _)
theorem zt_ne (hu : Hu X) (ha : PE X a (tE (cx X) f)) (hb : PE X b (tE (cx X) f')) : PT X (.Compare a [.NotEq] [b] pos) (tT (cx X) (tb (e2 dNe f f'))) := z_tcmp (op_neZ hu) (sem_ne (c := cx X)) ha hb (nomark _)
theorem hu_of' {A : Around} {k : Nat} (hr : Room k A) : A.units + 150 < cLine := by have := hr.un; omega

/-! ### is None -/
def isN : D → Bool
  | .none => true
  | _ => false
def dIs : D → D → Option R
  | d, .none => some (.v (.bool (isN d)))
  | _, _ => none
def dIsNot : D → D → Option R
  | d, .none => some (.v (.bool (!isN d)))
  | _, _ => none
theorem non_iff {B : Bs} {G H : Hp} {σ : St2} {ρ : En} {v : V} {r : R} {d : D} (S : RS c B G H σ ρ) (q : RR c B G H σ ρ v r) (hd : dr ρ r = some d) : decide (v = .non) = isN d := by
  have h := q.rep S hd
  cases h <;> rfl
theorem sem_is : Sem2 c (fun x y H Q => y = .non ∧ Q (.bl (decide (x = .non))) H) dIs := by
  intro B G H σ ρ r1 r2 v1 v2 d1 d2 r Q S q1 h1 q2 h2 hg k
  cases d2 <;> try (cases hg; done)
  simp only [dIs, Option.some.injEq] at hg
  subst hg
  exact ⟨q2.non S h2, by rw [non_iff S q1 h1]; exact k _ G H S (Ext.refl _) (Rep.bl _)⟩
theorem sem_isnot : Sem2 c (fun x y H Q => y = .non ∧ Q (.bl (!decide (x = .non))) H) dIsNot := by
  intro B G H σ ρ r1 r2 v1 v2 d1 d2 r Q S q1 h1 q2 h2 hg k
  cases d2 <;> try (cases hg; done)
  simp only [dIsNot, Option.some.injEq] at hg
  subst hg
  refine ⟨q2.non S h2, ?_⟩
  rw [non_iff S q1 h1]
  exact k _ G H S (Ext.refl _) (Rep.bl _)
theorem z_is (ha : PE X a (tE c f)) (hb : PE X b (tE c f')) : PE X (.Compare a [.Is] [b] pos) (tE c (e2 dIs f f')) := z_cmp op_isN sem_is ha hb (nomark _)
theorem z_isnot (ha : PE X a (tE c f)) (hb : PE X b (tE c f')) : PE X (.Compare a [.IsNot] [b] pos) (tE c (e2 dIsNot f f')) := z_cmp op_notN sem_isnot ha hb (nomark _)
theorem zt_is (ha : PE X a (tE c f)) (hb : PE X b (tE c f')) : PT X (.Compare a [.Is] [b] pos) (tT c (tb (e2 dIs f f'))) := z_tcmp op_isN sem_is ha hb (nomark _)
theorem zt_isnot (ha : PE X a (tE c f)) (hb : PE X b (tE c f')) : PT X (.Compare a [.IsNot] [b] pos) (tT c (tb (e2 dIsNot f f'))) := z_tcmp op_notN sem_isnot ha hb (nomark _)

/-! ### tuples and lists glued -/
def dCatT : D → D → Option R
  | .tuple ds, .tuple es => if ds.length + es.length ≤ sizeLine then some (.v (.tuple (ds ++ es))) else none
  | _, _ => none
theorem sem_catT : Sem2 c (rCatZ c.K) dCatT := by
  intro B G H σ ρ r1 r2 v1 v2 d1 d2 r Q S q1 h1 q2 h2 hg k
  cases d1 <;> cases d2 <;> try (cases hg; done)
  rename_i ds es
  simp only [dCatT] at hg
  split at hg
  · rename_i hz
    cases hg
    obtain ⟨a, xs, rfl, ha, ra⟩ := q1.tuple S h1
    obtain ⟨b, ys, rfl, hb, rb⟩ := q2.tuple S h2
    refine ⟨a, b, xs, ys, rfl, rfl, S.sub.sqT ha.sqT, S.sub.sqT hb.sqT, by rw [ra.length, rb.length]; exact hz, fun e => ?_, fun e1 e2 => ?_, fun _ _ p o hd hp => ?_⟩
    · subst e
      cases ra
      exact k _ G H S (Ext.refl _) (Rep.tup hb rb)
    · subst e2
      cases rb
      rw [List.append_nil] at k
      exact k _ G H S (Ext.refl _) (Rep.tup ha ra)
    · exact k _ _ _ (S.laidG hp) (Ext.up (S.fresh hp).1) (RR.newT S hp hd (ra.app rb))
  · cases hg
theorem z_catT (ha : PE X a (tE (cx X) f)) (hb : PE X b (tE (cx X) f')) : PE X (.BinOp a .Add b pos) (tE (cx X) (e2 dCatT f f')) := z_op op_catZ (sem_catT (c := cx X)) ha hb
def dCatL : D → D → Option R
  | .list ds, .list es => if ds.length + es.length ≤ sizeLine then some (.n (.lst (ds ++ es))) else none
  | _, _ => none
theorem sem_catL : Sem2 c rCat dCatL := by
  intro B G H σ ρ r1 r2 v1 v2 d1 d2 r Q S q1 h1 q2 h2 hg k
  cases d1 <;> cases d2 <;> try (cases hg; done)
  rename_i ds es
  simp only [dCatL] at hg
  split at hg
  · rename_i hz
    cases hg
    obtain ⟨a, xs, rfl, ha, ra⟩ := q1.list S h1
    obtain ⟨b, ys, rfl, hb, rb⟩ := q2.list S h2
    exact ⟨a, b, xs, ys, rfl, rfl, ha, hb, by rw [ra.length, rb.length]; exact hz, fun p hp => k _ G _ (S.laid hp) (Ext.refl _) (RR.newL S hp (ra.app rb))⟩
  · cases hg
theorem z_catL (ha : PE X a (tE c f)) (hb : PE X b (tE c f')) : PE X (.BinOp a .Add b pos) (tE c (e2 dCatL f f')) := z_op op_cat sem_catL ha hb

/-! ### places -/
def ixD : D → D → Option R
  | .tuple ds, .int i => (atI ds i).map .v
  | .list ds, .int i => (atI ds i).map .v
  | .dict [(.none, .list ds)], .int i => (atI ds i).map .v
  | .str x, .int i => if x.length ≤ sizeLine then (atI x.cps.toList i).map fun k => .v (.str ⟨#[k]⟩) else none
  | _, _ => none
theorem atI_rep {H : Hp} {xs : List V} {ds : List D} {i : Int} {d : D} (r : RepA c H xs ds) (h : atI ds i = some d) : ∃ v, atI xs i = some v ∧ Rep c H v d := by
  unfold atI at h ⊢
  simp only [Option.bind_eq_some_iff] at h
  obtain ⟨j, h1, h2⟩ := h
  obtain ⟨v, h3, h4⟩ := r.get h2
  exact ⟨v, by rw [r.length, h1]; exact h3, h4⟩
theorem sem_ix : Sem2 c (rIx c.K) ixD := by
  intro B G H σ ρ r1 r2 v1 v2 d1 d2 r Q S q1 h1 q2 h2 hg k
  unfold ixD at hg
  split at hg
  · rename_i ds i
    simp only [Option.map_eq_some_iff] at hg
    obtain ⟨d, hg, rfl⟩ := hg
    obtain ⟨a, xs, rfl, ha, ra⟩ := q1.tuple S h1
    obtain ⟨v, h3, h4⟩ := atI_rep ra hg
    exact .inr (.inl ⟨a, xs, i, v, rfl, q2.int S h2, S.sub.sqT ha.sqT, h3, k v G H S (Ext.refl _) h4⟩)
  · rename_i ds i
    simp only [Option.map_eq_some_iff] at hg
    obtain ⟨d, hg, rfl⟩ := hg
    obtain ⟨a, xs, rfl, ha, ra⟩ := q1.list S h1
    obtain ⟨v, h3, h4⟩ := atI_rep ra hg
    exact .inl ⟨a, xs, i, v, rfl, q2.int S h2, SqL.of ha, h3, k v G H S (Ext.refl _) h4⟩
  · rename_i ds i
    simp only [Option.map_eq_some_iff] at hg
    obtain ⟨d, hg, rfl⟩ := hg
    obtain ⟨a, xs, rfl, ha, ra⟩ := q1.scr S h1
    obtain ⟨v, h3, h4⟩ := atI_rep ra hg
    exact .inl ⟨a, xs, i, v, rfl, q2.int S h2, ha, h3, k v G H S (Ext.refl _) h4⟩
  · rename_i x i
    split at hg
    · rename_i hx
      simp only [Option.map_eq_some_iff] at hg
      obtain ⟨z, hg, rfl⟩ := hg
      exact .inr (.inr ⟨x, i, z, q1.str S h1, q2.int S h2, hx, hg, k _ G H S (Ext.refl _) (Rep.str _)⟩)
    · cases hg
  · cases hg
theorem z_ix (ha : PE X a (tE (cx X) f)) (hb : PE X b (tE (cx X) f')) (hs : PlainIx b := by exact fun _ _ => rfl) : PE X (.Subscript a b pos) (tE (cx X) (e2 ixD f f')) :=
  pe_imp (pe_ix ix_seq (z_fz ha) (z_fz hb) hs) (t_e2 (sem_ix (c := cx X)))
end

/-! ### slices -/
abbrev Ov := En → Option (Option Int × En)
def tO (c : Ct) (f : Ov) : TO := fun σ H Q => ∃ B G gv ρ b ρ', RS c B G H (σ, gv) ρ ∧ f ρ = some (b, ρ') ∧ ∀ G' H', RS c B G' H' (σ, gv) ρ' → Ext G G' → Q b H'
def oN : Ov := fun ρ => some (none, ρ)
def oS (f : Ev) : Ov := fun ρ => (fz f ρ).bind fun p => (dr p.2 p.1).bind fun d => match d with
  | .int i => some (some i, p.2)
  | _ => none
theorem zo_n : PO X none (tO c oN) := ⟨fun pins s σ H Q I ⟨B, G, gv, ρ, b, ρ', S, hf, k⟩ => by
  cases hf
  exact po_none.run pins s σ H Q I (k G H S (Ext.refl _))⟩
theorem zo_s {f : Ev} (h : PE X e (tE c f)) : PO X (some e) (tO c (oS f)) := ⟨fun pins s σ H Q I ⟨B, G, gv, ρ, b, ρ', S, hf, k⟩ => by
  simp only [oS, Option.bind_eq_some_iff, Prod.exists] at hf
  obtain ⟨r1, ρ1, hf1, d, hd, hf⟩ := hf
  refine (po_some (z_fz h)).run pins s σ H Q I ⟨B, G, gv, ρ, r1, ρ1, S, hf1, fun v G1 H1 S1 x1 q => ?_⟩
  split at hf
  · cases hf
    exact ⟨_, q.int S1 hd, k G1 H1 S1 x1⟩
  · cases hf⟩
def cutD {α : Type} (xs : List α) (lo hi : Option Int) : List α := (xs.drop (HT.sIx xs.length 0 lo)).take (HT.sIx xs.length xs.length hi - HT.sIx xs.length 0 lo)
def dSl (lo hi : Option Int) : D → Option R
  | .tuple ds => some (.v (.tuple (cutD ds lo hi)))
  | .list ds => some (.n (.lst (cutD ds lo hi)))
  | .str x => if x.length ≤ sizeLine then some (.v (.str (cutS x lo hi))) else none
  | _ => none
def eSl (f : Ev) (l h : Ov) : Ev := fun ρ => (fz f ρ).bind fun p => (l p.2).bind fun q => (h q.2).bind fun s => (dr s.2 p.1).bind fun d => (dSl q.1 s.1 d).map fun r => (r, s.2)
theorem RepA.cut {H : Hp} {xs : List V} {ds : List D} (r : RepA c H xs ds) (lo hi : Option Int) : RepA c H (cutV xs lo hi) (cutD ds lo hi) := by
  unfold cutV cutD
  rw [r.length]
  exact (r.drop _).take _
theorem z_sl {f : Ev} {l h : Ov} {lo hi : Option Expr} {p2 : Pos} (ha : PE X e (tE (cx X) f)) (hl : PO X lo (tO (cx X) l)) (hh : PO X hi (tO (cx X) h)) : PE X (.Subscript e (.Slice lo hi none p2) pos) (tE (cx X) (eSl f l h)) := by
  refine pe_imp (pe_slice ((sl_list (X := X)).or ((sl_tupZ (X := X)).or (sl_str (X := X)))) (z_fz ha) hl hh) fun σ H Q ⟨B, G, gv, ρ, r, ρ', S, hf, k⟩ => ?_
  simp only [eSl, Option.bind_eq_some_iff, Option.map_eq_some_iff, Prod.exists, Prod.mk.injEq] at hf
  obtain ⟨r1, ρ1, hf1, o1, ρ2, hf2, o2, ρ3, hf3, d, hd, r2, hg, rfl, rfl⟩ := hf
  refine ⟨B, G, gv, ρ, r1, ρ1, S, hf1, fun v1 G1 H1 S1 x1 q1 => ⟨B, G1, gv, ρ1, o1, ρ2, S1, hf2, fun G2 H2 S2 x2 => ⟨B, G2, gv, ρ2, o2, ρ3, S2, hf3, fun G3 H3 S3 x3 => ?_⟩⟩⟩
  have q3 : RR (cx X) B G3 H3 (σ, gv) ρ3 v1 r1 := q1.on (x2.trans x3) (fz_not hf1)
  have x0 := (x1.trans x2).trans x3
  cases d with
  | tuple ds =>
    cases hg
    obtain ⟨a, xs, rfl, h1, h2⟩ := q3.tuple S3 hd
    refine .inr (.inl ⟨a, xs, rfl, S3.sub.sqT h1.sqT, fun ee => ?_, fun p o hdd hp => k _ _ _ (S3.laidG hp) (x0.trans (Ext.up (S3.fresh hp).1)) (RR.newT S3 hp hdd (h2.cut _ _))⟩)
    have h3 := h2.cut o1 o2
    rw [ee] at h3
    exact k _ G3 H3 S3 x0 (Rep.tup h1 h3)
  | list ds =>
    cases hg
    obtain ⟨a, xs, rfl, h1, h2⟩ := q3.list S3 hd
    exact .inl ⟨a, xs, rfl, SqL.of h1, fun p hp => k _ G3 _ (S3.laid hp) x0 (RR.newL S3 hp (h2.cut _ _))⟩
  | str x =>
    simp only [dSl] at hg
    split at hg
    · rename_i hx
      cases hg
      exact .inr (.inr ⟨x, q3.str S3 hd, hx, k _ G3 H3 S3 x0 (Rep.str _)⟩)
    · cases hg
  | _ => cases hg
end
end Z

set_option Elab.async false
set_option linter.all false
set_option maxRecDepth 100000
/-! Z6: built-in calls, in, dicts, methods, over data. -/
namespace Z
open PySem L2

section
variable {X : Cx} {e a b : Expr} {es : List Expr} {st : Stmt} {sts : List Stmt} {pos : Pos} {c : Ct}
/-! ### isinstance -/
def tyD : D → String
  | .none => "NoneType"
  | .bool _ => "bool"
  | .int _ => "int"
  | .str _ => "str"
  | .tuple _ => "tuple"
  | .list _ => "list"
  | .dict [(.none, .list _)] => "list"
  | .dict [(.bool true, .none)] => "str"
  | .dict _ => "dict"
def isT (T : String) (d : D) : Bool := tyD d == T || (T == "int" && tyD d == "bool")
def tyOk (T : String) : Bool := ["tuple", "list", "dict", "str", "int", "bool"].contains T
theorem tyD_of (d : D) : tyD d = "NoneType" ∨ tyD d = "bool" ∨ tyD d = "int" ∨ tyD d = "str" ∨ tyD d = "tuple" ∨ tyD d = "list" ∨ tyD d = "dict" := by
  unfold tyD; split <;> simp
theorem kit_isT {K : PySem.W.Frag} (d : D) {T : String} (h : tyOk T = true) : PySem.W.kitOne K (.type (tyD d)) (.type T) = some (isT T d) := by
  have hT : T = "tuple" ∨ T = "list" ∨ T = "dict" ∨ T = "str" ∨ T = "int" ∨ T = "bool" := by
    simpa [tyOk] using h
  apply kit_ty
  unfold isT
  rcases tyD_of d with q | q | q | q | q | q | q <;> rw [q] <;> rcases hT with r | r | r | r | r | r <;> rw [r] <;> decide +kernel
/-- a value's class: the layer's, or a dict of nested keys -/
def TyZ (c : Ct) (H : Hp) (v : V) (t : Value) : Prop := TyX c.K H v t ∨ ∃ a xs, v = .ref a ∧ H a = some (dicO c a xs) ∧ t = .type "dict"
theorem rep_ty {H : Hp} {v : V} {d : D} (h : Rep c H v d) : TyZ c H v (.type (tyD d)) := by
  cases h with
  | non => exact .inl (.base .non)
  | bl b => exact .inl (.base (.bl b))
  | int i => exact .inl (.base (.int i))
  | str x => exact .inl (.base (.str x))
  | lst h _ => exact .inl (.base (.lst h))
  | scr h _ =>
    rcases h with (h | ⟨o, h⟩) | ⟨o, its, n, h1, h2, _⟩
    · exact .inl (.base (.lst h))
    · exact .inl (.base (.frz h))
    · exact .inl (.kList h1 h2)
  | txt x => exact .inl (.base (.str x))
  | tup h _ =>
    rcases h with ⟨o, h, _⟩ | ⟨o, its, n, h1, h2, _⟩
    · exact .inl (.fTuple h)
    · exact .inl (.kTuple h1 h2)
  | @dic a xs kvs h _ r =>
    have : tyD (.dict kvs) = "dict" := by
      unfold tyD
      split <;> first | rfl | (rename_i e; cases e; cases r with | cons _ _ h1 _ _ => cases h1) | (rename_i e; cases e)
    rw [this]
    exact .inr ⟨_, _, rfl, h, rfl⟩
  | @dk a xs kvs h r =>
    have : tyD (.dict kvs) = "dict" := by
      unfold tyD
      split <;> first | rfl | (rename_i e; cases e; cases r with | @cons k _ _ _ _ _ h1 _ _ => cases k <;> cases h1) | (rename_i e; cases e)
    rw [this]
    exact .inl (.base (.dK h))
theorem kit_of2 {pins : List (Addr × Obj)} {σ : L2.St} {H : Hp} {s : Shared} {x : V} {u t : Value} (I : Inv X pins σ H s) (rx : RelV x u) (ty : TyZ (cx X) H x t) : ∃ P : Heap → Prop, PySem.W.KitX X.K u t P ∧ P s.heap ∧ u ≠ .builtin "__main__.__loader__#opaque" := by
  rcases ty with ty | ⟨a, xs, rfl, h, rfl⟩
  · exact kit_of I rx ty
  · cases (show u = Value.ref a from rx)
    obtain ⟨⟨_, ys, _, o, es, ep, h1, h2, _⟩, _, _⟩ := I.hok a _ h
    exact ⟨_, PySem.W.kitx_dict, ⟨o, h1, h2.1⟩, fun z => nomatch z⟩
def rIsZ (c : Ct) (T : String) : List V → Hp → VK → Prop := fun xs H Q => ∃ (x : V) (d : D), xs = [x, .ty T] ∧ TyZ c H x (.type (tyD d)) ∧ tyOk T = true ∧ Q (.bl (isT T d)) H
theorem call_isZ {T : String} : CallR X (.builtin "isinstance") (rIsZ (cx X) T) := by
  intro pins s σ H xs us Q I r h
  obtain ⟨x, d, rfl, ty, hT, q⟩ := h
  obtain ⟨u1, u2, rfl, r1, r2⟩ := vals2 r
  obtain rfl : u2 = Value.type T := r2
  obtain ⟨P, Z, p, hx⟩ := kit_of2 I r1 ty
  exact PySem.W.kia_one Z I.kIn p (kit_isT d hT) hx fun tk => ⟨.bl _, H, I.tok tk, rfl, q⟩
def eIs (T : String) (f : Ev) : Ev := fun ρ => (fz f ρ).bind fun p => (dr p.2 p.1).map fun d => (.v (.bool (isT T d)), p.2)
theorem z_isi {f : Ev} {T : String} {x : Str} {p p2 : Pos} (hT : tyOk T = true) (hg : Gl X "isinstance") (hm : X.mg "isinstance" = none) (hgT : Gl X x) (hmT : X.mg x = none) (hvT : bootBuiltins x = some (.type T)) (ha : PE X e (tE (cx X) f))
    (hnT : x ≠ "__name__" := by decide) (hdT : (x == ("__debug__" : Str)) = false := by decide)
    (he : starEach (e :: [.Name x p2]) X.env = (false, eval e X.env) :: starEach [.Name x p2] X.env := by rfl) (hpl : (backTo pos (starEach [.Name x p2] X.env)).any (·.1) = false := by rfl)
    (he2 : starEach [.Name x p2] X.env = (false, eval (.Name x p2) X.env) :: starEach [] X.env := by rfl) : PE X (.Call (.Name "isinstance" p) [e, .Name x p2] [] pos) (tE (cx X) (eIs T f)) := by
  refine pe_imp (pe_callB (call_isZ (T := T)) hg hm (by decide +kernel) (pa_cons (z_fz ha) (pa_cons (pe_bltn (v := .ty T) hgT hmT hvT rfl hnT hdT) pa_nil he2) he) (by decide) (by decide) he hpl) fun σ H Q ⟨B, G, gv, ρ, r, ρ', S, hf, k⟩ => ?_
  simp only [eIs, Option.bind_eq_some_iff, Option.map_eq_some_iff, Prod.exists, Prod.mk.injEq] at hf
  obtain ⟨r1, ρ1, hf1, d, hd, rfl, rfl⟩ := hf
  exact ⟨B, G, gv, ρ, r1, ρ1, S, hf1, fun v G1 H1 S1 x1 q => ⟨v, d, rfl, rep_ty (c := cx X) (q.rep S1 hd), hT, k _ G1 H1 S1 x1 (Rep.bl _)⟩⟩

/-! ### len, max, min, int, tuple, list, all, any -/
def dLen : List D → Option R
  | [.list ds] => some (.v (.int (ds.length : Nat)))
  | [.tuple ds] => some (.v (.int (ds.length : Nat)))
  | [.dict [(.none, .list ds)]] => some (.v (.int (ds.length : Nat)))
  | [.str x] => if x.length ≤ sizeLine then some (.v (.int (x.length : Nat))) else none
  | _ => none
theorem RRs.one {B : Bs} {G H : Hp} {σ : St2} {ρ : En} {vs : List V} {r : R} (q : RRs c B G H σ ρ vs [r]) : ∃ v, vs = [v] ∧ RR c B G H σ ρ v r := by
  cases q with
  | cons q1 q2 => cases q2; exact ⟨_, rfl, q1.1⟩
theorem RRs.two {B : Bs} {G H : Hp} {σ : St2} {ρ : En} {vs : List V} {r r' : R} (q : RRs c B G H σ ρ vs [r, r']) : ∃ v v', vs = [v, v'] ∧ RR c B G H σ ρ v r ∧ RR c B G H σ ρ v' r' := by
  cases q with
  | cons q1 q2 =>
    cases q2 with
    | cons q2 q3 => cases q3; exact ⟨_, _, rfl, q1.1, q2.1⟩
theorem sem_len : SemC c (fun xs H Q => ∃ x n, xs = [x] ∧ LenV c.K x H n ∧ Q (.int n) H) dLen := by
  intro B G H σ ρ rs vs ds r Q S q hd hg k
  have done : ∀ {d : D} {n : Nat}, ds = [d] → (∀ v r1, RR c B G H σ ρ v r1 → dr ρ r1 = some d → LenV c.K v H n) → r = .v (.int (n : Nat)) → ∃ x n, vs = [x] ∧ LenV c.K x H n ∧ Q (.int n) H := fun {d n} e1 hl e2 => by
    subst e1 e2
    obtain ⟨r1, rfl, h1⟩ := drs1 hd
    obtain ⟨v, rfl, q1⟩ := q.one
    exact ⟨v, n, rfl, hl v r1 q1 h1, k _ G H S (Ext.refl _) (Rep.int _)⟩
  unfold dLen at hg
  split at hg
  · cases hg
    exact done rfl (fun v r1 q1 h1 => by obtain ⟨a, xs, rfl, h2, h3⟩ := q1.list S h1; exact .inl ⟨xs, SqL.of h2, by rw [h3.length]⟩) rfl
  · cases hg
    exact done rfl (fun v r1 q1 h1 => by obtain ⟨a, xs, rfl, h2, h3⟩ := q1.tuple S h1; exact .inr ⟨xs, S.sub.sqT h2.sqT, by rw [h3.length]⟩) rfl
  · cases hg
    exact done rfl (fun v r1 q1 h1 => by obtain ⟨a, xs, rfl, h2, h3⟩ := q1.scr S h1; exact .inl ⟨xs, h2, by rw [h3.length]⟩) rfl
  · split at hg
    · rename_i hx
      cases hg
      exact done rfl (fun v r1 q1 h1 => by rw [q1.str S h1]; exact ⟨hx, rfl⟩) rfl
    · cases hg
  · cases hg
section
variable {x : Str} {p : Pos} {f : Av}
theorem z_len (hg : Gl X "len") (hm : X.mg "len" = none) (ha : PA X (e :: es) (tA (cx X) f))
    (he : starEach (e :: es) X.env = (false, eval e X.env) :: starEach es X.env := by rfl) (hpl : (backTo pos (starEach es X.env)).any (·.1) = false := by rfl) : PE X (.Call (.Name "len" p) (e :: es) [] pos) (tE (cx X) (eC dLen f)) :=
  z_callB call_len (sem_len (c := cx X)) hg hm (by decide +kernel) ha (by decide) (by decide) he hpl
def dMax2 : List D → Option R
  | [.int i, .int j] => some (.v (.int (if j > i then j else i)))
  | _ => none
def dMin2 : List D → Option R
  | [.int i, .int j] => some (.v (.int (if j < i then j else i)))
  | _ => none
theorem sem_max2 : SemC c (fun xs H Q => ∃ i j, xs = [.int i, .int j] ∧ Q (.int (if j > i then j else i)) H) dMax2 := by
  intro B G H σ ρ rs vs ds r Q S q hd hg k
  unfold dMax2 at hg
  split at hg
  · cases hg
    obtain ⟨r1, r2, rfl, h1, h2⟩ := drs2 hd
    obtain ⟨v, v', rfl, q1, q2⟩ := q.two
    exact ⟨_, _, by rw [q1.int S h1, q2.int S h2], k _ G H S (Ext.refl _) (Rep.int _)⟩
  · cases hg
theorem sem_min2 : SemC c (fun xs H Q => ∃ i j, xs = [.int i, .int j] ∧ Q (.int (if j < i then j else i)) H) dMin2 := by
  intro B G H σ ρ rs vs ds r Q S q hd hg k
  unfold dMin2 at hg
  split at hg
  · cases hg
    obtain ⟨r1, r2, rfl, h1, h2⟩ := drs2 hd
    obtain ⟨v, v', rfl, q1, q2⟩ := q.two
    exact ⟨_, _, by rw [q1.int S h1, q2.int S h2], k _ G H S (Ext.refl _) (Rep.int _)⟩
  · cases hg
theorem z_max2 (hc : X.calm = true) (hg : Gl X "max") (hm : X.mg "max" = none) (ha : PA X (e :: es) (tA (cx X) f))
    (he : starEach (e :: es) X.env = (false, eval e X.env) :: starEach es X.env := by rfl) (hpl : (backTo pos (starEach es X.env)).any (·.1) = false := by rfl) : PE X (.Call (.Name "max" p) (e :: es) [] pos) (tE (cx X) (eC dMax2 f)) :=
  z_callB (call_max2 hc) (sem_max2 (c := cx X)) hg hm (by decide +kernel) ha (by decide) (by decide) he hpl
theorem z_min2 (hc : X.calm = true) (hg : Gl X "min") (hm : X.mg "min" = none) (ha : PA X (e :: es) (tA (cx X) f))
    (he : starEach (e :: es) X.env = (false, eval e X.env) :: starEach es X.env := by rfl) (hpl : (backTo pos (starEach es X.env)).any (·.1) = false := by rfl) : PE X (.Call (.Name "min" p) (e :: es) [] pos) (tE (cx X) (eC dMin2 f)) :=
  z_callB (call_min2 hc) (sem_min2 (c := cx X)) hg hm (by decide +kernel) ha (by decide) (by decide) he hpl
def dInt : List D → Option R
  | [.int i] => some (.v (.int i))
  | [.bool k] => some (.v (.int (if k then 1 else 0)))
  | _ => none
theorem sem_int : SemC c (fun xs H Q => (∃ i, xs = [.int i] ∧ Q (.int i) H) ∨ ∃ k, xs = [.bl k] ∧ Q (.int (if k then 1 else 0)) H) dInt := by
  intro B G H σ ρ rs vs ds r Q S q hd hg k
  unfold dInt at hg
  split at hg
  · cases hg
    obtain ⟨r1, rfl, h1⟩ := drs1 hd
    obtain ⟨v, rfl, q1⟩ := q.one
    exact .inl ⟨_, by rw [q1.int S h1], k _ G H S (Ext.refl _) (Rep.int _)⟩
  · cases hg
    obtain ⟨r1, rfl, h1⟩ := drs1 hd
    obtain ⟨v, rfl, q1⟩ := q.one
    exact .inr ⟨_, by rw [q1.bool S h1], k _ G H S (Ext.refl _) (Rep.int _)⟩
  · cases hg
theorem z_int1 (hg : Gl X "int") (hm : X.mg "int" = none) (ha : PA X (e :: es) (tA (cx X) f))
    (he : starEach (e :: es) X.env = (false, eval e X.env) :: starEach es X.env := by rfl) (hpl : (backTo pos (starEach es X.env)).any (·.1) = false := by rfl) : PE X (.Call (.Name "int" p) (e :: es) [] pos) (tE (cx X) (eC dInt f)) :=
  z_callTy call_int1 (sem_int (c := cx X)) hg hm (by decide +kernel) ha (by decide) (by decide) he hpl
def dTup : List D → Option R
  | [.list ds] => some (.v (.tuple ds))
  | [.tuple ds] => some (.v (.tuple ds))
  | _ => none
theorem sem_tup : SemC c (rTupOf c.K) dTup := by
  intro B G H σ ρ rs vs ds r Q S q hd hg k
  unfold dTup at hg
  split at hg
  · cases hg
    obtain ⟨r1, rfl, h1⟩ := drs1 hd
    obtain ⟨v, rfl, q1⟩ := q.one
    obtain ⟨a, xs, rfl, h2, h3⟩ := q1.list S h1
    exact ⟨a, xs, rfl, .inl ⟨SqL.of h2, fun p o hdd hp => k _ _ _ (S.laidG hp) (Ext.up (S.fresh hp).1) (RR.newT S hp hdd h3)⟩⟩
  · cases hg
    obtain ⟨r1, rfl, h1⟩ := drs1 hd
    obtain ⟨v, rfl, q1⟩ := q.one
    obtain ⟨a, xs, rfl, h2, h3⟩ := q1.tuple S h1
    exact ⟨a, xs, rfl, .inr ⟨S.sub.sqT h2.sqT, k _ G H S (Ext.refl _) (Rep.tup h2 h3)⟩⟩
  · cases hg
theorem z_tuple (hg : Gl X "tuple") (hm : X.mg "tuple" = none) (ha : PA X (e :: es) (tA (cx X) f))
    (he : starEach (e :: es) X.env = (false, eval e X.env) :: starEach es X.env := by rfl) (hpl : (backTo pos (starEach es X.env)).any (·.1) = false := by rfl) : PE X (.Call (.Name "tuple" p) (e :: es) [] pos) (tE (cx X) (eC dTup f)) :=
  z_callTy call_tupleZ (sem_tup (c := cx X)) hg hm (by decide +kernel) ha (by decide) (by decide) he hpl
def dList : List D → Option R
  | [.list ds] => some (.n (.lst ds))
  | [.tuple ds] => some (.n (.lst ds))
  | _ => none
theorem sem_list : SemC c (fun xs H Q => ∃ p ys, xs = [V.ref p] ∧ (SqL c.K H p ys ∨ SqT c.K H p ys) ∧ ∀ (l : Addr), H l = none → Q (V.ref l) (upd H l (HO.lst ys))) dList := by
  intro B G H σ ρ rs vs ds r Q S q hd hg k
  unfold dList at hg
  split at hg
  · cases hg
    obtain ⟨r1, rfl, h1⟩ := drs1 hd
    obtain ⟨v, rfl, q1⟩ := q.one
    obtain ⟨a, xs, rfl, h2, h3⟩ := q1.list S h1
    exact ⟨a, xs, rfl, .inl (SqL.of h2), fun p hp => k _ G _ (S.laid hp) (Ext.refl _) (RR.newL S hp h3)⟩
  · cases hg
    obtain ⟨r1, rfl, h1⟩ := drs1 hd
    obtain ⟨v, rfl, q1⟩ := q.one
    obtain ⟨a, xs, rfl, h2, h3⟩ := q1.tuple S h1
    exact ⟨a, xs, rfl, .inr (S.sub.sqT h2.sqT), fun p hp => k _ G _ (S.laid hp) (Ext.refl _) (RR.newL S hp h3)⟩
  · cases hg
theorem z_list (hg : Gl X "list") (hm : X.mg "list" = none) (ha : PA X (e :: es) (tA (cx X) f))
    (he : starEach (e :: es) X.env = (false, eval e X.env) :: starEach es X.env := by rfl) (hpl : (backTo pos (starEach es X.env)).any (·.1) = false := by rfl) : PE X (.Call (.Name "list" p) (e :: es) [] pos) (tE (cx X) (eC dList f)) :=
  z_callTy call_list_of (sem_list (c := cx X)) hg hm (by decide +kernel) ha (by decide) (by decide) he hpl
/-- a list of truths -/
def bools : List D → Option (List Bool)
  | [] => some []
  | .bool k :: ds => (bools ds).map (k :: ·)
  | _ => none
theorem bools_rep {H : Hp} : ∀ {ds : List D} {xs : List V} {bs : List Bool}, RepA c H xs ds → bools ds = some bs → xs = bs.map V.bl
  | [], _, _, .nil, e => by cases e; rfl
  | d :: ds, _, _, .cons h r, e => by
    cases d <;> try (cases e; done)
    simp only [bools, Option.map_eq_some_iff] at e
    obtain ⟨bs, e1, rfl⟩ := e
    cases h
    rw [List.map_cons, ← bools_rep r e1]
def dAll : List D → Option R
  | [.list ds] => (bools ds).map fun bs => .v (.bool (bs.all id))
  | _ => none
def dAny : List D → Option R
  | [.list ds] => (bools ds).map fun bs => .v (.bool (bs.any id))
  | _ => none
theorem sem_all : SemC c (rAll c.K) dAll := by
  intro B G H σ ρ rs vs ds r Q S q hd hg k
  unfold dAll at hg
  split at hg
  · simp only [Option.map_eq_some_iff] at hg
    obtain ⟨bs, h, rfl⟩ := hg
    obtain ⟨r1, rfl, h1⟩ := drs1 hd
    obtain ⟨v, rfl, q1⟩ := q.one
    obtain ⟨a, xs, rfl, h2, h3⟩ := q1.list S h1
    exact ⟨a, bs, rfl, by rw [← bools_rep h3 h]; exact SqL.of h2, k _ G H S (Ext.refl _) (Rep.bl _)⟩
  · cases hg
theorem sem_any : SemC c (rAny c.K) dAny := by
  intro B G H σ ρ rs vs ds r Q S q hd hg k
  unfold dAny at hg
  split at hg
  · simp only [Option.map_eq_some_iff] at hg
    obtain ⟨bs, h, rfl⟩ := hg
    obtain ⟨r1, rfl, h1⟩ := drs1 hd
    obtain ⟨v, rfl, q1⟩ := q.one
    obtain ⟨a, xs, rfl, h2, h3⟩ := q1.list S h1
    exact ⟨a, bs, rfl, by rw [← bools_rep h3 h]; exact SqL.of h2, k _ G H S (Ext.refl _) (Rep.bl _)⟩
  · cases hg
theorem z_all (hc : X.calm = true) (hg : Gl X "all") (hm : X.mg "all" = none) (ha : PA X (e :: es) (tA (cx X) f))
    (he : starEach (e :: es) X.env = (false, eval e X.env) :: starEach es X.env := by rfl) (hpl : (backTo pos (starEach es X.env)).any (·.1) = false := by rfl) : PE X (.Call (.Name "all" p) (e :: es) [] pos) (tE (cx X) (eC dAll f)) :=
  z_callB (cr_all hc) (sem_all (c := cx X)) hg hm (by decide +kernel) ha (by decide) (by decide) he hpl
theorem z_any (hc : X.calm = true) (hg : Gl X "any") (hm : X.mg "any" = none) (ha : PA X (e :: es) (tA (cx X) f))
    (he : starEach (e :: es) X.env = (false, eval e X.env) :: starEach es X.env := by rfl) (hpl : (backTo pos (starEach es X.env)).any (·.1) = false := by rfl) : PE X (.Call (.Name "any" p) (e :: es) [] pos) (tE (cx X) (eC dAny f)) :=
  z_callB (cr_any hc) (sem_any (c := cx X)) hg hm (by decide +kernel) ha (by decide) (by decide) he hpl
end

/-! ### in a list, in a tuple -/
def inD : D → D → Option Bool
  | d, .list ds => if (SeqAt.shaped d && PyData.canLayAll0 ds) = true then some (ds.any fun z => PyData.eqv z d) else none
  | d, .tuple ds => if (SeqAt.shaped d && PyData.canLayAll0 ds) = true then some (ds.any fun z => PyData.eqv z d) else none
  | _, _ => none
def dIn (d d' : D) : Option R := (inD d d').map fun k => .v (.bool k)
def dNotIn (d d' : D) : Option R := (inD d d').map fun k => .v (.bool (!k))
def rInZ (K : PySem.W.Frag) (g : Bool → Bool) : R2 := fun x y H Q => ∃ d ds, Dp K H x d ∧ (Dp K H y (.list ds) ∨ Dp K H y (.tuple ds)) ∧ SeqAt.shaped d = true ∧ PyData.canLayAll0 ds = true ∧ Q (.bl (g (ds.any fun z => PyData.eqv z d))) H
theorem room_in_shaped1 {A : Around} {ds : List D} {d : D} (h : SeqAt.shaped d = true) (hu : A.units + 65 < cLine) : A.units + 1 + min (PyData.depthAll ds) d.depth < cLine := by
  have h1 := SeqAt.depth_of_shaped h
  have h2 : min (PyData.depthAll ds) d.depth ≤ d.depth := Nat.min_le_right _ _
  omega
theorem op_inZ (hu : Hu X) : OpR X (compareOp .In) (rInZ X.K id) := by
  intro pins s σ H x y v u Q I rx ry h
  obtain ⟨d, ds, hd, he, sd, se, q⟩ := h
  have hu' : X.A.units + 65 < cLine := by have : X.A.units + 150 < cLine := hu; omega
  obtain ⟨as, r1⟩ := Dp.reads I d x v hd rx
  rcases he with he | he
  · obtain ⟨bs, r2⟩ := Dp.reads I (.list ds) y u he ry
    exact SeqAt.in_list_reads r2 r1 se (SeqAt.canLay_of_shaped sd) (room_in_shaped1 sd hu') ⟨.bl _, H, I, rfl, q⟩
  · obtain ⟨bs, r2⟩ := Dp.reads I (.tuple ds) y u he ry
    exact SeqAt.in_tuple_reads r2 r1 se (SeqAt.canLay_of_shaped sd) (room_in_shaped1 sd hu') ⟨.bl _, H, I, rfl, q⟩
theorem op_notInZ (hu : Hu X) : OpR X (compareOp .NotIn) (rInZ X.K not) := by
  intro pins s σ H x y v u Q I rx ry h
  obtain ⟨d, ds, hd, he, sd, se, q⟩ := h
  have hu' : X.A.units + 65 < cLine := by have : X.A.units + 150 < cLine := hu; omega
  obtain ⟨as, r1⟩ := Dp.reads I d x v hd rx
  rcases he with he | he
  · obtain ⟨bs, r2⟩ := Dp.reads I (.list ds) y u he ry
    exact SeqAt.notIn_list_reads r2 r1 se (SeqAt.canLay_of_shaped sd) (room_in_shaped1 sd hu') ⟨.bl _, H, I, rfl, q⟩
  · obtain ⟨bs, r2⟩ := Dp.reads I (.tuple ds) y u he ry
    exact SeqAt.notIn_tuple_reads r2 r1 se (SeqAt.canLay_of_shaped sd) (room_in_shaped1 sd hu') ⟨.bl _, H, I, rfl, q⟩
theorem in_cases {B : Bs} {G H : Hp} {σ : St2} {ρ : En} {r1 r2 : R} {v1 v2 : V} {d1 d2 : D} {k : Bool} (S : RS c B G H σ ρ) (q1 : RR c B G H σ ρ v1 r1) (h1 : dr ρ r1 = some d1) (q2 : RR c B G H σ ρ v2 r2) (h2 : dr ρ r2 = some d2) (hg : inD d1 d2 = some k) :
    ∃ ds, Dp c.K H v1 d1 ∧ (Dp c.K H v2 (.list ds) ∨ Dp c.K H v2 (.tuple ds)) ∧ SeqAt.shaped d1 = true ∧ PyData.canLayAll0 ds = true ∧ (ds.any fun z => PyData.eqv z d1) = k := by
  unfold inD at hg
  split at hg
  · split at hg
    · rename_i hs
      cases hg
      rw [Bool.and_eq_true] at hs
      exact ⟨_, q1.deep S h1 hs.1, .inl ((q2.rep S h2).dp (by rw [PyData.canLay0]; exact hs.2)), hs.1, hs.2, rfl⟩
    · cases hg
  · split at hg
    · rename_i hs
      cases hg
      rw [Bool.and_eq_true] at hs
      exact ⟨_, q1.deep S h1 hs.1, .inr ((q2.rep S h2).dp (by rw [PyData.canLay0]; exact hs.2)), hs.1, hs.2, rfl⟩
    · cases hg
  · cases hg
theorem sem_in : Sem2 c (rInZ c.K id) dIn := by
  intro B G H σ ρ r1 r2 v1 v2 d1 d2 r Q S q1 h1 q2 h2 hg k
  simp only [dIn, Option.map_eq_some_iff] at hg
  obtain ⟨b, hg, rfl⟩ := hg
  obtain ⟨ds, z1, z2, z3, z4, z5⟩ := in_cases S q1 h1 q2 h2 hg
  exact ⟨_, ds, z1, z2, z3, z4, by rw [z5]; exact k _ G H S (Ext.refl _) (Rep.bl _)⟩
theorem sem_notIn : Sem2 c (rInZ c.K not) dNotIn := by
  intro B G H σ ρ r1 r2 v1 v2 d1 d2 r Q S q1 h1 q2 h2 hg k
  simp only [dNotIn, Option.map_eq_some_iff] at hg
  obtain ⟨b, hg, rfl⟩ := hg
  obtain ⟨ds, z1, z2, z3, z4, z5⟩ := in_cases S q1 h1 q2 h2 hg
  exact ⟨_, ds, z1, z2, z3, z4, by rw [z5]; exact k _ G H S (Ext.refl _) (Rep.bl _)⟩
section
variable {f f' : Ev}
theorem z_in (hu : Hu X) (ha : PE X a (tE (cx X) f)) (hb : PE X b (tE (cx X) f')) (hm : behindInMarks .In b = false := by first | rfl | with_unfolding_all rfl) : PE X (.Compare a [.In] [b] pos) (tE (cx X) (e2 dIn f f')) := z_cmp (op_inZ hu) (sem_in (c := cx X)) ha hb hm
theorem z_notIn (hu : Hu X) (ha : PE X a (tE (cx X) f)) (hb : PE X b (tE (cx X) f')) (hm : behindInMarks .NotIn b = false := by first | rfl | with_unfolding_all rfl) : PE X (.Compare a [.NotIn] [b] pos) (tE (cx X) (e2 dNotIn f f')) := z_cmp (op_notInZ hu) (sem_notIn (c := cx X)) ha hb hm
theorem zt_in (hu : Hu X) (ha : PE X a (tE (cx X) f)) (hb : PE X b (tE (cx X) f')) (hm : behindInMarks .In b = false := by first | rfl | with_unfolding_all rfl) : PT X (.Compare a [.In] [b] pos) (tT (cx X) (tb (e2 dIn f f'))) := z_tcmp (op_inZ hu) (sem_in (c := cx X)) ha hb hm
theorem zt_notIn (hu : Hu X) (ha : PE X a (tE (cx X) f)) (hb : PE X b (tE (cx X) f')) (hm : behindInMarks .NotIn b = false := by first | rfl | with_unfolding_all rfl) : PT X (.Compare a [.NotIn] [b] pos) (tT (cx X) (tb (e2 dNotIn f f'))) := z_tcmp (op_notInZ hu) (sem_notIn (c := cx X)) ha hb hm
end

/-! ### a store into one's own list -/
def sSt (f0 fi fv : Ev) : Sv := fun ρ => (fz fv ρ).bind fun p => (f0 p.2).bind fun q => (fz fi q.2).bind fun s => match p.1, q.1, dr s.2 s.1 with
  | .v d, .s j, some (.int i) => match s.2[j]? with
    | some (.own (.lst ds)) => (ixN ds.length i).map fun k => (.nx, s.2.set j (.own (.lst (ds.set k d))))
    | _ => none
  | _, _, _ => none
theorem z_store {o i v : Expr} {f0 fi fv : Ev} {tpos : Pos} (ho : PE X o (tE c f0)) (hi : PE X i (tE c fi)) (hv : PE X v (tE c fv))
    (ha : ∀ u, assign (.Subscript o i tpos) X.env u = (do
      let ov ← holding [u] (eval o X.env)
      let iv ← holding [u, ov] (eval i X.env)
      standAt tpos
      holding [u, ov, iv] (setItem ov iv u)
      release [u, ov, iv] []) := by intro _; rfl)
    (hs : swapsWithSole [.Subscript o i tpos] v pos.line X.env = pure false := by rfl) (hw : swappedStores [.Subscript o i tpos] v X.env = pure none := by rfl)
    (h1 : (assignEach [.Subscript o i tpos] X.env).map (·.2) = [assign (.Subscript o i tpos) X.env] := by rfl) : PS X (.Assign [.Subscript o i tpos] v pos) (tS c (sSt f0 fi fv)) := by
  refine ps_imp (ps_asg (z_fz hv) (pg_sub ho (z_fz hi) set_list ha) hs hw h1) fun D σ H hlen ⟨B, G, gv, ρ, oo, ρ', S, hf, k⟩ => ?_
  simp only [sSt, Option.bind_eq_some_iff, Prod.exists] at hf
  obtain ⟨r1, ρ1, hf1, r2, ρ2, hf2, r3, ρ3, hf3, hf⟩ := hf
  split at hf
  · rename_i d j ii e1
    split at hf
    · rename_i ds e2
      simp only [Option.map_eq_some_iff, Prod.mk.injEq] at hf
      obtain ⟨kk, hk, rfl, rfl⟩ := hf
      refine ⟨B, G, gv, ρ, _, ρ1, S, hf1, fun v1 G1 H1 S1 x1 q1 => ⟨B, G1, gv, ρ1, _, ρ2, S1, hf2, fun v2 G2 H2 S2 x2 q2 => ⟨B, G2, gv, ρ2, _, ρ3, S2, hf3, fun v3 G3 H3 S3 x3 q3 => ?_⟩⟩⟩
      obtain ⟨a, g1, g2, g3, xs, g4, g5⟩ := S3.ownSome e2
      have g0 : St2.get (σ, gv) j = some v2 := q2
      rw [g1] at g0; cases g0
      have q1' : Rep c G3 v1 d := (Rep.ext (x2.trans x3) q1)
      refine ⟨a, xs, ii, kk, rfl, q3.int S3 e1, g4, by rw [g5.length]; exact hk, ?_⟩
      exact k σ G3 _ (S3.mut (o := .lst (xs.set kk v1)) e2 g1 ⟨_, upd_same, g5.set q1' kk⟩) ((x1.trans x2).trans x3)
    · cases hf
  · cases hf

/-! ### methods that change one's own thing -/
def SemMM (c : Ct) (rr : V → List V → Hp → VK → Prop) (g : MO → List D → Option (MO × D)) : Prop := ∀ {B : Bs} {G H : Hp} {σ : St2} {ρ : En} {j : Nat} {a : Addr} {m m' : MO} {vs : List V} {ds : List D} {d : D} (Q : VK), RS c B G H σ ρ → ρ[j]? = some (.own m) → σ.get j = some (.ref a) → MOk c G H a m → RepA c G vs ds → g m ds = some (m', d) →
  (∀ v G' H', RS c B G' H' σ (ρ.set j (.own m')) → Ext G G' → Rep c G' v d → Q v H') → rr (.ref a) vs H Q
def isList : MO → Bool
  | .lst _ => true
  | _ => false
def eMM (g : MO → List D → Option (MO × D)) (f0 : Ev) (fa : Av) : Ev := fun ρ => (f0 ρ).bind fun p => match p.1 with
  | .s j => match p.2[j]? with
    | some (.own (.lst _)) => (fa p.2).bind fun q => (vals q.1).bind fun ds => match q.2[j]? with
      | some (.own m) => (g m ds).map fun w => (.v w.2, q.2.set j (.own w.1))
      | _ => none
    | _ => none
  | _ => none
theorem t_eMM {rr : V → List V → Hp → VK → Prop} {g : MO → List D → Option (MO × D)} {f0 : Ev} {fa : Av} (hs : SemMM c rr g) : ∀ σ H Q, tE c (eMM g f0 fa) σ H Q → tBM c.K "list" rr (tE c f0) (tA c fa) σ H Q := by
  rintro σ H Q ⟨B, G, gv, ρ, r, ρ', S, hf, k⟩
  simp only [eMM, Option.bind_eq_some_iff, Prod.exists] at hf
  obtain ⟨r1, ρ1, hf1, hf⟩ := hf
  cases r1 with
  | v d => cases hf
  | n m => cases hf
  | s j =>
    dsimp only at hf
    split at hf
    · rename_i es0 e0
      simp only [Option.bind_eq_some_iff, Prod.exists] at hf
      obtain ⟨rs, ρ2, hf2, ds, hv, hf⟩ := hf
      split at hf
      · rename_i m e
        simp only [Option.map_eq_some_iff, Prod.exists, Prod.mk.injEq] at hf
        obtain ⟨m', d, hg, rfl, rfl⟩ := hf
        refine ⟨B, G, gv, ρ, _, ρ1, S, hf1, fun v1 G1 H1 S1 x1 q1 => ?_⟩
        have g0 : St2.get (σ, gv) j = some v1 := q1
        obtain ⟨a0, k1, _, _, ys, k4, _⟩ := S1.ownSome e0
        rw [g0] at k1; cases k1
        refine ⟨.inl ⟨rfl, ys, SqL.of k4⟩, B, G1, gv, ρ1, rs, ρ2, S1, hf2, fun vs G2 H2 S2 x2 q2 => ?_⟩
        obtain ⟨a, g1, g2, g3, g4⟩ := S2.ownSome e
        rw [g0] at g1; cases g1
        exact hs Q S2 e g0 g4 (vals_rep q2 hv) hg fun v G' H' S' x q => k v G' H' S' ((x1.trans x2).trans x) q
      · cases hf
    · cases hf
/-- a method of no argument -/
def eMM0 (g : MO → List D → Option (MO × D)) (f0 : Ev) : Ev := fun ρ => (f0 ρ).bind fun p => match p.1 with
  | .s j => match p.2[j]? with
    | some (.own (.lst es)) => (g (.lst es) []).map fun w => (.v w.2, p.2.set j (.own w.1))
    | _ => none
  | _ => none
theorem t_eMM0 {rr : V → List V → Hp → VK → Prop} {g : MO → List D → Option (MO × D)} {f0 : Ev} (hs : SemMM c rr g) : ∀ σ H Q, tE c (eMM0 g f0) σ H Q → tBM0 c.K "list" rr (tE c f0) σ H Q := by
  rintro σ H Q ⟨B, G, gv, ρ, r, ρ', S, hf, k⟩
  simp only [eMM0, Option.bind_eq_some_iff, Prod.exists] at hf
  obtain ⟨r1, ρ1, hf1, hf⟩ := hf
  cases r1 with
  | v d => cases hf
  | n m => cases hf
  | s j =>
    dsimp only at hf
    split at hf
    · rename_i es0 e0
      simp only [Option.map_eq_some_iff, Prod.exists, Prod.mk.injEq] at hf
      obtain ⟨m', d, hg, rfl, rfl⟩ := hf
      refine ⟨B, G, gv, ρ, _, ρ1, S, hf1, fun v1 G1 H1 S1 x1 q1 => ?_⟩
      have g0 : St2.get (σ, gv) j = some v1 := q1
      obtain ⟨a0, k1, k2, k3, k4⟩ := S1.ownSome e0
      rw [g0] at k1; cases k1
      refine ⟨?_, hs Q S1 e0 g0 k4 .nil hg fun v G' H' S' x q => k v G' H' S' (x1.trans x) q⟩
      obtain ⟨ys, k5, _⟩ := k4
      exact .inl ⟨rfl, ys, SqL.of k5⟩
    · cases hf
section
variable {o : Expr} {f0 : Ev} {fa : Av} {apos cpos : Pos}
def mAppend : MO → List D → Option (MO × D)
  | .lst ds, [d] => if ds.length < sizeLine then some (.lst (ds ++ [d]), .none) else none
  | _, _ => none
theorem sem_append : SemMM c rAppend mAppend := by
  intro B G H σ ρ j a m m' vs ds d Q S e g hm hr hg k
  unfold mAppend at hg
  split at hg
  · split at hg
    · rename_i ds1 d1 hz
      cases hg
      obtain ⟨xs, h1, h2⟩ := hm
      cases hr with
      | cons q1 q2 =>
        cases q2
        exact ⟨a, xs, _, rfl, rfl, h1, by rw [h2.length]; exact hz, k _ G _ (S.mut (o := .lst (xs ++ [_])) e g ⟨_, upd_same, h2.app (.cons q1 .nil)⟩) (Ext.refl _) .non⟩
    · cases hg
  · cases hg
theorem z_append (ho : PE X o (tE (cx X) f0)) (ha : PA X (e :: es) (tA (cx X) fa)) (hbase : attributeBase o "append" X.env (eval o X.env) = eval o X.env := by rfl)
    (hfew : ((backTo cpos (starEach (e :: es) X.env)).all (fun x => !x.1) && (backToKw cpos (keywordEach [] X.env)).all (fun x => x.1.isSome)
      && decide ((e :: es).length + ([] : List Keyword).length + (if ([] : List Keyword).isEmpty then 0 else 1) < 30)) = true := by rfl)
    (hline : (apos.endLine == cpos.line) = true := by rfl) (hs : starEach (e :: es) X.env = (false, eval e X.env) :: starEach es X.env := by rfl) (hplain : (backTo cpos (starEach es X.env)).any (·.1) = false := by rfl) :
    PE X (.Call (.Attribute o "append" apos) (e :: es) [] cpos) (tE (cx X) (eMM mAppend f0 fa)) :=
  pe_imp (pe_bm PySem.F.plainAttrs_list PySem.F.slot_list_append PySem.F.type_list_append (fun pins s σ H x xs v us Q I rx rv h => mt_append pins s σ H x xs v us Q I rx rv h) ho ha hbase hfew hline hs hplain) (t_eMM (sem_append (c := cx X)))
end
end
end Z

set_option Elab.async false
set_option linter.all false
set_option maxRecDepth 100000
/-! Z7: dict displays, get, the text of a small tuple. -/
namespace Z
open PySem L2

section
variable {X : Cx} {e a b : Expr} {es : List Expr} {st : Stmt} {sts : List Stmt} {pos : Pos} {c : Ct}
/-! ### {"k": v, ..} -/
def pairsE : List (Str × Ev) → En → Option (List (Str × D) × En)
  | [], ρ => some ([], ρ)
  | (k, f) :: r, ρ => (fz f ρ).bind fun p => match p.1 with
    | .v d => (pairsE r p.2).map fun q => ((k, d) :: q.1, q.2)
    | _ => none
def eDk (kfs : List (Str × Ev)) : Ev := fun ρ => (pairsE kfs ρ).bind fun p => if (p.1.map (·.1)).Nodup ∧ p.1.length ≤ 15 then some (.n (.dk (p.1.map fun q => (.str q.1, q.2))), p.2) else none
theorem t_pairs {B : Bs} {gv : List V} {σ : L2.St} : ∀ {kfs : List (Str × Ev)} {G H : Hp} {ρ ρ' : En} {ps : List (Str × D)} {Q : List (V × V) → Hp → Prop}, RS c B G H (σ, gv) ρ → pairsE kfs ρ = some (ps, ρ') →
    (∀ (vs : List V) G' H', RS c B G' H' (σ, gv) ρ' → Ext G G' → RepA c G' vs (ps.map (·.2)) → Q ((ps.map (V.str ·.1)).zip vs) H') → tPairs (kfs.map fun q => (tC (.str q.1), tE c (fz q.2))) σ H Q
  | [], G, H, ρ, ρ', ps, Q, S, e, k => by
    cases e
    exact k [] G H S (Ext.refl _) .nil
  | (s, f) :: r, G, H, ρ, ρ', ps, Q, S, e, k => by
    simp only [pairsE, Option.bind_eq_some_iff, Prod.exists] at e
    obtain ⟨r1, ρ1, hf1, e⟩ := e
    cases r1 with
    | v d =>
      simp only [Option.map_eq_some_iff, Prod.exists, Prod.mk.injEq] at e
      obtain ⟨ps1, ρ2, e2, rfl, rfl⟩ := e
      show tE c (fz f) σ H _
      refine ⟨B, G, gv, ρ, _, ρ1, S, hf1, fun v G1 H1 S1 x1 q1 => ?_⟩
      refine t_pairs S1 e2 fun vs G2 H2 S2 x2 r2 => ?_
      exact k (v :: vs) G2 H2 S2 (x1.trans x2) (.cons (Rep.ext x2 q1) r2)
    | s j => cases e
    | n m => cases e
theorem mergeK_nodup : ∀ (more acc : List (Key × V)), ((acc ++ more).map (·.1)).Nodup → mergeK acc more = acc ++ more
  | [], acc, _ => by show acc = acc ++ []; rw [List.append_nil]
  | p :: more, acc, h => by
    have hn : (acc.any fun kv => decide (kv.1 = p.1)) = false := by
      rw [List.any_eq_false]
      intro q hq z
      have z' := of_decide_eq_true z
      rw [List.map_append, List.map_cons, List.nodup_append] at h
      exact h.2.2 q.1 (List.mem_map.mpr ⟨q, hq, rfl⟩) p.1 List.mem_cons_self z'
    have e1 : putK acc p.1 p.2 = acc ++ [p] := by
      unfold putK
      rw [hn, if_neg Bool.false_ne_true]
    show mergeK (putK acc p.1 p.2) more = acc ++ p :: more
    rw [e1, mergeK_nodup more (acc ++ [p]) (by rw [List.append_assoc]; exact h), List.append_assoc]
    rfl
theorem repT_of {H : Hp} : ∀ {ps : List (Str × D)} {vs : List V}, RepA c H vs (ps.map (·.2)) → RepT c H ((ps.map fun q => (Sum.inr q.1 : Key)).zip vs) (ps.map fun q => (.str q.1, q.2))
  | [], _, r => by cases r; exact .nil
  | (s, d) :: ps, _, r => by
    cases r with
    | cons h r => exact .cons rfl h (repT_of r)
theorem zip_kV : ∀ (ps : List (Str × D)) (vs : List V), (ps.map (V.str ·.1)).zip vs = ((ps.map fun q => (Sum.inr q.1 : Key)).zip vs).map fun kv => (kV kv.1, kv.2)
  | [], _ => by simp
  | _ :: _, [] => by simp
  | (s, d) :: ps, v :: vs => by
    rw [List.map_cons, List.map_cons, List.zip_cons_cons, List.zip_cons_cons, List.map_cons, zip_kV ps vs]
    rfl
theorem z_dk {keys : List (Option Expr)} {values : List Expr} {kfs : List (Str × Ev)} (h : PPs X pos keys values (kfs.map fun q => (tC (.str q.1), tE (cx X) (fz q.2)))) (hall : keys.all (·.isSome) = true) (hl : keys.length = values.length) (h0 : keys ≠ [])
    (h15 : keys.length ≤ 15) : PE X (.Dict keys values pos) (tE (cx X) (eDk kfs)) := by
  refine pe_imp (pe_disp h hall hl h0 h15) fun σ H Q ⟨B, G, gv, ρ, r, ρ', S, hf, k⟩ p hp => ?_
  simp only [eDk, Option.bind_eq_some_iff, Prod.exists] at hf
  obtain ⟨ps, ρ1, hf1, hf⟩ := hf
  split at hf
  · rename_i hn
    cases hf
    have S1 := S.laid (o := .dK []) hp
    obtain ⟨B1, T1, back⟩ := S1.hold (S.fresh hp).1 (S.notOwn_none hp) upd_same
    refine t_pairs T1 hf1 fun vs G' H' T' x r => ?_
    obtain ⟨S', e1, e2, e3⟩ := back _ _ _ _ T'
    have hl2 := r.length
    rw [List.length_map] at hl2
    refine ⟨e1, (ps.map fun q => (Sum.inr q.1 : Key)).zip vs, zip_kV ps vs, by rw [List.length_zip, List.length_map]; omega, ?_⟩
    have nd : (((ps.map fun q => (Sum.inr q.1 : Key)).zip vs).map (·.1)).Nodup := by
      rw [List.map_fst_zip (by rw [List.length_map]; omega)]
      have : (ps.map fun q => (Sum.inr q.1 : Key)) = (ps.map (·.1)).map Sum.inr := by rw [List.map_map]; rfl
      rw [this]
      exact List.Pairwise.map _ (fun a b hab z => hab (Sum.inr.inj z)) hn.1
    have em : mergeK [] ((ps.map fun q => (Sum.inr q.1 : Key)).zip vs) = [] ++ (ps.map fun q => (Sum.inr q.1 : Key)).zip vs := mergeK_nodup _ [] nd
    rw [em]
    have hb : B.H p = none := S.dom p hp
    exact k _ G' _ (S'.wr (o := .dK ([] ++ _)) e2 hb e3 e1 (fun _ _ _ z => by cases z)) x ⟨p, rfl, e2, hb, e3, _, upd_same, repT_of r⟩
  · cases hf
theorem zps_cons {k v : Expr} {ks : List (Option Expr)} {vs : List Expr} {s : Str} {f : Ev} {kfs : List (Str × Ev)} (hk : PE X k (tC (.str s))) (hv : PE X v (tE c f)) (hr : PPs X pos ks vs (kfs.map fun q => (tC (.str q.1), tE c (fz q.2)))) :
    PPs X pos (some k :: ks) (v :: vs) (((s, f) :: kfs).map fun q => (tC (.str q.1), tE c (fz q.2))) := pps_cons hk (z_fz hv) hr
theorem zps_nil : PPs X pos [] [] (([] : List (Str × Ev)).map fun q => (tC (.str q.1), tE c (fz q.2))) := pps_nil

/-! ### d.get(k, x), the keys texts -/
def lookT : List (D × D) → Str → Option D
  | [], _ => none
  | (.str x, d) :: r, s => if x = s then some d else lookT r s
  | _ :: r, s => lookT r s
theorem lookT_rep {H : Hp} {s : Str} : ∀ {xs : List (Key × V)} {kvs : List (D × D)}, RepT c H xs kvs → (lookT kvs s = none ∧ valV xs (Sum.inr s) = none) ∨ ∃ d v, lookT kvs s = some d ∧ valV xs (Sum.inr s) = some v ∧ Rep c H v d
  | _, _, .nil => .inl ⟨rfl, rfl⟩
  | (k, v) :: xs, (kd, d) :: kvs, .cons h1 h2 r => by
    have ih := lookT_rep (s := s) r
    cases k with
    | inl i =>
      have e : kd = .int i := h1
      subst e
      rw [show lookT ((PyData.int i, d) :: kvs) s = lookT kvs s from rfl, show valV ((Sum.inl i, v) :: xs) (Sum.inr s : Key) = valV xs (Sum.inr s) from by simp [valV, List.find?_cons]]
      exact ih
    | inr x =>
      have e : kd = .str x := h1
      subst e
      by_cases hx : x = s
      · subst hx
        exact .inr ⟨d, v, by simp [lookT], by simp [valV, List.find?_cons], h2⟩
      · rw [show lookT ((PyData.str x, d) :: kvs) s = lookT kvs s from by simp [lookT, hx], show valV ((Sum.inr x, v) :: xs) (Sum.inr s : Key) = valV xs (Sum.inr s) from by simp [valV, List.find?_cons, hx]]
        exact ih
/-- a dict of texts -/
def isTD : D → Bool
  | .dict ((.str _, _) :: _) => true
  | _ => false
theorem RR.dictT {B : Bs} {G H : Hp} {σ : St2} {ρ : En} {v : V} {r : R} {kvs : List (D × D)} (S : RS c B G H σ ρ) (q : RR c B G H σ ρ v r) (hd : dr ρ r = some (.dict kvs)) (ht : isTD (.dict kvs) = true) : ∃ a xs, v = .ref a ∧ H a = some (.dK xs) ∧ RepT c G xs kvs := by
  rcases q.seen S hd with h | ⟨a, m, rfl, e, h⟩
  · cases h with
    | scr _ _ => cases ht
    | txt _ => cases ht
    | dk h r => exact ⟨_, _, rfl, S.sub _ _ h, r⟩
    | dic h _ r =>
      cases r with
      | nil => cases ht
      | cons _ _ h1 _ _ => cases h1 <;> cases ht
  · cases m with
    | lst => cases e
    | dk kvs' => cases e; obtain ⟨xs, h1, h2⟩ := h; exact ⟨a, xs, rfl, h1, h2⟩
    | dic kvs' =>
      cases e
      obtain ⟨xs, _, _, r⟩ := h
      cases r with
      | nil => cases ht
      | cons _ _ h1 _ _ => cases h1 <;> cases ht
def dGet2 : D → D → D → Option R
  | .dict kvs, .str s, x => if isTD (.dict kvs) = true then some (.v ((lookT kvs s).getD x)) else none
  | _, _, _ => none
def eGet2 (fd fk fx : Ev) : Ev := fun ρ => (fz fd ρ).bind fun p => (fz fk p.2).bind fun q => (fz fx q.2).bind fun s => (dr s.2 q.1).bind fun k => match p.1, s.1 with
  | .v d, .v x => if isTD d = true then (dGet2 d k x).map fun r => (r, s.2) else none
  | _, _ => none
theorem z_get2 {o f : Expr} {fd fk fx : Ev} {apos cpos : Pos} (hu : X.A.units + 1 < cLine) (ho : PE X o (tE (cx X) fd)) (hk : PE X e (tE (cx X) fk)) (hx : PE X f (tE (cx X) fx)) (m : M2 X o "get" apos e f cpos) : PE X (.Call (.Attribute o "get" apos) [e, f] [] cpos) (tE (cx X) (eGet2 fd fk fx)) := by
  refine pe_imp (pe_dget2 hu (z_fz ho) (z_fz hk) (z_fz hx) m) fun σ H Q ⟨B, G, gv, ρ, r, ρ', S, hf, k⟩ => ?_
  simp only [eGet2, Option.bind_eq_some_iff, Prod.exists] at hf
  obtain ⟨r1, ρ1, hf1, r2, ρ2, hf2, r3, ρ3, hf3, kd, hkd, hf⟩ := hf
  split at hf
  · rename_i d x
    split at hf
    · rename_i ht
      simp only [Option.map_eq_some_iff, Prod.mk.injEq] at hf
      obtain ⟨r4, hg, rfl, rfl⟩ := hf
      cases d <;> try (cases ht; done)
      cases kd <;> try (cases hg; done)
      rename_i kvs s
      simp only [dGet2, ht, if_true, Option.some.injEq] at hg
      subst hg
      refine ⟨B, G, gv, ρ, _, ρ1, S, hf1, fun v1 G1 H1 S1 x1 q1 => ?_⟩
      · obtain ⟨a, xs, rfl, h1, h2⟩ := q1.dictT S1 rfl ht
        refine ⟨a, rfl, .inl ⟨xs, .inl h1⟩, B, G1, gv, ρ1, r2, ρ2, S1, hf2, fun v2 G2 H2 S2 x2 q2 => ⟨B, G2, gv, ρ2, _, ρ3, S2, hf3, fun v3 G3 H3 S3 x3 q3 => ?_⟩⟩
        have q1' : RR (cx X) B G3 H3 (σ, gv) ρ3 (.ref a) (.v (.dict kvs)) := Rep.ext (x2.trans x3) q1
        obtain ⟨a', ys, e', h1', h2'⟩ := q1'.dictT S3 rfl ht
        cases e'
        have q2' := (q2.on (ρ' := ρ3) (H' := H3) x3 (fz_not hf2)).str S3 hkd
        subst q2'
        rcases lookT_rep (s := s) h2' with ⟨l1, l2⟩ | ⟨d2, w, l1, l2, l3⟩
        · rw [l1] at k
          exact ⟨none, l2 ▸ DGet.k (k := Sum.inr s) h1', k v3 G3 H3 S3 ((x1.trans x2).trans x3) q3⟩
        · rw [l1] at k
          exact ⟨some w, l2 ▸ DGet.k (k := Sum.inr s) h1', k w G3 H3 S3 ((x1.trans x2).trans x3) l3⟩
    · cases hf
  · cases hf
end
end Z

set_option Elab.async false
set_option linter.all false
set_option maxRecDepth 100000
/-! Z8: dicts whose keys are nested tuples, as objects of the heap and as data. -/
namespace Z
open PySem L2

section
variable {X : Cx} {pins : List (Addr × Obj)} {σ : L2.St} {H : Hp} {s : Shared}
mutual
theorem rep_nested (I : Inv X pins σ H s) : ∀ {d : D} {v : V} {u : Value} {k : NestedKey}, Rep (cx X) H v d → RelV v u → nkey d = some k → NestedIs s.heap k u
  | .none, _, _, _, h, r, e => by cases h; cases e; cases r; exact NestedIs.none
  | .bool b, _, _, _, h, r, e => by cases h; cases e; cases r; exact NestedIs.bool rfl
  | .int i, _, _, _, h, r, e => by cases h; cases e; obtain ⟨t, rfl⟩ := r; exact NestedIs.int i t
  | .str x, _, _, _, h, r, e => by cases h; cases e; obtain ⟨t, rfl⟩ := r; exact NestedIs.text x t
  | .tuple ds, _, _, _, h, r, e => by
    rw [nkey] at e
    simp only [Option.map_eq_some_iff] at e
    obtain ⟨ks, e1, rfl⟩ := e
    cases h with
    | tup hs ra =>
      cases r
      obtain ⟨its, rv, ⟨o, ho, hc, n, hd⟩, _⟩ := I.tuple hs.sqT
      exact NestedIs.tup ho hc hd (by simpa using reps_nested I ra rv e1)
  | .list _, _, _, _, _, _, e => by rw [nkey] at e; cases e
  | .dict _, _, _, _, _, _, e => by rw [nkey] at e; cases e
theorem reps_nested (I : Inv X pins σ H s) : ∀ {ds : List D} {vs : List V} {us : List Value} {ks : List NestedKey}, RepA (cx X) H vs ds → Vals vs us → nkeys ds = some ks → NestedAll s.heap ks us
  | [], _, _, _, h, r, e => by cases h; cases r; rw [nkeys] at e; cases e; exact NestedAll.nil
  | d :: ds, _, _, _, h, r, e => by
    rw [nkeys] at e
    simp only [Option.bind_eq_some_iff, Option.map_eq_some_iff] at e
    obtain ⟨k, e1, ks, e2, rfl⟩ := e
    cases h with
    | cons h1 h2 =>
      cases r with
      | cons r1 r2 => exact NestedAll.cons (rep_nested I h1 r1 e1) (reps_nested I h2 r2 e2)
end
/-- a key stands -/
def KeyOk (c : Ct) (H : Hp) (b : Addr) (kd : D) (k : NestedKey) : Prop := Rep c H (.ref b) kd ∧ nkey kd = some k ∧ k.depth ≤ 8
theorem KeyOk.is (I : Inv X pins σ H s) {b : Addr} {kd : D} {k : NestedKey} (h : KeyOk (cx X) H b kd k) : (nestedKind X.prog X.w).is s.heap k b := ⟨rep_nested I h.1 rfl h.2.1, h.2.2⟩
abbrev PairN (p : NestedKey × Addr × V) (q : NestedKey × Addr × Value) : Prop := p.1 = q.1 ∧ p.2.1 = q.2.1 ∧ RelV p.2.2 q.2.2
theorem dicP.stay {c : Ct} {a : Addr} {xs : List (NestedKey × Addr × V)} {h1 h2 : Heap} (p : dicP c a xs h1) (k : ∀ o, h1.get? a = some o → h2.get? a = some o) : dicP c a xs h2 := by
  obtain ⟨e, ys, r, o, es, ep, e1, e2⟩ := p
  exact ⟨e, ys, r, o, es, ep, k o e1, e2⟩
theorem dicP.ok {P : Program} {w : World} {H : Hp} {c : Ct} {a : Addr} {xs : List (NestedKey × Addr × V)} {h : Heap} (p : dicP c a xs h) : ObjOk P w H h a (dicO c a xs) := by
  obtain ⟨_, ys, _, o, es, ep, e1, _⟩ := id p
  exact ⟨p, ⟨o, e1⟩, fun _ _ q k => q.stay k⟩
/-- the dict as the library tells it -/
theorem dic_at (I : Inv X pins σ H s) {a : Addr} {xs : List (NestedKey × Addr × V)} {kvs : List (D × D)} (h : H a = some (dicO (cx X) a xs)) (r : RepK (cx X) H xs kvs) :
    (a == sysModules) = false ∧ ∃ ys, Paired PairN xs ys ∧ s.heap.DictOfH (nestedKind X.prog X.w) a ys := by
  obtain ⟨⟨e0, ys, rel, o, es, ep, e1, e2, e3, e4, e5⟩, hex, hst⟩ := I.hok a _ h
  refine ⟨e0, ys, rel, o, es, ep, e1, e2, e3, e4, ?_, e5⟩
  clear e1 e2 e3 e4 e5 h hex hst
  intro y hy
  induction rel generalizing kvs with
  | nil => cases hy
  | @cons p q ps qs hpq _ ih =>
    cases r with
    | cons k1 k2 h1 h2 r =>
      rcases List.mem_cons.mp hy with rfl | hy
      · obtain ⟨a1, a2, _⟩ := hpq
        rw [← a1, ← a2]
        exact ⟨rep_nested I h1 rfl k1, k2⟩
      · exact ih r hy
theorem dicP_of {c : Ct} {a : Addr} {xs : List (NestedKey × Addr × V)} {ys : List (NestedKey × Addr × Value)} {h : Heap} (e : (a == sysModules) = false) (r : Paired PairN xs ys) (d : h.DictOfH (nestedKind c.P c.w) a ys) : dicP c a xs h := by
  obtain ⟨o, es, ep, e1, e2, e3, e4, _, e5⟩ := d
  exact ⟨e, ys, r, o, es, ep, e1, e2, e3, e4, e5⟩

/-! ### what an entry is -/
def lookN (xs : List (NestedKey × Addr × V)) (k : NestedKey) : Option V := (xs.find? fun x => decide (x.1 = k)).map (·.2.2)
def putN (xs : List (NestedKey × Addr × V)) (k : NestedKey) (b : Addr) (v : V) : List (NestedKey × Addr × V) :=
  if (lookN xs k).isSome then xs.map (fun x => if x.1 = k then (x.1, x.2.1, v) else x) else xs ++ [(k, b, v)]
theorem look_rel {k : NestedKey} : ∀ {xs : List (NestedKey × Addr × V)} {ys : List (NestedKey × Addr × Value)}, Paired PairN xs ys → (lookN xs k = none ∧ atKey ys k = none) ∨ ∃ v p, lookN xs k = some v ∧ atKey ys k = some p ∧ RelV v p.2
  | _, _, .nil => .inl ⟨rfl, rfl⟩
  | p :: xs, q :: ys, .cons h r => by
    obtain ⟨h1, h2, h3⟩ := h
    by_cases e : p.1 = k
    · refine .inr ⟨p.2.2, q.2, by simp [lookN, List.find?_cons, e], ?_, h3⟩
      rw [h1] at e
      simp [atKey, List.find?_cons, e]
    · have e' : ¬ q.1 = k := by rw [← h1]; exact e
      rw [show lookN (p :: xs) k = lookN xs k from by simp [lookN, List.find?_cons, e], show atKey (q :: ys) k = atKey ys k from by simp [atKey, List.find?_cons, e']]
      exact look_rel r
theorem Paired.mapB {α β α' β' : Type} {F : α → β → Prop} {F' : α' → β' → Prop} {f : α → α'} {g : β → β'} (h : ∀ a b, F a b → F' (f a) (g b)) : ∀ {l : List α} {m : List β}, Paired F l m → Paired F' (l.map f) (m.map g)
  | _, _, .nil => .nil
  | _, _, .cons r t => .cons (h _ _ r) (Paired.mapB h t)
theorem Paired.snoc {α β : Type} {F : α → β → Prop} {a : α} {b : β} (h : F a b) : ∀ {l : List α} {m : List β}, Paired F l m → Paired F (l ++ [a]) (m ++ [b])
  | _, _, .nil => .cons h .nil
  | _, _, .cons r t => .cons r (Paired.snoc h t)
theorem put_rel {k : NestedKey} {b : Addr} {v : V} {u : Value} {xs : List (NestedKey × Addr × V)} {ys : List (NestedKey × Addr × Value)} (rv : RelV v u) (r : Paired PairN xs ys) : Paired PairN (putN xs k b v) (storedH ys k b u) := by
  unfold putN storedH
  rcases look_rel (k := k) r with ⟨l1, l2⟩ | ⟨w, p, l1, l2, _⟩
  · rw [l1, l2]
    exact Paired.snoc ⟨rfl, rfl, rv⟩ r
  · rw [l1, l2]
    refine Paired.mapB (fun p q ⟨h1, h2, h3⟩ => ?_) r
    unfold putAt
    by_cases e : p.1 = k
    · rw [if_pos e, if_pos (h1 ▸ e)]
      exact ⟨h1, h2, rv⟩
    · rw [if_neg e, if_neg (h1 ▸ e)]
      exact ⟨h1, h2, h3⟩
theorem putN_length (xs : List (NestedKey × Addr × V)) (k : NestedKey) (b : Addr) (v : V) : (putN xs k b v).length ≤ xs.length + 1 := by
  unfold putN
  split <;> simp

/-! ### as data -/
def lookK : List (D × D) → NestedKey → Option D
  | [], _ => none
  | (kd, d) :: r, k => if nkey kd = some k then some d else lookK r k
def putK2 (kvs : List (D × D)) (kd : D) (k : NestedKey) (d : D) : List (D × D) :=
  if (lookK kvs k).isSome then kvs.map (fun q => if nkey q.1 = some k then (q.1, d) else q) else kvs ++ [(kd, d)]
theorem lookK_rep {c : Ct} {H : Hp} {k : NestedKey} : ∀ {xs : List (NestedKey × Addr × V)} {kvs : List (D × D)}, RepK c H xs kvs → (lookN xs k = none ∧ lookK kvs k = none) ∨ ∃ v d, lookN xs k = some v ∧ lookK kvs k = some d ∧ Rep c H v d
  | _, _, .nil => .inl ⟨rfl, rfl⟩
  | (k', b, v) :: xs, (kd, d) :: kvs, .cons h1 h2 h3 h4 r => by
    by_cases e : k' = k
    · exact .inr ⟨v, d, by simp [lookN, List.find?_cons, e], by simp [lookK, h1, e], h4⟩
    · rw [show lookN ((k', b, v) :: xs) k = lookN xs k from by simp [lookN, List.find?_cons, e], show lookK ((kd, d) :: kvs) k = lookK kvs k from by simp [lookK, h1, e]]
      exact lookK_rep r
theorem RepK.snoc {c : Ct} {H : Hp} {k : NestedKey} {b : Addr} {v : V} {kd d : D} (h1 : nkey kd = some k) (h2 : k.depth ≤ 8) (h3 : Rep c H (.ref b) kd) (h4 : Rep c H v d) : ∀ {xs : List (NestedKey × Addr × V)} {kvs : List (D × D)}, RepK c H xs kvs → RepK c H (xs ++ [(k, b, v)]) (kvs ++ [(kd, d)])
  | _, _, .nil => .cons h1 h2 h3 h4 .nil
  | _, _, .cons a1 a2 a3 a4 r => .cons a1 a2 a3 a4 (RepK.snoc h1 h2 h3 h4 r)
theorem RepK.repl {c : Ct} {H : Hp} {k : NestedKey} {v : V} {d : D} (h4 : Rep c H v d) : ∀ {xs : List (NestedKey × Addr × V)} {kvs : List (D × D)}, RepK c H xs kvs → RepK c H (xs.map fun x => if x.1 = k then (x.1, x.2.1, v) else x) (kvs.map fun q => if nkey q.1 = some k then (q.1, d) else q)
  | _, _, .nil => .nil
  | (k', b, w) :: xs, (kd, d') :: kvs, .cons a1 a2 a3 a4 r => by
    rw [List.map_cons, List.map_cons]
    by_cases e : k' = k
    · rw [if_pos (show (k', b, w).1 = k from e), if_pos (show nkey (kd, d').1 = some k by rw [← e]; exact a1)]
      exact .cons a1 a2 a3 h4 (RepK.repl h4 r)
    · rw [if_neg (show ¬ (k', b, w).1 = k from e), if_neg (show ¬ nkey (kd, d').1 = some k by intro z; rw [show nkey (kd, d').1 = some k' from a1] at z; cases z; exact e rfl)]
      exact .cons a1 a2 a3 a4 (RepK.repl h4 r)
theorem RepK.put {c : Ct} {H : Hp} {k : NestedKey} {b : Addr} {v : V} {kd d : D} {xs : List (NestedKey × Addr × V)} {kvs : List (D × D)} (h1 : nkey kd = some k) (h2 : k.depth ≤ 8) (h3 : Rep c H (.ref b) kd) (h4 : Rep c H v d) (r : RepK c H xs kvs) : RepK c H (putN xs k b v) (putK2 kvs kd k d) := by
  unfold putN putK2
  rcases lookK_rep (k := k) r with ⟨l1, l2⟩ | ⟨w, d', l1, l2, _⟩
  · rw [l1, l2]; exact RepK.snoc h1 h2 h3 h4 r
  · rw [l1, l2]; exact RepK.repl h4 r

/-! ### the operations over the heap -/
/-- the key d, of the dict at a -/
def AtN (c : Ct) (H : Hp) (x y : V) (R : Addr → List (NestedKey × Addr × V) → List (D × D) → Addr → D → NestedKey → Prop) : Prop :=
  ∃ a xs kvs b kd k, x = .ref a ∧ y = .ref b ∧ H a = some (dicO c a xs) ∧ xs.length ≤ sizeLine ∧ RepK c H xs kvs ∧ KeyOk c H b kd k ∧ R a xs kvs b kd k
def rInN (c : Ct) (g : Bool → Bool) : R2 := fun y x H Q => AtN c H x y fun a xs kvs b kd k => Q (.bl (g (lookN xs k).isSome)) H
theorem room8 (hu : Hu X) : (nestedKind X.prog X.w).room X.A.in1 := by
  have : X.A.units + 150 < cLine := hu
  show X.A.in1.units + 8 < cLine
  have e : X.A.in1.units = X.A.units + 1 := rfl
  omega
theorem op_inN (hu : Hu X) : OpR X (compareOp .In) (rInN (cx X) id) := by
  intro pins s σ H y x u v Q I ry rx ⟨a, xs, kvs, b, kd, k, ex, ey, h, _, r, hk, q⟩
  subst ex ey
  cases rx
  cases ry
  obtain ⟨e0, ys, rel, dd⟩ := dic_at I h r
  refine wpAny_in_heap (room8 hu) (hk.is I) e0 dd ⟨.bl _, H, I.tok _, rfl, ?_⟩
  replace q : Q (.bl (lookN xs k).isSome) H := q
  rcases look_rel (k := k) rel with ⟨l1, l2⟩ | ⟨w, p, l1, l2, _⟩
  · rw [l2]; rw [l1] at q; exact q
  · rw [l2]; rw [l1] at q; exact q
theorem op_notInN (hu : Hu X) : OpR X (compareOp .NotIn) (rInN (cx X) not) := by
  intro pins s σ H y x u v Q I ry rx ⟨a, xs, kvs, b, kd, k, ex, ey, h, _, r, hk, q⟩
  subst ex ey
  cases rx
  cases ry
  obtain ⟨e0, ys, rel, dd⟩ := dic_at I h r
  refine notIn_keyed (room8 hu) (hk.is I) e0 ⟨ys, dd, rfl⟩ ⟨.bl _, H, I.tok _, rfl, ?_⟩
  rw [valueAt_pairsH]
  replace q : Q (.bl (!(lookN xs k).isSome)) H := q
  rcases look_rel (k := k) rel with ⟨l1, l2⟩ | ⟨w, p, l1, l2, _⟩
  · rw [l2]; rw [l1] at q; exact q
  · rw [l2]; rw [l1] at q; exact q
def rIxN (c : Ct) : R2 := fun x y H Q => AtN c H x y fun a xs kvs b kd k => ∃ v, lookN xs k = some v ∧ Q v H
theorem ix_N (hu : Hu X) : IxR X (rIxN (cx X)) := by
  intro value slice pins s σ H x y u v Q I rx ry ⟨a, xs, kvs, b, kd, k, ex, ey, h, _, r, hk, w, hw, q⟩ hs
  subst ex ey
  cases rx
  cases ry
  obtain ⟨e0, ys, rel, dd⟩ := dic_at I h r
  refine PyProof.Rows.tail_any dd.typeIs PySem.F.slot_dict_getitem.lookup ?_ hs
  rcases look_rel (k := k) rel with ⟨l1, l2⟩ | ⟨w', p, l1, l2, rw'⟩
  · rw [l1] at hw; cases hw
  · rw [l1] at hw; cases hw
    exact wpAny_getItem_heap (room8 hu) (hk.is I) dd l2 ⟨_, H, I.tok _, rw', q⟩
def rPutN (c : Ct) : TSet := fun x y v H Q => AtN c H x y fun a xs kvs b kd k => xs.length < sizeLine ∧ Q (upd H a (dicO c a (putN xs k b v)))
theorem set_N (hu : Hu X) : PSet X (rPutN (cx X)) := by
  intro pins s σ H x y z ov iv u Q I ro ri rv ⟨a, xs, kvs, b, kd, k, ex, ey, h, _, r, hk, hz, q⟩
  subst ex ey
  cases ro
  cases ri
  obtain ⟨e0, ys, rel, dd⟩ := dic_at I h r
  have hl : ys.length ≤ sizeLine := by have := Paired.length rel; omega
  refine wpAny_setItem_heap (room8 hu) (hk.is I) dd (fun h' dd' sb => ⟨_, ?_, q⟩) hl
  have p' : dicP (cx X) a (putN xs k b z) h' := dicP_of e0 (put_rel rv rel) dd'
  obtain ⟨_, _, _, o, _, _, e1, _⟩ := id p'
  exact d_write I (by rw [h]; exact True.intro) sb ⟨o, e1⟩ p'.ok
theorem wpAny_Dict_pairsX {prog : Program} {w : World} {A : Around} {E : Value → Shared → Prop} {s : Shared} {K : Type} [DecidableEq K] {knd : HeapKind prog w K} {env : Env} {keys : List (Option Expr)} {values : List Expr} {pos : Pos} {pairs : List (Sem Value × Sem Value)} {Q : Value → Shared → Prop} (hu : knd.room A)
    (hshape : (evalEachOpt keys env).zip ((evalEach values env).map fun v => do let x ← v; standAt pos; pure x) = pairs.map fun p => (some p.1, p.2)) (h0 : pairs ≠ []) (hlen : pairs.length ≤ 15)
    (h : wpAny (model prog w) A (evalPairs pairs) (fun vs s1 => ∃ ps, CarriesH knd s1.heap vs ps ∧ s1.heap.DictOfH knd s.heap.objs.size [] ∧
      ∀ h' tk, h'.DictOfH knd s.heap.objs.size (storedAllH [] ps) → Heap.SameBut s.heap.objs.size s1.heap h' → Q (.ref s.heap.objs.size) { s1 with heap := h', toks := tk }) E
      { s with heap := s.heap.push { cls := .type "dict", data := .dict #[] } }) : wpAny (model prog w) A (eval (.Dict keys values pos) env) Q E s := by
  rw [arm_eval_Dict, hshape, dictDisplay_pairs pairs h0 (by omega)]
  refine wpAny_bind (wpAny_standAt (wpAny_bind (wpAny_subDictH (knd := knd) (Q := fun d s' => wpAny (model prog w) A (pure (Value.ref d)) Q E s') hu hlen (thn h fun vs s1 h1 => ?_))))
  obtain ⟨ps, hc, hm, hq⟩ := h1
  exact ⟨ps, hc, hm, fun h' tk a b => wpAny_pure (hq h' tk a b)⟩
/-- {k: v} with one nested key -/
def tDN (c : Ct) (tk tv : TE) : TE := fun σ H Q => ∀ p, H p = none → tk σ (upd H p (.dK [])) fun y H1 => tv σ H1 fun v H2 => ∃ b kd k, y = .ref b ∧ KeyOk c H2 b kd k ∧ H2 p = some (.dK []) ∧ Q (.ref p) (upd H2 p (dicO c p [(k, b, v)]))
theorem pe_dN {ke ve : Expr} {tk tv : TE} {pos : Pos} (hu : Hu X) (hk : PE X ke tk) (hv : PE X ve tv) : PE X (.Dict [some ke] [ve] pos) (tDN (cx X) tk tv) := by
  refine ⟨fun pins s σ H Q I q => ?_⟩
  have hn := I.hok.fresh (Nat.le_refl s.heap.objs.size)
  have I1 := I.laid (a := s.heap.objs.size) (o := .dK []) (h' := s.heap.push { cls := .type "dict", data := .dict #[] }) (t' := s.toks) (fun _ _ q => Heap.get?_push_of_some _ q) (Nat.le_refl _) (dk_empty s.heap I.big)
  have P := pps_cons (pos := pos) hk hv pps_nil
  refine wpAny_Dict_pairsX (knd := nestedKind X.prog X.w) (pairs := pairTrees [some ke] [ve] X.env pos) (by show X.A.units + 8 < cLine; have : X.A.units + 150 < cLine := hu; omega) (zip_pairTrees [some ke] [ve] X.env pos rfl rfl) (by intro z; have := pairTrees_length [some ke] [ve] X.env pos rfl rfl; rw [z] at this; cases this) (by have := pairTrees_length [some ke] [ve] X.env pos rfl rfl; rw [this]; simp) ?_
  refine thn (P.run pins _ σ _ (fun ps H2 => ∃ y v, ps = [(y, v)] ∧ ∃ b kd k, y = .ref b ∧ KeyOk (cx X) H2 b kd k ∧ H2 s.heap.objs.size = some (.dK []) ∧ Q (.ref s.heap.objs.size) (upd H2 s.heap.objs.size (dicO (cx X) s.heap.objs.size [(k, b, v)]))) I1 ?_) fun ws s2 ⟨ps, H2, I2, rel, y, v, e, b, kd, k, ey, hkk, hd, q2⟩ => ?_
  · show tk σ _ _
    have := q _ hn
    refine (?_ : tk σ (upd H s.heap.objs.size (.dK [])) fun y H1 => tv σ H1 fun v H2 => tPairs [] σ H2 fun ps H3 => ∃ y' v', (y, v) :: ps = [(y', v')] ∧ ∃ b kd k, y' = .ref b ∧ KeyOk (cx X) H3 b kd k ∧ H3 s.heap.objs.size = some (.dK []) ∧ Q (.ref s.heap.objs.size) (upd H3 s.heap.objs.size (dicO (cx X) s.heap.objs.size [(k, b, v')])))
    have fix : (fun y H1 => tv σ H1 fun v H2 => ∃ b kd k, y = .ref b ∧ KeyOk (cx X) H2 b kd k ∧ H2 s.heap.objs.size = some (.dK []) ∧ Q (.ref s.heap.objs.size) (upd H2 s.heap.objs.size (dicO (cx X) s.heap.objs.size [(k, b, v)]))) =
      fun y H1 => tv σ H1 fun v H2 => tPairs [] σ H2 fun ps H3 => ∃ y' v', (y, v) :: ps = [(y', v')] ∧ ∃ b kd k, y' = .ref b ∧ KeyOk (cx X) H3 b kd k ∧ H3 s.heap.objs.size = some (.dK []) ∧ Q (.ref s.heap.objs.size) (upd H3 s.heap.objs.size (dicO (cx X) s.heap.objs.size [(k, b, v')])) := by
      funext y H1
      congr 1
      funext v H2
      apply propext
      constructor
      · rintro h; exact ⟨y, v, rfl, h⟩
      · rintro ⟨y', v', e, h⟩; cases e; exact h
    rw [← fix]
    exact this
  · subst e ey
    cases rel with
    | @cons _ w _ _ r1 r2 =>
      cases r2
      obtain ⟨wk, wv⟩ := w
      obtain ⟨ru, rv⟩ := r1
      obtain rfl : wk = Value.ref b := ru
      obtain ⟨z0, e0, vs0, r0, dd⟩ := dk_of I2.hok hd
      cases r0
      have hx := hkk.is I2
      obtain ⟨od, esd, epd, d1, d2, d3, _, d4, _⟩ := id dd
      have d5 : esd.toList = [] := by
        cases hq : esd.toList with
        | nil => rfl
        | cons z zs => rw [hq] at d4; cases d4
      refine ⟨[(k, b, wv)], ⟨rfl, rfl, hx, True.intro⟩, ⟨od, esd, epd, d1, d2, d3, by simpa using d5, (fun _ hz => nomatch hz), List.nodup_nil⟩, fun h' tk' dd' sb => ?_⟩
      have p' : dicP (cx X) s.heap.objs.size [(k, b, v)] h' := dicP_of e0 (.cons ⟨rfl, rfl, rv⟩ .nil) (by simpa [storedAllH, storedH, atKey] using dd')
      obtain ⟨_, _, _, o, _, _, e1, _⟩ := id p'
      exact ⟨.ref s.heap.objs.size, _, d_write I2 (by rw [hd]; exact True.intro) sb ⟨o, e1⟩ p'.ok, rfl, q2⟩
end
end Z

set_option Elab.async false
set_option linter.all false
set_option maxRecDepth 100000
/-! Z9: {}, {k: v}, the text of a small tuple. -/
namespace Z
open PySem L2

section
variable {X : Cx} {e a b : Expr} {es : List Expr} {st : Stmt} {sts : List Stmt} {pos : Pos} {c : Ct}
def eD0 : Ev := fun ρ => some (.n (.dk []), ρ)
theorem z_d0 : PE X (.Dict [] [] pos) (tE c eD0) := by
  refine pe_imp pe_dnewK fun σ H Q ⟨B, G, gv, ρ, r, ρ', S, hf, k⟩ p hp => ?_
  cases hf
  exact k _ G _ (S.laid hp) (Ext.refl _) ⟨p, rfl, (S.fresh hp).1, (S.fresh hp).2.1, S.notOwn_none hp, [], upd_same, .nil⟩
def keyOf : D → Option NestedKey
  | .tuple ds => (nkey (.tuple ds)).bind fun k => if k.depth ≤ 8 then some k else none
  | _ => none
theorem keyOf_ok {H : Hp} {v : V} {d : D} {k : NestedKey} (h : Rep c H v d) (e : keyOf d = some k) : ∃ b, v = .ref b ∧ KeyOk c H b d k := by
  cases d <;> try (cases e; done)
  simp only [keyOf, Option.bind_eq_some_iff] at e
  obtain ⟨k', e1, e2⟩ := e
  split at e2
  · rename_i hd
    cases e2
    cases h with
    | tup h1 h2 => exact ⟨_, rfl, .tup h1 h2, e1, hd⟩
  · cases e2
def eDn (fk fv : Ev) : Ev := fun ρ => (fz fk ρ).bind fun p => (fz fv p.2).bind fun q => match p.1, q.1 with
  | .v kd, .v d => (keyOf kd).map fun _ => (.n (.dic [(kd, d)]), q.2)
  | _, _ => none
theorem z_dn {ke ve : Expr} {fk fv : Ev} (hu : Hu X) (hk : PE X ke (tE (cx X) fk)) (hv : PE X ve (tE (cx X) fv)) : PE X (.Dict [some ke] [ve] pos) (tE (cx X) (eDn fk fv)) := by
  refine pe_imp (pe_dN hu (z_fz hk) (z_fz hv)) fun σ H Q ⟨B, G, gv, ρ, r, ρ', S, hf, k⟩ p hp => ?_
  simp only [eDn, Option.bind_eq_some_iff, Prod.exists] at hf
  obtain ⟨r1, ρ1, hf1, r2, ρ2, hf2, hf⟩ := hf
  split at hf
  · rename_i kd d
    simp only [Option.map_eq_some_iff, Prod.mk.injEq] at hf
    obtain ⟨nk, hk, rfl, rfl⟩ := hf
    have S1 := S.laid (o := .dK []) hp
    obtain ⟨B1, T1, back⟩ := S1.hold (S.fresh hp).1 (S.notOwn_none hp) upd_same
    refine ⟨B1, G, gv, ρ, _, ρ1, T1, hf1, fun v1 G1 H1 T2 x1 q1 => ⟨B1, G1, gv, ρ1, _, ρ2, T2, hf2, fun v2 G2 H2 T3 x2 q2 => ?_⟩⟩
    obtain ⟨S3, e1, e2, e3⟩ := back _ _ _ _ T3
    have q1' : Rep (cx X) G2 v1 kd := Rep.ext x2 q1
    obtain ⟨b, rfl, kok⟩ := keyOf_ok q1' hk
    have hb : B.H p = none := S.dom p hp
    refine ⟨b, kd, nk, rfl, ⟨kok.1.ext S3.sub, kok.2⟩, e1, ?_⟩
    exact k _ G2 _ (S3.wr (o := dicO (cx X) p [(nk, b, v2)]) e2 hb e3 e1 (fun _ _ _ z => by cases z)) (x1.trans x2) ⟨p, rfl, e2, hb, e3, _, upd_same, by rw [List.length_singleton, sizeLine_eq]; decide, .cons kok.2.1 kok.2.2 kok.1 q2 .nil⟩
  · cases hf

/-! ### str of a small tuple: some text -/
def txtD : D := .dict [(.bool true, .none)]
def smallV : V → Bool
  | .non => true
  | .int i => decide (0 ≤ i ∧ i ≤ 99)
  | .str x => decide (x.length ≤ 100) && x.cps.toList.all fun k => decide (k < 16 ^ 8)
  | _ => false
def smallU : Value → Bool
  | .none => true
  | .int i _ => decide (0 ≤ i ∧ i ≤ 99)
  | .str x _ => decide (x.length ≤ 100) && x.cps.toList.all fun k => decide (k < 16 ^ 8)
  | _ => false
theorem small_rel {v : V} {u : Value} (r : RelV v u) (h : smallV v = true) : smallU u = true := by
  cases v <;> try (cases h; done)
  · cases r; rfl
  · obtain ⟨t, rfl⟩ := r; exact h
  · obtain ⟨t, rfl⟩ := r; exact h
theorem int_text {i : Int} (h : 0 ≤ i ∧ i ≤ 99) : ((toString i : String) : Str).length ≤ 2 := by
  have : ∀ n : Fin 100, ((toString ((n : Nat) : Int) : String) : Str).length ≤ 2 := by decide +kernel
  have h2 := this ⟨i.toNat, by omega⟩
  have e : ((i.toNat : Nat) : Int) = i := by omega
  simpa [e] using h2
theorem small_repr {prog : Program} {w : World} : ∀ {us : List Value}, (∀ u ∈ us, smallU u = true) → ∃ ts, ReprAll prog w us ts ∧ (∀ t ∈ ts, t.length ≤ 1002) ∧ ts.length = us.length
  | [], _ => ⟨[], .nil, (fun _ z => nomatch z), rfl⟩
  | u :: us, h => by
    obtain ⟨ts, h1, h2, h3⟩ := small_repr (prog := prog) (w := w) fun x hx => h x (List.mem_cons_of_mem _ hx)
    have hu := h u List.mem_cons_self
    have one : ∃ t, ReprIs prog w u t ∧ t.length ≤ 1002 := by
      cases u <;> try (cases hu; done)
      · exact ⟨_, ReprIs.none, by decide +kernel⟩
      · rename_i i t
        have hi : 0 ≤ i ∧ i ≤ 99 := of_decide_eq_true hu
        refine ⟨_, ReprIs.int t ?_, Nat.le_trans (int_text hi) (by decide)⟩
        have hn : i.natAbs < 2 ^ 7 := by omega
        exact Nat.lt_of_lt_of_le (PySem.Flt.log2_lt_of (by decide) hn) (by decide)
      · rename_i x t
        simp only [smallU, Bool.and_eq_true, decide_eq_true_eq, List.all_eq_true] at hu
        have hl := StrLaws.reprText_len x hu.2
        exact ⟨_, ReprIs.str x t (by rw [sizeLine_eq]; omega), by omega⟩
    obtain ⟨t, o1, o2⟩ := one
    refine ⟨t :: ts, .cons o1 h1, fun z hz => ?_, by rw [List.length_cons, List.length_cons, h3]⟩
    rcases List.mem_cons.mp hz with rfl | hz
    · exact o2
    · exact h2 z hz
theorem piled_le {k : Nat} : ∀ {ts : List Str}, (∀ t ∈ ts, t.length ≤ k) → piled ts ≤ ts.length * (k + 2)
  | [], _ => Nat.zero_le _
  | t :: ts, h => by
    have h1 := h t List.mem_cons_self
    have h2 := piled_le fun z hz => h z (List.mem_cons_of_mem _ hz)
    rw [piled_cons, List.length_cons, Nat.succ_mul]
    omega
def rStrT (K : PySem.W.Frag) : List V → Hp → VK → Prop := fun xs H Q => ∃ a ys, xs = [.ref a] ∧ SqT K H a ys ∧ ys.length ≤ 100 ∧ (∀ y ∈ ys, smallV y = true) ∧ ∀ m : Str, Q (.str m) H
theorem paired_mem {xs : List V} {us : List Value} (r : Vals xs us) {u : Value} (h : u ∈ us) : ∃ x ∈ xs, RelV x u := by
  induction r with
  | nil => cases h
  | cons r1 _ ih =>
    rcases List.mem_cons.mp h with rfl | h
    · exact ⟨_, List.mem_cons_self, r1⟩
    · obtain ⟨x, h1, h2⟩ := ih h
      exact ⟨x, List.mem_cons_of_mem _ h1, h2⟩
theorem call_strT (hu : Hu X) : CallR X (.type "str") (rStrT X.K) := by
  intro pins s σ H xs us Q I r h
  obtain ⟨p, ys, rfl, hT, hl, hs, q⟩ := h
  obtain ⟨u, rfl, rx⟩ := vals1 r
  cases rx
  obtain ⟨its, rv, ⟨o, ho, hc, n, hd⟩, _⟩ := I.tuple hT
  have hsu : ∀ u ∈ its, smallU u = true := fun u hu => by
    obtain ⟨x, h1, h2⟩ := paired_mem rv hu
    exact small_rel h2 (hs x h1)
  have hlen : its.length ≤ 100 := by rw [← rv.length]; exact hl
  have hu' : X.A.units + 150 < cLine := hu
  refine callType_new F.called_str (by decide) (F.typeCall_str_1 _) (F.newCall_str_1 _) (fun obj => F.args_object_init_2 obj _) F.entry_str_new
    (meets_str_new (v := .ref p) (S := fun A' R s' => A'.units + 10 < cLine ∧ s'.heap.get? p = some o ∧ ∀ (m : Str) (u tk : Tok), R (.ok (.ret (.str m u))) { s' with toks := tk }) fun prog' w' A' R s' hh => ?_)
    ⟨by show X.A.units + 1 + 10 < cLine; omega, ho, fun m u tk => ⟨typeIs_str _ _ _, .str m, H, I.tok _, ⟨u, rfl⟩, q m⟩⟩
  obtain ⟨k1, k2, k3⟩ := hh
  obtain ⟨ts, t1, t2, t3⟩ := small_repr (prog := prog') (w := w') hsu
  have hp := piled_le t2
  have htx := fmt_text ts
  refine wpAny_strOf_slot rfl (by show A'.units + 1 + 1 < cLine; omega) ⟨o, k2, hc⟩ F.slot_tuple_str F.slot_tuple_repr ?_
  exact fmt_tuple_repr k2 hc hd (by simpa using t1) (by rw [sizeLine_eq]; rw [t3] at hp; have : its.length * (1002 + 2) ≤ 100 * 1004 := Nat.mul_le_mul_right _ hlen; omega) fun m u tk _ => ⟨m, u, rfl, k3 m u tk⟩
def smallD : D → Bool
  | .none => true
  | .int i => decide (0 ≤ i ∧ i ≤ 99)
  | .str x => decide (x.length ≤ 100) && x.cps.toList.all fun k => decide (k < 16 ^ 8)
  | _ => false
def dStrT : List D → Option R
  | [.tuple ds] => if ds.length ≤ 100 ∧ ds.all smallD = true then some (.v txtD) else none
  | _ => none
theorem small_rep {H : Hp} : ∀ {vs : List V} {ds : List D}, RepA c H vs ds → ds.all smallD = true → ∀ v ∈ vs, smallV v = true
  | _, _, .nil, _, _, z => by cases z
  | _, _, .cons h r, a, v, z => by
    rw [List.all_cons, Bool.and_eq_true] at a
    rcases List.mem_cons.mp z with rfl | z
    · cases h <;> first | exact a.1 | (cases a.1; done) | rfl
    · exact small_rep r a.2 v z
theorem sem_strT : SemC c (rStrT c.K) dStrT := by
  intro B G H σ ρ rs vs ds r Q S q hd hg k
  unfold dStrT at hg
  split at hg
  · split at hg
    · rename_i hz
      cases hg
      obtain ⟨r1, rfl, h1⟩ := drs1 hd
      obtain ⟨v, rfl, q1⟩ := q.one
      obtain ⟨a, xs, rfl, h2, h3⟩ := q1.tuple S h1
      exact ⟨a, xs, rfl, S.sub.sqT h2.sqT, by rw [h3.length]; exact hz.1, small_rep h3 hz.2, fun m => k _ G H S (Ext.refl _) (Rep.txt m)⟩
    · cases hg
  · cases hg
theorem z_strT {p : Pos} {f : Av} (hu : Hu X) (hg : Gl X "str") (hm : X.mg "str" = none) (ha : PA X (e :: es) (tA (cx X) f))
    (he : starEach (e :: es) X.env = (false, eval e X.env) :: starEach es X.env := by rfl) (hpl : (backTo pos (starEach es X.env)).any (·.1) = false := by rfl) : PE X (.Call (.Name "str" p) (e :: es) [] pos) (tE (cx X) (eC dStrT f)) :=
  z_callTy (call_strT hu) (sem_strT (c := cx X)) hg hm (by decide +kernel) ha (by decide) (by decide) he hpl
end
end Z

set_option Elab.async false
set_option linter.all false
set_option maxRecDepth 100000
set_option maxHeartbeats 4000000
namespace Z
open PySem L2
def top (i : Nat) : Stmt := PySem.Challenge.pw_manyreaders_k11_deeds_or_none.main.body.getD i (.Pass ⟨0, 0, 0, 0⟩)
abbrev s_is_between : Stmt := top 1
abbrev s_is_deed : Stmt := top 6
abbrev s_L_cell_at : Stmt := top 8
abbrev s_L_far : Stmt := top 10
abbrev s_L_left : Stmt := top 9
abbrev s_L_pick : Stmt := top 11
abbrev s_L_deed : Stmt := top 12
abbrev s_L_whole : Stmt := top 13
abbrev s_L_is_deed : Stmt := top 14
abbrev s_L_bent : Stmt := top 15
abbrev s_L_nested : Stmt := top 16
abbrev s_law : Stmt := top 17
def c_ASKS : D := .tuple [.str "read", .str "write"]
def c_LONGEST_LEFT : D := .int 9
def c_MOVES : D := .tuple [.str "up", .str "down", .str "leave", .str "stop"]
structure Top (K : PySem.W.Frag) (mg : Str → Option Value) where
  m_bool : mg "bool" = none
  m_int : mg "int" = none
  m_isinstance : mg "isinstance" = none
  m_len : mg "len" = none
  m_list : mg "list" = none
  m_max : mg "max" = none
  m_min : mg "min" = none
  m_range : mg "range" = none
  m_str : mg "str" = none
  m_tuple : mg "tuple" = none
  a_ASKS : Addr
  g_ASKS : mg "ASKS" = some (.ref a_ASKS)
  v_ASKS : RelV (.ref a_ASKS) (.ref a_ASKS)
  r_ASKS : ∀ (P : Program) (w : World) (G : Hp), Rep ⟨P, w, K⟩ G (.ref a_ASKS) c_ASKS
  t_LONGEST_LEFT : Tok
  g_LONGEST_LEFT : mg "LONGEST_LEFT" = some (.int 9 t_LONGEST_LEFT)
  v_LONGEST_LEFT : RelV (.int 9) (.int 9 t_LONGEST_LEFT)
  r_LONGEST_LEFT : ∀ (P : Program) (w : World) (G : Hp), Rep ⟨P, w, K⟩ G (.int 9) c_LONGEST_LEFT
  a_MOVES : Addr
  g_MOVES : mg "MOVES" = some (.ref a_MOVES)
  v_MOVES : RelV (.ref a_MOVES) (.ref a_MOVES)
  r_MOVES : ∀ (P : Program) (w : World) (G : Hp), Rep ⟨P, w, K⟩ G (.ref a_MOVES) c_MOVES
  a_is_between : Addr
  fd_is_between : FuncData
  F_is_between : FunD K "is_between" "is_between" (defArgs s_is_between) (defBody s_is_between) (defScope s_is_between) [] [] a_is_between fd_is_between
  g_is_between : mg "is_between" = some (.ref a_is_between)
  b_is_between : Binds K fd_is_between ["thing", "low", "high"] []
  a_is_deed : Addr
  fd_is_deed : FuncData
  F_is_deed : FunD K "is_deed" "is_deed" (defArgs s_is_deed) (defBody s_is_deed) (defScope s_is_deed) [] [] a_is_deed fd_is_deed
  g_is_deed : mg "is_deed" = some (.ref a_is_deed)
  b_is_deed : Binds K fd_is_deed ["n", "thing"] []
  a_L_cell_at : Addr
  fd_L_cell_at : FuncData
  F_L_cell_at : FunD K "_law_cell_at" "_law_cell_at" (defArgs s_L_cell_at) (defBody s_L_cell_at) (defScope s_L_cell_at) [] [] a_L_cell_at fd_L_cell_at
  g_L_cell_at : mg "_law_cell_at" = some (.ref a_L_cell_at)
  b_L_cell_at : Binds K fd_L_cell_at ["_law_script", "_law_k"] []
  a_L_far : Addr
  fd_L_far : FuncData
  F_L_far : FunD K "_law_far" "_law_far" (defArgs s_L_far) (defBody s_L_far) (defScope s_L_far) [] [] a_L_far fd_L_far
  g_L_far : mg "_law_far" = some (.ref a_L_far)
  b_L_far : Binds K fd_L_far [] []
  a_L_left : Addr
  fd_L_left : FuncData
  F_L_left : FunD K "_law_left" "_law_left" (defArgs s_L_left) (defBody s_L_left) (defScope s_L_left) [] [] a_L_left fd_L_left
  g_L_left : mg "_law_left" = some (.ref a_L_left)
  b_L_left : Binds K fd_L_left ["_law_script", "_law_k"] []
  a_L_pick : Addr
  fd_L_pick : FuncData
  F_L_pick : FunD K "_law_pick" "_law_pick" (defArgs s_L_pick) (defBody s_L_pick) (defScope s_L_pick) [] [] a_L_pick fd_L_pick
  g_L_pick : mg "_law_pick" = some (.ref a_L_pick)
  b_L_pick : Binds K fd_L_pick ["_law_left_here", "_law_many"] []
  a_L_deed : Addr
  fd_L_deed : FuncData
  F_L_deed : FunD K "_law_deed" "_law_deed" (defArgs s_L_deed) (defBody s_L_deed) (defScope s_L_deed) [] [] a_L_deed fd_L_deed
  g_L_deed : mg "_law_deed" = some (.ref a_L_deed)
  b_L_deed : Binds K fd_L_deed ["_law_left_here", "_law_n"] []
  a_L_whole : Addr
  fd_L_whole : FuncData
  F_L_whole : FunD K "_law_whole" "_law_whole" (defArgs s_L_whole) (defBody s_L_whole) (defScope s_L_whole) [] [] a_L_whole fd_L_whole
  g_L_whole : mg "_law_whole" = some (.ref a_L_whole)
  b_L_whole : Binds K fd_L_whole ["_law_thing", "_law_least", "_law_most"] []
  a_L_is_deed : Addr
  fd_L_is_deed : FuncData
  F_L_is_deed : FunD K "_law_is_deed" "_law_is_deed" (defArgs s_L_is_deed) (defBody s_L_is_deed) (defScope s_L_is_deed) [] [] a_L_is_deed fd_L_is_deed
  g_L_is_deed : mg "_law_is_deed" = some (.ref a_L_is_deed)
  b_L_is_deed : Binds K fd_L_is_deed ["_law_n", "_law_thing"] []
  a_L_bent : Addr
  fd_L_bent : FuncData
  F_L_bent : FunD K "_law_bent" "_law_bent" (defArgs s_L_bent) (defBody s_L_bent) (defScope s_L_bent) [] [] a_L_bent fd_L_bent
  g_L_bent : mg "_law_bent" = some (.ref a_L_bent)
  b_L_bent : Binds K fd_L_bent ["_law_left_here", "_law_n", "_law_deed_here"] []
  a_L_nested : Addr
  fd_L_nested : FuncData
  F_L_nested : FunD K "_law_nested" "_law_nested" (defArgs s_L_nested) (defBody s_L_nested) (defScope s_L_nested) [] [] a_L_nested fd_L_nested
  g_L_nested : mg "_law_nested" = some (.ref a_L_nested)
  b_L_nested : Binds K fd_L_nested ["_law_thing", "_law_deep"] []
  a_law : Addr
  fd_law : FuncData
  F_law : FunD K "law" "law" (defArgs s_law) (defBody s_law) (defScope s_law) [] [] a_law fd_law
  g_law : mg "law" = some (.ref a_law)
  b_law : Binds K fd_law ["_law_script"] []
section
variable {P : Program} {w : World} {K : PySem.W.Frag} {mg : Str → Option Value} {base : Heap}
/-! is_between -/
abbrev N_is_between : List Str := ["thing", "low", "high"]
theorem sc_is_between : FnScope N_is_between ["thing", "low", "high"] (defScope s_is_between) := ⟨rfl, rfl, rfl, by decide +kernel, rfl, by decide +kernel, by decide +kernel⟩
def F_is_between : Sv :=
    (sRet (eand (eIs "int" (eV 0)) (eand (enot (eIs "bool" (eV 0))) (e3 dLe dLe (eV 1) (eV 0) (eV 2)))))
def D_is_between : List D → Option R := defF 3 3 F_is_between
theorem ok_is_between (T : Top K mg) : FnOk P w K mg base CX0 1 T.a_is_between T.fd_is_between ["thing", "low", "high"] (spF ⟨P, w, K⟩ D_is_between) :=
  okF (N := N_is_between) (body := F_is_between) T.F_is_between sc_is_between fun cdv A outer s H E hr => by
    exact (z_sone (z_ret (z_and (z_isi (T := "int") (by decide) (by rfl) T.m_isinstance (by rfl) T.m_int (by decide +kernel) (z_pv 0)) (z_and (z_not (z_isi (T := "bool") (by decide) (by rfl) T.m_isinstance (by rfl) T.m_bool (by decide +kernel) (z_pv 0))) (z_one (z_lele (z_pv 1) (z_pv 0) (z_pv 2)))))))

/-! is_deed -/
abbrev N_is_deed : List Str := ["n", "thing"]
theorem sc_is_deed : FnScope N_is_deed ["n", "thing"] (defScope s_is_deed) := ⟨rfl, rfl, rfl, by decide +kernel, rfl, by decide +kernel, by decide +kernel⟩
def F_is_deed : Sv :=
    (sq (sIf (tor (tnot (tru (eIs "tuple" (eV 1)))) (tor (tb (e2 dEq (eC dLen (aC (eV 1) a0)) (eK (.int 0)))) (tnot (tru (eIs "str" (e2 ixD (eV 1) (eK (.int 0)))))))) (sRet (eK (.bool false)))
    sNil)
    (sq (sIf (tb (e2 dEq (e2 ixD (eV 1) (eK (.int 0))) (eK (.str "tick")))) (sRet (e2 dEq (eC dLen (aC (eV 1) a0)) (eK (.int 1))))
    sNil)
    (sq (sIf (tor (tb (e2 dLt (eC dLen (aC (eV 1) a0)) (eK (.int 2)))) (tnot (tru (eF D_is_between (aC (e2 ixD (eV 1) (eK (.int 1))) (aC (eK (.int 0)) (aC (e2 dSub (eV 0) (eK (.int 1))) a0))))))) (sRet (eK (.bool false)))
    sNil)
    (sq (sIf (tb (e2 dIn (e2 ixD (eV 1) (eK (.int 0))) (eK c_ASKS))) (sRet (eand (e2 dEq (eC dLen (aC (eV 1) a0)) (eK (.int 3))) (eor (e2 dIs (e2 ixD (eV 1) (eK (.int 2))) (eK .none)) (eF D_is_between (aC (e2 ixD (eV 1) (eK (.int 2))) (aC (eK (.int 0)) (aC (eK c_LONGEST_LEFT) a0)))))))
    sNil)
    (sRet (eand (e2 dIn (e2 ixD (eV 1) (eK (.int 0))) (eK c_MOVES)) (e2 dEq (eC dLen (aC (eV 1) a0)) (eK (.int 2)))))))))
def D_is_deed : List D → Option R := defF 2 2 F_is_deed
theorem ok_is_deed (T : Top K mg) : FnOk P w K mg base CX0 2 T.a_is_deed T.fd_is_deed ["n", "thing"] (spF ⟨P, w, K⟩ D_is_deed) :=
  okF (N := N_is_deed) (body := F_is_deed) T.F_is_deed sc_is_deed fun cdv A outer s H E hr => by
    exact (z_seq (z_sif (PW.pt (zw_or (z_tnot (z_tru (z_isi (T := "tuple") (by decide) (by rfl) T.m_isinstance (by rfl) T.m_tuple (by decide +kernel) (z_pv 1)))) (zw_or (zt_eq (hu_of' hr) (z_len (by rfl) T.m_len (z_cons (z_pv 1) z_nil)) z_int) (zw_or1 (z_tnot (z_tru (z_isi (T := "str") (by decide) (by rfl) T.m_isinstance (by rfl) T.m_str (by decide +kernel) (z_ix (z_pv 1) z_int)))))))) (z_sone (z_ret z_bl))
    z_snil)
    (z_seq (z_sif (zt_eq (hu_of' hr) (z_ix (z_pv 1) z_int) z_str) (z_sone (z_ret (z_eq (hu_of' hr) (z_len (by rfl) T.m_len (z_cons (z_pv 1) z_nil)) z_int)))
    z_snil)
    (z_seq (z_sif (PW.pt (zw_or (zt_lt (z_len (by rfl) T.m_len (z_cons (z_pv 1) z_nil)) z_int) (zw_or1 (z_tnot (z_tru (z_call (E := E0) (ok_is_between T) (hr.mono (by decide)) (by rfl) T.g_is_between T.F_is_between.kp T.b_is_between (z_cons (z_ix (z_pv 1) z_int) (z_cons z_int (z_cons (z_sub (z_pv 0) z_int) z_nil))))))))) (z_sone (z_ret z_bl))
    z_snil)
    (z_seq (z_sif (zt_in (hu_of' hr) (z_ix (z_pv 1) z_int) (z_glob (by rfl) T.g_ASKS T.v_ASKS (fun G => T.r_ASKS _ _ G))) (z_sone (z_ret (z_and (z_eq (hu_of' hr) (z_len (by rfl) T.m_len (z_cons (z_pv 1) z_nil)) z_int) (z_one (z_or (z_is (z_ix (z_pv 1) z_int) z_non) (z_one (z_call (E := E0) (ok_is_between T) (hr.mono (by decide)) (by rfl) T.g_is_between T.F_is_between.kp T.b_is_between (z_cons (z_ix (z_pv 1) z_int) (z_cons z_int (z_cons (z_glob (by rfl) T.g_LONGEST_LEFT T.v_LONGEST_LEFT (fun G => T.r_LONGEST_LEFT _ _ G)) z_nil))))))))))
    z_snil)
    (z_sone (z_ret (z_and (z_in (hu_of' hr) (z_ix (z_pv 1) z_int) (z_glob (by rfl) T.g_MOVES T.v_MOVES (fun G => T.r_MOVES _ _ G))) (z_one (z_eq (hu_of' hr) (z_len (by rfl) T.m_len (z_cons (z_pv 1) z_nil)) z_int)))))))))

/-! L_cell_at -/
abbrev N_L_cell_at : List Str := ["_law_script", "_law_k"]
theorem sc_L_cell_at : FnScope N_L_cell_at ["_law_script", "_law_k"] (defScope s_L_cell_at) := ⟨rfl, rfl, rfl, by decide +kernel, rfl, by decide +kernel, by decide +kernel⟩
def F_L_cell_at : Sv :=
    (sq (sIf (tb (e2 dLt (eV 1) (eC dLen (aC (eV 0) a0)))) (sRet (e2 ixD (eV 0) (eV 1)))
    sNil)
    (sRet (eK (.int 0))))
def D_L_cell_at : List D → Option R := defF 2 2 F_L_cell_at
theorem ok_L_cell_at (T : Top K mg) : FnOk P w K mg base CX0 1 T.a_L_cell_at T.fd_L_cell_at ["_law_script", "_law_k"] (spF ⟨P, w, K⟩ D_L_cell_at) :=
  okF (N := N_L_cell_at) (body := F_L_cell_at) T.F_L_cell_at sc_L_cell_at fun cdv A outer s H E hr => by
    exact (z_seq (z_sif (zt_lt (z_pv 1) (z_len (by rfl) T.m_len (z_cons (z_pv 0) z_nil))) (z_sone (z_ret (z_ix (z_pv 0) (z_pv 1))))
    z_snil)
    (z_sone (z_ret z_int)))

/-! L_far -/
abbrev N_L_far : List Str := ["_law_far_here", "_law_k"]
theorem sc_L_far : FnScope N_L_far [] (defScope s_L_far) := ⟨rfl, rfl, rfl, by decide +kernel, rfl, by decide +kernel, by decide +kernel⟩
def F_L_far : Sv :=
    (sq (sV 0 (eK (.int 1)))
    (sq (sFor (iR1 (aC (eK (.int 10)) a0)) (.n 1) (sV 0 (e2 dMulW (eV 0) (e2 dPow (eK (.int 10)) (eK (.int 60))))))
    (sRet (eV 0))))
def D_L_far : List D → Option R := defF 2 0 F_L_far
theorem ok_L_far (T : Top K mg) : FnOk P w K mg base CX0 1 T.a_L_far T.fd_L_far [] (spF ⟨P, w, K⟩ D_L_far) :=
  okF (N := N_L_far) (body := F_L_far) T.F_L_far sc_L_far fun cdv A outer s H E hr => by
    exact (z_seq (z_set 0 sc_L_far.nd rfl (by first | exact Or.inl rfl | exact Or.inr rfl) z_int)
    (z_seq (z_for PassesOwn.never rfl (z_range1 (by rfl) T.m_range (z_cons z_int z_nil)) (zg_name 1 sc_L_far.nd rfl (by first | exact Or.inl rfl | exact Or.inr rfl)) (z_sone (z_set 0 sc_L_far.nd rfl (by first | exact Or.inl rfl | exact Or.inr rfl) (z_mulW (z_pv 0) (z_pow z_int z_int)))))
    (z_sone (z_ret (z_pv 0)))))

/-! L_left -/
abbrev N_L_left : List Str := ["_law_script", "_law_k", "_law_cell", "_law_seed"]
theorem sc_L_left : FnScope N_L_left ["_law_script", "_law_k"] (defScope s_L_left) := ⟨rfl, rfl, rfl, by decide +kernel, rfl, by decide +kernel, by decide +kernel⟩
def F_L_left : Sv :=
    (sq (sV 2 (eF D_L_cell_at (aC (eV 0) (aC (e2 dMod (eV 1) (eC dMax2 (aC (eK (.int 1)) (aC (eC dLen (aC (eV 0) a0)) a0)))) a0))))
    (sq (sV 3 (e2 dMod (e2 dMul (e2 dAdd (e2 dAdd (e2 dMod (eV 2) (eK (.int 2147483629))) (e2 dMul (e2 dMul (eK (.int 7919)) (eV 1)) (eV 1))) (eK (.int 11))) (eK (.int 48271))) (eK (.int 2147483647))))
    (sq (sV 3 (e2 dMod (e2 dAdd (e2 dAdd (e2 dMul (eV 3) (eK (.int 39373))) (e2 dMul (eK (.int 7)) (eV 1))) (eK (.int 1))) (eK (.int 2147483629))))
    (sq (sIf (tb (e2 dLt (eV 2) (e2 dPow (eK (.int 10)) (eK (.int 18))))) (sV 2 (eK (.int 0)))
    sNil)
    (sRet (elst (aC (e2 dMod (eV 2) (eF D_L_far a0)) (aC (eV 3) (aC (eK (.int 0)) a0)))))))))
def D_L_left : List D → Option R := defF 4 2 F_L_left
theorem ok_L_left (T : Top K mg) : FnOk P w K mg base CX0 2 T.a_L_left T.fd_L_left ["_law_script", "_law_k"] (spF ⟨P, w, K⟩ D_L_left) :=
  okF (N := N_L_left) (body := F_L_left) T.F_L_left sc_L_left fun cdv A outer s H E hr => by
    exact (z_seq (z_set 2 sc_L_left.nd rfl (by first | exact Or.inl rfl | exact Or.inr rfl) (z_call (E := E0) (ok_L_cell_at T) (hr.mono (by decide)) (by rfl) T.g_L_cell_at T.F_L_cell_at.kp T.b_L_cell_at (z_cons (z_pv 0) (z_cons (z_mod (z_pv 1) (z_max2 rfl (by rfl) T.m_max (z_cons z_int (z_cons (z_len (by rfl) T.m_len (z_cons (z_pv 0) z_nil)) z_nil)))) z_nil))))
    (z_seq (z_set 3 sc_L_left.nd rfl (by first | exact Or.inl rfl | exact Or.inr rfl) (z_mod (z_mul (z_add (z_add (z_mod (z_pv 2) z_int) (z_mul (z_mul z_int (z_pv 1)) (z_pv 1))) z_int) z_int) z_int))
    (z_seq (z_set 3 sc_L_left.nd rfl (by first | exact Or.inl rfl | exact Or.inr rfl) (z_mod (z_add (z_add (z_mul (z_pv 3) z_int) (z_mul z_int (z_pv 1))) z_int) z_int))
    (z_seq (z_sif (zt_lt (z_pv 2) (z_pow z_int z_int)) (z_sone (z_set 2 sc_L_left.nd rfl (by first | exact Or.inl rfl | exact Or.inr rfl) z_int))
    z_snil)
    (z_sone (z_ret (z_lst (z_cons (z_mod (z_pv 2) (z_call0 (E := E0) (ok_L_far T) (hr.mono (by decide)) (by rfl) T.g_L_far T.F_L_far.kp T.b_L_far)) (z_cons (z_pv 3) (z_cons z_int z_nil))))))))))

/-! L_pick -/
abbrev N_L_pick : List Str := ["_law_left_here", "_law_many", "_law_digit"]
theorem sc_L_pick : FnScope N_L_pick ["_law_left_here", "_law_many"] (defScope s_L_pick) := ⟨rfl, rfl, rfl, by decide +kernel, rfl, by decide +kernel, by decide +kernel⟩
def F_L_pick : Sv :=
    (sq (sIf (tb (e2 dGt (e2 ixD (eV 0) (eK (.int 0))) (eK (.int 0)))) (sq (sV 2 (e2 dMod (e2 ixD (eV 0) (eK (.int 0))) (eV 1)))
    (sq (sSt (eV 0) (eK (.int 0)) (e2 dDiv (e2 ixD (eV 0) (eK (.int 0))) (eV 1)))
    (sRet (eV 2))))
    sNil)
    (sq (sSt (eV 0) (eK (.int 2)) (e2 dAdd (e2 ixD (eV 0) (eK (.int 2))) (eK (.int 1))))
    (sq (sSt (eV 0) (eK (.int 1)) (e2 dMod (e2 dAdd (e2 dAdd (e2 dMul (e2 ixD (eV 0) (eK (.int 1))) (eK (.int 48271))) (eK (.int 12345))) (e2 dMul (eK (.int 7)) (e2 ixD (eV 0) (eK (.int 2))))) (eK (.int 2147483647))))
    (sRet (e2 dMod (e2 dDiv (e2 dMod (e2 dMul (e2 ixD (eV 0) (eK (.int 1))) (e2 ixD (eV 0) (eK (.int 1)))) (eK (.int 1999999973))) (eK (.int 64))) (eV 1))))))
def D_L_pick : MO → List D → Option (R × MO) := defM 3 2 F_L_pick
theorem ok_L_pick (T : Top K mg) : FnOk P w K mg base CX0 1 T.a_L_pick T.fd_L_pick ["_law_left_here", "_law_many"] (spM ⟨P, w, K⟩ D_L_pick) :=
  okM (N := N_L_pick) (body := F_L_pick) T.F_L_pick sc_L_pick fun cdv A outer s H E hr => by
    exact (z_seq (z_sif (zt_gt (z_ix (z_pv 0) z_int) z_int) (z_seq (z_set 2 sc_L_pick.nd rfl (by first | exact Or.inl rfl | exact Or.inr rfl) (z_mod (z_ix (z_pv 0) z_int) (z_pv 1)))
    (z_seq (z_store (z_pv 0) z_int (z_div (z_ix (z_pv 0) z_int) (z_pv 1)))
    (z_sone (z_ret (z_pv 2)))))
    z_snil)
    (z_seq (z_store (z_pv 0) z_int (z_add (z_ix (z_pv 0) z_int) z_int))
    (z_seq (z_store (z_pv 0) z_int (z_mod (z_add (z_add (z_mul (z_ix (z_pv 0) z_int) z_int) z_int) (z_mul z_int (z_ix (z_pv 0) z_int))) z_int))
    (z_sone (z_ret (z_mod (z_div (z_mod (z_mul (z_ix (z_pv 0) z_int) (z_ix (z_pv 0) z_int)) z_int) z_int) (z_pv 1)))))))

/-! L_deed -/
abbrev N_L_deed : List Str := ["_law_left_here", "_law_n", "_law_guest", "_law_way"]
theorem sc_L_deed : FnScope N_L_deed ["_law_left_here", "_law_n"] (defScope s_L_deed) := ⟨rfl, rfl, rfl, by decide +kernel, rfl, by decide +kernel, by decide +kernel⟩
def F_L_deed : Sv :=
    (sq (sV 2 (eM D_L_pick (aC (eV 0) (aC (eV 1) a0))))
    (sq (sV 3 (eM D_L_pick (aC (eV 0) (aC (eK (.int 12)) a0))))
    (sq (sIf (tb (e2 dLt (eV 3) (eK (.int 6)))) (sRet (etup (aC (e2 ixD (elst (aC (eK (.str "read")) (aC (eK (.str "write")) a0))) (e2 dMod (eV 3) (eK (.int 2)))) (aC (eV 2) (aC (e2 ixD (elst (aC (eK .none) (aC (eK .none) (aC (eK .none) (aC (eK (.int 0)) (aC (eK (.int 1)) (aC (eK (.int 9)) a0))))))) (eM D_L_pick (aC (eV 0) (aC (eK (.int 6)) a0)))) a0)))))
    sNil)
    (sq (sIf (tb (e2 dEq (eV 3) (eK (.int 11)))) (sRet (etup (aC (eK (.str "tick")) a0)))
    sNil)
    (sRet (etup (aC (e2 ixD (elst (aC (eK (.str "up")) (aC (eK (.str "down")) (aC (eK (.str "leave")) (aC (eK (.str "leave")) (aC (eK (.str "stop")) a0)))))) (e2 dSub (eV 3) (eK (.int 6)))) (aC (eV 2) a0))))))))
def D_L_deed : MO → List D → Option (R × MO) := defM 4 2 F_L_deed
theorem ok_L_deed (T : Top K mg) : FnOk P w K mg base CX0 2 T.a_L_deed T.fd_L_deed ["_law_left_here", "_law_n"] (spM ⟨P, w, K⟩ D_L_deed) :=
  okM (N := N_L_deed) (body := F_L_deed) T.F_L_deed sc_L_deed fun cdv A outer s H E hr => by
    exact (z_seq (z_set 2 sc_L_deed.nd rfl (by first | exact Or.inl rfl | exact Or.inr rfl) (z_callM (ok_L_pick T) (hr.mono (by decide)) (by rfl) T.g_L_pick T.F_L_pick.kp T.b_L_pick (z_cons (z_pv 0) (z_cons (z_pv 1) z_nil))))
    (z_seq (z_set 3 sc_L_deed.nd rfl (by first | exact Or.inl rfl | exact Or.inr rfl) (z_callM (ok_L_pick T) (hr.mono (by decide)) (by rfl) T.g_L_pick T.F_L_pick.kp T.b_L_pick (z_cons (z_pv 0) (z_cons z_int z_nil))))
    (z_seq (z_sif (zt_lt (z_pv 3) z_int) (z_sone (z_ret (z_tup (z_cons (z_ix (z_lst (z_cons z_str (z_cons z_str z_nil))) (z_mod (z_pv 3) z_int)) (z_cons (z_pv 2) (z_cons (z_ix (z_lst (z_cons z_non (z_cons z_non (z_cons z_non (z_cons z_int (z_cons z_int (z_cons z_int z_nil))))))) (z_callM (ok_L_pick T) (hr.mono (by decide)) (by rfl) T.g_L_pick T.F_L_pick.kp T.b_L_pick (z_cons (z_pv 0) (z_cons z_int z_nil)))) z_nil))))))
    z_snil)
    (z_seq (z_sif (zt_eq (hu_of' hr) (z_pv 3) z_int) (z_sone (z_ret (z_tup (z_cons z_str z_nil))))
    z_snil)
    (z_sone (z_ret (z_tup (z_cons (z_ix (z_lst (z_cons z_str (z_cons z_str (z_cons z_str (z_cons z_str (z_cons z_str z_nil)))))) (z_sub (z_pv 3) z_int)) (z_cons (z_pv 2) z_nil)))))))))

/-! L_whole -/
abbrev N_L_whole : List Str := ["_law_thing", "_law_least", "_law_most"]
theorem sc_L_whole : FnScope N_L_whole ["_law_thing", "_law_least", "_law_most"] (defScope s_L_whole) := ⟨rfl, rfl, rfl, by decide +kernel, rfl, by decide +kernel, by decide +kernel⟩
def F_L_whole : Sv :=
    (sRet (eand (eIs "int" (eV 0)) (eand (enot (eIs "bool" (eV 0))) (e3 dLe dLe (eV 1) (eV 0) (eV 2)))))
def D_L_whole : List D → Option R := defF 3 3 F_L_whole
theorem ok_L_whole (T : Top K mg) : FnOk P w K mg base CX0 1 T.a_L_whole T.fd_L_whole ["_law_thing", "_law_least", "_law_most"] (spF ⟨P, w, K⟩ D_L_whole) :=
  okF (N := N_L_whole) (body := F_L_whole) T.F_L_whole sc_L_whole fun cdv A outer s H E hr => by
    exact (z_sone (z_ret (z_and (z_isi (T := "int") (by decide) (by rfl) T.m_isinstance (by rfl) T.m_int (by decide +kernel) (z_pv 0)) (z_and (z_not (z_isi (T := "bool") (by decide) (by rfl) T.m_isinstance (by rfl) T.m_bool (by decide +kernel) (z_pv 0))) (z_one (z_lele (z_pv 1) (z_pv 0) (z_pv 2)))))))

/-! L_is_deed -/
abbrev N_L_is_deed : List Str := ["_law_n", "_law_thing", "_law_sizes"]
theorem sc_L_is_deed : FnScope N_L_is_deed ["_law_n", "_law_thing"] (defScope s_L_is_deed) := ⟨rfl, rfl, rfl, by decide +kernel, rfl, by decide +kernel, by decide +kernel⟩
def F_L_is_deed : Sv :=
    (sq (sIf (tor (tnot (tru (eIs "tuple" (eV 1)))) (tor (tb (e2 dEq (eC dLen (aC (eV 1) a0)) (eK (.int 0)))) (tnot (tru (eIs "str" (e2 ixD (eV 1) (eK (.int 0)))))))) (sRet (eK (.bool false)))
    sNil)
    (sq (sV 2 (eDk [("read", (eK (.int 3))), ("write", (eK (.int 3))), ("up", (eK (.int 2))), ("down", (eK (.int 2))), ("leave", (eK (.int 2))), ("stop", (eK (.int 2))), ("tick", (eK (.int 1)))]))
    (sq (sIf (tb (e2 dNe (eGet2 (eV 2) (e2 ixD (eV 1) (eK (.int 0))) (eK (.int 0))) (eC dLen (aC (eV 1) a0)))) (sRet (eK (.bool false)))
    sNil)
    (sq (sIf (tand (tb (e2 dGt (eC dLen (aC (eV 1) a0)) (eK (.int 1)))) (tnot (tru (eF D_L_whole (aC (e2 ixD (eV 1) (eK (.int 1))) (aC (eK (.int 0)) (aC (e2 dSub (eV 0) (eK (.int 1))) a0))))))) (sRet (eK (.bool false)))
    sNil)
    (sRet (eor (e2 dLt (eC dLen (aC (eV 1) a0)) (eK (.int 3))) (eor (e2 dIs (e2 ixD (eV 1) (eK (.int 2))) (eK .none)) (eF D_L_whole (aC (e2 ixD (eV 1) (eK (.int 2))) (aC (eK (.int 0)) (aC (eK (.int 9)) a0)))))))))))
def D_L_is_deed : List D → Option R := defF 3 2 F_L_is_deed
theorem ok_L_is_deed (T : Top K mg) : FnOk P w K mg base CX0 2 T.a_L_is_deed T.fd_L_is_deed ["_law_n", "_law_thing"] (spF ⟨P, w, K⟩ D_L_is_deed) :=
  okF (N := N_L_is_deed) (body := F_L_is_deed) T.F_L_is_deed sc_L_is_deed fun cdv A outer s H E hr => by
    exact (z_seq (z_sif (PW.pt (zw_or (z_tnot (z_tru (z_isi (T := "tuple") (by decide) (by rfl) T.m_isinstance (by rfl) T.m_tuple (by decide +kernel) (z_pv 1)))) (zw_or (zt_eq (hu_of' hr) (z_len (by rfl) T.m_len (z_cons (z_pv 1) z_nil)) z_int) (zw_or1 (z_tnot (z_tru (z_isi (T := "str") (by decide) (by rfl) T.m_isinstance (by rfl) T.m_str (by decide +kernel) (z_ix (z_pv 1) z_int)))))))) (z_sone (z_ret z_bl))
    z_snil)
    (z_seq (z_set 2 sc_L_is_deed.nd rfl (by first | exact Or.inl rfl | exact Or.inr rfl) (z_dk (zps_cons pe_str z_int (zps_cons pe_str z_int (zps_cons pe_str z_int (zps_cons pe_str z_int (zps_cons pe_str z_int (zps_cons pe_str z_int (zps_cons pe_str z_int zps_nil))))))) (by rfl) (by rfl) (fun z => by cases z) (by decide)))
    (z_seq (z_sif (zt_ne (hu_of' hr) (z_get2 (hu_of hr) (z_pv 2) (z_ix (z_pv 1) z_int) z_int ⟨rfl, rfl, rfl, rfl⟩) (z_len (by rfl) T.m_len (z_cons (z_pv 1) z_nil))) (z_sone (z_ret z_bl))
    z_snil)
    (z_seq (z_sif (PW.pt (zw_and (zt_gt (z_len (by rfl) T.m_len (z_cons (z_pv 1) z_nil)) z_int) (zw_and1 (z_tnot (z_tru (z_call (E := E0) (ok_L_whole T) (hr.mono (by decide)) (by rfl) T.g_L_whole T.F_L_whole.kp T.b_L_whole (z_cons (z_ix (z_pv 1) z_int) (z_cons z_int (z_cons (z_sub (z_pv 0) z_int) z_nil))))))))) (z_sone (z_ret z_bl))
    z_snil)
    (z_sone (z_ret (z_or (z_lt (z_len (by rfl) T.m_len (z_cons (z_pv 1) z_nil)) z_int) (z_or (z_is (z_ix (z_pv 1) z_int) z_non) (z_one (z_call (E := E0) (ok_L_whole T) (hr.mono (by decide)) (by rfl) T.g_L_whole T.F_L_whole.kp T.b_L_whole (z_cons (z_ix (z_pv 1) z_int) (z_cons z_int (z_cons z_int z_nil)))))))))))))

/-! L_bent -/
abbrev N_L_bent : List Str := ["_law_left_here", "_law_n", "_law_deed_here", "_law_words", "_law_odd", "_law_word", "_law_thing", "_law_some"]
theorem sc_L_bent : FnScope N_L_bent ["_law_left_here", "_law_n", "_law_deed_here"] (defScope s_L_bent) := ⟨rfl, rfl, rfl, by decide +kernel, rfl, by decide +kernel, by decide +kernel⟩
def F_L_bent : Sv :=
    (sq (sV 3 (elst (aC (eK (.str "read")) (aC (eK (.str "write")) (aC (eK (.str "up")) (aC (eK (.str "down")) (aC (eK (.str "leave")) (aC (eK (.str "stop")) (aC (eK (.str "tick")) (aC (eK (.str "reads")) (aC (eK (.str "")) (aC (eK (.str "Read")) (aC (eK (.str "ticks")) a0)))))))))))))
    (sq (sV 4 (elst (aC (eV 1) (aC (e1 dNeg (eK (.int 1))) (aC (e2 dSub (eV 1) (eK (.int 1))) (aC (eK (.bool true)) (aC (eK (.bool false)) (aC (eK .none) (aC (eK (.str "0")) (aC (etup (aC (eK (.int 0)) a0)) (aC (elst (aC (eK (.int 0)) a0)) (aC (e2 dPow (eK (.int 10)) (eK (.int 30))) (aC (eK (.int 9)) (aC (eK (.int 10)) a0))))))))))))))
    (sq (sP 5 6 (aC (e2 ixD (eV 3) (eM D_L_pick (aC (eV 0) (aC (eK (.int 11)) a0)))) (aC (e2 ixD (eV 4) (eM D_L_pick (aC (eV 0) (aC (eK (.int 12)) a0)))) a0)))
    (sq (sV 7 (elst (aC (eC dList (aC (eV 2) a0)) (aC (e2 dCatT (eV 2) (etup (aC (eK .none) a0))) (aC (e2 dCatT (eV 2) (etup (aC (eV 6) a0))) (aC (eSl (eV 2) oN (oS (e1 dNeg (eK (.int 1))))) (aC (eSl (eV 2) oN (oS (eK (.int 1)))) (aC (etup (aC (eV 2) a0)) (aC (e2 dCatT (etup (aC (eV 5) a0)) (eSl (eV 2) (oS (eK (.int 1))) oN)) a0)))))))))
    (sq (sV 7 (e2 dCatL (eV 7) (elst (aC (e2 dCatT (e2 dCatT (eSl (eV 2) oN (oS (eK (.int 1)))) (etup (aC (eV 6) a0))) (eSl (eV 2) (oS (eK (.int 2))) oN)) (aC (e2 dCatT (eSl (eV 2) oN (oS (eK (.int 2)))) (etup (aC (eV 6) a0))) (aC (eSl (eV 2) (oS (eK (.int 1))) oN) (aC (e2 dCatT (etup (aC (eV 6) a0)) (eSl (eV 2) (oS (eK (.int 1))) oN)) a0)))))))
    (sq (sV 7 (e2 dCatL (eV 7) (elst (aC (e2 dCatT (eSl (eV 2) oN (oS (eK (.int 2)))) (etup (aC (e2 ixD (elst (aC (eK .none) (aC (eK (.int 0)) (aC (eK (.int 9)) a0)))) (eM D_L_pick (aC (eV 0) (aC (eK (.int 3)) a0)))) a0))) (aC (eSl (eV 2) oN (oS (eK (.int 2)))) (aC (eC dStrT (aC (eV 2) a0)) (aC (eDn (eV 2) (eK (.bool true))) a0)))))))
    (sRet (e2 ixD (eV 7) (eM D_L_pick (aC (eV 0) (aC (eK (.int 15)) a0)))))))))))
def D_L_bent : MO → List D → Option (R × MO) := defM 8 3 F_L_bent
theorem ok_L_bent (T : Top K mg) : FnOk P w K mg base CX0 2 T.a_L_bent T.fd_L_bent ["_law_left_here", "_law_n", "_law_deed_here"] (spM ⟨P, w, K⟩ D_L_bent) :=
  okM (N := N_L_bent) (body := F_L_bent) T.F_L_bent sc_L_bent fun cdv A outer s H E hr => by
    exact (z_seq (z_set 3 sc_L_bent.nd rfl (by first | exact Or.inl rfl | exact Or.inr rfl) (z_lst (z_cons z_str (z_cons z_str (z_cons z_str (z_cons z_str (z_cons z_str (z_cons z_str (z_cons z_str (z_cons z_str (z_cons z_str (z_cons z_str (z_cons z_str z_nil)))))))))))))
    (z_seq (z_set 4 sc_L_bent.nd rfl (by first | exact Or.inl rfl | exact Or.inr rfl) (z_lst (z_cons (z_pv 1) (z_cons (z_neg z_int) (z_cons (z_sub (z_pv 1) z_int) (z_cons z_bl (z_cons z_bl (z_cons z_non (z_cons z_str (z_cons (z_tup (z_cons z_int z_nil)) (z_cons (z_lst (z_cons z_int z_nil)) (z_cons (z_pow z_int z_int) (z_cons z_int (z_cons z_int z_nil))))))))))))))
    (z_seq (z_par rfl sc_L_bent.nd rfl rfl (by decide) rfl rfl (z_cons (z_ix (z_pv 3) (z_callM (ok_L_pick T) (hr.mono (by decide)) (by rfl) T.g_L_pick T.F_L_pick.kp T.b_L_pick (z_cons (z_pv 0) (z_cons z_int z_nil)))) (z_cons (z_ix (z_pv 4) (z_callM (ok_L_pick T) (hr.mono (by decide)) (by rfl) T.g_L_pick T.F_L_pick.kp T.b_L_pick (z_cons (z_pv 0) (z_cons z_int z_nil)))) z_nil)) (by rfl))
    (z_seq (z_set 7 sc_L_bent.nd rfl (by first | exact Or.inl rfl | exact Or.inr rfl) (z_lst (z_cons (z_list (by rfl) T.m_list (z_cons (z_pv 2) z_nil)) (z_cons (z_catT (z_pv 2) (z_tup (z_cons z_non z_nil))) (z_cons (z_catT (z_pv 2) (z_tup (z_cons (z_pv 6) z_nil))) (z_cons (z_sl (z_pv 2) zo_n (zo_s (z_neg z_int))) (z_cons (z_sl (z_pv 2) zo_n (zo_s z_int)) (z_cons (z_tup (z_cons (z_pv 2) z_nil)) (z_cons (z_catT (z_tup (z_cons (z_pv 5) z_nil)) (z_sl (z_pv 2) (zo_s z_int) zo_n)) z_nil)))))))))
    (z_seq (z_set 7 sc_L_bent.nd rfl (by first | exact Or.inl rfl | exact Or.inr rfl) (z_catL (z_pv 7) (z_lst (z_cons (z_catT (z_catT (z_sl (z_pv 2) zo_n (zo_s z_int)) (z_tup (z_cons (z_pv 6) z_nil))) (z_sl (z_pv 2) (zo_s z_int) zo_n)) (z_cons (z_catT (z_sl (z_pv 2) zo_n (zo_s z_int)) (z_tup (z_cons (z_pv 6) z_nil))) (z_cons (z_sl (z_pv 2) (zo_s z_int) zo_n) (z_cons (z_catT (z_tup (z_cons (z_pv 6) z_nil)) (z_sl (z_pv 2) (zo_s z_int) zo_n)) z_nil)))))))
    (z_seq (z_set 7 sc_L_bent.nd rfl (by first | exact Or.inl rfl | exact Or.inr rfl) (z_catL (z_pv 7) (z_lst (z_cons (z_catT (z_sl (z_pv 2) zo_n (zo_s z_int)) (z_tup (z_cons (z_ix (z_lst (z_cons z_non (z_cons z_int (z_cons z_int z_nil)))) (z_callM (ok_L_pick T) (hr.mono (by decide)) (by rfl) T.g_L_pick T.F_L_pick.kp T.b_L_pick (z_cons (z_pv 0) (z_cons z_int z_nil)))) z_nil))) (z_cons (z_sl (z_pv 2) zo_n (zo_s z_int)) (z_cons (z_strT (hu_of' hr) (by rfl) T.m_str (z_cons (z_pv 2) z_nil)) (z_cons (z_dn (hu_of' hr) (z_pv 2) z_bl) z_nil)))))))
    (z_sone (z_ret (z_ix (z_pv 7) (z_callM (ok_L_pick T) (hr.mono (by decide)) (by rfl) T.g_L_pick T.F_L_pick.kp T.b_L_pick (z_cons (z_pv 0) (z_cons z_int z_nil))))))))))))

/-! L_nested -/
abbrev N_L_nested : List Str := ["_law_thing", "_law_deep", "_law_turn"]
theorem sc_L_nested : FnScope N_L_nested ["_law_thing", "_law_deep"] (defScope s_L_nested) := ⟨rfl, rfl, rfl, by decide +kernel, rfl, by decide +kernel, by decide +kernel⟩
def F_L_nested : Sv :=
    (sq (sFor (iR1 (aC (eV 1) a0)) (.n 2) (sV 0 (etup (aC (eV 0) (aC (eK (.int 0)) a0)))))
    (sRet (eV 0)))
def D_L_nested : List D → Option R := defF 3 2 F_L_nested
theorem ok_L_nested (T : Top K mg) : FnOk P w K mg base CX0 1 T.a_L_nested T.fd_L_nested ["_law_thing", "_law_deep"] (spF ⟨P, w, K⟩ D_L_nested) :=
  okF (N := N_L_nested) (body := F_L_nested) T.F_L_nested sc_L_nested fun cdv A outer s H E hr => by
    exact (z_seq (z_for PassesOwn.never rfl (z_range1 (by rfl) T.m_range (z_cons (z_pv 1) z_nil)) (zg_name 2 sc_L_nested.nd rfl (by first | exact Or.inl rfl | exact Or.inr rfl)) (z_sone (z_set 0 sc_L_nested.nd rfl (by first | exact Or.inl rfl | exact Or.inr rfl) (z_tup (z_cons (z_pv 0) (z_cons z_int z_nil))))))
    (z_sone (z_ret (z_pv 0))))

/-! law -/
abbrev N_law : List Str := ["_law_script", "_law_k", "_law_left_here", "_law_n", "_law_some", "_law_turn", "_law_deed_here", "_law_thing", "_law_found", "_law_deep"]
theorem sc_law : FnScope N_law ["_law_script"] (defScope s_law) := ⟨rfl, rfl, rfl, by decide +kernel, rfl, by decide +kernel, by decide +kernel⟩
def F_law : Sv :=
    (sq (sFor (iR1 (aC (eC dMax2 (aC (eK (.int 3)) (aC (eC dMin2 (aC (eC dLen (aC (eV 0) a0)) (aC (eK (.int 8)) a0))) a0))) a0)) (.n 1) (sq (sO 2 (eF D_L_left (aC (eV 0) (aC (eV 1) a0))))
    (sq (sV 3 (e2 dAdd (eK (.int 1)) (eM D_L_pick (aC (eV 2) (aC (eK (.int 5)) a0)))))
    (sq (sV 4 (elst (aC (eK .none) (aC (eK (.bool true)) (aC (eK (.int 0)) (aC (eK (.str "")) (aC (eK (.str "tick")) (aC (eK (.str "read")) (aC (etup a0) (aC (elst a0) (aC eD0 (aC (etup (aC (eK (.str "tick")) a0)) (aC (elst (aC (eK (.str "tick")) a0)) (aC (etup (aC (etup (aC (eK (.str "tick")) a0)) a0)) (aC (etup (aC (eK .none) (aC (eK (.int 0)) a0))) (aC (etup (aC (eK (.int 0)) (aC (eK (.str "up")) a0))) a0))))))))))))))))
    (sq (sV 4 (e2 dCatL (eV 4) (eLc (iT (etup (aC (eK (.int 1)) (aC (eK (.int 59)) a0)))) (.n 9) tyes (eF D_L_nested (aC (etup (aC (eK (.str "up")) (aC (eK (.int 0)) a0))) (aC (eV 9) a0))) [9])))
    (sq (sFor (iR1 (aC (eK (.int 12)) a0)) (.n 5) (sq (sV 6 (eM D_L_deed (aC (eV 2) (aC (eV 3) a0))))
    (sV 4 (e2 dCatL (eV 4) (elst (aC (eV 6) (aC (eM D_L_bent (aC (eV 2) (aC (eV 3) (aC (eV 6) a0)))) (aC (eM D_L_bent (aC (eV 2) (aC (eV 3) (aC (eM D_L_deed (aC (eV 2) (aC (eK (.int 9)) a0))) a0)))) a0))))))))
    (sFor (iL (eV 4)) (.n 7) (sq (sV 8 (eF D_is_deed (aC (eV 3) (aC (eV 7) a0))))
    (sIf (tor (tnot (tru (eIs "bool" (eV 8)))) (tb (e2 dNe (eV 8) (eF D_L_is_deed (aC (eV 3) (aC (eV 7) a0)))))) (sRet (eK (.bool false)))
    sNil)))))))))
    (sRet (eK (.bool true))))
def D_law : List D → Option R := defF 10 1 F_law
theorem ok_law (T : Top K mg) : FnOk P w K mg base CX0 3 T.a_law T.fd_law ["_law_script"] (spF ⟨P, w, K⟩ D_law) :=
  okF (N := N_law) (body := F_law) T.F_law sc_law fun cdv A outer s H E hr => by
    exact (z_seq (z_for PassesOwn.never rfl (z_range1 (by rfl) T.m_range (z_cons (z_max2 rfl (by rfl) T.m_max (z_cons z_int (z_cons (z_min2 rfl (by rfl) T.m_min (z_cons (z_len (by rfl) T.m_len (z_cons (z_pv 0) z_nil)) (z_cons z_int z_nil))) z_nil))) z_nil)) (zg_name 1 sc_law.nd rfl (by first | exact Or.inl rfl | exact Or.inr rfl)) (z_seq (z_setO 2 sc_law.nd rfl (by first | exact Or.inl rfl | exact Or.inr rfl) (z_call (E := E0) (ok_L_left T) (hr.mono (by decide)) (by rfl) T.g_L_left T.F_L_left.kp T.b_L_left (z_cons (z_pv 0) (z_cons (z_pv 1) z_nil))))
    (z_seq (z_set 3 sc_law.nd rfl (by first | exact Or.inl rfl | exact Or.inr rfl) (z_add z_int (z_callM (ok_L_pick T) (hr.mono (by decide)) (by rfl) T.g_L_pick T.F_L_pick.kp T.b_L_pick (z_cons (z_pv 2) (z_cons z_int z_nil)))))
    (z_seq (z_set 4 sc_law.nd rfl (by first | exact Or.inl rfl | exact Or.inr rfl) (z_lst (z_cons z_non (z_cons z_bl (z_cons z_int (z_cons z_str (z_cons z_str (z_cons z_str (z_cons (z_tup z_nil) (z_cons (z_lst z_nil) (z_cons z_d0 (z_cons (z_tup (z_cons z_str z_nil)) (z_cons (z_lst (z_cons z_str z_nil)) (z_cons (z_tup (z_cons (z_tup (z_cons z_str z_nil)) z_nil)) (z_cons (z_tup (z_cons z_non (z_cons z_int z_nil))) (z_cons (z_tup (z_cons z_int (z_cons z_str z_nil))) z_nil))))))))))))))))
    (z_seq (z_set 4 sc_law.nd rfl (by first | exact Or.inl rfl | exact Or.inr rfl) (z_catL (z_pv 4) (z_lc rfl sc_law.nd (z_it (z_tup (z_cons z_int (z_cons z_int z_nil)))) (blkOk_by (own := [("_law_deep", 9)]) (N := N_law) (sc := defScope s_law) (by decide +kernel)) (fun _ _ _ _ _ => (zg_name 9 sc_law.nd rfl (by first | exact Or.inl rfl | exact Or.inr rfl))) (fun _ _ _ _ _ => zt_nil) (fun _ _ _ _ _ => (z_call (E := E0) (ok_L_nested T) (hr.mono (by decide)) (by rfl) T.g_L_nested T.F_L_nested.kp T.b_L_nested (z_cons (z_tup (z_cons z_str (z_cons z_int z_nil))) (z_cons (z_pv 9) z_nil)))))))
    (z_seq (z_for PassesOwn.never rfl (z_range1 (by rfl) T.m_range (z_cons z_int z_nil)) (zg_name 5 sc_law.nd rfl (by first | exact Or.inl rfl | exact Or.inr rfl)) (z_seq (z_set 6 sc_law.nd rfl (by first | exact Or.inl rfl | exact Or.inr rfl) (z_callM (ok_L_deed T) (hr.mono (by decide)) (by rfl) T.g_L_deed T.F_L_deed.kp T.b_L_deed (z_cons (z_pv 2) (z_cons (z_pv 3) z_nil))))
    (z_sone (z_set 4 sc_law.nd rfl (by first | exact Or.inl rfl | exact Or.inr rfl) (z_catL (z_pv 4) (z_lst (z_cons (z_pv 6) (z_cons (z_callM (ok_L_bent T) (hr.mono (by decide)) (by rfl) T.g_L_bent T.F_L_bent.kp T.b_L_bent (z_cons (z_pv 2) (z_cons (z_pv 3) (z_cons (z_pv 6) z_nil)))) (z_cons (z_callM (ok_L_bent T) (hr.mono (by decide)) (by rfl) T.g_L_bent T.F_L_bent.kp T.b_L_bent (z_cons (z_pv 2) (z_cons (z_pv 3) (z_cons (z_callM (ok_L_deed T) (hr.mono (by decide)) (by rfl) T.g_L_deed T.F_L_deed.kp T.b_L_deed (z_cons (z_pv 2) (z_cons z_int z_nil))) z_nil)))) z_nil)))))))))
    (z_sone (z_for PassesOwn.never rfl (z_il (z_pv 4)) (zg_name 7 sc_law.nd rfl (by first | exact Or.inl rfl | exact Or.inr rfl)) (z_seq (z_set 8 sc_law.nd rfl (by first | exact Or.inl rfl | exact Or.inr rfl) (z_call (E := E0) (ok_is_deed T) (hr.mono (by decide)) (by rfl) T.g_is_deed T.F_is_deed.kp T.b_is_deed (z_cons (z_pv 3) (z_cons (z_pv 7) z_nil))))
    (z_sone (z_sif (PW.pt (zw_or (z_tnot (z_tru (z_isi (T := "bool") (by decide) (by rfl) T.m_isinstance (by rfl) T.m_bool (by decide +kernel) (z_pv 8)))) (zw_or1 (zt_ne (hu_of' hr) (z_pv 8) (z_call (E := E0) (ok_L_is_deed T) (hr.mono (by decide)) (by rfl) T.g_L_is_deed T.F_L_is_deed.kp T.b_L_is_deed (z_cons (z_pv 3) (z_cons (z_pv 7) z_nil))))))) (z_sone (z_ret z_bl))
    z_snil)))))))))))
    (z_sone (z_ret z_bl)))
end
end Z

set_option Elab.async false
set_option linter.all false
set_option maxRecDepth 100000
/-! ZA: what a function over data hands back, by parts. -/
namespace Z
open PySem L2
def OW {α : Type} (o : Option α) (Q : α → Prop) : Prop := ∃ x, o = some x ∧ Q x
theorem OW_some {α : Type} {x : α} {Q : α → Prop} : OW (some x) Q ↔ Q x := ⟨fun ⟨y, e, q⟩ => by cases e; exact q, fun q => ⟨x, rfl, q⟩⟩
theorem OW_bind {α β : Type} {o : Option α} {f : α → Option β} {Q : β → Prop} : OW (o.bind f) Q ↔ OW o fun a => OW (f a) Q := by
  cases o with
  | none => exact ⟨fun ⟨_, e, _⟩ => (by cases e), fun ⟨_, e, _⟩ => (by cases e)⟩
  | some a => exact ⟨fun h => ⟨a, rfl, h⟩, fun ⟨_, e, h⟩ => (by cases e; exact h)⟩
theorem OW_map {α β : Type} {o : Option α} {f : α → β} {Q : β → Prop} : OW (o.map f) Q ↔ OW o fun a => Q (f a) := by
  cases o with
  | none => exact ⟨fun ⟨_, e, _⟩ => (by cases e), fun ⟨_, e, _⟩ => (by cases e)⟩
  | some a => exact ⟨fun ⟨_, e, h⟩ => (by cases e; exact ⟨a, rfl, h⟩), fun ⟨_, e, h⟩ => (by cases e; exact ⟨_, rfl, h⟩)⟩
theorem OW_fz {f : Ev} {ρ : En} {Q : R × En → Prop} : OW (fz f ρ) Q ↔ OW (f ρ) fun p => match p.1 with
    | .n m => Q (.v m.toD, p.2)
    | _ => Q p := by
  unfold fz
  cases h : f ρ with
  | none => exact ⟨fun ⟨_, e, _⟩ => (by cases e), fun ⟨_, e, _⟩ => (by cases e)⟩
  | some p =>
    obtain ⟨r, ρ'⟩ := p
    rw [OW_some]
    cases r with
    | n m => exact OW_some
    | v d => exact OW_some
    | s j => exact OW_some
theorem OW.imp {α : Type} {o : Option α} {Q Q' : α → Prop} (h : OW o Q) (k : ∀ x, Q x → Q' x) : OW o Q' := by
  obtain ⟨x, e, q⟩ := h
  exact ⟨x, e, k x q⟩
theorem OW.defF {n np : Nat} {f : Sv} {ds : List D} {Q : R → Prop} (hl : ds.length = np) (h : OW (f (ds.map Sl.v ++ List.replicate (n - np) .no)) fun p => match p.1 with
    | .nx => Q (.v .none)
    | .rt r => OW (rtR p.2 r) Q
    | _ => False) : OW (Z.defF n np f ds) Q := by
  obtain ⟨⟨o, ρ'⟩, e, h⟩ := h
  unfold Z.defF
  rw [if_pos hl, e]
  cases o with
  | nx => exact ⟨_, rfl, h⟩
  | rt r => exact h
  | bk => exact h.elim
  | ct => exact h.elim
theorem OW.defM {n np : Nat} {f : Sv} {m : MO} {ds : List D} {Q : R × MO → Prop} (hl : ds.length + 1 = np) (h : OW (f (.al n :: (ds.map Sl.v ++ List.replicate (n - np) .no) ++ [.own m])) fun p => OW p.2[n]? fun s => match s with
    | .own m' => match p.1 with
      | .nx => Q (.v .none, m')
      | .rt r => OW (rtM n p.2 r) fun r' => Q (r', m')
      | _ => False
    | _ => False) : OW (Z.defM n np f m ds) Q := by
  obtain ⟨⟨o, ρ'⟩, e, s, e2, h⟩ := h
  unfold Z.defM
  rw [if_pos hl, e]
  cases s with
  | own m' =>
    have e2' : ρ'[n]? = some (.own m') := e2
    simp only [e2']
    cases o with
    | nx => exact ⟨_, rfl, h⟩
    | rt r =>
      obtain ⟨r', e3, h⟩ := h
      have e3' : rtM n ρ' r = some r' := e3
      show OW ((rtM n ρ' r).map _) Q
      rw [e3']
      exact ⟨_, rfl, h⟩
    | bk => exact h.elim
    | ct => exact h.elim
  | _ => exact h.elim
/-- a loop, by what stays -/
theorem OW.forL {tg : Tg} {raw : Bool} {b : Sv} {Q : Fl × En → Prop} (I : List D → En → Prop) (step : ∀ d ds ρ, I (d :: ds) ρ → OW (tgD tg raw d ρ) fun ρ1 => OW (b ρ1) fun p => match p.1 with
    | .nx => I ds p.2
    | .ct => I ds p.2
    | .bk => Q (.nx, p.2)
    | .rt r => Q (.rt r, p.2)) (fin : ∀ ρ, I [] ρ → Q (.nx, ρ)) : ∀ {ds : List D} {ρ : En}, I ds ρ → OW (Z.forL tg raw b ds ρ) Q
  | [], ρ, h => ⟨_, rfl, fin ρ h⟩
  | d :: ds, ρ, h => by
    obtain ⟨ρ1, e1, ⟨o, ρ2⟩, e2, h2⟩ := step d ds ρ h
    unfold Z.forL
    rw [e1, Option.bind_some, e2, Option.bind_some]
    cases o with
    | nx => exact OW.forL I step fin h2
    | ct => exact OW.forL I step fin h2
    | bk => exact ⟨_, rfl, h2⟩
    | rt r => exact ⟨_, rfl, h2⟩
/-- a comprehension, by what stays -/
theorem OW.lcL {tg : Tg} {raw : Bool} {t : Tv} {f : Ev} {w : List Nat} {Q : List D × En → Prop} (I : List D → List D → En → Prop) (step : ∀ d ds acc ρ, I (d :: ds) acc ρ → OW (tgD tg raw d ρ) fun ρ1 => OW (t ρ1) fun p => if p.1 = true then OW (fz f p.2) fun q => (∃ e, q.1 = .v e ∧ acc.length < sizeLine ∧ I ds (acc ++ [e]) (wipeE w q.2)) else I ds acc (wipeE w p.2))
    (fin : ∀ acc ρ, I [] acc ρ → Q (acc, ρ)) : ∀ {ds acc : List D} {ρ : En}, I ds acc ρ → OW (Z.lcL tg raw t f w ds acc ρ) Q
  | [], acc, ρ, h => ⟨_, rfl, fin acc ρ h⟩
  | d :: ds, acc, ρ, h => by
    obtain ⟨ρ1, e1, ⟨k, ρ2⟩, e2, h2⟩ := step d ds acc ρ h
    unfold Z.lcL
    rw [e1, Option.bind_some, e2, Option.bind_some]
    cases k with
    | false => exact OW.lcL I step fin h2
    | true =>
      rw [if_pos rfl] at h2 ⊢
      obtain ⟨⟨r, ρ3⟩, e3, e, hr, hl, h3⟩ := h2
      have hr' : r = .v e := hr
      subst hr'
      rw [e3, Option.bind_some]
      show OW (if acc.length < sizeLine then _ else none) Q
      rw [if_pos hl]
      exact OW.lcL I step fin h3
theorem atI_mem {α : Type} {xs : List α} {i : Int} (h0 : 0 ≤ i) (h1 : i < xs.length) : OW (atI xs i) fun x => x ∈ xs := by
  obtain ⟨k, rfl⟩ := Int.eq_ofNat_of_zero_le h0
  have hk : k < xs.length := by omega
  refine ⟨xs[k], ?_, List.getElem_mem hk⟩
  unfold atI ixN
  rw [if_pos h0, if_pos h1]
  show xs[(k : Int).toNat]? = some xs[k]
  rw [Int.toNat_natCast, List.getElem?_eq_getElem hk]
end Z

set_option Elab.async false
set_option linter.all false
set_option maxRecDepth 100000
/-! ZB: what a function over data hands back: one rule a construct. -/
namespace Z
open PySem L2
theorem OW_congr {α : Type} {o o' : Option α} {Q : α → Prop} (h : o = o') : OW o Q = OW o' Q := by rw [h]
theorem OW_iff {α : Type} {o : Option α} {Q Q' : α → Prop} (h : ∀ x, Q x ↔ Q' x) : OW o Q ↔ OW o Q' := ⟨fun k => k.imp fun x => (h x).mp, fun k => k.imp fun x => (h x).mpr⟩
theorem OW_none {α : Type} {Q : α → Prop} : OW (none : Option α) Q ↔ False := ⟨fun ⟨_, e, _⟩ => (by cases e), False.elim⟩
theorem OW_ifn {α : Type} {c : Prop} [Decidable c] {o : Option α} {Q : α → Prop} : OW (if c then o else none) Q ↔ c ∧ OW o Q := by
  by_cases h : c
  · rw [if_pos h]; exact ⟨fun k => ⟨h, k⟩, fun k => k.2⟩
  · rw [if_neg h]; exact ⟨fun ⟨_, e, _⟩ => (by cases e), fun k => absurd k.1 h⟩
def frz : R → R
  | .n m => .v m.toD
  | r => r
theorem frz_v {d : D} : frz (.v d) = .v d := rfl
theorem frz_n {m : MO} : frz (.n m) = .v m.toD := rfl
theorem frz_s {j : Nat} : frz (.s j) = .s j := rfl
theorem toD_lst {ds : List D} : (MO.lst ds).toD = .list ds := rfl
theorem toD_dic {ds : List (D × D)} : (MO.dic ds).toD = .dict ds := rfl
theorem toD_dk {ds : List (D × D)} : (MO.dk ds).toD = .dict ds := rfl
theorem dr_v {ρ : En} {d : D} : dr ρ (.v d) = some d := rfl
theorem dr_n {ρ : En} {m : MO} : dr ρ (.n m) = some m.toD := rfl
theorem dr_frz {ρ : En} {r : R} : dr ρ (frz r) = dr ρ r := by cases r <;> rfl
def ownD : Sl → Option D
  | .own m => some m.toD
  | _ => none
theorem dr_s {ρ : En} {i : Nat} : dr ρ (.s i) = ρ[i]?.bind ownD := by
  show (match ρ[i]? with | some (.own m) => some m.toD | _ => none) = _
  cases ρ[i]? with
  | none => rfl
  | some s => cases s <;> rfl
theorem ownD_own {m : MO} : ownD (.own m) = some m.toD := rfl
theorem vals_nil : vals [] = some [] := rfl
theorem vals_v {d : D} {rs : List R} : vals (.v d :: rs) = (vals rs).map (d :: ·) := rfl
theorem drs_nil {ρ : En} : drs ρ [] = some [] := rfl
theorem drs_c {ρ : En} {r : R} {rs : List R} : drs ρ (r :: rs) = (dr ρ r).bind fun d => (drs ρ rs).map (d :: ·) := rfl
variable {ρ : En} {Q : R × En → Prop} {f f' f'' : Ev} {a : Av} {s s' : Sv} {t t' : Tv}
theorem OW_fzf : OW (fz f ρ) Q ↔ OW (f ρ) fun p => Q (frz p.1, p.2) := by
  rw [OW_fz]
  refine OW_iff fun ⟨r, ρ'⟩ => ?_
  cases r <;> exact Iff.rfl
def svR (i : Nat) : Sl → Option R
  | .v d => some (.v d)
  | .own _ => some (.s i)
  | .al j => some (.s j)
  | _ => none
theorem svR_v {i : Nat} {d : D} : svR i (.v d) = some (.v d) := rfl
theorem svR_own {i : Nat} {m : MO} : svR i (.own m) = some (.s i) := rfl
theorem svR_al {i j : Nat} : svR i (.al j) = some (.s j) := rfl
theorem OW_eV {i : Nat} : OW (eV i ρ) Q ↔ OW ρ[i]? fun s => OW (svR i s) fun r => Q (r, ρ) := by
  unfold eV
  cases ρ[i]? with
  | none => rw [OW_none, OW_none]
  | some s => rw [OW_some]; cases s <;> first | (show OW (some _) Q ↔ OW (some _) _; rw [OW_some, OW_some]) | (show OW none Q ↔ OW none _; rw [OW_none, OW_none])
theorem OW_eK {d : D} : OW (eK d ρ) Q ↔ Q (.v d, ρ) := OW_some
theorem OW_e1 {g : D → Option R} : OW (e1 g f ρ) Q ↔ OW (f ρ) fun p => OW (dr p.2 p.1) fun d => OW (g d) fun r => Q (r, p.2) := by
  unfold e1; simp only [OW_bind, OW_map, OW_fzf, dr_frz]
theorem OW_e2 {g : D → D → Option R} : OW (e2 g f f' ρ) Q ↔ OW (f ρ) fun p => OW (f' p.2) fun q => OW (dr q.2 p.1) fun d => OW (dr q.2 q.1) fun d' => OW (g d d') fun r => Q (r, q.2) := by
  unfold e2; simp only [OW_bind, OW_map, OW_fzf, dr_frz]
def boolR : R → Option Bool
  | .v (.bool b) => some b
  | _ => none
theorem boolR_b {b : Bool} : boolR (.v (.bool b)) = some b := rfl
theorem OW_e3 {g g' : D → D → Option R} : OW (e3 g g' f f' f'' ρ) Q ↔ OW (f ρ) fun p => OW (f' p.2) fun q => OW (dr q.2 p.1) fun d => OW (dr q.2 q.1) fun d' => OW (g d d') fun r => OW (boolR r) fun b => if b = true then OW (f'' q.2) fun s => OW (dr s.2 q.1) fun d1 => OW (dr s.2 s.1) fun d2 => OW (g' d1 d2) fun r' => Q (r', s.2) else Q (.v (.bool false), q.2) := by
  unfold e3; simp only [OW_bind, OW_fzf, dr_frz]
  refine OW_iff fun p => OW_iff fun q => OW_iff fun d => OW_iff fun d' => OW_iff fun r => ?_
  cases r with
  | v x =>
    cases x with
    | bool b =>
      rw [boolR_b, OW_some]
      cases b with
      | true => simp only [OW_bind, OW_map, OW_fzf, dr_frz, if_true]
      | false => rw [if_neg Bool.false_ne_true]; exact OW_some
    | _ => show OW none _ ↔ OW none _; rw [OW_none, OW_none]
  | _ => show OW none _ ↔ OW none _; rw [OW_none, OW_none]
theorem OW_tb {Q : Bool × En → Prop} : OW (tb f ρ) Q ↔ OW (f ρ) fun p => OW (boolR p.1) fun b => Q (b, p.2) := by
  unfold tb; rw [OW_bind]
  refine OW_iff fun ⟨r, ρ'⟩ => ?_
  cases r with
  | v x =>
    cases x with
    | bool b => rw [boolR_b, OW_some]; first | exact OW_some | rw [OW_some]
    | _ => show OW none _ ↔ OW none _; rw [OW_none, OW_none]
  | _ => show OW none _ ↔ OW none _; rw [OW_none, OW_none]
theorem OW_tru {Q : Bool × En → Prop} : OW (tru f ρ) Q ↔ OW (f ρ) fun p => OW (dr p.2 p.1) fun d => OW (truD d) fun b => Q (b, p.2) := by
  unfold tru; simp only [OW_bind, OW_map, OW_fzf, dr_frz]
theorem OW_ite {α : Type} {c : Prop} [Decidable c] {o o' : Option α} {Q : α → Prop} : OW (if c then o else o') Q ↔ if c then OW o Q else OW o' Q := by
  by_cases h : c
  · rw [if_pos h, if_pos h]
  · rw [if_neg h, if_neg h]
theorem OW_tand {Q : Bool × En → Prop} : OW (tand t t' ρ) Q ↔ OW (t ρ) fun p => if p.1 = true then OW (t' p.2) Q else Q (false, p.2) := by
  unfold tand; simp only [OW_bind, OW_ite, OW_some]
theorem OW_tor {Q : Bool × En → Prop} : OW (tor t t' ρ) Q ↔ OW (t ρ) fun p => if p.1 = true then Q (true, p.2) else OW (t' p.2) Q := by
  unfold tor; simp only [OW_bind, OW_ite, OW_some]
theorem OW_tnot {Q : Bool × En → Prop} : OW (tnot t ρ) Q ↔ OW (t ρ) fun p => Q (!p.1, p.2) := by
  unfold tnot; simp only [OW_map]
theorem OW_eand : OW (eand f f' ρ) Q ↔ OW (tb f ρ) fun p => if p.1 = true then OW (f' p.2) Q else Q (.v (.bool false), p.2) := by
  unfold eand; simp only [OW_bind, OW_ite, OW_some]
theorem OW_eor : OW (eor f f' ρ) Q ↔ OW (tb f ρ) fun p => if p.1 = true then Q (.v (.bool true), p.2) else OW (f' p.2) Q := by
  unfold eor; simp only [OW_bind, OW_ite, OW_some]
theorem OW_enot : OW (enot f ρ) Q ↔ OW (tb f ρ) fun p => Q (.v (.bool (!p.1)), p.2) := by
  unfold enot; simp only [OW_map]
theorem OW_eif : OW (eif t f f' ρ) Q ↔ OW (t ρ) fun p => if p.1 = true then OW (f p.2) Q else OW (f' p.2) Q := by
  unfold eif; simp only [OW_bind, OW_ite]
theorem OW_a0 {Q : List R × En → Prop} : OW (a0 ρ) Q ↔ Q ([], ρ) := OW_some
theorem OW_aC {Q : List R × En → Prop} : OW (aC f a ρ) Q ↔ OW (f ρ) fun p => OW (a p.2) fun q => Q (frz p.1 :: q.1, q.2) := by
  unfold aC; simp only [OW_bind, OW_map, OW_fzf]
theorem OW_etup : OW (etup a ρ) Q ↔ OW (a ρ) fun p => OW (vals p.1) fun ds => ds.length ≤ sizeLine ∧ Q (.v (.tuple ds), p.2) := by
  unfold etup; simp only [OW_bind, OW_ifn, OW_some]
theorem OW_elst : OW (elst a ρ) Q ↔ OW (a ρ) fun p => OW (vals p.1) fun ds => ds.length ≤ sizeLine ∧ Q (.n (.lst ds), p.2) := by
  unfold elst; simp only [OW_bind, OW_ifn, OW_some]
theorem OW_eC {g : List D → Option R} : OW (eC g a ρ) Q ↔ OW (a ρ) fun p => OW (drs p.2 p.1) fun ds => OW (g ds) fun r => Q (r, p.2) := by
  unfold eC; simp only [OW_bind, OW_map]
theorem OW_eF {F : List D → Option R} : OW (eF F a ρ) Q ↔ OW (a ρ) fun p => OW (vals p.1) fun ds => OW (F ds) fun r => Q (r, p.2) := by
  unfold eF; simp only [OW_bind, OW_map]
def argM : List R → Option (Nat × List R)
  | .s j :: rs => some (j, rs)
  | _ => none
theorem argM_s {j : Nat} {rs : List R} : argM (.s j :: rs) = some (j, rs) := rfl
def ownM : Sl → Option MO
  | .own m => some m
  | _ => none
theorem ownM_own {m : MO} : ownM (.own m) = some m := rfl
theorem OW_eM {F : MO → List D → Option (R × MO)} : OW (eM F a ρ) Q ↔ OW (a ρ) fun p => OW (argM p.1) fun jr => OW (vals jr.2) fun ds => OW p.2[jr.1]? fun s => OW (ownM s) fun m => OW (F m ds) fun q => Q (q.1, p.2.set jr.1 (.own q.2)) := by
  unfold eM; rw [OW_bind]
  refine OW_iff fun ⟨rs, ρ'⟩ => ?_
  cases rs with
  | nil => show OW none _ ↔ OW none _; rw [OW_none, OW_none]
  | cons r rs =>
    cases r with
    | s j =>
      rw [argM_s, OW_some]
      show OW (Option.bind _ _) _ ↔ _
      rw [OW_bind]
      refine OW_iff fun ds => ?_
      show OW (match ρ'[j]? with | some (.own m) => (F m ds).map fun q => (q.1, ρ'.set j (.own q.2)) | _ => none) Q ↔ OW ρ'[j]? _
      cases ρ'[j]? with
      | none => rw [OW_none]; first | exact OW_none | rw [OW_none]
      | some s =>
        rw [OW_some]
        cases s with
        | own m => rw [ownM_own, OW_some]; exact OW_map
        | _ => show OW none _ ↔ OW none _; rw [OW_none, OW_none]
    | _ => show OW none _ ↔ OW none _; rw [OW_none, OW_none]
def slotR : R → Option Nat
  | .s j => some j
  | _ => none
theorem slotR_s {j : Nat} : slotR (.s j) = some j := rfl
def ownL : Sl → Option (List D)
  | .own (.lst ds) => some ds
  | _ => none
theorem ownL_own {ds : List D} : ownL (.own (.lst ds)) = some ds := rfl
theorem OW_sNil {Q : Fl × En → Prop} : OW (sNil ρ) Q ↔ Q (.nx, ρ) := OW_some
theorem OW_sBk {Q : Fl × En → Prop} : OW (sBk ρ) Q ↔ Q (.bk, ρ) := OW_some
theorem OW_sCt {Q : Fl × En → Prop} : OW (sCt ρ) Q ↔ Q (.ct, ρ) := OW_some
theorem OW_sRetN {Q : Fl × En → Prop} : OW (sRetN ρ) Q ↔ Q (.rt (.v .none), ρ) := OW_some
theorem OW_sq {Q : Fl × En → Prop} : OW (sq s s' ρ) Q ↔ OW (s ρ) fun p => match p.1 with
    | .nx => OW (s' p.2) Q
    | .bk => Q (.bk, p.2)
    | .ct => Q (.ct, p.2)
    | .rt r => Q (.rt r, p.2) := by
  unfold sq; rw [OW_bind]
  refine OW_iff fun ⟨o, ρ'⟩ => ?_
  cases o with
  | nx => exact Iff.rfl
  | _ => exact OW_some
theorem OW_sIf {Q : Fl × En → Prop} : OW (sIf t s s' ρ) Q ↔ OW (t ρ) fun p => if p.1 = true then OW (s p.2) Q else OW (s' p.2) Q := by
  unfold sIf; simp only [OW_bind, OW_ite]
theorem OW_sRet {Q : Fl × En → Prop} : OW (sRet f ρ) Q ↔ OW (f ρ) fun p => Q (.rt p.1, p.2) := by
  unfold sRet; simp only [OW_map]
theorem OW_sX {Q : Fl × En → Prop} : OW (sX f ρ) Q ↔ OW (f ρ) fun p => Q (.nx, p.2) := by
  unfold sX; simp only [OW_map]
def valR : R → Option D
  | .v d => some d
  | _ => none
theorem valR_v {d : D} : valR (.v d) = some d := rfl
def newR : R → Option MO
  | .n m => some m
  | _ => none
theorem newR_n {m : MO} : newR (.n m) = some m := rfl
theorem OW_sV {Q : Fl × En → Prop} {i : Nat} : OW (sV i f ρ) Q ↔ OW (f ρ) fun p => OW (valR (frz p.1)) fun d => Q (.nx, p.2.set i (.v d)) := by
  unfold sV; rw [OW_bind, OW_fzf]
  refine OW_iff fun ⟨r, ρ'⟩ => ?_
  show OW (match frz r with | .v d => some (Fl.nx, ρ'.set i (.v d)) | _ => none) Q ↔ OW (valR (frz r)) _
  cases frz r with
  | v d => rw [valR_v, OW_some]; first | exact OW_some | rw [OW_some]
  | _ => show OW none _ ↔ OW none _; rw [OW_none, OW_none]
theorem OW_sO {Q : Fl × En → Prop} {i : Nat} : OW (sO i f ρ) Q ↔ OW (f ρ) fun p => OW (newR p.1) fun m => Q (.nx, p.2.set i (.own m)) := by
  unfold sO; rw [OW_bind]
  refine OW_iff fun ⟨r, ρ'⟩ => ?_
  cases r with
  | n m => rw [newR_n, OW_some]; first | exact OW_some | rw [OW_some]
  | _ => show OW none _ ↔ OW none _; rw [OW_none, OW_none]
def two : List D → Option (D × D)
  | [d, d'] => some (d, d')
  | _ => none
theorem two_2 {d d' : D} : two [d, d'] = some (d, d') := rfl
theorem OW_sP {Q : Fl × En → Prop} {i j : Nat} : OW (sP i j a ρ) Q ↔ OW (a ρ) fun p => OW (vals p.1) fun ds => OW (two ds) fun dd => Q (.nx, (p.2.set i (.v dd.1)).set j (.v dd.2)) := by
  unfold sP; simp only [OW_bind]
  refine OW_iff fun p => OW_iff fun ds => ?_
  match ds with
  | [d, d'] => rw [two_2, OW_some]; first | exact OW_some | rw [OW_some]
  | [] => show OW none _ ↔ OW none _; rw [OW_none, OW_none]
  | [_] => show OW none _ ↔ OW none _; rw [OW_none, OW_none]
  | _ :: _ :: _ :: _ => show OW none _ ↔ OW none _; rw [OW_none, OW_none]
theorem OW_sU {Q : Fl × En → Prop} {is : List Nat} : OW (sU is f ρ) Q ↔ OW (f ρ) fun p => OW (valR (frz p.1)) fun d => OW (tgD (.t is) false d p.2) fun ρ' => Q (.nx, ρ') := by
  unfold sU; rw [OW_bind, OW_fzf]
  refine OW_iff fun ⟨r, ρ'⟩ => ?_
  show OW (match frz r with | .v d => (tgD (.t is) false d ρ').map fun ρ' => (Fl.nx, ρ') | _ => none) Q ↔ OW (valR (frz r)) _
  cases frz r with
  | v d => rw [valR_v, OW_some]; exact OW_map
  | _ => show OW none _ ↔ OW none _; rw [OW_none, OW_none]
theorem OW_tgn {i : Nat} {d : D} {Q : En → Prop} : OW (tgD (.n i) false d ρ) Q ↔ Q (ρ.set i (.v d)) := OW_some
theorem OW_tgt {is : List Nat} {raw : Bool} {ds : List D} {Q : En → Prop} : OW (tgD (.t is) raw (.tuple ds) ρ) Q ↔ ds.length = is.length ∧ Q (setAllE is ds ρ) := by
  cases raw <;> (show OW (if _ then _ else none) Q ↔ _; rw [OW_ifn, OW_some])
def intD : D → Option Int
  | .int i => some i
  | _ => none
theorem intD_i {i : Int} : intD (.int i) = some i := rfl
theorem OW_sSt {Q : Fl × En → Prop} : OW (sSt f f' f'' ρ) Q ↔ OW (f'' ρ) fun p => OW (f p.2) fun q => OW (f' q.2) fun s => OW (valR (frz p.1)) fun d => OW (slotR q.1) fun j => OW (dr s.2 s.1) fun di => OW (intD di) fun i => OW s.2[j]? fun sl => OW (ownL sl) fun ds => OW (ixN ds.length i) fun k => Q (.nx, s.2.set j (.own (.lst (ds.set k d)))) := by
  unfold sSt; simp only [OW_bind, OW_fzf, dr_frz]
  refine OW_iff fun p => OW_iff fun q => OW_iff fun s => ?_
  cases hp : frz p.1 with
  | v d =>
    rw [valR_v, OW_some]
    cases hq : q.1 with
    | s j =>
      rw [slotR_s, OW_some]
      cases hd : dr s.2 s.1 with
      | none => show OW none _ ↔ _; rw [OW_none, OW_none]
      | some di =>
        rw [OW_some]
        cases di with
        | int i =>
          rw [intD_i, OW_some]
          show OW (match s.2[j]? with | some (.own (.lst ds)) => (ixN ds.length i).map fun k => (Fl.nx, s.2.set j (.own (.lst (ds.set k d)))) | _ => none) Q ↔ _
          cases s.2[j]? with
          | none => rw [OW_none]; first | exact OW_none | rw [OW_none]
          | some sl =>
            rw [OW_some]
            cases sl with
            | own m =>
              cases m with
              | lst ds => rw [ownL_own, OW_some]; exact OW_map
              | _ => show OW none _ ↔ OW none _; rw [OW_none, OW_none]
            | _ => show OW none _ ↔ OW none _; rw [OW_none, OW_none]
        | _ => show OW none _ ↔ OW none _; rw [OW_none, OW_none]
    | _ => show OW none _ ↔ OW none _; rw [OW_none, OW_none]
  | _ => show OW none _ ↔ OW none _; rw [OW_none, OW_none]
theorem OW_eMM {g : MO → List D → Option (MO × D)} : OW (eMM g f a ρ) Q ↔ OW (f ρ) fun p => OW (slotR p.1) fun j => OW p.2[j]? fun sl => OW (ownL sl) fun _ => OW (a p.2) fun q => OW (vals q.1) fun ds => OW q.2[j]? fun s => OW (ownM s) fun m => OW (g m ds) fun w => Q (.v w.2, q.2.set j (.own w.1)) := by
  unfold eMM; rw [OW_bind]
  refine OW_iff fun ⟨r, ρ'⟩ => ?_
  cases r with
  | s j =>
    rw [slotR_s, OW_some]
    show OW (match ρ'[j]? with | some (.own (.lst _)) => _ | _ => none) Q ↔ OW ρ'[j]? _
    cases ρ'[j]? with
    | none => rw [OW_none]; first | exact OW_none | rw [OW_none]
    | some sl =>
      rw [OW_some]
      cases sl with
      | own m =>
        cases m with
        | lst ds =>
          rw [ownL_own, OW_some]
          show OW (Option.bind _ _) Q ↔ _
          simp only [OW_bind]
          refine OW_iff fun q => OW_iff fun ds => ?_
          cases q.2[j]? with
          | none => rw [OW_none]; first | exact OW_none | rw [OW_none]
          | some s =>
            rw [OW_some]
            cases s with
            | own m => rw [ownM_own, OW_some]; exact OW_map
            | _ => show OW none _ ↔ OW none _; rw [OW_none, OW_none]
        | _ => show OW none _ ↔ OW none _; rw [OW_none, OW_none]
      | _ => show OW none _ ↔ OW none _; rw [OW_none, OW_none]
  | _ => show OW none _ ↔ OW none _; rw [OW_none, OW_none]
theorem OW_append {ds : List D} {d : D} {Q : MO × D → Prop} : OW (mAppend (.lst ds) [d]) Q ↔ ds.length < sizeLine ∧ Q (.lst (ds ++ [d]), .none) := by
  unfold mAppend; rw [OW_ifn, OW_some]
theorem OW_eIs {T : String} : OW (eIs T f ρ) Q ↔ OW (f ρ) fun p => OW (dr p.2 p.1) fun d => Q (.v (.bool (isT T d)), p.2) := by
  unfold eIs; simp only [OW_bind, OW_map, OW_fzf, dr_frz]
theorem OW_sFor {Q : Fl × En → Prop} {g : Iv} {tg : Tg} : OW (sFor g tg s ρ) Q ↔ OW (g ρ) fun p => OW (forL tg p.1.1 s p.1.2 p.2) Q := by
  unfold sFor; rw [OW_bind]
theorem OW_sWh {Q : Fl × En → Prop} {μ : En → Nat} : OW (sWh μ t s ρ) Q ↔ OW (whL t s (μ ρ) ρ) Q := Iff.rfl
theorem OW_eLc {g : Iv} {tg : Tg} {w : List Nat} : OW (eLc g tg t f w ρ) Q ↔ OW (g ρ) fun p => OW (lcL tg p.1.1 t f w p.1.2 [] (wipeE w p.2)) fun q => Q (.n (.lst q.1), q.2) := by
  unfold eLc; simp only [OW_bind, OW_map]
def int1 : List D → Option Int
  | [.int i] => some i
  | _ => none
theorem int1_i {i : Int} : int1 [.int i] = some i := rfl
def int2 : List D → Option (Int × Int)
  | [.int i, .int j] => some (i, j)
  | _ => none
theorem int2_i {i j : Int} : int2 [.int i, .int j] = some (i, j) := rfl
theorem OW_iR1 {Q : (Bool × List D) × En → Prop} : OW (iR1 a ρ) Q ↔ OW (a ρ) fun p => OW (drs p.2 p.1) fun ds => OW (int1 ds) fun j => (-(2 ^ 62) ≤ j ∧ j < 2 ^ 62) ∧ Q ((false, rangeD 0 j), p.2) := by
  unfold iR1; simp only [OW_bind]
  refine OW_iff fun p => OW_iff fun ds => ?_
  match ds with
  | [.int j] => rw [int1_i, OW_some]; show OW (if _ then _ else none) Q ↔ _; rw [OW_ifn, OW_some]
  | [] => show OW none _ ↔ OW none _; rw [OW_none, OW_none]
  | [.none] => show OW none _ ↔ OW none _; rw [OW_none, OW_none]
  | [.bool _] => show OW none _ ↔ OW none _; rw [OW_none, OW_none]
  | [.str _] => show OW none _ ↔ OW none _; rw [OW_none, OW_none]
  | [.list _] => show OW none _ ↔ OW none _; rw [OW_none, OW_none]
  | [.tuple _] => show OW none _ ↔ OW none _; rw [OW_none, OW_none]
  | [.dict _] => show OW none _ ↔ OW none _; rw [OW_none, OW_none]
  | .none :: _ :: _ => show OW none _ ↔ OW none _; rw [OW_none, OW_none]
  | .bool _ :: _ :: _ => show OW none _ ↔ OW none _; rw [OW_none, OW_none]
  | .int _ :: _ :: _ => show OW none _ ↔ OW none _; rw [OW_none, OW_none]
  | .str _ :: _ :: _ => show OW none _ ↔ OW none _; rw [OW_none, OW_none]
  | .list _ :: _ :: _ => show OW none _ ↔ OW none _; rw [OW_none, OW_none]
  | .tuple _ :: _ :: _ => show OW none _ ↔ OW none _; rw [OW_none, OW_none]
  | .dict _ :: _ :: _ => show OW none _ ↔ OW none _; rw [OW_none, OW_none]
/-- one way alone, for a range of two -/
theorem OW.iR2 {Q : (Bool × List D) × En → Prop} (h : OW (a ρ) fun p => OW (drs p.2 p.1) fun ds => OW (int2 ds) fun ij => (-(2 ^ 62) ≤ ij.1 ∧ ij.1 < 2 ^ 62 ∧ -(2 ^ 62) ≤ ij.2 ∧ ij.2 < 2 ^ 62) ∧ Q ((false, rangeD ij.1 ij.2), p.2)) : OW (Z.iR2 a ρ) Q := by
  unfold Z.iR2; simp only [OW_bind]
  refine h.imp fun p h => h.imp fun ds h => ?_
  obtain ⟨⟨i, j⟩, e, h1, h2⟩ := h
  unfold int2 at e
  split at e
  · cases e
    show OW (if _ then _ else none) Q
    rw [OW_ifn, OW_some]
    exact ⟨h1, h2⟩
  · cases e
theorem OW_iR2 {Q : (Bool × List D) × En → Prop} : OW (iR2 a ρ) Q ↔ OW (a ρ) fun p => OW (drs p.2 p.1) fun ds => OW (int2 ds) fun ij => (-(2 ^ 62) ≤ ij.1 ∧ ij.1 < 2 ^ 62 ∧ -(2 ^ 62) ≤ ij.2 ∧ ij.2 < 2 ^ 62) ∧ Q ((false, rangeD ij.1 ij.2), p.2) := by
  refine ⟨fun h => ?_, OW.iR2⟩
  unfold Z.iR2 at h; simp only [OW_bind] at h
  refine h.imp fun p h => h.imp fun ds h => ?_
  split at h
  · rw [OW_ifn, OW_some] at h
    rw [int2_i, OW_some]
    exact h
  · rw [OW_none] at h; exact h.elim
def listD : D → Option (List D)
  | .list ds => some ds
  | _ => none
theorem listD_l {ds : List D} : listD (.list ds) = some ds := rfl
def tupD : D → Option (List D)
  | .tuple ds => some ds
  | _ => none
theorem tupD_t {ds : List D} : tupD (.tuple ds) = some ds := rfl
theorem OW_iL {Q : (Bool × List D) × En → Prop} : OW (iL f ρ) Q ↔ OW (f ρ) fun p => OW (valR (frz p.1)) fun d => OW (listD d) fun ds => Q ((false, ds), p.2) := by
  unfold iL; rw [OW_bind, OW_fzf]
  refine OW_iff fun ⟨r, ρ'⟩ => ?_
  show OW (match frz r with | .v (.list ds) => some ((false, ds), ρ') | _ => none) Q ↔ OW (valR (frz r)) _
  cases frz r with
  | v d =>
    rw [valR_v, OW_some]
    cases d with
    | list ds => rw [listD_l, OW_some]; first | exact OW_some | rw [OW_some]
    | _ => show OW none _ ↔ OW none _; rw [OW_none, OW_none]
  | _ => show OW none _ ↔ OW none _; rw [OW_none, OW_none]
theorem OW_iT {Q : (Bool × List D) × En → Prop} : OW (iT f ρ) Q ↔ OW (f ρ) fun p => OW (valR (frz p.1)) fun d => OW (tupD d) fun ds => Q ((false, ds), p.2) := by
  unfold iT; rw [OW_bind, OW_fzf]
  refine OW_iff fun ⟨r, ρ'⟩ => ?_
  show OW (match frz r with | .v (.tuple ds) => some ((false, ds), ρ') | _ => none) Q ↔ OW (valR (frz r)) _
  cases frz r with
  | v d =>
    rw [valR_v, OW_some]
    cases d with
    | tuple ds => rw [tupD_t, OW_some]; first | exact OW_some | rw [OW_some]
    | _ => show OW none _ ↔ OW none _; rw [OW_none, OW_none]
  | _ => show OW none _ ↔ OW none _; rw [OW_none, OW_none]
theorem OW_oN {Q : Option Int × En → Prop} : OW (oN ρ) Q ↔ Q (none, ρ) := OW_some
theorem OW_oS {Q : Option Int × En → Prop} : OW (oS f ρ) Q ↔ OW (f ρ) fun p => OW (dr p.2 p.1) fun d => OW (intD d) fun i => Q (some i, p.2) := by
  unfold oS; simp only [OW_bind, OW_fzf, dr_frz]
  refine OW_iff fun p => OW_iff fun d => ?_
  cases d with
  | int i => rw [intD_i, OW_some]; first | exact OW_some | rw [OW_some]
  | _ => show OW none _ ↔ OW none _; rw [OW_none, OW_none]
theorem OW_eSl {l h : Ov} : OW (eSl f l h ρ) Q ↔ OW (f ρ) fun p => OW (l p.2) fun q => OW (h q.2) fun s => OW (dr s.2 p.1) fun d => OW (dSl q.1 s.1 d) fun r => Q (r, s.2) := by
  unfold eSl; simp only [OW_bind, OW_map, OW_fzf, dr_frz]
theorem OW_pE0 {Q : List (Str × D) × En → Prop} : OW (pairsE [] ρ) Q ↔ Q ([], ρ) := OW_some
theorem OW_pE {k : Str} {r : List (Str × Ev)} {Q : List (Str × D) × En → Prop} : OW (pairsE ((k, f) :: r) ρ) Q ↔ OW (f ρ) fun p => OW (valR (frz p.1)) fun d => OW (pairsE r p.2) fun q => Q ((k, d) :: q.1, q.2) := by
  rw [show pairsE ((k, f) :: r) ρ = (fz f ρ).bind fun p => match p.1 with | .v d => (pairsE r p.2).map fun q => ((k, d) :: q.1, q.2) | _ => none from rfl, OW_bind, OW_fzf]
  refine OW_iff fun ⟨x, ρ'⟩ => ?_
  show OW (match frz x with | .v d => (pairsE r ρ').map fun q => ((k, d) :: q.1, q.2) | _ => none) Q ↔ OW (valR (frz x)) _
  cases frz x with
  | v d => rw [valR_v, OW_some]; exact OW_map
  | _ => show OW none _ ↔ OW none _; rw [OW_none, OW_none]
theorem OW_eDk {kfs : List (Str × Ev)} : OW (eDk kfs ρ) Q ↔ OW (pairsE kfs ρ) fun p => ((p.1.map (·.1)).Nodup ∧ p.1.length ≤ 15) ∧ Q (.n (.dk (p.1.map fun q => (.str q.1, q.2))), p.2) := by
  unfold eDk; simp only [OW_bind, OW_ifn, OW_some]
theorem OW_eGet2 {fd fk fx : Ev} : OW (eGet2 fd fk fx ρ) Q ↔ OW (fd ρ) fun p => OW (fk p.2) fun q => OW (fx q.2) fun s => OW (dr s.2 q.1) fun k => OW (valR (frz p.1)) fun d => OW (valR (frz s.1)) fun x => isTD d = true ∧ OW (dGet2 d k x) fun r => Q (r, s.2) := by
  unfold eGet2; simp only [OW_bind, OW_fzf, dr_frz]
  refine OW_iff fun p => OW_iff fun q => OW_iff fun s => OW_iff fun k => ?_
  cases frz p.1 with
  | v d =>
    rw [valR_v, OW_some]
    cases frz s.1 with
    | v x => rw [valR_v, OW_some]; show OW (if _ then _ else none) _ ↔ _; rw [OW_ifn, OW_map]
    | _ => show OW none _ ↔ OW none _; rw [OW_none, OW_none]
  | _ => show OW none _ ↔ OW none _; rw [OW_none, OW_none]
theorem OW_eDn {fk fv : Ev} : OW (eDn fk fv ρ) Q ↔ OW (fk ρ) fun p => OW (fv p.2) fun q => OW (valR (frz p.1)) fun kd => OW (valR (frz q.1)) fun d => OW (keyOf kd) fun _ => Q (.n (.dic [(kd, d)]), q.2) := by
  unfold eDn; simp only [OW_bind, OW_fzf]
  refine OW_iff fun p => OW_iff fun q => ?_
  cases frz p.1 with
  | v d =>
    rw [valR_v, OW_some]
    cases frz q.1 with
    | v x => rw [valR_v, OW_some]; exact OW_map
    | _ => show OW none _ ↔ OW none _; rw [OW_none, OW_none]
  | _ => show OW none _ ↔ OW none _; rw [OW_none, OW_none]
theorem OW_eD0 : OW (eD0 ρ) Q ↔ Q (.n (.dk []), ρ) := OW_some
/-! the operations -/
variable {q : R → Prop} {i j : Int} {ds es : List D} {x y : Str} {d : D}
theorem OW_iI {C : Int → Int → Bool} {g : Int → Int → Int} : OW (iI C g (.int i) (.int j)) q ↔ C i j = true ∧ q (.v (.int (g i j))) := by
  show OW (if _ then _ else none) q ↔ _; rw [OW_ifn, OW_some]
theorem OW_iB {g : Int → Int → Bool} : OW (iB g (.int i) (.int j)) q ↔ q (.v (.bool (g i j))) := OW_some
theorem OW_neg : OW (dNeg (.int i)) q ↔ q (.v (.int (-i))) := OW_some
theorem OW_dEq {d d' : D} : OW (dEq d d') q ↔ OW (eqD d d') fun k => q (.v (.bool k)) := OW_map
theorem OW_dNe {d d' : D} : OW (dNe d d') q ↔ OW (eqD d d') fun k => q (.v (.bool (!k))) := OW_map
theorem eqD_ii : eqD (.int i) (.int j) = some (decide (i = j)) := rfl
theorem eqD_ss : eqD (.str x) (.str y) = some (decide (x = y)) := rfl
theorem eqD_bb {k l : Bool} : eqD (.bool k) (.bool l) = some (decide (k = l)) := rfl
theorem eqD_tt : eqD (.tuple ds) (.tuple es) = if (SeqAt.shaped (.tuple ds) && SeqAt.shaped (.tuple es)) = true then some (PyData.eqvAll ds es) else none := rfl
theorem eqD_ll : eqD (.list ds) (.list es) = if (SeqAt.shaped (.list ds) && SeqAt.shaped (.list es)) = true then some (PyData.eqvAll ds es) else none := rfl
theorem OW_dIs : OW (dIs d .none) q ↔ q (.v (.bool (isN d))) := OW_some
theorem OW_dIsNot : OW (dIsNot d .none) q ↔ q (.v (.bool (!isN d))) := OW_some
theorem OW_dIn {d d' : D} : OW (dIn d d') q ↔ OW (inD d d') fun k => q (.v (.bool k)) := OW_map
theorem OW_dNotIn {d d' : D} : OW (dNotIn d d') q ↔ OW (inD d d') fun k => q (.v (.bool (!k))) := OW_map
theorem OW_inL {Q : Bool → Prop} : OW (inD d (.list ds)) Q ↔ (SeqAt.shaped d && PyData.canLayAll0 ds) = true ∧ Q (ds.any fun z => PyData.eqv z d) := by
  show OW (if _ then _ else none) Q ↔ _; rw [OW_ifn, OW_some]
theorem OW_inT {Q : Bool → Prop} : OW (inD d (.tuple ds)) Q ↔ (SeqAt.shaped d && PyData.canLayAll0 ds) = true ∧ Q (ds.any fun z => PyData.eqv z d) := by
  show OW (if _ then _ else none) Q ↔ _; rw [OW_ifn, OW_some]
theorem OW_catT : OW (dCatT (.tuple ds) (.tuple es)) q ↔ ds.length + es.length ≤ sizeLine ∧ q (.v (.tuple (ds ++ es))) := by
  show OW (if _ then _ else none) q ↔ _; rw [OW_ifn, OW_some]
theorem OW_catL : OW (dCatL (.list ds) (.list es)) q ↔ ds.length + es.length ≤ sizeLine ∧ q (.n (.lst (ds ++ es))) := by
  show OW (if _ then _ else none) q ↔ _; rw [OW_ifn, OW_some]
theorem OW_ixT : OW (ixD (.tuple ds) (.int i)) q ↔ OW (atI ds i) fun d => q (.v d) := OW_map
theorem OW_ixL : OW (ixD (.list ds) (.int i)) q ↔ OW (atI ds i) fun d => q (.v d) := OW_map
theorem OW_ixS : OW (ixD (.dict [(.none, .list ds)]) (.int i)) q ↔ OW (atI ds i) fun d => q (.v d) := OW_map
theorem OW_slT {lo hi : Option Int} : OW (dSl lo hi (.tuple ds)) q ↔ q (.v (.tuple (cutD ds lo hi))) := OW_some
theorem OW_slL {lo hi : Option Int} : OW (dSl lo hi (.list ds)) q ↔ q (.n (.lst (cutD ds lo hi))) := OW_some
theorem OW_lenL : OW (dLen [.list ds]) q ↔ q (.v (.int (ds.length : Nat))) := OW_some
theorem OW_lenT : OW (dLen [.tuple ds]) q ↔ q (.v (.int (ds.length : Nat))) := OW_some
theorem OW_lenS : OW (dLen [.dict [(.none, .list ds)]]) q ↔ q (.v (.int (ds.length : Nat))) := OW_some
theorem OW_max2 : OW (dMax2 [.int i, .int j]) q ↔ q (.v (.int (if j > i then j else i))) := OW_some
theorem OW_min2 : OW (dMin2 [.int i, .int j]) q ↔ q (.v (.int (if j < i then j else i))) := OW_some
theorem OW_intI : OW (dInt [.int i]) q ↔ q (.v (.int i)) := OW_some
theorem OW_intB {k : Bool} : OW (dInt [.bool k]) q ↔ q (.v (.int (if k then 1 else 0))) := OW_some
theorem OW_tupL : OW (dTup [.list ds]) q ↔ q (.v (.tuple ds)) := OW_some
theorem OW_tupT : OW (dTup [.tuple ds]) q ↔ q (.v (.tuple ds)) := OW_some
theorem OW_listL : OW (dList [.list ds]) q ↔ q (.n (.lst ds)) := OW_some
theorem OW_listT : OW (dList [.tuple ds]) q ↔ q (.n (.lst ds)) := OW_some
theorem OW_all {ds : List D} : OW (dAll [.list ds]) q ↔ OW (bools ds) fun bs => q (.v (.bool (bs.all id))) := OW_map
theorem OW_any {ds : List D} : OW (dAny [.list ds]) q ↔ OW (bools ds) fun bs => q (.v (.bool (bs.any id))) := OW_map
theorem OW_strT : OW (dStrT [.tuple ds]) q ↔ (ds.length ≤ 100 ∧ ds.all smallD = true) ∧ q (.v txtD) := by
  show OW (if _ then _ else none) q ↔ _; rw [OW_ifn, OW_some]
theorem OW_truB {k : Bool} {Q : Bool → Prop} : OW (truD (.bool k)) Q ↔ Q k := OW_some
theorem OW_truI {Q : Bool → Prop} : OW (truD (.int i)) Q ↔ Q (i != 0) := OW_some
theorem OW_truL {Q : Bool → Prop} : OW (truD (.list ds)) Q ↔ Q (!ds.isEmpty) := OW_some
theorem OW_truT {Q : Bool → Prop} : OW (truD (.tuple ds)) Q ↔ Q (!ds.isEmpty) := OW_some
theorem OW_truN {Q : Bool → Prop} : OW (truD .none) Q ↔ Q false := OW_some
theorem rtR_v : rtR ρ (.v d) = some (.v d) := rfl
theorem rtR_n {m : MO} : rtR ρ (.n m) = some (.n m) := rfl
theorem rtR_s {k : Nat} : OW (rtR ρ (.s k)) q ↔ OW ρ[k]? fun s => OW (ownM s) fun m => q (.n m) := by
  show OW (match ρ[k]? with | some (.own m) => some (.n m) | _ => none) q ↔ _
  cases ρ[k]? with
  | none => rw [OW_none]; exact OW_none.symm
  | some s =>
    rw [OW_some]
    cases s with
    | own m => rw [ownM_own, OW_some]; first | exact OW_some | rw [OW_some]
    | _ => show OW none _ ↔ OW none _; rw [OW_none, OW_none]
theorem rtM_v {n : Nat} : rtM n ρ (.v d) = some (.v d) := rfl
theorem rtM_n {n : Nat} {m : MO} : rtM n ρ (.n m) = some (.n m) := rfl
theorem rtM_s {n k : Nat} : OW (rtM n ρ (.s k)) q ↔ k < n ∧ OW ρ[k]? fun s => OW (ownM s) fun m => q (.n m) := by
  show OW (if _ then (match ρ[k]? with | some (.own m) => some (.n m) | _ => none) else none) q ↔ _
  rw [OW_ifn]
  refine and_congr_right fun _ => ?_
  cases ρ[k]? with
  | none => rw [OW_none]; exact OW_none.symm
  | some s =>
    rw [OW_some]
    cases s with
    | own m => rw [ownM_own, OW_some]; first | exact OW_some | rw [OW_some]
    | _ => show OW none _ ↔ OW none _; rw [OW_none, OW_none]
theorem atI_0 {α : Type} {a : α} {l : List α} : atI (a :: l) 0 = some a := by
  unfold atI ixN; simp
theorem atI_1 {α : Type} {a b : α} {l : List α} : atI (a :: b :: l) 1 = some b := by
  unfold atI ixN
  rw [if_pos (by decide), if_pos (by simp only [List.length_cons]; omega)]; rfl
theorem atI_2 {α : Type} {a b c : α} {l : List α} : atI (a :: b :: c :: l) 2 = some c := by
  unfold atI ixN
  rw [if_pos (by decide), if_pos (by simp only [List.length_cons]; omega)]; rfl
theorem atI_3 {α : Type} {a b c d : α} {l : List α} : atI (a :: b :: c :: d :: l) 3 = some d := by
  unfold atI ixN
  rw [if_pos (by decide), if_pos (by simp only [List.length_cons]; omega)]; rfl
theorem atI_4 {α : Type} {a b c d e : α} {l : List α} : atI (a :: b :: c :: d :: e :: l) 4 = some e := by
  unfold atI ixN
  rw [if_pos (by decide), if_pos (by simp only [List.length_cons]; omega)]; rfl
theorem ixN_0 {n : Nat} : ixN (n + 1) 0 = some 0 := by
  unfold ixN; rw [if_pos (by decide), if_pos (by omega)]; rfl
theorem ixN_1 {n : Nat} : ixN (n + 2) 1 = some 1 := by
  unfold ixN; rw [if_pos (by decide), if_pos (by omega)]; rfl
theorem ixN_2 {n : Nat} : ixN (n + 3) 2 = some 2 := by
  unfold ixN; rw [if_pos (by decide), if_pos (by omega)]; rfl
end Z

set_option Elab.async false
set_option linter.all false
set_option maxRecDepth 100000
/-! ZC: the rules of ZA, ZB, the continuation shut. Printed by mkzc.py. -/
namespace Z
open PySem L2
inductive Tk {α : Type} (Q : α → Prop) : Type
  | a
  | b
def OX {α : Type} (o : Option α) (Q : α → Prop) (_t : Tk Q := .a) : Prop := OW o Q
variable {ρ : En} {Q : R × En → Prop} {f f' f'' : Ev} {a : Av} {s s' : Sv} {t t' : Tv} {q : R → Prop} {i j : Int} {ds es : List D} {x y : Str} {d : D}
theorem OX_some {α : Type} {x : α} {Q : α → Prop} : OX (some x) Q ↔ Q x := OW_some
theorem OX_bind {α β : Type} {o : Option α} {f : α → Option β} {Q : β → Prop} : OX (o.bind f) Q ↔ OX o fun a => OX (f a) Q := OW_bind
theorem OX_map {α β : Type} {o : Option α} {f : α → β} {Q : β → Prop} : OX (o.map f) Q ↔ OX o fun a => Q (f a) := OW_map
theorem OX_fz {f : Ev} {ρ : En} {Q : R × En → Prop} : OX (fz f ρ) Q ↔ OX (f ρ) fun p => match p.1 with
    | .n m => Q (.v m.toD, p.2)
    | _ => Q p := OW_fz
theorem OX.imp {α : Type} {o : Option α} {Q Q' : α → Prop} (h : OX o Q) (k : ∀ x, Q x → Q' x) : OX o Q' := OW.imp h k
theorem OX.defF {n np : Nat} {f : Sv} {ds : List D} {Q : R → Prop} (hl : ds.length = np) (h : OX (f (ds.map Sl.v ++ List.replicate (n - np) .no)) fun p => match p.1 with
    | .nx => Q (.v .none)
    | .rt r => OX (rtR p.2 r) Q
    | _ => False) : OX (Z.defF n np f ds) Q := OW.defF hl h
theorem OX.defM {n np : Nat} {f : Sv} {m : MO} {ds : List D} {Q : R × MO → Prop} (hl : ds.length + 1 = np) (h : OX (f (.al n :: (ds.map Sl.v ++ List.replicate (n - np) .no) ++ [.own m])) fun p => OX p.2[n]? fun s => match s with
    | .own m' => match p.1 with
      | .nx => Q (.v .none, m')
      | .rt r => OX (rtM n p.2 r) fun r' => Q (r', m')
      | _ => False
    | _ => False) : OX (Z.defM n np f m ds) Q := OW.defM hl h
theorem OX.forL {tg : Tg} {raw : Bool} {b : Sv} {Q : Fl × En → Prop} (I : List D → En → Prop) (step : ∀ d ds ρ, I (d :: ds) ρ → OX (tgD tg raw d ρ) fun ρ1 => OX (b ρ1) fun p => match p.1 with
    | .nx => I ds p.2
    | .ct => I ds p.2
    | .bk => Q (.nx, p.2)
    | .rt r => Q (.rt r, p.2)) (fin : ∀ ρ, I [] ρ → Q (.nx, ρ)) : ∀ {ds : List D} {ρ : En}, I ds ρ → OX (Z.forL tg raw b ds ρ) Q := fun {_ _} h => OW.forL I step fin h
theorem OX.lcL {tg : Tg} {raw : Bool} {t : Tv} {f : Ev} {w : List Nat} {Q : List D × En → Prop} (I : List D → List D → En → Prop) (step : ∀ d ds acc ρ, I (d :: ds) acc ρ → OX (tgD tg raw d ρ) fun ρ1 => OX (t ρ1) fun p => if p.1 = true then OX (fz f p.2) fun q => (∃ e, q.1 = .v e ∧ acc.length < sizeLine ∧ I ds (acc ++ [e]) (wipeE w q.2)) else I ds acc (wipeE w p.2))
    (fin : ∀ acc ρ, I [] acc ρ → Q (acc, ρ)) : ∀ {ds acc : List D} {ρ : En}, I ds acc ρ → OX (Z.lcL tg raw t f w ds acc ρ) Q := fun {_ _ _} h => OW.lcL I step fin h
theorem OX_none {α : Type} {Q : α → Prop} : OX (none : Option α) Q ↔ False := OW_none
theorem OX_fzf : OX (fz f ρ) Q ↔ OX (f ρ) fun p => Q (frz p.1, p.2) := OW_fzf
theorem OX_eV {i : Nat} : OX (eV i ρ) Q ↔ OX ρ[i]? fun s => OX (svR i s) fun r => Q (r, ρ) := OW_eV
theorem OX_eK {d : D} : OX (eK d ρ) Q ↔ Q (.v d, ρ) := OW_eK
theorem OX_e1 {g : D → Option R} : OX (e1 g f ρ) Q ↔ OX (f ρ) fun p => OX (dr p.2 p.1) fun d => OX (g d) fun r => Q (r, p.2) := OW_e1
theorem OX_e2 {g : D → D → Option R} : OX (e2 g f f' ρ) Q ↔ OX (f ρ) fun p => OX (f' p.2) fun q => OX (dr q.2 p.1) fun d => OX (dr q.2 q.1) fun d' => OX (g d d') fun r => Q (r, q.2) := OW_e2
theorem OX_e3 {g g' : D → D → Option R} : OX (e3 g g' f f' f'' ρ) Q ↔ OX (f ρ) fun p => OX (f' p.2) fun q => OX (dr q.2 p.1) fun d => OX (dr q.2 q.1) fun d' => OX (g d d') fun r => OX (boolR r) fun b => if b = true then OX (f'' q.2) fun s => OX (dr s.2 q.1) fun d1 => OX (dr s.2 s.1) fun d2 => OX (g' d1 d2) fun r' => Q (r', s.2) else Q (.v (.bool false), q.2) := OW_e3
theorem OX_tb {Q : Bool × En → Prop} : OX (tb f ρ) Q ↔ OX (f ρ) fun p => OX (boolR p.1) fun b => Q (b, p.2) := OW_tb
theorem OX_tru {Q : Bool × En → Prop} : OX (tru f ρ) Q ↔ OX (f ρ) fun p => OX (dr p.2 p.1) fun d => OX (truD d) fun b => Q (b, p.2) := OW_tru
theorem OX_ite {α : Type} {c : Prop} [Decidable c] {o o' : Option α} {Q : α → Prop} : OX (if c then o else o') Q ↔ if c then OX o Q else OX o' Q := OW_ite
theorem OX_tand {Q : Bool × En → Prop} : OX (tand t t' ρ) Q ↔ OX (t ρ) fun p => if p.1 = true then OX (t' p.2) Q else Q (false, p.2) := OW_tand
theorem OX_tor {Q : Bool × En → Prop} : OX (tor t t' ρ) Q ↔ OX (t ρ) fun p => if p.1 = true then Q (true, p.2) else OX (t' p.2) Q := OW_tor
theorem OX_tnot {Q : Bool × En → Prop} : OX (tnot t ρ) Q ↔ OX (t ρ) fun p => Q (!p.1, p.2) := OW_tnot
theorem OX_eand : OX (eand f f' ρ) Q ↔ OX (tb f ρ) fun p => if p.1 = true then OX (f' p.2) Q else Q (.v (.bool false), p.2) := OW_eand
theorem OX_eor : OX (eor f f' ρ) Q ↔ OX (tb f ρ) fun p => if p.1 = true then Q (.v (.bool true), p.2) else OX (f' p.2) Q := OW_eor
theorem OX_enot : OX (enot f ρ) Q ↔ OX (tb f ρ) fun p => Q (.v (.bool (!p.1)), p.2) := OW_enot
theorem OX_eif : OX (eif t f f' ρ) Q ↔ OX (t ρ) fun p => if p.1 = true then OX (f p.2) Q else OX (f' p.2) Q := OW_eif
theorem OX_a0 {Q : List R × En → Prop} : OX (a0 ρ) Q ↔ Q ([], ρ) := OW_a0
theorem OX_aC {Q : List R × En → Prop} : OX (aC f a ρ) Q ↔ OX (f ρ) fun p => OX (a p.2) fun q => Q (frz p.1 :: q.1, q.2) := OW_aC
theorem OX_etup : OX (etup a ρ) Q ↔ OX (a ρ) fun p => OX (vals p.1) fun ds => ds.length ≤ sizeLine ∧ Q (.v (.tuple ds), p.2) := OW_etup
theorem OX_elst : OX (elst a ρ) Q ↔ OX (a ρ) fun p => OX (vals p.1) fun ds => ds.length ≤ sizeLine ∧ Q (.n (.lst ds), p.2) := OW_elst
theorem OX_eC {g : List D → Option R} : OX (eC g a ρ) Q ↔ OX (a ρ) fun p => OX (drs p.2 p.1) fun ds => OX (g ds) fun r => Q (r, p.2) := OW_eC
theorem OX_eF {F : List D → Option R} : OX (eF F a ρ) Q ↔ OX (a ρ) fun p => OX (vals p.1) fun ds => OX (F ds) fun r => Q (r, p.2) := OW_eF
theorem OX_eM {F : MO → List D → Option (R × MO)} : OX (eM F a ρ) Q ↔ OX (a ρ) fun p => OX (argM p.1) fun jr => OX (vals jr.2) fun ds => OX p.2[jr.1]? fun s => OX (ownM s) fun m => OX (F m ds) fun q => Q (q.1, p.2.set jr.1 (.own q.2)) := OW_eM
theorem OX_sNil {Q : Fl × En → Prop} : OX (sNil ρ) Q ↔ Q (.nx, ρ) := OW_sNil
theorem OX_sBk {Q : Fl × En → Prop} : OX (sBk ρ) Q ↔ Q (.bk, ρ) := OW_sBk
theorem OX_sCt {Q : Fl × En → Prop} : OX (sCt ρ) Q ↔ Q (.ct, ρ) := OW_sCt
theorem OX_sRetN {Q : Fl × En → Prop} : OX (sRetN ρ) Q ↔ Q (.rt (.v .none), ρ) := OW_sRetN
theorem OX_sq {Q : Fl × En → Prop} : OX (sq s s' ρ) Q ↔ OX (s ρ) fun p => match p.1 with
    | .nx => OX (s' p.2) Q
    | .bk => Q (.bk, p.2)
    | .ct => Q (.ct, p.2)
    | .rt r => Q (.rt r, p.2) := OW_sq
theorem OX_sIf {Q : Fl × En → Prop} : OX (sIf t s s' ρ) Q ↔ OX (t ρ) fun p => if p.1 = true then OX (s p.2) Q else OX (s' p.2) Q := OW_sIf
theorem OX_sRet {Q : Fl × En → Prop} : OX (sRet f ρ) Q ↔ OX (f ρ) fun p => Q (.rt p.1, p.2) := OW_sRet
theorem OX_sX {Q : Fl × En → Prop} : OX (sX f ρ) Q ↔ OX (f ρ) fun p => Q (.nx, p.2) := OW_sX
theorem OX_sV {Q : Fl × En → Prop} {i : Nat} : OX (sV i f ρ) Q ↔ OX (f ρ) fun p => OX (valR (frz p.1)) fun d => Q (.nx, p.2.set i (.v d)) := OW_sV
theorem OX_sO {Q : Fl × En → Prop} {i : Nat} : OX (sO i f ρ) Q ↔ OX (f ρ) fun p => OX (newR p.1) fun m => Q (.nx, p.2.set i (.own m)) := OW_sO
theorem OX_sP {Q : Fl × En → Prop} {i j : Nat} : OX (sP i j a ρ) Q ↔ OX (a ρ) fun p => OX (vals p.1) fun ds => OX (two ds) fun dd => Q (.nx, (p.2.set i (.v dd.1)).set j (.v dd.2)) := OW_sP
theorem OX_sU {Q : Fl × En → Prop} {is : List Nat} : OX (sU is f ρ) Q ↔ OX (f ρ) fun p => OX (valR (frz p.1)) fun d => OX (tgD (.t is) false d p.2) fun ρ' => Q (.nx, ρ') := OW_sU
theorem OX_tgn {i : Nat} {d : D} {Q : En → Prop} : OX (tgD (.n i) false d ρ) Q ↔ Q (ρ.set i (.v d)) := OW_tgn
theorem OX_tgt {is : List Nat} {raw : Bool} {ds : List D} {Q : En → Prop} : OX (tgD (.t is) raw (.tuple ds) ρ) Q ↔ ds.length = is.length ∧ Q (setAllE is ds ρ) := OW_tgt
theorem OX_sSt {Q : Fl × En → Prop} : OX (sSt f f' f'' ρ) Q ↔ OX (f'' ρ) fun p => OX (f p.2) fun q => OX (f' q.2) fun s => OX (valR (frz p.1)) fun d => OX (slotR q.1) fun j => OX (dr s.2 s.1) fun di => OX (intD di) fun i => OX s.2[j]? fun sl => OX (ownL sl) fun ds => OX (ixN ds.length i) fun k => Q (.nx, s.2.set j (.own (.lst (ds.set k d)))) := OW_sSt
theorem OX_eMM {g : MO → List D → Option (MO × D)} : OX (eMM g f a ρ) Q ↔ OX (f ρ) fun p => OX (slotR p.1) fun j => OX p.2[j]? fun sl => OX (ownL sl) fun _ => OX (a p.2) fun q => OX (vals q.1) fun ds => OX q.2[j]? fun s => OX (ownM s) fun m => OX (g m ds) fun w => Q (.v w.2, q.2.set j (.own w.1)) := OW_eMM
theorem OX_append {ds : List D} {d : D} {Q : MO × D → Prop} : OX (mAppend (.lst ds) [d]) Q ↔ ds.length < sizeLine ∧ Q (.lst (ds ++ [d]), .none) := OW_append
theorem OX_eIs {T : String} : OX (eIs T f ρ) Q ↔ OX (f ρ) fun p => OX (dr p.2 p.1) fun d => Q (.v (.bool (isT T d)), p.2) := OW_eIs
theorem OX_sFor {Q : Fl × En → Prop} {g : Iv} {tg : Tg} : OX (sFor g tg s ρ) Q ↔ OX (g ρ) fun p => OX (forL tg p.1.1 s p.1.2 p.2) Q := OW_sFor
theorem OX_sWh {Q : Fl × En → Prop} {μ : En → Nat} : OX (sWh μ t s ρ) Q ↔ OX (whL t s (μ ρ) ρ) Q := OW_sWh
theorem OX_eLc {g : Iv} {tg : Tg} {w : List Nat} : OX (eLc g tg t f w ρ) Q ↔ OX (g ρ) fun p => OX (lcL tg p.1.1 t f w p.1.2 [] (wipeE w p.2)) fun q => Q (.n (.lst q.1), q.2) := OW_eLc
theorem OX_iR1 {Q : (Bool × List D) × En → Prop} : OX (iR1 a ρ) Q ↔ OX (a ρ) fun p => OX (drs p.2 p.1) fun ds => OX (int1 ds) fun j => (-(2 ^ 62) ≤ j ∧ j < 2 ^ 62) ∧ Q ((false, rangeD 0 j), p.2) := OW_iR1
theorem OX.iR2 {Q : (Bool × List D) × En → Prop} (h : OX (a ρ) fun p => OX (drs p.2 p.1) fun ds => OX (int2 ds) fun ij => (-(2 ^ 62) ≤ ij.1 ∧ ij.1 < 2 ^ 62 ∧ -(2 ^ 62) ≤ ij.2 ∧ ij.2 < 2 ^ 62) ∧ Q ((false, rangeD ij.1 ij.2), p.2)) : OX (Z.iR2 a ρ) Q := OW.iR2 h
theorem OX_iR2 {Q : (Bool × List D) × En → Prop} : OX (iR2 a ρ) Q ↔ OX (a ρ) fun p => OX (drs p.2 p.1) fun ds => OX (int2 ds) fun ij => (-(2 ^ 62) ≤ ij.1 ∧ ij.1 < 2 ^ 62 ∧ -(2 ^ 62) ≤ ij.2 ∧ ij.2 < 2 ^ 62) ∧ Q ((false, rangeD ij.1 ij.2), p.2) := OW_iR2
theorem OX_iL {Q : (Bool × List D) × En → Prop} : OX (iL f ρ) Q ↔ OX (f ρ) fun p => OX (valR (frz p.1)) fun d => OX (listD d) fun ds => Q ((false, ds), p.2) := OW_iL
theorem OX_iT {Q : (Bool × List D) × En → Prop} : OX (iT f ρ) Q ↔ OX (f ρ) fun p => OX (valR (frz p.1)) fun d => OX (tupD d) fun ds => Q ((false, ds), p.2) := OW_iT
theorem OX_oN {Q : Option Int × En → Prop} : OX (oN ρ) Q ↔ Q (none, ρ) := OW_oN
theorem OX_oS {Q : Option Int × En → Prop} : OX (oS f ρ) Q ↔ OX (f ρ) fun p => OX (dr p.2 p.1) fun d => OX (intD d) fun i => Q (some i, p.2) := OW_oS
theorem OX_eSl {l h : Ov} : OX (eSl f l h ρ) Q ↔ OX (f ρ) fun p => OX (l p.2) fun q => OX (h q.2) fun s => OX (dr s.2 p.1) fun d => OX (dSl q.1 s.1 d) fun r => Q (r, s.2) := OW_eSl
theorem OX_pE0 {Q : List (Str × D) × En → Prop} : OX (pairsE [] ρ) Q ↔ Q ([], ρ) := OW_pE0
theorem OX_pE {k : Str} {r : List (Str × Ev)} {Q : List (Str × D) × En → Prop} : OX (pairsE ((k, f) :: r) ρ) Q ↔ OX (f ρ) fun p => OX (valR (frz p.1)) fun d => OX (pairsE r p.2) fun q => Q ((k, d) :: q.1, q.2) := OW_pE
theorem OX_eDk {kfs : List (Str × Ev)} : OX (eDk kfs ρ) Q ↔ OX (pairsE kfs ρ) fun p => ((p.1.map (·.1)).Nodup ∧ p.1.length ≤ 15) ∧ Q (.n (.dk (p.1.map fun q => (.str q.1, q.2))), p.2) := OW_eDk
theorem OX_eGet2 {fd fk fx : Ev} : OX (eGet2 fd fk fx ρ) Q ↔ OX (fd ρ) fun p => OX (fk p.2) fun q => OX (fx q.2) fun s => OX (dr s.2 q.1) fun k => OX (valR (frz p.1)) fun d => OX (valR (frz s.1)) fun x => isTD d = true ∧ OX (dGet2 d k x) fun r => Q (r, s.2) := OW_eGet2
theorem OX_eDn {fk fv : Ev} : OX (eDn fk fv ρ) Q ↔ OX (fk ρ) fun p => OX (fv p.2) fun q => OX (valR (frz p.1)) fun kd => OX (valR (frz q.1)) fun d => OX (keyOf kd) fun _ => Q (.n (.dic [(kd, d)]), q.2) := OW_eDn
theorem OX_eD0 : OX (eD0 ρ) Q ↔ Q (.n (.dk []), ρ) := OW_eD0
theorem OX_iI {C : Int → Int → Bool} {g : Int → Int → Int} : OX (iI C g (.int i) (.int j)) q ↔ C i j = true ∧ q (.v (.int (g i j))) := OW_iI
theorem OX_iB {g : Int → Int → Bool} : OX (iB g (.int i) (.int j)) q ↔ q (.v (.bool (g i j))) := OW_iB
theorem OX_neg : OX (dNeg (.int i)) q ↔ q (.v (.int (-i))) := OW_neg
theorem OX_dEq {d d' : D} : OX (dEq d d') q ↔ OX (eqD d d') fun k => q (.v (.bool k)) := OW_dEq
theorem OX_dNe {d d' : D} : OX (dNe d d') q ↔ OX (eqD d d') fun k => q (.v (.bool (!k))) := OW_dNe
theorem OX_dIs : OX (dIs d .none) q ↔ q (.v (.bool (isN d))) := OW_dIs
theorem OX_dIsNot : OX (dIsNot d .none) q ↔ q (.v (.bool (!isN d))) := OW_dIsNot
theorem OX_dIn {d d' : D} : OX (dIn d d') q ↔ OX (inD d d') fun k => q (.v (.bool k)) := OW_dIn
theorem OX_dNotIn {d d' : D} : OX (dNotIn d d') q ↔ OX (inD d d') fun k => q (.v (.bool (!k))) := OW_dNotIn
theorem OX_inL {Q : Bool → Prop} : OX (inD d (.list ds)) Q ↔ (SeqAt.shaped d && PyData.canLayAll0 ds) = true ∧ Q (ds.any fun z => PyData.eqv z d) := OW_inL
theorem OX_inT {Q : Bool → Prop} : OX (inD d (.tuple ds)) Q ↔ (SeqAt.shaped d && PyData.canLayAll0 ds) = true ∧ Q (ds.any fun z => PyData.eqv z d) := OW_inT
theorem OX_catT : OX (dCatT (.tuple ds) (.tuple es)) q ↔ ds.length + es.length ≤ sizeLine ∧ q (.v (.tuple (ds ++ es))) := OW_catT
theorem OX_catL : OX (dCatL (.list ds) (.list es)) q ↔ ds.length + es.length ≤ sizeLine ∧ q (.n (.lst (ds ++ es))) := OW_catL
theorem OX_ixT : OX (ixD (.tuple ds) (.int i)) q ↔ OX (atI ds i) fun d => q (.v d) := OW_ixT
theorem OX_ixL : OX (ixD (.list ds) (.int i)) q ↔ OX (atI ds i) fun d => q (.v d) := OW_ixL
theorem OX_ixS : OX (ixD (.dict [(.none, .list ds)]) (.int i)) q ↔ OX (atI ds i) fun d => q (.v d) := OW_ixS
theorem OX_slT {lo hi : Option Int} : OX (dSl lo hi (.tuple ds)) q ↔ q (.v (.tuple (cutD ds lo hi))) := OW_slT
theorem OX_slL {lo hi : Option Int} : OX (dSl lo hi (.list ds)) q ↔ q (.n (.lst (cutD ds lo hi))) := OW_slL
theorem OX_lenL : OX (dLen [.list ds]) q ↔ q (.v (.int (ds.length : Nat))) := OW_lenL
theorem OX_lenT : OX (dLen [.tuple ds]) q ↔ q (.v (.int (ds.length : Nat))) := OW_lenT
theorem OX_lenS : OX (dLen [.dict [(.none, .list ds)]]) q ↔ q (.v (.int (ds.length : Nat))) := OW_lenS
theorem OX_max2 : OX (dMax2 [.int i, .int j]) q ↔ q (.v (.int (if j > i then j else i))) := OW_max2
theorem OX_min2 : OX (dMin2 [.int i, .int j]) q ↔ q (.v (.int (if j < i then j else i))) := OW_min2
theorem OX_intI : OX (dInt [.int i]) q ↔ q (.v (.int i)) := OW_intI
theorem OX_intB {k : Bool} : OX (dInt [.bool k]) q ↔ q (.v (.int (if k then 1 else 0))) := OW_intB
theorem OX_tupL : OX (dTup [.list ds]) q ↔ q (.v (.tuple ds)) := OW_tupL
theorem OX_tupT : OX (dTup [.tuple ds]) q ↔ q (.v (.tuple ds)) := OW_tupT
theorem OX_listL : OX (dList [.list ds]) q ↔ q (.n (.lst ds)) := OW_listL
theorem OX_listT : OX (dList [.tuple ds]) q ↔ q (.n (.lst ds)) := OW_listT
theorem OX_all {ds : List D} : OX (dAll [.list ds]) q ↔ OX (bools ds) fun bs => q (.v (.bool (bs.all id))) := OW_all
theorem OX_any {ds : List D} : OX (dAny [.list ds]) q ↔ OX (bools ds) fun bs => q (.v (.bool (bs.any id))) := OW_any
theorem OX_strT : OX (dStrT [.tuple ds]) q ↔ (ds.length ≤ 100 ∧ ds.all smallD = true) ∧ q (.v txtD) := OW_strT
theorem OX_truB {k : Bool} {Q : Bool → Prop} : OX (truD (.bool k)) Q ↔ Q k := OW_truB
theorem OX_truI {Q : Bool → Prop} : OX (truD (.int i)) Q ↔ Q (i != 0) := OW_truI
theorem OX_truL {Q : Bool → Prop} : OX (truD (.list ds)) Q ↔ Q (!ds.isEmpty) := OW_truL
theorem OX_truT {Q : Bool → Prop} : OX (truD (.tuple ds)) Q ↔ Q (!ds.isEmpty) := OW_truT
theorem OX_truN {Q : Bool → Prop} : OX (truD .none) Q ↔ Q false := OW_truN
theorem OX_rtR_s {k : Nat} : OX (rtR ρ (.s k)) q ↔ OX ρ[k]? fun s => OX (ownM s) fun m => q (.n m) := rtR_s
theorem OX_rtM_s {n k : Nat} : OX (rtM n ρ (.s k)) q ↔ k < n ∧ OX ρ[k]? fun s => OX (ownM s) fun m => q (.n m) := rtM_s
theorem atI_memX {α : Type} {xs : List α} {i : Int} (h0 : 0 ≤ i) (h1 : i < xs.length) : OX (atI xs i) fun x => x ∈ xs := atI_mem h0 h1
theorem OX.ex {α : Type} {o : Option α} {Q : α → Prop} (h : OX o Q) : ∃ x, o = some x ∧ Q x := h
theorem OX.of {α : Type} {o : Option α} {Q : α → Prop} {x : α} (e : o = some x) (h : Q x) : OX o Q := ⟨x, e, h⟩
theorem OX.mono {α : Type} {o : Option α} {Q Q' : α → Prop} (h : OX o Q) (k : ∀ x, o = some x → Q x → Q' x) : OX o Q' := by
  obtain ⟨x, e, q⟩ := h
  exact ⟨x, e, k x e q⟩
end Z

set_option Elab.async false
set_option linter.all false
set_option maxRecDepth 100000
set_option maxHeartbeats 1000000
namespace Z
open PySem L2
theorem cmul_l {i j : Int} (h : -(2 ^ 64) < i) (h' : i < 2 ^ 64) : CMul i j := .inl ⟨h, h'⟩
theorem cmul_r {i j : Int} (h : -(2 ^ 64) < j) (h' : j < 2 ^ 64) : CMul i j := .inr ⟨h, h'⟩
def Left (m : MO) : Prop := ∃ a b c : Int, m = .lst [.int a, .int b, .int c] ∧ 0 ≤ a ∧ 0 ≤ b ∧ b < 2147483647
theorem atI3 {a b c : D} : atI [a, b, c] 0 = some a ∧ atI [a, b, c] 1 = some b ∧ atI [a, b, c] 2 = some c := ⟨rfl, rfl, rfl⟩
theorem ixN3 : ixN 3 0 = some 0 ∧ ixN 3 1 = some 1 ∧ ixN 3 2 = some 2 := ⟨rfl, rfl, rfl⟩
theorem pick_ok {m : MO} {many : Int} (L : Left m) (h0 : 0 < many) (h1 : many < 1073741824) : OX (D_L_pick m [.int many]) fun p => ∃ d, p.1 = .v (.int d) ∧ 0 ≤ d ∧ d < many ∧ Left p.2 := by
  obtain ⟨a, b, c, rfl, ha, hb, hb2⟩ := L
  refine OX.defM rfl ?_
  by_cases h : 0 < a
  · simp only [F_L_pick, OX_some, OX_map, OX_fzf, OX_eV, OX_eK, OX_e1, OX_e2, OX_e3, OX_tb, OX_tru, OX_ite, OX_tand, OX_tor, OX_tnot, OX_eand, OX_eor, OX_enot, OX_eif, OX_a0, OX_aC, OX_etup, OX_elst, OX_eC, OX_eF, OX_eM, OX_sNil, OX_sBk, OX_sCt, OX_sRetN, OX_sq, OX_sIf, OX_sRet, OX_sX, OX_sV, OX_sO, OX_sP, OX_sU, OX_tgn, OX_tgt, OX_sSt, OX_eMM, OX_append, OX_eIs, OX_sFor, OX_sWh, OX_eLc, OX_iR1, OX_iR2, OX_iL, OX_iT, OX_oN, OX_oS, OX_eSl, OX_pE0, OX_pE, OX_eDk, OX_eGet2, OX_eDn, OX_eD0, OX_iI, OX_iB, OX_neg, OX_dEq, OX_dNe, OX_dIs, OX_dIsNot, OX_dIn, OX_dNotIn, OX_inL, OX_inT, OX_catT, OX_catL, OX_ixT, OX_ixL, OX_ixS, OX_slT, OX_slL, OX_lenL, OX_lenT, OX_lenS, OX_max2, OX_min2, OX_intI, OX_intB, OX_tupL, OX_tupT, OX_listL, OX_listT, OX_all, OX_any, OX_strT, OX_truB, OX_truI, OX_truL, OX_truT, OX_truN, OX_rtR_s, OX_rtM_s, frz_v, frz_n, frz_s, toD_lst, toD_dic, toD_dk, dr_v, dr_n, dr_s, ownD_own, vals_nil, vals_v, drs_nil, drs_c, svR_v, svR_own, svR_al, boolR_b, argM_s, ownM_own, slotR_s, ownL_own, valR_v, newR_n, two_2, intD_i, int1_i, int2_i, listD_l, tupD_t, eqD_ii, eqD_ss, eqD_bb, rtR_v, rtR_n, rtM_v, rtM_n, atI_0, atI_1, atI_2, atI_3, atI_4, ixN_0, ixN_1, ixN_2, setAllE, sizeLine_eq, Option.bind_some, Option.map_some, List.getElem?_cons_zero, List.getElem?_cons_succ, List.getElem?_nil, List.set_cons_zero, List.set_cons_succ, List.map_cons, List.map_nil, List.cons_append, List.nil_append, List.append_nil, List.length_cons, List.length_nil, List.replicate_succ, List.replicate_zero, Bool.not_true, Bool.not_false, Bool.false_eq_true, decide_true, decide_false, Nat.reduceAdd, Nat.reduceSub, Nat.reduceEqDiff, Nat.reduceLT, Nat.reduceLeDiff, ↓reduceIte, Int.reduceLT, Int.reduceLE, Int.reduceAdd, Int.reduceSub, Int.reduceMul, Int.reduceNeg, Int.reduceToNat, Int.reduceMod, Int.reduceEq, Int.reducePow, Nat.reducePow, decide_eq_true_eq, decide_eq_false_iff_not, eq_self, ne_eq, not_true_eq_false, not_false_eq_true, and_true, true_and, and_false, false_and, and_self, or_true, true_or, or_false, false_or, h, h0, h1]
    exact ⟨_, rfl, Int.emod_nonneg _ (by omega), Int.emod_lt_of_pos _ h0, _, _, _, rfl, Int.ediv_nonneg ha (by omega), hb, hb2⟩
  · have w1 : CMul b 48271 := cmul_r (by decide) (by decide)
    have w2 : CMul 7 (c + 1) := cmul_l (by decide) (by decide)
    have q1 := Int.emod_nonneg (b * 48271 + 12345 + 7 * (c + 1)) (b := 2147483647) (by decide)
    have q2 := Int.emod_lt_of_pos (b * 48271 + 12345 + 7 * (c + 1)) (b := 2147483647) (by decide)
    have w3 : CMul ((b * 48271 + 12345 + 7 * (c + 1)) % 2147483647) ((b * 48271 + 12345 + 7 * (c + 1)) % 2147483647) := cmul_l (by omega) (by omega)
    simp only [F_L_pick, OX_some, OX_map, OX_fzf, OX_eV, OX_eK, OX_e1, OX_e2, OX_e3, OX_tb, OX_tru, OX_ite, OX_tand, OX_tor, OX_tnot, OX_eand, OX_eor, OX_enot, OX_eif, OX_a0, OX_aC, OX_etup, OX_elst, OX_eC, OX_eF, OX_eM, OX_sNil, OX_sBk, OX_sCt, OX_sRetN, OX_sq, OX_sIf, OX_sRet, OX_sX, OX_sV, OX_sO, OX_sP, OX_sU, OX_tgn, OX_tgt, OX_sSt, OX_eMM, OX_append, OX_eIs, OX_sFor, OX_sWh, OX_eLc, OX_iR1, OX_iR2, OX_iL, OX_iT, OX_oN, OX_oS, OX_eSl, OX_pE0, OX_pE, OX_eDk, OX_eGet2, OX_eDn, OX_eD0, OX_iI, OX_iB, OX_neg, OX_dEq, OX_dNe, OX_dIs, OX_dIsNot, OX_dIn, OX_dNotIn, OX_inL, OX_inT, OX_catT, OX_catL, OX_ixT, OX_ixL, OX_ixS, OX_slT, OX_slL, OX_lenL, OX_lenT, OX_lenS, OX_max2, OX_min2, OX_intI, OX_intB, OX_tupL, OX_tupT, OX_listL, OX_listT, OX_all, OX_any, OX_strT, OX_truB, OX_truI, OX_truL, OX_truT, OX_truN, OX_rtR_s, OX_rtM_s, frz_v, frz_n, frz_s, toD_lst, toD_dic, toD_dk, dr_v, dr_n, dr_s, ownD_own, vals_nil, vals_v, drs_nil, drs_c, svR_v, svR_own, svR_al, boolR_b, argM_s, ownM_own, slotR_s, ownL_own, valR_v, newR_n, two_2, intD_i, int1_i, int2_i, listD_l, tupD_t, eqD_ii, eqD_ss, eqD_bb, rtR_v, rtR_n, rtM_v, rtM_n, atI_0, atI_1, atI_2, atI_3, atI_4, ixN_0, ixN_1, ixN_2, setAllE, sizeLine_eq, Option.bind_some, Option.map_some, List.getElem?_cons_zero, List.getElem?_cons_succ, List.getElem?_nil, List.set_cons_zero, List.set_cons_succ, List.map_cons, List.map_nil, List.cons_append, List.nil_append, List.append_nil, List.length_cons, List.length_nil, List.replicate_succ, List.replicate_zero, Bool.not_true, Bool.not_false, Bool.false_eq_true, decide_true, decide_false, Nat.reduceAdd, Nat.reduceSub, Nat.reduceEqDiff, Nat.reduceLT, Nat.reduceLeDiff, ↓reduceIte, Int.reduceLT, Int.reduceLE, Int.reduceAdd, Int.reduceSub, Int.reduceMul, Int.reduceNeg, Int.reduceToNat, Int.reduceMod, Int.reduceEq, Int.reducePow, Nat.reducePow, decide_eq_true_eq, decide_eq_false_iff_not, eq_self, ne_eq, not_true_eq_false, not_false_eq_true, and_true, true_and, and_false, false_and, and_self, or_true, true_or, or_false, false_or, h, h0, h1, w1, w2, w3]
    exact ⟨_, rfl, Int.emod_nonneg _ (by omega), Int.emod_lt_of_pos _ h0, _, _, _, rfl, ha, q1, q2⟩
end Z

set_option Elab.async false
set_option linter.all false
set_option maxRecDepth 100000
set_option maxHeartbeats 1000000
namespace Z
open PySem L2
def scrD (ns : List Int) : D := .dict [(.none, .list (ns.map .int))]
theorem cell_ok {ns : List Int} {k : Int} (h0 : 0 ≤ k) : OX (D_L_cell_at [scrD ns, .int k]) fun r => ∃ i, r = .v (.int i) := by
  refine OX.defF rfl ?_
  by_cases h : k < ((ns.map PyData.int).length : Nat)
  · simp only [F_L_cell_at, scrD, OX_some, OX_map, OX_fzf, OX_eV, OX_eK, OX_e1, OX_e2, OX_e3, OX_tb, OX_tru, OX_ite, OX_tand, OX_tor, OX_tnot, OX_eand, OX_eor, OX_enot, OX_eif, OX_a0, OX_aC, OX_etup, OX_elst, OX_eC, OX_eF, OX_eM, OX_sNil, OX_sBk, OX_sCt, OX_sRetN, OX_sq, OX_sIf, OX_sRet, OX_sX, OX_sV, OX_sO, OX_sP, OX_sU, OX_tgn, OX_tgt, OX_sSt, OX_eMM, OX_append, OX_eIs, OX_sFor, OX_sWh, OX_eLc, OX_iR1, OX_iR2, OX_iL, OX_iT, OX_oN, OX_oS, OX_eSl, OX_pE0, OX_pE, OX_eDk, OX_eGet2, OX_eDn, OX_eD0, OX_iI, OX_iB, OX_neg, OX_dEq, OX_dNe, OX_dIs, OX_dIsNot, OX_dIn, OX_dNotIn, OX_inL, OX_inT, OX_catT, OX_catL, OX_ixT, OX_ixL, OX_ixS, OX_slT, OX_slL, OX_lenL, OX_lenT, OX_lenS, OX_max2, OX_min2, OX_intI, OX_intB, OX_tupL, OX_tupT, OX_listL, OX_listT, OX_all, OX_any, OX_strT, OX_truB, OX_truI, OX_truL, OX_truT, OX_truN, OX_rtR_s, OX_rtM_s, frz_v, frz_n, frz_s, toD_lst, toD_dic, toD_dk, dr_v, dr_n, dr_s, ownD_own, vals_nil, vals_v, drs_nil, drs_c, svR_v, svR_own, svR_al, boolR_b, argM_s, ownM_own, slotR_s, ownL_own, valR_v, newR_n, two_2, intD_i, int1_i, int2_i, listD_l, tupD_t, eqD_ii, eqD_ss, eqD_bb, rtR_v, rtR_n, rtM_v, rtM_n, atI_0, atI_1, atI_2, atI_3, atI_4, ixN_0, ixN_1, ixN_2, setAllE, sizeLine_eq, Option.bind_some, Option.map_some, List.getElem?_cons_zero, List.getElem?_cons_succ, List.getElem?_nil, List.set_cons_zero, List.set_cons_succ, List.map_cons, List.map_nil, List.cons_append, List.nil_append, List.append_nil, List.length_cons, List.length_nil, List.replicate_succ, List.replicate_zero, Bool.not_true, Bool.not_false, Bool.false_eq_true, decide_true, decide_false, Nat.reduceAdd, Nat.reduceSub, Nat.reduceEqDiff, Nat.reduceLT, Nat.reduceLeDiff, ↓reduceIte, Int.reduceLT, Int.reduceLE, Int.reduceAdd, Int.reduceSub, Int.reduceMul, Int.reduceNeg, Int.reduceToNat, Int.reduceMod, Int.reduceEq, Int.reducePow, Nat.reducePow, decide_eq_true_eq, decide_eq_false_iff_not, eq_self, ne_eq, not_true_eq_false, not_false_eq_true, and_true, true_and, and_false, false_and, and_self, or_true, true_or, or_false, false_or, h]
    refine (atI_memX h0 h).imp fun x hx => ?_
    obtain ⟨i, _, rfl⟩ := List.mem_map.mp hx
    simp only [OX_some, OX_map, OX_fzf, OX_eV, OX_eK, OX_e1, OX_e2, OX_e3, OX_tb, OX_tru, OX_ite, OX_tand, OX_tor, OX_tnot, OX_eand, OX_eor, OX_enot, OX_eif, OX_a0, OX_aC, OX_etup, OX_elst, OX_eC, OX_eF, OX_eM, OX_sNil, OX_sBk, OX_sCt, OX_sRetN, OX_sq, OX_sIf, OX_sRet, OX_sX, OX_sV, OX_sO, OX_sP, OX_sU, OX_tgn, OX_tgt, OX_sSt, OX_eMM, OX_append, OX_eIs, OX_sFor, OX_sWh, OX_eLc, OX_iR1, OX_iR2, OX_iL, OX_iT, OX_oN, OX_oS, OX_eSl, OX_pE0, OX_pE, OX_eDk, OX_eGet2, OX_eDn, OX_eD0, OX_iI, OX_iB, OX_neg, OX_dEq, OX_dNe, OX_dIs, OX_dIsNot, OX_dIn, OX_dNotIn, OX_inL, OX_inT, OX_catT, OX_catL, OX_ixT, OX_ixL, OX_ixS, OX_slT, OX_slL, OX_lenL, OX_lenT, OX_lenS, OX_max2, OX_min2, OX_intI, OX_intB, OX_tupL, OX_tupT, OX_listL, OX_listT, OX_all, OX_any, OX_strT, OX_truB, OX_truI, OX_truL, OX_truT, OX_truN, OX_rtR_s, OX_rtM_s, frz_v, frz_n, frz_s, toD_lst, toD_dic, toD_dk, dr_v, dr_n, dr_s, ownD_own, vals_nil, vals_v, drs_nil, drs_c, svR_v, svR_own, svR_al, boolR_b, argM_s, ownM_own, slotR_s, ownL_own, valR_v, newR_n, two_2, intD_i, int1_i, int2_i, listD_l, tupD_t, eqD_ii, eqD_ss, eqD_bb, rtR_v, rtR_n, rtM_v, rtM_n, atI_0, atI_1, atI_2, atI_3, atI_4, ixN_0, ixN_1, ixN_2, setAllE, sizeLine_eq, Option.bind_some, Option.map_some, List.getElem?_cons_zero, List.getElem?_cons_succ, List.getElem?_nil, List.set_cons_zero, List.set_cons_succ, List.map_cons, List.map_nil, List.cons_append, List.nil_append, List.append_nil, List.length_cons, List.length_nil, List.replicate_succ, List.replicate_zero, Bool.not_true, Bool.not_false, Bool.false_eq_true, decide_true, decide_false, Nat.reduceAdd, Nat.reduceSub, Nat.reduceEqDiff, Nat.reduceLT, Nat.reduceLeDiff, ↓reduceIte, Int.reduceLT, Int.reduceLE, Int.reduceAdd, Int.reduceSub, Int.reduceMul, Int.reduceNeg, Int.reduceToNat, Int.reduceMod, Int.reduceEq, Int.reducePow, Nat.reducePow, decide_eq_true_eq, decide_eq_false_iff_not, eq_self, ne_eq, not_true_eq_false, not_false_eq_true, and_true, true_and, and_false, false_and, and_self, or_true, true_or, or_false, false_or]
    exact ⟨i, rfl⟩
  · simp only [F_L_cell_at, scrD, OX_some, OX_map, OX_fzf, OX_eV, OX_eK, OX_e1, OX_e2, OX_e3, OX_tb, OX_tru, OX_ite, OX_tand, OX_tor, OX_tnot, OX_eand, OX_eor, OX_enot, OX_eif, OX_a0, OX_aC, OX_etup, OX_elst, OX_eC, OX_eF, OX_eM, OX_sNil, OX_sBk, OX_sCt, OX_sRetN, OX_sq, OX_sIf, OX_sRet, OX_sX, OX_sV, OX_sO, OX_sP, OX_sU, OX_tgn, OX_tgt, OX_sSt, OX_eMM, OX_append, OX_eIs, OX_sFor, OX_sWh, OX_eLc, OX_iR1, OX_iR2, OX_iL, OX_iT, OX_oN, OX_oS, OX_eSl, OX_pE0, OX_pE, OX_eDk, OX_eGet2, OX_eDn, OX_eD0, OX_iI, OX_iB, OX_neg, OX_dEq, OX_dNe, OX_dIs, OX_dIsNot, OX_dIn, OX_dNotIn, OX_inL, OX_inT, OX_catT, OX_catL, OX_ixT, OX_ixL, OX_ixS, OX_slT, OX_slL, OX_lenL, OX_lenT, OX_lenS, OX_max2, OX_min2, OX_intI, OX_intB, OX_tupL, OX_tupT, OX_listL, OX_listT, OX_all, OX_any, OX_strT, OX_truB, OX_truI, OX_truL, OX_truT, OX_truN, OX_rtR_s, OX_rtM_s, frz_v, frz_n, frz_s, toD_lst, toD_dic, toD_dk, dr_v, dr_n, dr_s, ownD_own, vals_nil, vals_v, drs_nil, drs_c, svR_v, svR_own, svR_al, boolR_b, argM_s, ownM_own, slotR_s, ownL_own, valR_v, newR_n, two_2, intD_i, int1_i, int2_i, listD_l, tupD_t, eqD_ii, eqD_ss, eqD_bb, rtR_v, rtR_n, rtM_v, rtM_n, atI_0, atI_1, atI_2, atI_3, atI_4, ixN_0, ixN_1, ixN_2, setAllE, sizeLine_eq, Option.bind_some, Option.map_some, List.getElem?_cons_zero, List.getElem?_cons_succ, List.getElem?_nil, List.set_cons_zero, List.set_cons_succ, List.map_cons, List.map_nil, List.cons_append, List.nil_append, List.append_nil, List.length_cons, List.length_nil, List.replicate_succ, List.replicate_zero, Bool.not_true, Bool.not_false, Bool.false_eq_true, decide_true, decide_false, Nat.reduceAdd, Nat.reduceSub, Nat.reduceEqDiff, Nat.reduceLT, Nat.reduceLeDiff, ↓reduceIte, Int.reduceLT, Int.reduceLE, Int.reduceAdd, Int.reduceSub, Int.reduceMul, Int.reduceNeg, Int.reduceToNat, Int.reduceMod, Int.reduceEq, Int.reducePow, Nat.reducePow, decide_eq_true_eq, decide_eq_false_iff_not, eq_self, ne_eq, not_true_eq_false, not_false_eq_true, and_true, true_and, and_false, false_and, and_self, or_true, true_or, or_false, false_or, h]
    exact ⟨_, rfl⟩
theorem far_ok : OX (D_L_far []) fun r => ∃ i : Int, r = .v (.int i) ∧ 0 < i := ⟨.v (.int (10 ^ 600)), by kernel_rfl, _, rfl, by decide⟩
theorem pw18 : e2 dPow (eK (.int 10)) (eK (.int 18)) = eK (.int 1000000000000000000) := by
  funext ρ
  kernel_rfl
theorem left_ok {ns : List Int} {k : Int} (h0 : 0 ≤ k) (h1 : k < 2 ^ 62) : OX (D_L_left [scrD ns, .int k]) fun r => ∃ m, r = .n m ∧ Left m := by
  refine OX.defF rfl ?_
  have w1 : CMul 7919 k := cmul_l (by decide) (by decide)
  have w2 : CMul (7919 * k) k := cmul_r (by omega) (by omega)
  have w5 : CMul 7 k := cmul_l (by decide) (by decide)
  have w3 : ∀ x, CMul x 48271 := fun x => cmul_r (by decide) (by decide)
  have w4 : ∀ x, CMul x 39373 := fun x => cmul_r (by decide) (by decide)
  have hl : 0 < (if ((ns.map PyData.int).length : Nat) > (1 : Int) then (((ns.map PyData.int).length : Nat) : Int) else 1) := by
    split <;> omega
  simp only [F_L_left, OX_some, OX_map, OX_fzf, OX_eV, OX_eK, OX_e1, OX_e2, OX_e3, OX_tb, OX_tru, OX_ite, OX_tand, OX_tor, OX_tnot, OX_eand, OX_eor, OX_enot, OX_eif, OX_a0, OX_aC, OX_etup, OX_elst, OX_eC, OX_eF, OX_eM, OX_sNil, OX_sBk, OX_sCt, OX_sRetN, OX_sq, OX_sIf, OX_sRet, OX_sX, OX_sV, OX_sO, OX_sP, OX_sU, OX_tgn, OX_tgt, OX_sSt, OX_eMM, OX_append, OX_eIs, OX_sFor, OX_sWh, OX_eLc, OX_iR1, OX_iR2, OX_iL, OX_iT, OX_oN, OX_oS, OX_eSl, OX_pE0, OX_pE, OX_eDk, OX_eGet2, OX_eDn, OX_eD0, OX_iI, OX_iB, OX_neg, OX_dEq, OX_dNe, OX_dIs, OX_dIsNot, OX_dIn, OX_dNotIn, OX_inL, OX_inT, OX_catT, OX_catL, OX_ixT, OX_ixL, OX_ixS, OX_slT, OX_slL, OX_lenL, OX_lenT, OX_lenS, OX_max2, OX_min2, OX_intI, OX_intB, OX_tupL, OX_tupT, OX_listL, OX_listT, OX_all, OX_any, OX_strT, OX_truB, OX_truI, OX_truL, OX_truT, OX_truN, OX_rtR_s, OX_rtM_s, frz_v, frz_n, frz_s, toD_lst, toD_dic, toD_dk, dr_v, dr_n, dr_s, ownD_own, vals_nil, vals_v, drs_nil, drs_c, svR_v, svR_own, svR_al, boolR_b, argM_s, ownM_own, slotR_s, ownL_own, valR_v, newR_n, two_2, intD_i, int1_i, int2_i, listD_l, tupD_t, eqD_ii, eqD_ss, eqD_bb, rtR_v, rtR_n, rtM_v, rtM_n, atI_0, atI_1, atI_2, atI_3, atI_4, ixN_0, ixN_1, ixN_2, setAllE, sizeLine_eq, Option.bind_some, Option.map_some, List.getElem?_cons_zero, List.getElem?_cons_succ, List.getElem?_nil, List.set_cons_zero, List.set_cons_succ, List.map_cons, List.map_nil, List.cons_append, List.nil_append, List.append_nil, List.length_cons, List.length_nil, List.replicate_succ, List.replicate_zero, Bool.not_true, Bool.not_false, Bool.false_eq_true, decide_true, decide_false, Nat.reduceAdd, Nat.reduceSub, Nat.reduceEqDiff, Nat.reduceLT, Nat.reduceLeDiff, ↓reduceIte, Int.reduceLT, Int.reduceLE, Int.reduceAdd, Int.reduceSub, Int.reduceMul, Int.reduceNeg, Int.reduceToNat, Int.reduceMod, Int.reduceEq, Int.reducePow, Nat.reducePow, decide_eq_true_eq, decide_eq_false_iff_not, eq_self, ne_eq, not_true_eq_false, not_false_eq_true, and_true, true_and, and_false, false_and, and_self, or_true, true_or, or_false, false_or, scrD, hl]
  refine (cell_ok (ns := ns) (Int.emod_nonneg _ (by omega))).imp ?_
  rintro _ ⟨i, rfl⟩
  by_cases h : i < 1000000000000000000
  · simp only [OX_some, OX_map, OX_fzf, OX_eV, OX_eK, OX_e1, OX_e2, OX_e3, OX_tb, OX_tru, OX_ite, OX_tand, OX_tor, OX_tnot, OX_eand, OX_eor, OX_enot, OX_eif, OX_a0, OX_aC, OX_etup, OX_elst, OX_eC, OX_eF, OX_eM, OX_sNil, OX_sBk, OX_sCt, OX_sRetN, OX_sq, OX_sIf, OX_sRet, OX_sX, OX_sV, OX_sO, OX_sP, OX_sU, OX_tgn, OX_tgt, OX_sSt, OX_eMM, OX_append, OX_eIs, OX_sFor, OX_sWh, OX_eLc, OX_iR1, OX_iR2, OX_iL, OX_iT, OX_oN, OX_oS, OX_eSl, OX_pE0, OX_pE, OX_eDk, OX_eGet2, OX_eDn, OX_eD0, OX_iI, OX_iB, OX_neg, OX_dEq, OX_dNe, OX_dIs, OX_dIsNot, OX_dIn, OX_dNotIn, OX_inL, OX_inT, OX_catT, OX_catL, OX_ixT, OX_ixL, OX_ixS, OX_slT, OX_slL, OX_lenL, OX_lenT, OX_lenS, OX_max2, OX_min2, OX_intI, OX_intB, OX_tupL, OX_tupT, OX_listL, OX_listT, OX_all, OX_any, OX_strT, OX_truB, OX_truI, OX_truL, OX_truT, OX_truN, OX_rtR_s, OX_rtM_s, frz_v, frz_n, frz_s, toD_lst, toD_dic, toD_dk, dr_v, dr_n, dr_s, ownD_own, vals_nil, vals_v, drs_nil, drs_c, svR_v, svR_own, svR_al, boolR_b, argM_s, ownM_own, slotR_s, ownL_own, valR_v, newR_n, two_2, intD_i, int1_i, int2_i, listD_l, tupD_t, eqD_ii, eqD_ss, eqD_bb, rtR_v, rtR_n, rtM_v, rtM_n, atI_0, atI_1, atI_2, atI_3, atI_4, ixN_0, ixN_1, ixN_2, setAllE, sizeLine_eq, Option.bind_some, Option.map_some, List.getElem?_cons_zero, List.getElem?_cons_succ, List.getElem?_nil, List.set_cons_zero, List.set_cons_succ, List.map_cons, List.map_nil, List.cons_append, List.nil_append, List.append_nil, List.length_cons, List.length_nil, List.replicate_succ, List.replicate_zero, Bool.not_true, Bool.not_false, Bool.false_eq_true, decide_true, decide_false, Nat.reduceAdd, Nat.reduceSub, Nat.reduceEqDiff, Nat.reduceLT, Nat.reduceLeDiff, ↓reduceIte, Int.reduceLT, Int.reduceLE, Int.reduceAdd, Int.reduceSub, Int.reduceMul, Int.reduceNeg, Int.reduceToNat, Int.reduceMod, Int.reduceEq, Int.reducePow, Nat.reducePow, decide_eq_true_eq, decide_eq_false_iff_not, eq_self, ne_eq, not_true_eq_false, not_false_eq_true, and_true, true_and, and_false, false_and, and_self, or_true, true_or, or_false, false_or, w1, w2, w3, w4, w5, pw18, h]
    refine far_ok.imp ?_
    rintro _ ⟨F, rfl, hF⟩
    simp only [OX_some, OX_map, OX_fzf, OX_eV, OX_eK, OX_e1, OX_e2, OX_e3, OX_tb, OX_tru, OX_ite, OX_tand, OX_tor, OX_tnot, OX_eand, OX_eor, OX_enot, OX_eif, OX_a0, OX_aC, OX_etup, OX_elst, OX_eC, OX_eF, OX_eM, OX_sNil, OX_sBk, OX_sCt, OX_sRetN, OX_sq, OX_sIf, OX_sRet, OX_sX, OX_sV, OX_sO, OX_sP, OX_sU, OX_tgn, OX_tgt, OX_sSt, OX_eMM, OX_append, OX_eIs, OX_sFor, OX_sWh, OX_eLc, OX_iR1, OX_iR2, OX_iL, OX_iT, OX_oN, OX_oS, OX_eSl, OX_pE0, OX_pE, OX_eDk, OX_eGet2, OX_eDn, OX_eD0, OX_iI, OX_iB, OX_neg, OX_dEq, OX_dNe, OX_dIs, OX_dIsNot, OX_dIn, OX_dNotIn, OX_inL, OX_inT, OX_catT, OX_catL, OX_ixT, OX_ixL, OX_ixS, OX_slT, OX_slL, OX_lenL, OX_lenT, OX_lenS, OX_max2, OX_min2, OX_intI, OX_intB, OX_tupL, OX_tupT, OX_listL, OX_listT, OX_all, OX_any, OX_strT, OX_truB, OX_truI, OX_truL, OX_truT, OX_truN, OX_rtR_s, OX_rtM_s, frz_v, frz_n, frz_s, toD_lst, toD_dic, toD_dk, dr_v, dr_n, dr_s, ownD_own, vals_nil, vals_v, drs_nil, drs_c, svR_v, svR_own, svR_al, boolR_b, argM_s, ownM_own, slotR_s, ownL_own, valR_v, newR_n, two_2, intD_i, int1_i, int2_i, listD_l, tupD_t, eqD_ii, eqD_ss, eqD_bb, rtR_v, rtR_n, rtM_v, rtM_n, atI_0, atI_1, atI_2, atI_3, atI_4, ixN_0, ixN_1, ixN_2, setAllE, sizeLine_eq, Option.bind_some, Option.map_some, List.getElem?_cons_zero, List.getElem?_cons_succ, List.getElem?_nil, List.set_cons_zero, List.set_cons_succ, List.map_cons, List.map_nil, List.cons_append, List.nil_append, List.append_nil, List.length_cons, List.length_nil, List.replicate_succ, List.replicate_zero, Bool.not_true, Bool.not_false, Bool.false_eq_true, decide_true, decide_false, Nat.reduceAdd, Nat.reduceSub, Nat.reduceEqDiff, Nat.reduceLT, Nat.reduceLeDiff, ↓reduceIte, Int.reduceLT, Int.reduceLE, Int.reduceAdd, Int.reduceSub, Int.reduceMul, Int.reduceNeg, Int.reduceToNat, Int.reduceMod, Int.reduceEq, Int.reducePow, Nat.reducePow, decide_eq_true_eq, decide_eq_false_iff_not, eq_self, ne_eq, not_true_eq_false, not_false_eq_true, and_true, true_and, and_false, false_and, and_self, or_true, true_or, or_false, false_or, hF]
    exact ⟨_, rfl, _, _, _, rfl, Int.emod_nonneg _ (by omega), Int.emod_nonneg _ (by decide), Int.lt_trans (Int.emod_lt_of_pos _ (by decide)) (by decide)⟩
  · simp only [OX_some, OX_map, OX_fzf, OX_eV, OX_eK, OX_e1, OX_e2, OX_e3, OX_tb, OX_tru, OX_ite, OX_tand, OX_tor, OX_tnot, OX_eand, OX_eor, OX_enot, OX_eif, OX_a0, OX_aC, OX_etup, OX_elst, OX_eC, OX_eF, OX_eM, OX_sNil, OX_sBk, OX_sCt, OX_sRetN, OX_sq, OX_sIf, OX_sRet, OX_sX, OX_sV, OX_sO, OX_sP, OX_sU, OX_tgn, OX_tgt, OX_sSt, OX_eMM, OX_append, OX_eIs, OX_sFor, OX_sWh, OX_eLc, OX_iR1, OX_iR2, OX_iL, OX_iT, OX_oN, OX_oS, OX_eSl, OX_pE0, OX_pE, OX_eDk, OX_eGet2, OX_eDn, OX_eD0, OX_iI, OX_iB, OX_neg, OX_dEq, OX_dNe, OX_dIs, OX_dIsNot, OX_dIn, OX_dNotIn, OX_inL, OX_inT, OX_catT, OX_catL, OX_ixT, OX_ixL, OX_ixS, OX_slT, OX_slL, OX_lenL, OX_lenT, OX_lenS, OX_max2, OX_min2, OX_intI, OX_intB, OX_tupL, OX_tupT, OX_listL, OX_listT, OX_all, OX_any, OX_strT, OX_truB, OX_truI, OX_truL, OX_truT, OX_truN, OX_rtR_s, OX_rtM_s, frz_v, frz_n, frz_s, toD_lst, toD_dic, toD_dk, dr_v, dr_n, dr_s, ownD_own, vals_nil, vals_v, drs_nil, drs_c, svR_v, svR_own, svR_al, boolR_b, argM_s, ownM_own, slotR_s, ownL_own, valR_v, newR_n, two_2, intD_i, int1_i, int2_i, listD_l, tupD_t, eqD_ii, eqD_ss, eqD_bb, rtR_v, rtR_n, rtM_v, rtM_n, atI_0, atI_1, atI_2, atI_3, atI_4, ixN_0, ixN_1, ixN_2, setAllE, sizeLine_eq, Option.bind_some, Option.map_some, List.getElem?_cons_zero, List.getElem?_cons_succ, List.getElem?_nil, List.set_cons_zero, List.set_cons_succ, List.map_cons, List.map_nil, List.cons_append, List.nil_append, List.append_nil, List.length_cons, List.length_nil, List.replicate_succ, List.replicate_zero, Bool.not_true, Bool.not_false, Bool.false_eq_true, decide_true, decide_false, Nat.reduceAdd, Nat.reduceSub, Nat.reduceEqDiff, Nat.reduceLT, Nat.reduceLeDiff, ↓reduceIte, Int.reduceLT, Int.reduceLE, Int.reduceAdd, Int.reduceSub, Int.reduceMul, Int.reduceNeg, Int.reduceToNat, Int.reduceMod, Int.reduceEq, Int.reducePow, Nat.reducePow, decide_eq_true_eq, decide_eq_false_iff_not, eq_self, ne_eq, not_true_eq_false, not_false_eq_true, and_true, true_and, and_false, false_and, and_self, or_true, true_or, or_false, false_or, w1, w2, w3, w4, w5, pw18, h]
    refine far_ok.imp ?_
    rintro _ ⟨F, rfl, hF⟩
    simp only [OX_some, OX_map, OX_fzf, OX_eV, OX_eK, OX_e1, OX_e2, OX_e3, OX_tb, OX_tru, OX_ite, OX_tand, OX_tor, OX_tnot, OX_eand, OX_eor, OX_enot, OX_eif, OX_a0, OX_aC, OX_etup, OX_elst, OX_eC, OX_eF, OX_eM, OX_sNil, OX_sBk, OX_sCt, OX_sRetN, OX_sq, OX_sIf, OX_sRet, OX_sX, OX_sV, OX_sO, OX_sP, OX_sU, OX_tgn, OX_tgt, OX_sSt, OX_eMM, OX_append, OX_eIs, OX_sFor, OX_sWh, OX_eLc, OX_iR1, OX_iR2, OX_iL, OX_iT, OX_oN, OX_oS, OX_eSl, OX_pE0, OX_pE, OX_eDk, OX_eGet2, OX_eDn, OX_eD0, OX_iI, OX_iB, OX_neg, OX_dEq, OX_dNe, OX_dIs, OX_dIsNot, OX_dIn, OX_dNotIn, OX_inL, OX_inT, OX_catT, OX_catL, OX_ixT, OX_ixL, OX_ixS, OX_slT, OX_slL, OX_lenL, OX_lenT, OX_lenS, OX_max2, OX_min2, OX_intI, OX_intB, OX_tupL, OX_tupT, OX_listL, OX_listT, OX_all, OX_any, OX_strT, OX_truB, OX_truI, OX_truL, OX_truT, OX_truN, OX_rtR_s, OX_rtM_s, frz_v, frz_n, frz_s, toD_lst, toD_dic, toD_dk, dr_v, dr_n, dr_s, ownD_own, vals_nil, vals_v, drs_nil, drs_c, svR_v, svR_own, svR_al, boolR_b, argM_s, ownM_own, slotR_s, ownL_own, valR_v, newR_n, two_2, intD_i, int1_i, int2_i, listD_l, tupD_t, eqD_ii, eqD_ss, eqD_bb, rtR_v, rtR_n, rtM_v, rtM_n, atI_0, atI_1, atI_2, atI_3, atI_4, ixN_0, ixN_1, ixN_2, setAllE, sizeLine_eq, Option.bind_some, Option.map_some, List.getElem?_cons_zero, List.getElem?_cons_succ, List.getElem?_nil, List.set_cons_zero, List.set_cons_succ, List.map_cons, List.map_nil, List.cons_append, List.nil_append, List.append_nil, List.length_cons, List.length_nil, List.replicate_succ, List.replicate_zero, Bool.not_true, Bool.not_false, Bool.false_eq_true, decide_true, decide_false, Nat.reduceAdd, Nat.reduceSub, Nat.reduceEqDiff, Nat.reduceLT, Nat.reduceLeDiff, ↓reduceIte, Int.reduceLT, Int.reduceLE, Int.reduceAdd, Int.reduceSub, Int.reduceMul, Int.reduceNeg, Int.reduceToNat, Int.reduceMod, Int.reduceEq, Int.reducePow, Nat.reducePow, decide_eq_true_eq, decide_eq_false_iff_not, eq_self, ne_eq, not_true_eq_false, not_false_eq_true, and_true, true_and, and_false, false_and, and_self, or_true, true_or, or_false, false_or, hF]
    exact ⟨_, rfl, _, _, _, rfl, Int.emod_nonneg _ (by omega), Int.emod_nonneg _ (by decide), Int.lt_trans (Int.emod_lt_of_pos _ (by decide)) (by decide)⟩
inductive Deed : List D → Prop
  | one {a : Str} : PyData.strOk a = true → smallD (.str a) = true → Deed [.str a]
  | two {a : Str} {i : Int} : PyData.strOk a = true → smallD (.str a) = true → smallD (.int i) = true → Deed [.str a, .int i]
  | three {a : Str} {i : Int} {x : D} : PyData.strOk a = true → smallD (.str a) = true → smallD (.int i) = true → smallD x = true → Deed [.str a, .int i, x]
theorem deed_ok {m : MO} {n : Int} (L : Left m) (h0 : 0 < n) (h1 : n ≤ 9) : OX (D_L_deed m [.int n]) fun p => ∃ dd, p.1 = .v (.tuple dd) ∧ Deed dd ∧ Left p.2 := by
  refine OX.defM rfl ?_
  simp only [F_L_deed, OX_some, OX_map, OX_fzf, OX_eV, OX_eK, OX_e1, OX_e2, OX_e3, OX_tb, OX_tru, OX_ite, OX_tand, OX_tor, OX_tnot, OX_eand, OX_eor, OX_enot, OX_eif, OX_a0, OX_aC, OX_etup, OX_elst, OX_eC, OX_eF, OX_eM, OX_sNil, OX_sBk, OX_sCt, OX_sRetN, OX_sq, OX_sIf, OX_sRet, OX_sX, OX_sV, OX_sO, OX_sP, OX_sU, OX_tgn, OX_tgt, OX_sSt, OX_eMM, OX_append, OX_eIs, OX_sFor, OX_sWh, OX_eLc, OX_iR1, OX_iR2, OX_iL, OX_iT, OX_oN, OX_oS, OX_eSl, OX_pE0, OX_pE, OX_eDk, OX_eGet2, OX_eDn, OX_eD0, OX_iI, OX_iB, OX_neg, OX_dEq, OX_dNe, OX_dIs, OX_dIsNot, OX_dIn, OX_dNotIn, OX_inL, OX_inT, OX_catT, OX_catL, OX_ixT, OX_ixL, OX_ixS, OX_slT, OX_slL, OX_lenL, OX_lenT, OX_lenS, OX_max2, OX_min2, OX_intI, OX_intB, OX_tupL, OX_tupT, OX_listL, OX_listT, OX_all, OX_any, OX_strT, OX_truB, OX_truI, OX_truL, OX_truT, OX_truN, OX_rtR_s, OX_rtM_s, frz_v, frz_n, frz_s, toD_lst, toD_dic, toD_dk, dr_v, dr_n, dr_s, ownD_own, vals_nil, vals_v, drs_nil, drs_c, svR_v, svR_own, svR_al, boolR_b, argM_s, ownM_own, slotR_s, ownL_own, valR_v, newR_n, two_2, intD_i, int1_i, int2_i, listD_l, tupD_t, eqD_ii, eqD_ss, eqD_bb, rtR_v, rtR_n, rtM_v, rtM_n, atI_0, atI_1, atI_2, atI_3, atI_4, ixN_0, ixN_1, ixN_2, setAllE, sizeLine_eq, Option.bind_some, Option.map_some, List.getElem?_cons_zero, List.getElem?_cons_succ, List.getElem?_nil, List.set_cons_zero, List.set_cons_succ, List.map_cons, List.map_nil, List.cons_append, List.nil_append, List.append_nil, List.length_cons, List.length_nil, List.replicate_succ, List.replicate_zero, Bool.not_true, Bool.not_false, Bool.false_eq_true, decide_true, decide_false, Nat.reduceAdd, Nat.reduceSub, Nat.reduceEqDiff, Nat.reduceLT, Nat.reduceLeDiff, ↓reduceIte, Int.reduceLT, Int.reduceLE, Int.reduceAdd, Int.reduceSub, Int.reduceMul, Int.reduceNeg, Int.reduceToNat, Int.reduceMod, Int.reduceEq, Int.reducePow, Nat.reducePow, decide_eq_true_eq, decide_eq_false_iff_not, eq_self, ne_eq, not_true_eq_false, not_false_eq_true, and_true, true_and, and_false, false_and, and_self, or_true, true_or, or_false, false_or]
  refine (pick_ok L h0 (by omega)).imp ?_
  rintro ⟨_, m1⟩ ⟨g, rfl, hg0, hg1, L1⟩
  simp only [OX_some, OX_map, OX_fzf, OX_eV, OX_eK, OX_e1, OX_e2, OX_e3, OX_tb, OX_tru, OX_ite, OX_tand, OX_tor, OX_tnot, OX_eand, OX_eor, OX_enot, OX_eif, OX_a0, OX_aC, OX_etup, OX_elst, OX_eC, OX_eF, OX_eM, OX_sNil, OX_sBk, OX_sCt, OX_sRetN, OX_sq, OX_sIf, OX_sRet, OX_sX, OX_sV, OX_sO, OX_sP, OX_sU, OX_tgn, OX_tgt, OX_sSt, OX_eMM, OX_append, OX_eIs, OX_sFor, OX_sWh, OX_eLc, OX_iR1, OX_iR2, OX_iL, OX_iT, OX_oN, OX_oS, OX_eSl, OX_pE0, OX_pE, OX_eDk, OX_eGet2, OX_eDn, OX_eD0, OX_iI, OX_iB, OX_neg, OX_dEq, OX_dNe, OX_dIs, OX_dIsNot, OX_dIn, OX_dNotIn, OX_inL, OX_inT, OX_catT, OX_catL, OX_ixT, OX_ixL, OX_ixS, OX_slT, OX_slL, OX_lenL, OX_lenT, OX_lenS, OX_max2, OX_min2, OX_intI, OX_intB, OX_tupL, OX_tupT, OX_listL, OX_listT, OX_all, OX_any, OX_strT, OX_truB, OX_truI, OX_truL, OX_truT, OX_truN, OX_rtR_s, OX_rtM_s, frz_v, frz_n, frz_s, toD_lst, toD_dic, toD_dk, dr_v, dr_n, dr_s, ownD_own, vals_nil, vals_v, drs_nil, drs_c, svR_v, svR_own, svR_al, boolR_b, argM_s, ownM_own, slotR_s, ownL_own, valR_v, newR_n, two_2, intD_i, int1_i, int2_i, listD_l, tupD_t, eqD_ii, eqD_ss, eqD_bb, rtR_v, rtR_n, rtM_v, rtM_n, atI_0, atI_1, atI_2, atI_3, atI_4, ixN_0, ixN_1, ixN_2, setAllE, sizeLine_eq, Option.bind_some, Option.map_some, List.getElem?_cons_zero, List.getElem?_cons_succ, List.getElem?_nil, List.set_cons_zero, List.set_cons_succ, List.map_cons, List.map_nil, List.cons_append, List.nil_append, List.append_nil, List.length_cons, List.length_nil, List.replicate_succ, List.replicate_zero, Bool.not_true, Bool.not_false, Bool.false_eq_true, decide_true, decide_false, Nat.reduceAdd, Nat.reduceSub, Nat.reduceEqDiff, Nat.reduceLT, Nat.reduceLeDiff, ↓reduceIte, Int.reduceLT, Int.reduceLE, Int.reduceAdd, Int.reduceSub, Int.reduceMul, Int.reduceNeg, Int.reduceToNat, Int.reduceMod, Int.reduceEq, Int.reducePow, Nat.reducePow, decide_eq_true_eq, decide_eq_false_iff_not, eq_self, ne_eq, not_true_eq_false, not_false_eq_true, and_true, true_and, and_false, false_and, and_self, or_true, true_or, or_false, false_or]
  refine (pick_ok L1 (by decide) (by decide)).imp ?_
  rintro ⟨_, m2⟩ ⟨y, rfl, hy0, hy1, L2⟩
  have sg : smallD (.int g) = true := decide_eq_true ⟨hg0, by omega⟩
  by_cases h6 : y < 6
  · simp only [OX_some, OX_map, OX_fzf, OX_eV, OX_eK, OX_e1, OX_e2, OX_e3, OX_tb, OX_tru, OX_ite, OX_tand, OX_tor, OX_tnot, OX_eand, OX_eor, OX_enot, OX_eif, OX_a0, OX_aC, OX_etup, OX_elst, OX_eC, OX_eF, OX_eM, OX_sNil, OX_sBk, OX_sCt, OX_sRetN, OX_sq, OX_sIf, OX_sRet, OX_sX, OX_sV, OX_sO, OX_sP, OX_sU, OX_tgn, OX_tgt, OX_sSt, OX_eMM, OX_append, OX_eIs, OX_sFor, OX_sWh, OX_eLc, OX_iR1, OX_iR2, OX_iL, OX_iT, OX_oN, OX_oS, OX_eSl, OX_pE0, OX_pE, OX_eDk, OX_eGet2, OX_eDn, OX_eD0, OX_iI, OX_iB, OX_neg, OX_dEq, OX_dNe, OX_dIs, OX_dIsNot, OX_dIn, OX_dNotIn, OX_inL, OX_inT, OX_catT, OX_catL, OX_ixT, OX_ixL, OX_ixS, OX_slT, OX_slL, OX_lenL, OX_lenT, OX_lenS, OX_max2, OX_min2, OX_intI, OX_intB, OX_tupL, OX_tupT, OX_listL, OX_listT, OX_all, OX_any, OX_strT, OX_truB, OX_truI, OX_truL, OX_truT, OX_truN, OX_rtR_s, OX_rtM_s, frz_v, frz_n, frz_s, toD_lst, toD_dic, toD_dk, dr_v, dr_n, dr_s, ownD_own, vals_nil, vals_v, drs_nil, drs_c, svR_v, svR_own, svR_al, boolR_b, argM_s, ownM_own, slotR_s, ownL_own, valR_v, newR_n, two_2, intD_i, int1_i, int2_i, listD_l, tupD_t, eqD_ii, eqD_ss, eqD_bb, rtR_v, rtR_n, rtM_v, rtM_n, atI_0, atI_1, atI_2, atI_3, atI_4, ixN_0, ixN_1, ixN_2, setAllE, sizeLine_eq, Option.bind_some, Option.map_some, List.getElem?_cons_zero, List.getElem?_cons_succ, List.getElem?_nil, List.set_cons_zero, List.set_cons_succ, List.map_cons, List.map_nil, List.cons_append, List.nil_append, List.append_nil, List.length_cons, List.length_nil, List.replicate_succ, List.replicate_zero, Bool.not_true, Bool.not_false, Bool.false_eq_true, decide_true, decide_false, Nat.reduceAdd, Nat.reduceSub, Nat.reduceEqDiff, Nat.reduceLT, Nat.reduceLeDiff, ↓reduceIte, Int.reduceLT, Int.reduceLE, Int.reduceAdd, Int.reduceSub, Int.reduceMul, Int.reduceNeg, Int.reduceToNat, Int.reduceMod, Int.reduceEq, Int.reducePow, Nat.reducePow, decide_eq_true_eq, decide_eq_false_iff_not, eq_self, ne_eq, not_true_eq_false, not_false_eq_true, and_true, true_and, and_false, false_and, and_self, or_true, true_or, or_false, false_or, h6]
    refine (atI_memX (Int.emod_nonneg _ (by decide)) (Int.emod_lt_of_pos _ (by decide))).imp fun x hx => ?_
    simp only [OX_some, OX_map, OX_fzf, OX_eV, OX_eK, OX_e1, OX_e2, OX_e3, OX_tb, OX_tru, OX_ite, OX_tand, OX_tor, OX_tnot, OX_eand, OX_eor, OX_enot, OX_eif, OX_a0, OX_aC, OX_etup, OX_elst, OX_eC, OX_eF, OX_eM, OX_sNil, OX_sBk, OX_sCt, OX_sRetN, OX_sq, OX_sIf, OX_sRet, OX_sX, OX_sV, OX_sO, OX_sP, OX_sU, OX_tgn, OX_tgt, OX_sSt, OX_eMM, OX_append, OX_eIs, OX_sFor, OX_sWh, OX_eLc, OX_iR1, OX_iR2, OX_iL, OX_iT, OX_oN, OX_oS, OX_eSl, OX_pE0, OX_pE, OX_eDk, OX_eGet2, OX_eDn, OX_eD0, OX_iI, OX_iB, OX_neg, OX_dEq, OX_dNe, OX_dIs, OX_dIsNot, OX_dIn, OX_dNotIn, OX_inL, OX_inT, OX_catT, OX_catL, OX_ixT, OX_ixL, OX_ixS, OX_slT, OX_slL, OX_lenL, OX_lenT, OX_lenS, OX_max2, OX_min2, OX_intI, OX_intB, OX_tupL, OX_tupT, OX_listL, OX_listT, OX_all, OX_any, OX_strT, OX_truB, OX_truI, OX_truL, OX_truT, OX_truN, OX_rtR_s, OX_rtM_s, frz_v, frz_n, frz_s, toD_lst, toD_dic, toD_dk, dr_v, dr_n, dr_s, ownD_own, vals_nil, vals_v, drs_nil, drs_c, svR_v, svR_own, svR_al, boolR_b, argM_s, ownM_own, slotR_s, ownL_own, valR_v, newR_n, two_2, intD_i, int1_i, int2_i, listD_l, tupD_t, eqD_ii, eqD_ss, eqD_bb, rtR_v, rtR_n, rtM_v, rtM_n, atI_0, atI_1, atI_2, atI_3, atI_4, ixN_0, ixN_1, ixN_2, setAllE, sizeLine_eq, Option.bind_some, Option.map_some, List.getElem?_cons_zero, List.getElem?_cons_succ, List.getElem?_nil, List.set_cons_zero, List.set_cons_succ, List.map_cons, List.map_nil, List.cons_append, List.nil_append, List.append_nil, List.length_cons, List.length_nil, List.replicate_succ, List.replicate_zero, Bool.not_true, Bool.not_false, Bool.false_eq_true, decide_true, decide_false, Nat.reduceAdd, Nat.reduceSub, Nat.reduceEqDiff, Nat.reduceLT, Nat.reduceLeDiff, ↓reduceIte, Int.reduceLT, Int.reduceLE, Int.reduceAdd, Int.reduceSub, Int.reduceMul, Int.reduceNeg, Int.reduceToNat, Int.reduceMod, Int.reduceEq, Int.reducePow, Nat.reducePow, decide_eq_true_eq, decide_eq_false_iff_not, eq_self, ne_eq, not_true_eq_false, not_false_eq_true, and_true, true_and, and_false, false_and, and_self, or_true, true_or, or_false, false_or]
    refine (pick_ok L2 (by decide) (by decide)).imp ?_
    rintro ⟨_, m3⟩ ⟨z, rfl, hz0, hz1, L3⟩
    simp only [OX_some, OX_map, OX_fzf, OX_eV, OX_eK, OX_e1, OX_e2, OX_e3, OX_tb, OX_tru, OX_ite, OX_tand, OX_tor, OX_tnot, OX_eand, OX_eor, OX_enot, OX_eif, OX_a0, OX_aC, OX_etup, OX_elst, OX_eC, OX_eF, OX_eM, OX_sNil, OX_sBk, OX_sCt, OX_sRetN, OX_sq, OX_sIf, OX_sRet, OX_sX, OX_sV, OX_sO, OX_sP, OX_sU, OX_tgn, OX_tgt, OX_sSt, OX_eMM, OX_append, OX_eIs, OX_sFor, OX_sWh, OX_eLc, OX_iR1, OX_iR2, OX_iL, OX_iT, OX_oN, OX_oS, OX_eSl, OX_pE0, OX_pE, OX_eDk, OX_eGet2, OX_eDn, OX_eD0, OX_iI, OX_iB, OX_neg, OX_dEq, OX_dNe, OX_dIs, OX_dIsNot, OX_dIn, OX_dNotIn, OX_inL, OX_inT, OX_catT, OX_catL, OX_ixT, OX_ixL, OX_ixS, OX_slT, OX_slL, OX_lenL, OX_lenT, OX_lenS, OX_max2, OX_min2, OX_intI, OX_intB, OX_tupL, OX_tupT, OX_listL, OX_listT, OX_all, OX_any, OX_strT, OX_truB, OX_truI, OX_truL, OX_truT, OX_truN, OX_rtR_s, OX_rtM_s, frz_v, frz_n, frz_s, toD_lst, toD_dic, toD_dk, dr_v, dr_n, dr_s, ownD_own, vals_nil, vals_v, drs_nil, drs_c, svR_v, svR_own, svR_al, boolR_b, argM_s, ownM_own, slotR_s, ownL_own, valR_v, newR_n, two_2, intD_i, int1_i, int2_i, listD_l, tupD_t, eqD_ii, eqD_ss, eqD_bb, rtR_v, rtR_n, rtM_v, rtM_n, atI_0, atI_1, atI_2, atI_3, atI_4, ixN_0, ixN_1, ixN_2, setAllE, sizeLine_eq, Option.bind_some, Option.map_some, List.getElem?_cons_zero, List.getElem?_cons_succ, List.getElem?_nil, List.set_cons_zero, List.set_cons_succ, List.map_cons, List.map_nil, List.cons_append, List.nil_append, List.append_nil, List.length_cons, List.length_nil, List.replicate_succ, List.replicate_zero, Bool.not_true, Bool.not_false, Bool.false_eq_true, decide_true, decide_false, Nat.reduceAdd, Nat.reduceSub, Nat.reduceEqDiff, Nat.reduceLT, Nat.reduceLeDiff, ↓reduceIte, Int.reduceLT, Int.reduceLE, Int.reduceAdd, Int.reduceSub, Int.reduceMul, Int.reduceNeg, Int.reduceToNat, Int.reduceMod, Int.reduceEq, Int.reducePow, Nat.reducePow, decide_eq_true_eq, decide_eq_false_iff_not, eq_self, ne_eq, not_true_eq_false, not_false_eq_true, and_true, true_and, and_false, false_and, and_self, or_true, true_or, or_false, false_or]
    refine (atI_memX hz0 (by exact hz1)).imp fun u hu => ?_
    simp only [OX_some, OX_map, OX_fzf, OX_eV, OX_eK, OX_e1, OX_e2, OX_e3, OX_tb, OX_tru, OX_ite, OX_tand, OX_tor, OX_tnot, OX_eand, OX_eor, OX_enot, OX_eif, OX_a0, OX_aC, OX_etup, OX_elst, OX_eC, OX_eF, OX_eM, OX_sNil, OX_sBk, OX_sCt, OX_sRetN, OX_sq, OX_sIf, OX_sRet, OX_sX, OX_sV, OX_sO, OX_sP, OX_sU, OX_tgn, OX_tgt, OX_sSt, OX_eMM, OX_append, OX_eIs, OX_sFor, OX_sWh, OX_eLc, OX_iR1, OX_iR2, OX_iL, OX_iT, OX_oN, OX_oS, OX_eSl, OX_pE0, OX_pE, OX_eDk, OX_eGet2, OX_eDn, OX_eD0, OX_iI, OX_iB, OX_neg, OX_dEq, OX_dNe, OX_dIs, OX_dIsNot, OX_dIn, OX_dNotIn, OX_inL, OX_inT, OX_catT, OX_catL, OX_ixT, OX_ixL, OX_ixS, OX_slT, OX_slL, OX_lenL, OX_lenT, OX_lenS, OX_max2, OX_min2, OX_intI, OX_intB, OX_tupL, OX_tupT, OX_listL, OX_listT, OX_all, OX_any, OX_strT, OX_truB, OX_truI, OX_truL, OX_truT, OX_truN, OX_rtR_s, OX_rtM_s, frz_v, frz_n, frz_s, toD_lst, toD_dic, toD_dk, dr_v, dr_n, dr_s, ownD_own, vals_nil, vals_v, drs_nil, drs_c, svR_v, svR_own, svR_al, boolR_b, argM_s, ownM_own, slotR_s, ownL_own, valR_v, newR_n, two_2, intD_i, int1_i, int2_i, listD_l, tupD_t, eqD_ii, eqD_ss, eqD_bb, rtR_v, rtR_n, rtM_v, rtM_n, atI_0, atI_1, atI_2, atI_3, atI_4, ixN_0, ixN_1, ixN_2, setAllE, sizeLine_eq, Option.bind_some, Option.map_some, List.getElem?_cons_zero, List.getElem?_cons_succ, List.getElem?_nil, List.set_cons_zero, List.set_cons_succ, List.map_cons, List.map_nil, List.cons_append, List.nil_append, List.append_nil, List.length_cons, List.length_nil, List.replicate_succ, List.replicate_zero, Bool.not_true, Bool.not_false, Bool.false_eq_true, decide_true, decide_false, Nat.reduceAdd, Nat.reduceSub, Nat.reduceEqDiff, Nat.reduceLT, Nat.reduceLeDiff, ↓reduceIte, Int.reduceLT, Int.reduceLE, Int.reduceAdd, Int.reduceSub, Int.reduceMul, Int.reduceNeg, Int.reduceToNat, Int.reduceMod, Int.reduceEq, Int.reducePow, Nat.reducePow, decide_eq_true_eq, decide_eq_false_iff_not, eq_self, ne_eq, not_true_eq_false, not_false_eq_true, and_true, true_and, and_false, false_and, and_self, or_true, true_or, or_false, false_or]
    have su : smallD u = true := List.all_eq_true.mp (show ([.none, .none, .none, .int 0, .int 1, .int 9] : List D).all smallD = true by decide +kernel) u hu
    have sx : ∃ w, x = .str w ∧ PyData.strOk w = true ∧ smallD (.str w) = true := by
      simp only [List.mem_cons, List.not_mem_nil, or_false] at hx
      rcases hx with rfl | rfl <;> exact ⟨_, rfl, by decide +kernel, by decide +kernel⟩
    obtain ⟨w, rfl, ow, sw⟩ := sx
    exact ⟨_, rfl, .three ow sw sg su, L3⟩
  · by_cases h11 : y = 11
    · subst h11
      simp only [OX_some, OX_map, OX_fzf, OX_eV, OX_eK, OX_e1, OX_e2, OX_e3, OX_tb, OX_tru, OX_ite, OX_tand, OX_tor, OX_tnot, OX_eand, OX_eor, OX_enot, OX_eif, OX_a0, OX_aC, OX_etup, OX_elst, OX_eC, OX_eF, OX_eM, OX_sNil, OX_sBk, OX_sCt, OX_sRetN, OX_sq, OX_sIf, OX_sRet, OX_sX, OX_sV, OX_sO, OX_sP, OX_sU, OX_tgn, OX_tgt, OX_sSt, OX_eMM, OX_append, OX_eIs, OX_sFor, OX_sWh, OX_eLc, OX_iR1, OX_iR2, OX_iL, OX_iT, OX_oN, OX_oS, OX_eSl, OX_pE0, OX_pE, OX_eDk, OX_eGet2, OX_eDn, OX_eD0, OX_iI, OX_iB, OX_neg, OX_dEq, OX_dNe, OX_dIs, OX_dIsNot, OX_dIn, OX_dNotIn, OX_inL, OX_inT, OX_catT, OX_catL, OX_ixT, OX_ixL, OX_ixS, OX_slT, OX_slL, OX_lenL, OX_lenT, OX_lenS, OX_max2, OX_min2, OX_intI, OX_intB, OX_tupL, OX_tupT, OX_listL, OX_listT, OX_all, OX_any, OX_strT, OX_truB, OX_truI, OX_truL, OX_truT, OX_truN, OX_rtR_s, OX_rtM_s, frz_v, frz_n, frz_s, toD_lst, toD_dic, toD_dk, dr_v, dr_n, dr_s, ownD_own, vals_nil, vals_v, drs_nil, drs_c, svR_v, svR_own, svR_al, boolR_b, argM_s, ownM_own, slotR_s, ownL_own, valR_v, newR_n, two_2, intD_i, int1_i, int2_i, listD_l, tupD_t, eqD_ii, eqD_ss, eqD_bb, rtR_v, rtR_n, rtM_v, rtM_n, atI_0, atI_1, atI_2, atI_3, atI_4, ixN_0, ixN_1, ixN_2, setAllE, sizeLine_eq, Option.bind_some, Option.map_some, List.getElem?_cons_zero, List.getElem?_cons_succ, List.getElem?_nil, List.set_cons_zero, List.set_cons_succ, List.map_cons, List.map_nil, List.cons_append, List.nil_append, List.append_nil, List.length_cons, List.length_nil, List.replicate_succ, List.replicate_zero, Bool.not_true, Bool.not_false, Bool.false_eq_true, decide_true, decide_false, Nat.reduceAdd, Nat.reduceSub, Nat.reduceEqDiff, Nat.reduceLT, Nat.reduceLeDiff, ↓reduceIte, Int.reduceLT, Int.reduceLE, Int.reduceAdd, Int.reduceSub, Int.reduceMul, Int.reduceNeg, Int.reduceToNat, Int.reduceMod, Int.reduceEq, Int.reducePow, Nat.reducePow, decide_eq_true_eq, decide_eq_false_iff_not, eq_self, ne_eq, not_true_eq_false, not_false_eq_true, and_true, true_and, and_false, false_and, and_self, or_true, true_or, or_false, false_or, h6]
      exact ⟨_, rfl, .one (by decide +kernel) (by decide +kernel), L2⟩
    · simp only [OX_some, OX_map, OX_fzf, OX_eV, OX_eK, OX_e1, OX_e2, OX_e3, OX_tb, OX_tru, OX_ite, OX_tand, OX_tor, OX_tnot, OX_eand, OX_eor, OX_enot, OX_eif, OX_a0, OX_aC, OX_etup, OX_elst, OX_eC, OX_eF, OX_eM, OX_sNil, OX_sBk, OX_sCt, OX_sRetN, OX_sq, OX_sIf, OX_sRet, OX_sX, OX_sV, OX_sO, OX_sP, OX_sU, OX_tgn, OX_tgt, OX_sSt, OX_eMM, OX_append, OX_eIs, OX_sFor, OX_sWh, OX_eLc, OX_iR1, OX_iR2, OX_iL, OX_iT, OX_oN, OX_oS, OX_eSl, OX_pE0, OX_pE, OX_eDk, OX_eGet2, OX_eDn, OX_eD0, OX_iI, OX_iB, OX_neg, OX_dEq, OX_dNe, OX_dIs, OX_dIsNot, OX_dIn, OX_dNotIn, OX_inL, OX_inT, OX_catT, OX_catL, OX_ixT, OX_ixL, OX_ixS, OX_slT, OX_slL, OX_lenL, OX_lenT, OX_lenS, OX_max2, OX_min2, OX_intI, OX_intB, OX_tupL, OX_tupT, OX_listL, OX_listT, OX_all, OX_any, OX_strT, OX_truB, OX_truI, OX_truL, OX_truT, OX_truN, OX_rtR_s, OX_rtM_s, frz_v, frz_n, frz_s, toD_lst, toD_dic, toD_dk, dr_v, dr_n, dr_s, ownD_own, vals_nil, vals_v, drs_nil, drs_c, svR_v, svR_own, svR_al, boolR_b, argM_s, ownM_own, slotR_s, ownL_own, valR_v, newR_n, two_2, intD_i, int1_i, int2_i, listD_l, tupD_t, eqD_ii, eqD_ss, eqD_bb, rtR_v, rtR_n, rtM_v, rtM_n, atI_0, atI_1, atI_2, atI_3, atI_4, ixN_0, ixN_1, ixN_2, setAllE, sizeLine_eq, Option.bind_some, Option.map_some, List.getElem?_cons_zero, List.getElem?_cons_succ, List.getElem?_nil, List.set_cons_zero, List.set_cons_succ, List.map_cons, List.map_nil, List.cons_append, List.nil_append, List.append_nil, List.length_cons, List.length_nil, List.replicate_succ, List.replicate_zero, Bool.not_true, Bool.not_false, Bool.false_eq_true, decide_true, decide_false, Nat.reduceAdd, Nat.reduceSub, Nat.reduceEqDiff, Nat.reduceLT, Nat.reduceLeDiff, ↓reduceIte, Int.reduceLT, Int.reduceLE, Int.reduceAdd, Int.reduceSub, Int.reduceMul, Int.reduceNeg, Int.reduceToNat, Int.reduceMod, Int.reduceEq, Int.reducePow, Nat.reducePow, decide_eq_true_eq, decide_eq_false_iff_not, eq_self, ne_eq, not_true_eq_false, not_false_eq_true, and_true, true_and, and_false, false_and, and_self, or_true, true_or, or_false, false_or, h6, h11]
      refine (atI_memX (by omega) (by simp only [List.length_cons, List.length_nil]; omega)).imp fun x hx => ?_
      simp only [OX_some, OX_map, OX_fzf, OX_eV, OX_eK, OX_e1, OX_e2, OX_e3, OX_tb, OX_tru, OX_ite, OX_tand, OX_tor, OX_tnot, OX_eand, OX_eor, OX_enot, OX_eif, OX_a0, OX_aC, OX_etup, OX_elst, OX_eC, OX_eF, OX_eM, OX_sNil, OX_sBk, OX_sCt, OX_sRetN, OX_sq, OX_sIf, OX_sRet, OX_sX, OX_sV, OX_sO, OX_sP, OX_sU, OX_tgn, OX_tgt, OX_sSt, OX_eMM, OX_append, OX_eIs, OX_sFor, OX_sWh, OX_eLc, OX_iR1, OX_iR2, OX_iL, OX_iT, OX_oN, OX_oS, OX_eSl, OX_pE0, OX_pE, OX_eDk, OX_eGet2, OX_eDn, OX_eD0, OX_iI, OX_iB, OX_neg, OX_dEq, OX_dNe, OX_dIs, OX_dIsNot, OX_dIn, OX_dNotIn, OX_inL, OX_inT, OX_catT, OX_catL, OX_ixT, OX_ixL, OX_ixS, OX_slT, OX_slL, OX_lenL, OX_lenT, OX_lenS, OX_max2, OX_min2, OX_intI, OX_intB, OX_tupL, OX_tupT, OX_listL, OX_listT, OX_all, OX_any, OX_strT, OX_truB, OX_truI, OX_truL, OX_truT, OX_truN, OX_rtR_s, OX_rtM_s, frz_v, frz_n, frz_s, toD_lst, toD_dic, toD_dk, dr_v, dr_n, dr_s, ownD_own, vals_nil, vals_v, drs_nil, drs_c, svR_v, svR_own, svR_al, boolR_b, argM_s, ownM_own, slotR_s, ownL_own, valR_v, newR_n, two_2, intD_i, int1_i, int2_i, listD_l, tupD_t, eqD_ii, eqD_ss, eqD_bb, rtR_v, rtR_n, rtM_v, rtM_n, atI_0, atI_1, atI_2, atI_3, atI_4, ixN_0, ixN_1, ixN_2, setAllE, sizeLine_eq, Option.bind_some, Option.map_some, List.getElem?_cons_zero, List.getElem?_cons_succ, List.getElem?_nil, List.set_cons_zero, List.set_cons_succ, List.map_cons, List.map_nil, List.cons_append, List.nil_append, List.append_nil, List.length_cons, List.length_nil, List.replicate_succ, List.replicate_zero, Bool.not_true, Bool.not_false, Bool.false_eq_true, decide_true, decide_false, Nat.reduceAdd, Nat.reduceSub, Nat.reduceEqDiff, Nat.reduceLT, Nat.reduceLeDiff, ↓reduceIte, Int.reduceLT, Int.reduceLE, Int.reduceAdd, Int.reduceSub, Int.reduceMul, Int.reduceNeg, Int.reduceToNat, Int.reduceMod, Int.reduceEq, Int.reducePow, Nat.reducePow, decide_eq_true_eq, decide_eq_false_iff_not, eq_self, ne_eq, not_true_eq_false, not_false_eq_true, and_true, true_and, and_false, false_and, and_self, or_true, true_or, or_false, false_or]
      have sx : ∃ w, x = .str w ∧ PyData.strOk w = true ∧ smallD (.str w) = true := by
        simp only [List.mem_cons, List.not_mem_nil, or_false] at hx
        rcases hx with rfl | rfl | rfl | rfl | rfl <;> exact ⟨_, rfl, by decide +kernel, by decide +kernel⟩
      obtain ⟨w, rfl, ow, sw⟩ := sx
      exact ⟨_, rfl, .two ow sw sg, L2⟩
end Z

set_option Elab.async false
set_option linter.all false
set_option maxRecDepth 100000
set_option maxHeartbeats 1000000
namespace Z
open PySem L2
theorem cut_1 {a : D} : cutD [a] none (some (-1)) = [] ∧ cutD [a] none (some 1) = [a] ∧ cutD [a] (some 1) none = [] ∧ cutD [a] (some 2) none = [] ∧ cutD [a] none (some 2) = [a] := ⟨rfl, rfl, rfl, rfl, rfl⟩
theorem cut_2 {a b : D} : cutD [a, b] none (some (-1)) = [a] ∧ cutD [a, b] none (some 1) = [a] ∧ cutD [a, b] (some 1) none = [b] ∧ cutD [a, b] (some 2) none = [] ∧ cutD [a, b] none (some 2) = [a, b] := ⟨rfl, rfl, rfl, rfl, rfl⟩
theorem cut_3 {a b c : D} : cutD [a, b, c] none (some (-1)) = [a, b] ∧ cutD [a, b, c] none (some 1) = [a] ∧ cutD [a, b, c] (some 1) none = [b, c] ∧ cutD [a, b, c] (some 2) none = [c] ∧ cutD [a, b, c] none (some 2) = [a, b] := ⟨rfl, rfl, rfl, rfl, rfl⟩
def PO (x : D) : Prop := isT "str" x = true → ∃ w, x = .str w ∧ PyData.strOk w = true
def Nice (t : D) : Prop := ∀ d ds, t = .tuple (d :: ds) → PO d
theorem PO.str {w : Str} (h : PyData.strOk w = true) : PO (.str w) := fun _ => ⟨w, rfl, h⟩
theorem PO.int {i : Int} : PO (.int i) := fun h => absurd (show isT "str" (.int i) = true from h) (by rw [show isT "str" (PyData.int i) = false from by rfl]; exact Bool.false_ne_true)
theorem PO.no {d : D} (h : isT "str" d = false) : PO d := fun k => by rw [h] at k; cases k
theorem Nice.t {d : D} {ds : List D} (h : PO d) : Nice (.tuple (d :: ds)) := fun _ _ e => by cases e; exact h
theorem Nice.n {t : D} (h : ∀ d ds, t ≠ .tuple (d :: ds)) : Nice t := fun d ds e => absurd e (h d ds)
theorem pw30 : e2 dPow (eK (.int 10)) (eK (.int 30)) = eK (.int 1000000000000000000000000000000) := by
  funext ρ
  kernel_rfl
theorem small_key {x : D} (h : smallD x = true) : x = .none ∨ (∃ i, x = .int i) ∨ ∃ w, x = .str w := by
  cases x <;> first | exact .inl rfl | exact .inr (.inl ⟨_, rfl⟩) | exact .inr (.inr ⟨_, rfl⟩) | cases h
theorem bent_in {m : MO} {n : Int} {dd : List D} {nk : NestedKey} {c1 c2 c3 c4 c5 : List D} {a : Str} {tl : List D} (L : Left m) (ho : PyData.strOk a = true) (hd : dd = .str a :: tl) (hs : dd.all smallD = true) (hk : keyOf (.tuple dd) = some nk) (hl : dd.length ≤ 3)
    (hc : cutD dd none (some (-1)) = c1 ∧ cutD dd none (some 1) = c2 ∧ cutD dd (some 1) none = c3 ∧ cutD dd (some 2) none = c4 ∧ cutD dd none (some 2) = c5)
    (l1 : c1.length ≤ 3) (l2 : c2.length ≤ 3) (l3 : c3.length ≤ 3) (l4 : c4.length ≤ 3) (l5 : c5.length ≤ 3) (n1 : Nice (.tuple c1)) (n2 : c2 = [.str a]) (n3 : Nice (.tuple c3)) (n5 : ∃ t, c5 = .str a :: t) :
    OX (D_L_bent m [.int n, .tuple dd]) fun p => ∃ t, p.1 = .v t ∧ Nice t ∧ Left p.2 := by
  refine OX.defM rfl ?_
  have hl100 : dd.length ≤ 100 := by omega
  have q1 : dd.length + 1 ≤ 16777216 := by omega
  have q3 : 1 + c3.length ≤ 16777216 := by omega
  have q2 : c2.length + 1 ≤ 16777216 := by omega
  have q4 : c2.length + 1 + c4.length ≤ 16777216 := by omega
  have q5 : c5.length + 1 ≤ 16777216 := by omega
  simp only [F_L_bent, pw30, OX_some, OX_map, OX_fzf, OX_eV, OX_eK, OX_e1, OX_e2, OX_e3, OX_tb, OX_tru, OX_ite, OX_tand, OX_tor, OX_tnot, OX_eand, OX_eor, OX_enot, OX_eif, OX_a0, OX_aC, OX_etup, OX_elst, OX_eC, OX_eF, OX_eM, OX_sNil, OX_sBk, OX_sCt, OX_sRetN, OX_sq, OX_sIf, OX_sRet, OX_sX, OX_sV, OX_sO, OX_sP, OX_sU, OX_tgn, OX_tgt, OX_sSt, OX_eMM, OX_append, OX_eIs, OX_sFor, OX_sWh, OX_eLc, OX_iR1, OX_iR2, OX_iL, OX_iT, OX_oN, OX_oS, OX_eSl, OX_pE0, OX_pE, OX_eDk, OX_eGet2, OX_eDn, OX_eD0, OX_iI, OX_iB, OX_neg, OX_dEq, OX_dNe, OX_dIs, OX_dIsNot, OX_dIn, OX_dNotIn, OX_inL, OX_inT, OX_catT, OX_catL, OX_ixT, OX_ixL, OX_ixS, OX_slT, OX_slL, OX_lenL, OX_lenT, OX_lenS, OX_max2, OX_min2, OX_intI, OX_intB, OX_tupL, OX_tupT, OX_listL, OX_listT, OX_all, OX_any, OX_strT, OX_truB, OX_truI, OX_truL, OX_truT, OX_truN, OX_rtR_s, OX_rtM_s, frz_v, frz_n, frz_s, toD_lst, toD_dic, toD_dk, dr_v, dr_n, dr_s, ownD_own, vals_nil, vals_v, drs_nil, drs_c, svR_v, svR_own, svR_al, boolR_b, argM_s, ownM_own, slotR_s, ownL_own, valR_v, newR_n, two_2, intD_i, int1_i, int2_i, listD_l, tupD_t, eqD_ii, eqD_ss, eqD_bb, rtR_v, rtR_n, rtM_v, rtM_n, atI_0, atI_1, atI_2, atI_3, atI_4, ixN_0, ixN_1, ixN_2, setAllE, sizeLine_eq, Option.bind_some, Option.map_some, List.getElem?_cons_zero, List.getElem?_cons_succ, List.getElem?_nil, List.set_cons_zero, List.set_cons_succ, List.map_cons, List.map_nil, List.cons_append, List.nil_append, List.append_nil, List.length_cons, List.length_nil, List.replicate_succ, List.replicate_zero, Bool.not_true, Bool.not_false, Bool.false_eq_true, decide_true, decide_false, Nat.reduceAdd, Nat.reduceSub, Nat.reduceEqDiff, Nat.reduceLT, Nat.reduceLeDiff, ↓reduceIte, Int.reduceLT, Int.reduceLE, Int.reduceAdd, Int.reduceSub, Int.reduceMul, Int.reduceNeg, Int.reduceToNat, Int.reduceMod, Int.reduceEq, Int.reducePow, Nat.reducePow, decide_eq_true_eq, decide_eq_false_iff_not, eq_self, ne_eq, not_true_eq_false, not_false_eq_true, and_true, true_and, and_false, false_and, and_self, or_true, true_or, or_false, false_or]
  refine (pick_ok L (by decide) (by decide)).imp ?_
  rintro ⟨_, m1⟩ ⟨g, rfl, hg0, hg1, L1⟩
  simp only [OX_some, OX_map, OX_fzf, OX_eV, OX_eK, OX_e1, OX_e2, OX_e3, OX_tb, OX_tru, OX_ite, OX_tand, OX_tor, OX_tnot, OX_eand, OX_eor, OX_enot, OX_eif, OX_a0, OX_aC, OX_etup, OX_elst, OX_eC, OX_eF, OX_eM, OX_sNil, OX_sBk, OX_sCt, OX_sRetN, OX_sq, OX_sIf, OX_sRet, OX_sX, OX_sV, OX_sO, OX_sP, OX_sU, OX_tgn, OX_tgt, OX_sSt, OX_eMM, OX_append, OX_eIs, OX_sFor, OX_sWh, OX_eLc, OX_iR1, OX_iR2, OX_iL, OX_iT, OX_oN, OX_oS, OX_eSl, OX_pE0, OX_pE, OX_eDk, OX_eGet2, OX_eDn, OX_eD0, OX_iI, OX_iB, OX_neg, OX_dEq, OX_dNe, OX_dIs, OX_dIsNot, OX_dIn, OX_dNotIn, OX_inL, OX_inT, OX_catT, OX_catL, OX_ixT, OX_ixL, OX_ixS, OX_slT, OX_slL, OX_lenL, OX_lenT, OX_lenS, OX_max2, OX_min2, OX_intI, OX_intB, OX_tupL, OX_tupT, OX_listL, OX_listT, OX_all, OX_any, OX_strT, OX_truB, OX_truI, OX_truL, OX_truT, OX_truN, OX_rtR_s, OX_rtM_s, frz_v, frz_n, frz_s, toD_lst, toD_dic, toD_dk, dr_v, dr_n, dr_s, ownD_own, vals_nil, vals_v, drs_nil, drs_c, svR_v, svR_own, svR_al, boolR_b, argM_s, ownM_own, slotR_s, ownL_own, valR_v, newR_n, two_2, intD_i, int1_i, int2_i, listD_l, tupD_t, eqD_ii, eqD_ss, eqD_bb, rtR_v, rtR_n, rtM_v, rtM_n, atI_0, atI_1, atI_2, atI_3, atI_4, ixN_0, ixN_1, ixN_2, setAllE, sizeLine_eq, Option.bind_some, Option.map_some, List.getElem?_cons_zero, List.getElem?_cons_succ, List.getElem?_nil, List.set_cons_zero, List.set_cons_succ, List.map_cons, List.map_nil, List.cons_append, List.nil_append, List.append_nil, List.length_cons, List.length_nil, List.replicate_succ, List.replicate_zero, Bool.not_true, Bool.not_false, Bool.false_eq_true, decide_true, decide_false, Nat.reduceAdd, Nat.reduceSub, Nat.reduceEqDiff, Nat.reduceLT, Nat.reduceLeDiff, ↓reduceIte, Int.reduceLT, Int.reduceLE, Int.reduceAdd, Int.reduceSub, Int.reduceMul, Int.reduceNeg, Int.reduceToNat, Int.reduceMod, Int.reduceEq, Int.reducePow, Nat.reducePow, decide_eq_true_eq, decide_eq_false_iff_not, eq_self, ne_eq, not_true_eq_false, not_false_eq_true, and_true, true_and, and_false, false_and, and_self, or_true, true_or, or_false, false_or]
  refine (atI_memX hg0 (by exact hg1)).imp fun wd hwd => ?_
  simp only [OX_some, OX_map, OX_fzf, OX_eV, OX_eK, OX_e1, OX_e2, OX_e3, OX_tb, OX_tru, OX_ite, OX_tand, OX_tor, OX_tnot, OX_eand, OX_eor, OX_enot, OX_eif, OX_a0, OX_aC, OX_etup, OX_elst, OX_eC, OX_eF, OX_eM, OX_sNil, OX_sBk, OX_sCt, OX_sRetN, OX_sq, OX_sIf, OX_sRet, OX_sX, OX_sV, OX_sO, OX_sP, OX_sU, OX_tgn, OX_tgt, OX_sSt, OX_eMM, OX_append, OX_eIs, OX_sFor, OX_sWh, OX_eLc, OX_iR1, OX_iR2, OX_iL, OX_iT, OX_oN, OX_oS, OX_eSl, OX_pE0, OX_pE, OX_eDk, OX_eGet2, OX_eDn, OX_eD0, OX_iI, OX_iB, OX_neg, OX_dEq, OX_dNe, OX_dIs, OX_dIsNot, OX_dIn, OX_dNotIn, OX_inL, OX_inT, OX_catT, OX_catL, OX_ixT, OX_ixL, OX_ixS, OX_slT, OX_slL, OX_lenL, OX_lenT, OX_lenS, OX_max2, OX_min2, OX_intI, OX_intB, OX_tupL, OX_tupT, OX_listL, OX_listT, OX_all, OX_any, OX_strT, OX_truB, OX_truI, OX_truL, OX_truT, OX_truN, OX_rtR_s, OX_rtM_s, frz_v, frz_n, frz_s, toD_lst, toD_dic, toD_dk, dr_v, dr_n, dr_s, ownD_own, vals_nil, vals_v, drs_nil, drs_c, svR_v, svR_own, svR_al, boolR_b, argM_s, ownM_own, slotR_s, ownL_own, valR_v, newR_n, two_2, intD_i, int1_i, int2_i, listD_l, tupD_t, eqD_ii, eqD_ss, eqD_bb, rtR_v, rtR_n, rtM_v, rtM_n, atI_0, atI_1, atI_2, atI_3, atI_4, ixN_0, ixN_1, ixN_2, setAllE, sizeLine_eq, Option.bind_some, Option.map_some, List.getElem?_cons_zero, List.getElem?_cons_succ, List.getElem?_nil, List.set_cons_zero, List.set_cons_succ, List.map_cons, List.map_nil, List.cons_append, List.nil_append, List.append_nil, List.length_cons, List.length_nil, List.replicate_succ, List.replicate_zero, Bool.not_true, Bool.not_false, Bool.false_eq_true, decide_true, decide_false, Nat.reduceAdd, Nat.reduceSub, Nat.reduceEqDiff, Nat.reduceLT, Nat.reduceLeDiff, ↓reduceIte, Int.reduceLT, Int.reduceLE, Int.reduceAdd, Int.reduceSub, Int.reduceMul, Int.reduceNeg, Int.reduceToNat, Int.reduceMod, Int.reduceEq, Int.reducePow, Nat.reducePow, decide_eq_true_eq, decide_eq_false_iff_not, eq_self, ne_eq, not_true_eq_false, not_false_eq_true, and_true, true_and, and_false, false_and, and_self, or_true, true_or, or_false, false_or]
  refine (pick_ok L1 (by decide) (by decide)).imp ?_
  rintro ⟨_, m2⟩ ⟨y, rfl, hy0, hy1, L2⟩
  simp only [OX_some, OX_map, OX_fzf, OX_eV, OX_eK, OX_e1, OX_e2, OX_e3, OX_tb, OX_tru, OX_ite, OX_tand, OX_tor, OX_tnot, OX_eand, OX_eor, OX_enot, OX_eif, OX_a0, OX_aC, OX_etup, OX_elst, OX_eC, OX_eF, OX_eM, OX_sNil, OX_sBk, OX_sCt, OX_sRetN, OX_sq, OX_sIf, OX_sRet, OX_sX, OX_sV, OX_sO, OX_sP, OX_sU, OX_tgn, OX_tgt, OX_sSt, OX_eMM, OX_append, OX_eIs, OX_sFor, OX_sWh, OX_eLc, OX_iR1, OX_iR2, OX_iL, OX_iT, OX_oN, OX_oS, OX_eSl, OX_pE0, OX_pE, OX_eDk, OX_eGet2, OX_eDn, OX_eD0, OX_iI, OX_iB, OX_neg, OX_dEq, OX_dNe, OX_dIs, OX_dIsNot, OX_dIn, OX_dNotIn, OX_inL, OX_inT, OX_catT, OX_catL, OX_ixT, OX_ixL, OX_ixS, OX_slT, OX_slL, OX_lenL, OX_lenT, OX_lenS, OX_max2, OX_min2, OX_intI, OX_intB, OX_tupL, OX_tupT, OX_listL, OX_listT, OX_all, OX_any, OX_strT, OX_truB, OX_truI, OX_truL, OX_truT, OX_truN, OX_rtR_s, OX_rtM_s, frz_v, frz_n, frz_s, toD_lst, toD_dic, toD_dk, dr_v, dr_n, dr_s, ownD_own, vals_nil, vals_v, drs_nil, drs_c, svR_v, svR_own, svR_al, boolR_b, argM_s, ownM_own, slotR_s, ownL_own, valR_v, newR_n, two_2, intD_i, int1_i, int2_i, listD_l, tupD_t, eqD_ii, eqD_ss, eqD_bb, rtR_v, rtR_n, rtM_v, rtM_n, atI_0, atI_1, atI_2, atI_3, atI_4, ixN_0, ixN_1, ixN_2, setAllE, sizeLine_eq, Option.bind_some, Option.map_some, List.getElem?_cons_zero, List.getElem?_cons_succ, List.getElem?_nil, List.set_cons_zero, List.set_cons_succ, List.map_cons, List.map_nil, List.cons_append, List.nil_append, List.append_nil, List.length_cons, List.length_nil, List.replicate_succ, List.replicate_zero, Bool.not_true, Bool.not_false, Bool.false_eq_true, decide_true, decide_false, Nat.reduceAdd, Nat.reduceSub, Nat.reduceEqDiff, Nat.reduceLT, Nat.reduceLeDiff, ↓reduceIte, Int.reduceLT, Int.reduceLE, Int.reduceAdd, Int.reduceSub, Int.reduceMul, Int.reduceNeg, Int.reduceToNat, Int.reduceMod, Int.reduceEq, Int.reducePow, Nat.reducePow, decide_eq_true_eq, decide_eq_false_iff_not, eq_self, ne_eq, not_true_eq_false, not_false_eq_true, and_true, true_and, and_false, false_and, and_self, or_true, true_or, or_false, false_or]
  refine (atI_memX hy0 (by exact hy1)).imp fun od hod => ?_
  simp only [OX_some, OX_map, OX_fzf, OX_eV, OX_eK, OX_e1, OX_e2, OX_e3, OX_tb, OX_tru, OX_ite, OX_tand, OX_tor, OX_tnot, OX_eand, OX_eor, OX_enot, OX_eif, OX_a0, OX_aC, OX_etup, OX_elst, OX_eC, OX_eF, OX_eM, OX_sNil, OX_sBk, OX_sCt, OX_sRetN, OX_sq, OX_sIf, OX_sRet, OX_sX, OX_sV, OX_sO, OX_sP, OX_sU, OX_tgn, OX_tgt, OX_sSt, OX_eMM, OX_append, OX_eIs, OX_sFor, OX_sWh, OX_eLc, OX_iR1, OX_iR2, OX_iL, OX_iT, OX_oN, OX_oS, OX_eSl, OX_pE0, OX_pE, OX_eDk, OX_eGet2, OX_eDn, OX_eD0, OX_iI, OX_iB, OX_neg, OX_dEq, OX_dNe, OX_dIs, OX_dIsNot, OX_dIn, OX_dNotIn, OX_inL, OX_inT, OX_catT, OX_catL, OX_ixT, OX_ixL, OX_ixS, OX_slT, OX_slL, OX_lenL, OX_lenT, OX_lenS, OX_max2, OX_min2, OX_intI, OX_intB, OX_tupL, OX_tupT, OX_listL, OX_listT, OX_all, OX_any, OX_strT, OX_truB, OX_truI, OX_truL, OX_truT, OX_truN, OX_rtR_s, OX_rtM_s, frz_v, frz_n, frz_s, toD_lst, toD_dic, toD_dk, dr_v, dr_n, dr_s, ownD_own, vals_nil, vals_v, drs_nil, drs_c, svR_v, svR_own, svR_al, boolR_b, argM_s, ownM_own, slotR_s, ownL_own, valR_v, newR_n, two_2, intD_i, int1_i, int2_i, listD_l, tupD_t, eqD_ii, eqD_ss, eqD_bb, rtR_v, rtR_n, rtM_v, rtM_n, atI_0, atI_1, atI_2, atI_3, atI_4, ixN_0, ixN_1, ixN_2, setAllE, sizeLine_eq, Option.bind_some, Option.map_some, List.getElem?_cons_zero, List.getElem?_cons_succ, List.getElem?_nil, List.set_cons_zero, List.set_cons_succ, List.map_cons, List.map_nil, List.cons_append, List.nil_append, List.append_nil, List.length_cons, List.length_nil, List.replicate_succ, List.replicate_zero, Bool.not_true, Bool.not_false, Bool.false_eq_true, decide_true, decide_false, Nat.reduceAdd, Nat.reduceSub, Nat.reduceEqDiff, Nat.reduceLT, Nat.reduceLeDiff, ↓reduceIte, Int.reduceLT, Int.reduceLE, Int.reduceAdd, Int.reduceSub, Int.reduceMul, Int.reduceNeg, Int.reduceToNat, Int.reduceMod, Int.reduceEq, Int.reducePow, Nat.reducePow, decide_eq_true_eq, decide_eq_false_iff_not, eq_self, ne_eq, not_true_eq_false, not_false_eq_true, and_true, true_and, and_false, false_and, and_self, or_true, true_or, or_false, false_or, hc, q1, q2, q3, q4, q5, List.length_append, List.append_assoc]
  refine (pick_ok L2 (by decide) (by decide)).imp ?_
  rintro ⟨_, m3⟩ ⟨z, rfl, hz0, hz1, L3⟩
  simp only [OX_some, OX_map, OX_fzf, OX_eV, OX_eK, OX_e1, OX_e2, OX_e3, OX_tb, OX_tru, OX_ite, OX_tand, OX_tor, OX_tnot, OX_eand, OX_eor, OX_enot, OX_eif, OX_a0, OX_aC, OX_etup, OX_elst, OX_eC, OX_eF, OX_eM, OX_sNil, OX_sBk, OX_sCt, OX_sRetN, OX_sq, OX_sIf, OX_sRet, OX_sX, OX_sV, OX_sO, OX_sP, OX_sU, OX_tgn, OX_tgt, OX_sSt, OX_eMM, OX_append, OX_eIs, OX_sFor, OX_sWh, OX_eLc, OX_iR1, OX_iR2, OX_iL, OX_iT, OX_oN, OX_oS, OX_eSl, OX_pE0, OX_pE, OX_eDk, OX_eGet2, OX_eDn, OX_eD0, OX_iI, OX_iB, OX_neg, OX_dEq, OX_dNe, OX_dIs, OX_dIsNot, OX_dIn, OX_dNotIn, OX_inL, OX_inT, OX_catT, OX_catL, OX_ixT, OX_ixL, OX_ixS, OX_slT, OX_slL, OX_lenL, OX_lenT, OX_lenS, OX_max2, OX_min2, OX_intI, OX_intB, OX_tupL, OX_tupT, OX_listL, OX_listT, OX_all, OX_any, OX_strT, OX_truB, OX_truI, OX_truL, OX_truT, OX_truN, OX_rtR_s, OX_rtM_s, frz_v, frz_n, frz_s, toD_lst, toD_dic, toD_dk, dr_v, dr_n, dr_s, ownD_own, vals_nil, vals_v, drs_nil, drs_c, svR_v, svR_own, svR_al, boolR_b, argM_s, ownM_own, slotR_s, ownL_own, valR_v, newR_n, two_2, intD_i, int1_i, int2_i, listD_l, tupD_t, eqD_ii, eqD_ss, eqD_bb, rtR_v, rtR_n, rtM_v, rtM_n, atI_0, atI_1, atI_2, atI_3, atI_4, ixN_0, ixN_1, ixN_2, setAllE, sizeLine_eq, Option.bind_some, Option.map_some, List.getElem?_cons_zero, List.getElem?_cons_succ, List.getElem?_nil, List.set_cons_zero, List.set_cons_succ, List.map_cons, List.map_nil, List.cons_append, List.nil_append, List.append_nil, List.length_cons, List.length_nil, List.replicate_succ, List.replicate_zero, Bool.not_true, Bool.not_false, Bool.false_eq_true, decide_true, decide_false, Nat.reduceAdd, Nat.reduceSub, Nat.reduceEqDiff, Nat.reduceLT, Nat.reduceLeDiff, ↓reduceIte, Int.reduceLT, Int.reduceLE, Int.reduceAdd, Int.reduceSub, Int.reduceMul, Int.reduceNeg, Int.reduceToNat, Int.reduceMod, Int.reduceEq, Int.reducePow, Nat.reducePow, decide_eq_true_eq, decide_eq_false_iff_not, eq_self, ne_eq, not_true_eq_false, not_false_eq_true, and_true, true_and, and_false, false_and, and_self, or_true, true_or, or_false, false_or]
  refine (atI_memX hz0 (by exact hz1)).imp fun u hu => ?_
  simp only [OX_some, OX_map, OX_fzf, OX_eV, OX_eK, OX_e1, OX_e2, OX_e3, OX_tb, OX_tru, OX_ite, OX_tand, OX_tor, OX_tnot, OX_eand, OX_eor, OX_enot, OX_eif, OX_a0, OX_aC, OX_etup, OX_elst, OX_eC, OX_eF, OX_eM, OX_sNil, OX_sBk, OX_sCt, OX_sRetN, OX_sq, OX_sIf, OX_sRet, OX_sX, OX_sV, OX_sO, OX_sP, OX_sU, OX_tgn, OX_tgt, OX_sSt, OX_eMM, OX_append, OX_eIs, OX_sFor, OX_sWh, OX_eLc, OX_iR1, OX_iR2, OX_iL, OX_iT, OX_oN, OX_oS, OX_eSl, OX_pE0, OX_pE, OX_eDk, OX_eGet2, OX_eDn, OX_eD0, OX_iI, OX_iB, OX_neg, OX_dEq, OX_dNe, OX_dIs, OX_dIsNot, OX_dIn, OX_dNotIn, OX_inL, OX_inT, OX_catT, OX_catL, OX_ixT, OX_ixL, OX_ixS, OX_slT, OX_slL, OX_lenL, OX_lenT, OX_lenS, OX_max2, OX_min2, OX_intI, OX_intB, OX_tupL, OX_tupT, OX_listL, OX_listT, OX_all, OX_any, OX_strT, OX_truB, OX_truI, OX_truL, OX_truT, OX_truN, OX_rtR_s, OX_rtM_s, frz_v, frz_n, frz_s, toD_lst, toD_dic, toD_dk, dr_v, dr_n, dr_s, ownD_own, vals_nil, vals_v, drs_nil, drs_c, svR_v, svR_own, svR_al, boolR_b, argM_s, ownM_own, slotR_s, ownL_own, valR_v, newR_n, two_2, intD_i, int1_i, int2_i, listD_l, tupD_t, eqD_ii, eqD_ss, eqD_bb, rtR_v, rtR_n, rtM_v, rtM_n, atI_0, atI_1, atI_2, atI_3, atI_4, ixN_0, ixN_1, ixN_2, setAllE, sizeLine_eq, Option.bind_some, Option.map_some, List.getElem?_cons_zero, List.getElem?_cons_succ, List.getElem?_nil, List.set_cons_zero, List.set_cons_succ, List.map_cons, List.map_nil, List.cons_append, List.nil_append, List.append_nil, List.length_cons, List.length_nil, List.replicate_succ, List.replicate_zero, Bool.not_true, Bool.not_false, Bool.false_eq_true, decide_true, decide_false, Nat.reduceAdd, Nat.reduceSub, Nat.reduceEqDiff, Nat.reduceLT, Nat.reduceLeDiff, ↓reduceIte, Int.reduceLT, Int.reduceLE, Int.reduceAdd, Int.reduceSub, Int.reduceMul, Int.reduceNeg, Int.reduceToNat, Int.reduceMod, Int.reduceEq, Int.reducePow, Nat.reducePow, decide_eq_true_eq, decide_eq_false_iff_not, eq_self, ne_eq, not_true_eq_false, not_false_eq_true, and_true, true_and, and_false, false_and, and_self, or_true, true_or, or_false, false_or, hc, q1, q2, q3, q4, q5, hk, hs, hl100, List.length_append, List.append_assoc]
  refine (pick_ok L3 (by decide) (by decide)).imp ?_
  rintro ⟨_, m4⟩ ⟨v, rfl, hv0, hv1, L4⟩
  simp only [OX_some, OX_map, OX_fzf, OX_eV, OX_eK, OX_e1, OX_e2, OX_e3, OX_tb, OX_tru, OX_ite, OX_tand, OX_tor, OX_tnot, OX_eand, OX_eor, OX_enot, OX_eif, OX_a0, OX_aC, OX_etup, OX_elst, OX_eC, OX_eF, OX_eM, OX_sNil, OX_sBk, OX_sCt, OX_sRetN, OX_sq, OX_sIf, OX_sRet, OX_sX, OX_sV, OX_sO, OX_sP, OX_sU, OX_tgn, OX_tgt, OX_sSt, OX_eMM, OX_append, OX_eIs, OX_sFor, OX_sWh, OX_eLc, OX_iR1, OX_iR2, OX_iL, OX_iT, OX_oN, OX_oS, OX_eSl, OX_pE0, OX_pE, OX_eDk, OX_eGet2, OX_eDn, OX_eD0, OX_iI, OX_iB, OX_neg, OX_dEq, OX_dNe, OX_dIs, OX_dIsNot, OX_dIn, OX_dNotIn, OX_inL, OX_inT, OX_catT, OX_catL, OX_ixT, OX_ixL, OX_ixS, OX_slT, OX_slL, OX_lenL, OX_lenT, OX_lenS, OX_max2, OX_min2, OX_intI, OX_intB, OX_tupL, OX_tupT, OX_listL, OX_listT, OX_all, OX_any, OX_strT, OX_truB, OX_truI, OX_truL, OX_truT, OX_truN, OX_rtR_s, OX_rtM_s, frz_v, frz_n, frz_s, toD_lst, toD_dic, toD_dk, dr_v, dr_n, dr_s, ownD_own, vals_nil, vals_v, drs_nil, drs_c, svR_v, svR_own, svR_al, boolR_b, argM_s, ownM_own, slotR_s, ownL_own, valR_v, newR_n, two_2, intD_i, int1_i, int2_i, listD_l, tupD_t, eqD_ii, eqD_ss, eqD_bb, rtR_v, rtR_n, rtM_v, rtM_n, atI_0, atI_1, atI_2, atI_3, atI_4, ixN_0, ixN_1, ixN_2, setAllE, sizeLine_eq, Option.bind_some, Option.map_some, List.getElem?_cons_zero, List.getElem?_cons_succ, List.getElem?_nil, List.set_cons_zero, List.set_cons_succ, List.map_cons, List.map_nil, List.cons_append, List.nil_append, List.append_nil, List.length_cons, List.length_nil, List.replicate_succ, List.replicate_zero, Bool.not_true, Bool.not_false, Bool.false_eq_true, decide_true, decide_false, Nat.reduceAdd, Nat.reduceSub, Nat.reduceEqDiff, Nat.reduceLT, Nat.reduceLeDiff, ↓reduceIte, Int.reduceLT, Int.reduceLE, Int.reduceAdd, Int.reduceSub, Int.reduceMul, Int.reduceNeg, Int.reduceToNat, Int.reduceMod, Int.reduceEq, Int.reducePow, Nat.reducePow, decide_eq_true_eq, decide_eq_false_iff_not, eq_self, ne_eq, not_true_eq_false, not_false_eq_true, and_true, true_and, and_false, false_and, and_self, or_true, true_or, or_false, false_or]
  refine (atI_memX hv0 (by exact hv1)).imp fun t ht => ?_
  simp only [OX_some, OX_map, OX_fzf, OX_eV, OX_eK, OX_e1, OX_e2, OX_e3, OX_tb, OX_tru, OX_ite, OX_tand, OX_tor, OX_tnot, OX_eand, OX_eor, OX_enot, OX_eif, OX_a0, OX_aC, OX_etup, OX_elst, OX_eC, OX_eF, OX_eM, OX_sNil, OX_sBk, OX_sCt, OX_sRetN, OX_sq, OX_sIf, OX_sRet, OX_sX, OX_sV, OX_sO, OX_sP, OX_sU, OX_tgn, OX_tgt, OX_sSt, OX_eMM, OX_append, OX_eIs, OX_sFor, OX_sWh, OX_eLc, OX_iR1, OX_iR2, OX_iL, OX_iT, OX_oN, OX_oS, OX_eSl, OX_pE0, OX_pE, OX_eDk, OX_eGet2, OX_eDn, OX_eD0, OX_iI, OX_iB, OX_neg, OX_dEq, OX_dNe, OX_dIs, OX_dIsNot, OX_dIn, OX_dNotIn, OX_inL, OX_inT, OX_catT, OX_catL, OX_ixT, OX_ixL, OX_ixS, OX_slT, OX_slL, OX_lenL, OX_lenT, OX_lenS, OX_max2, OX_min2, OX_intI, OX_intB, OX_tupL, OX_tupT, OX_listL, OX_listT, OX_all, OX_any, OX_strT, OX_truB, OX_truI, OX_truL, OX_truT, OX_truN, OX_rtR_s, OX_rtM_s, frz_v, frz_n, frz_s, toD_lst, toD_dic, toD_dk, dr_v, dr_n, dr_s, ownD_own, vals_nil, vals_v, drs_nil, drs_c, svR_v, svR_own, svR_al, boolR_b, argM_s, ownM_own, slotR_s, ownL_own, valR_v, newR_n, two_2, intD_i, int1_i, int2_i, listD_l, tupD_t, eqD_ii, eqD_ss, eqD_bb, rtR_v, rtR_n, rtM_v, rtM_n, atI_0, atI_1, atI_2, atI_3, atI_4, ixN_0, ixN_1, ixN_2, setAllE, sizeLine_eq, Option.bind_some, Option.map_some, List.getElem?_cons_zero, List.getElem?_cons_succ, List.getElem?_nil, List.set_cons_zero, List.set_cons_succ, List.map_cons, List.map_nil, List.cons_append, List.nil_append, List.append_nil, List.length_cons, List.length_nil, List.replicate_succ, List.replicate_zero, Bool.not_true, Bool.not_false, Bool.false_eq_true, decide_true, decide_false, Nat.reduceAdd, Nat.reduceSub, Nat.reduceEqDiff, Nat.reduceLT, Nat.reduceLeDiff, ↓reduceIte, Int.reduceLT, Int.reduceLE, Int.reduceAdd, Int.reduceSub, Int.reduceMul, Int.reduceNeg, Int.reduceToNat, Int.reduceMod, Int.reduceEq, Int.reducePow, Nat.reducePow, decide_eq_true_eq, decide_eq_false_iff_not, eq_self, ne_eq, not_true_eq_false, not_false_eq_true, and_true, true_and, and_false, false_and, and_self, or_true, true_or, or_false, false_or]
  refine ⟨t, rfl, ?_, L4⟩
  have pw : PO wd := by
    simp only [List.mem_cons, List.not_mem_nil, or_false] at hwd
    rcases hwd with rfl | rfl | rfl | rfl | rfl | rfl | rfl | rfl | rfl | rfl | rfl <;> exact PO.str (by decide +kernel)
  have po : PO od := by
    simp only [List.mem_cons, List.not_mem_nil, or_false] at hod
    rcases hod with rfl | rfl | rfl | rfl | rfl | rfl | rfl | rfl | rfl | rfl | rfl | rfl <;> first | exact PO.str (by decide +kernel) | exact PO.int | exact PO.no (by decide +kernel)
  subst hd
  obtain ⟨t5, n5⟩ := n5
  subst n2
  subst n5
  simp only [List.mem_cons, List.not_mem_nil, or_false, List.cons_append, List.nil_append] at ht
  rcases ht with rfl | rfl | rfl | rfl | rfl | rfl | rfl | rfl | rfl | rfl | rfl | rfl | rfl | rfl | rfl <;> first | exact n1 | exact n3 | exact Nice.t (PO.str ho) | exact Nice.t pw | exact Nice.t po | exact Nice.t (PO.no rfl) | exact Nice.n fun _ _ h => nomatch h
theorem bent_ok {m : MO} {n : Int} {dd : List D} (L : Left m) (h : Deed dd) : OX (D_L_bent m [.int n, .tuple dd]) fun p => ∃ t, p.1 = .v t ∧ Nice t ∧ Left p.2 := by
  cases h with
  | one o h => exact bent_in L o rfl (by rw [List.all_cons, h]; rfl) (show keyOf _ = some _ from rfl) (by simp) cut_1 (by simp) (by simp) (by simp) (by simp) (by simp) (Nice.n fun _ _ h => nomatch h) rfl (Nice.n fun _ _ h => nomatch h) ⟨_, rfl⟩
  | two o h h' => exact bent_in L o rfl (by rw [List.all_cons, List.all_cons, h, h']; rfl) (show keyOf _ = some _ from rfl) (by simp) cut_2 (by simp) (by simp) (by simp) (by simp) (by simp) (Nice.t (PO.str o)) rfl (Nice.t PO.int) ⟨_, rfl⟩
  | three o h h' h2 => rcases small_key h2 with rfl | ⟨i, rfl⟩ | ⟨w, rfl⟩ <;> exact bent_in L o rfl (by rw [List.all_cons, List.all_cons, List.all_cons, h, h', h2]; rfl) (show keyOf _ = some _ from rfl) (by simp) cut_3 (by simp) (by simp) (by simp) (by simp) (by simp) (Nice.t (PO.str o)) rfl (Nice.t PO.int) ⟨_, rfl⟩
end Z

set_option Elab.async false
set_option linter.all false
set_option maxRecDepth 100000
set_option maxHeartbeats 1000000
namespace Z
open PySem L2
def inB (d : D) (lo hi : Int) : Bool := match d with
  | .int i => decide (lo ≤ i) && decide (i ≤ hi)
  | _ => false
theorem isT_int {d : D} : (∃ i, d = .int i) ∨ (isT "int" d = false ∨ isT "bool" d = true) := by
  cases d with
  | int i => exact .inl ⟨i, rfl⟩
  | none => exact .inr (.inl (by rfl))
  | bool b => exact .inr (.inr (by rfl))
  | str x => exact .inr (.inl (by rfl))
  | list ds => exact .inr (.inl (by rfl))
  | tuple ds => exact .inr (.inl (by rfl))
  | dict kvs =>
    refine .inr (.inl ?_)
    unfold isT tyD
    split <;> first | rfl | (rename_i e; cases e)
theorem inB_no {d : D} {lo hi : Int} (h : ∀ i, d ≠ .int i) : inB d lo hi = false := by
  cases d <;> first | rfl | exact absurd rfl (h _)
theorem isT_ii {i : Int} : isT "int" (.int i) = true ∧ isT "bool" (.int i) = false := ⟨rfl, rfl⟩
theorem isT_bi {d : D} (h : isT "bool" d = true) : ∀ i, d ≠ .int i := fun i e => by subst e; cases h
theorem isT_ni {d : D} (h : isT "int" d = false) : ∀ i, d ≠ .int i := fun i e => by subst e; cases h
theorem between_ok {d : D} {lo hi : Int} : OX (D_is_between [d, .int lo, .int hi]) fun r => r = .v (.bool (inB d lo hi)) := by
  refine OX.defF rfl ?_
  rcases isT_int (d := d) with ⟨i, rfl⟩ | h | h
  · by_cases h : lo ≤ i
    · simp only [F_is_between, OX_some, OX_map, OX_fzf, OX_eV, OX_eK, OX_e1, OX_e2, OX_e3, OX_tb, OX_tru, OX_ite, OX_tand, OX_tor, OX_tnot, OX_eand, OX_eor, OX_enot, OX_eif, OX_a0, OX_aC, OX_etup, OX_elst, OX_eC, OX_eF, OX_eM, OX_sNil, OX_sBk, OX_sCt, OX_sRetN, OX_sq, OX_sIf, OX_sRet, OX_sX, OX_sV, OX_sO, OX_sP, OX_sU, OX_tgn, OX_tgt, OX_sSt, OX_eMM, OX_append, OX_eIs, OX_sFor, OX_sWh, OX_eLc, OX_iR1, OX_iR2, OX_iL, OX_iT, OX_oN, OX_oS, OX_eSl, OX_pE0, OX_pE, OX_eDk, OX_eGet2, OX_eDn, OX_eD0, OX_iI, OX_iB, OX_neg, OX_dEq, OX_dNe, OX_dIs, OX_dIsNot, OX_dIn, OX_dNotIn, OX_inL, OX_inT, OX_catT, OX_catL, OX_ixT, OX_ixL, OX_ixS, OX_slT, OX_slL, OX_lenL, OX_lenT, OX_lenS, OX_max2, OX_min2, OX_intI, OX_intB, OX_tupL, OX_tupT, OX_listL, OX_listT, OX_all, OX_any, OX_strT, OX_truB, OX_truI, OX_truL, OX_truT, OX_truN, OX_rtR_s, OX_rtM_s, frz_v, frz_n, frz_s, toD_lst, toD_dic, toD_dk, dr_v, dr_n, dr_s, ownD_own, vals_nil, vals_v, drs_nil, drs_c, svR_v, svR_own, svR_al, boolR_b, argM_s, ownM_own, slotR_s, ownL_own, valR_v, newR_n, two_2, intD_i, int1_i, int2_i, listD_l, tupD_t, eqD_ii, eqD_ss, eqD_bb, rtR_v, rtR_n, rtM_v, rtM_n, atI_0, atI_1, atI_2, atI_3, atI_4, ixN_0, ixN_1, ixN_2, setAllE, sizeLine_eq, Option.bind_some, Option.map_some, List.getElem?_cons_zero, List.getElem?_cons_succ, List.getElem?_nil, List.set_cons_zero, List.set_cons_succ, List.map_cons, List.map_nil, List.cons_append, List.nil_append, List.append_nil, List.length_cons, List.length_nil, List.replicate_succ, List.replicate_zero, Bool.not_true, Bool.not_false, Bool.false_eq_true, decide_true, decide_false, Nat.reduceAdd, Nat.reduceSub, Nat.reduceEqDiff, Nat.reduceLT, Nat.reduceLeDiff, ↓reduceIte, Int.reduceLT, Int.reduceLE, Int.reduceAdd, Int.reduceSub, Int.reduceMul, Int.reduceNeg, Int.reduceToNat, Int.reduceMod, Int.reduceEq, Int.reducePow, Nat.reducePow, decide_eq_true_eq, decide_eq_false_iff_not, eq_self, ne_eq, not_true_eq_false, not_false_eq_true, and_true, true_and, and_false, false_and, and_self, or_true, true_or, or_false, false_or, isT_ii, h, inB, Bool.true_and]
    · simp only [F_is_between, OX_some, OX_map, OX_fzf, OX_eV, OX_eK, OX_e1, OX_e2, OX_e3, OX_tb, OX_tru, OX_ite, OX_tand, OX_tor, OX_tnot, OX_eand, OX_eor, OX_enot, OX_eif, OX_a0, OX_aC, OX_etup, OX_elst, OX_eC, OX_eF, OX_eM, OX_sNil, OX_sBk, OX_sCt, OX_sRetN, OX_sq, OX_sIf, OX_sRet, OX_sX, OX_sV, OX_sO, OX_sP, OX_sU, OX_tgn, OX_tgt, OX_sSt, OX_eMM, OX_append, OX_eIs, OX_sFor, OX_sWh, OX_eLc, OX_iR1, OX_iR2, OX_iL, OX_iT, OX_oN, OX_oS, OX_eSl, OX_pE0, OX_pE, OX_eDk, OX_eGet2, OX_eDn, OX_eD0, OX_iI, OX_iB, OX_neg, OX_dEq, OX_dNe, OX_dIs, OX_dIsNot, OX_dIn, OX_dNotIn, OX_inL, OX_inT, OX_catT, OX_catL, OX_ixT, OX_ixL, OX_ixS, OX_slT, OX_slL, OX_lenL, OX_lenT, OX_lenS, OX_max2, OX_min2, OX_intI, OX_intB, OX_tupL, OX_tupT, OX_listL, OX_listT, OX_all, OX_any, OX_strT, OX_truB, OX_truI, OX_truL, OX_truT, OX_truN, OX_rtR_s, OX_rtM_s, frz_v, frz_n, frz_s, toD_lst, toD_dic, toD_dk, dr_v, dr_n, dr_s, ownD_own, vals_nil, vals_v, drs_nil, drs_c, svR_v, svR_own, svR_al, boolR_b, argM_s, ownM_own, slotR_s, ownL_own, valR_v, newR_n, two_2, intD_i, int1_i, int2_i, listD_l, tupD_t, eqD_ii, eqD_ss, eqD_bb, rtR_v, rtR_n, rtM_v, rtM_n, atI_0, atI_1, atI_2, atI_3, atI_4, ixN_0, ixN_1, ixN_2, setAllE, sizeLine_eq, Option.bind_some, Option.map_some, List.getElem?_cons_zero, List.getElem?_cons_succ, List.getElem?_nil, List.set_cons_zero, List.set_cons_succ, List.map_cons, List.map_nil, List.cons_append, List.nil_append, List.append_nil, List.length_cons, List.length_nil, List.replicate_succ, List.replicate_zero, Bool.not_true, Bool.not_false, Bool.false_eq_true, decide_true, decide_false, Nat.reduceAdd, Nat.reduceSub, Nat.reduceEqDiff, Nat.reduceLT, Nat.reduceLeDiff, ↓reduceIte, Int.reduceLT, Int.reduceLE, Int.reduceAdd, Int.reduceSub, Int.reduceMul, Int.reduceNeg, Int.reduceToNat, Int.reduceMod, Int.reduceEq, Int.reducePow, Nat.reducePow, decide_eq_true_eq, decide_eq_false_iff_not, eq_self, ne_eq, not_true_eq_false, not_false_eq_true, and_true, true_and, and_false, false_and, and_self, or_true, true_or, or_false, false_or, isT_ii, h, inB, Bool.false_and]
  · simp only [F_is_between, OX_some, OX_map, OX_fzf, OX_eV, OX_eK, OX_e1, OX_e2, OX_e3, OX_tb, OX_tru, OX_ite, OX_tand, OX_tor, OX_tnot, OX_eand, OX_eor, OX_enot, OX_eif, OX_a0, OX_aC, OX_etup, OX_elst, OX_eC, OX_eF, OX_eM, OX_sNil, OX_sBk, OX_sCt, OX_sRetN, OX_sq, OX_sIf, OX_sRet, OX_sX, OX_sV, OX_sO, OX_sP, OX_sU, OX_tgn, OX_tgt, OX_sSt, OX_eMM, OX_append, OX_eIs, OX_sFor, OX_sWh, OX_eLc, OX_iR1, OX_iR2, OX_iL, OX_iT, OX_oN, OX_oS, OX_eSl, OX_pE0, OX_pE, OX_eDk, OX_eGet2, OX_eDn, OX_eD0, OX_iI, OX_iB, OX_neg, OX_dEq, OX_dNe, OX_dIs, OX_dIsNot, OX_dIn, OX_dNotIn, OX_inL, OX_inT, OX_catT, OX_catL, OX_ixT, OX_ixL, OX_ixS, OX_slT, OX_slL, OX_lenL, OX_lenT, OX_lenS, OX_max2, OX_min2, OX_intI, OX_intB, OX_tupL, OX_tupT, OX_listL, OX_listT, OX_all, OX_any, OX_strT, OX_truB, OX_truI, OX_truL, OX_truT, OX_truN, OX_rtR_s, OX_rtM_s, frz_v, frz_n, frz_s, toD_lst, toD_dic, toD_dk, dr_v, dr_n, dr_s, ownD_own, vals_nil, vals_v, drs_nil, drs_c, svR_v, svR_own, svR_al, boolR_b, argM_s, ownM_own, slotR_s, ownL_own, valR_v, newR_n, two_2, intD_i, int1_i, int2_i, listD_l, tupD_t, eqD_ii, eqD_ss, eqD_bb, rtR_v, rtR_n, rtM_v, rtM_n, atI_0, atI_1, atI_2, atI_3, atI_4, ixN_0, ixN_1, ixN_2, setAllE, sizeLine_eq, Option.bind_some, Option.map_some, List.getElem?_cons_zero, List.getElem?_cons_succ, List.getElem?_nil, List.set_cons_zero, List.set_cons_succ, List.map_cons, List.map_nil, List.cons_append, List.nil_append, List.append_nil, List.length_cons, List.length_nil, List.replicate_succ, List.replicate_zero, Bool.not_true, Bool.not_false, Bool.false_eq_true, decide_true, decide_false, Nat.reduceAdd, Nat.reduceSub, Nat.reduceEqDiff, Nat.reduceLT, Nat.reduceLeDiff, ↓reduceIte, Int.reduceLT, Int.reduceLE, Int.reduceAdd, Int.reduceSub, Int.reduceMul, Int.reduceNeg, Int.reduceToNat, Int.reduceMod, Int.reduceEq, Int.reducePow, Nat.reducePow, decide_eq_true_eq, decide_eq_false_iff_not, eq_self, ne_eq, not_true_eq_false, not_false_eq_true, and_true, true_and, and_false, false_and, and_self, or_true, true_or, or_false, false_or, h, inB_no (isT_ni h)]
  · by_cases k : isT "int" d = true
    · simp only [F_is_between, OX_some, OX_map, OX_fzf, OX_eV, OX_eK, OX_e1, OX_e2, OX_e3, OX_tb, OX_tru, OX_ite, OX_tand, OX_tor, OX_tnot, OX_eand, OX_eor, OX_enot, OX_eif, OX_a0, OX_aC, OX_etup, OX_elst, OX_eC, OX_eF, OX_eM, OX_sNil, OX_sBk, OX_sCt, OX_sRetN, OX_sq, OX_sIf, OX_sRet, OX_sX, OX_sV, OX_sO, OX_sP, OX_sU, OX_tgn, OX_tgt, OX_sSt, OX_eMM, OX_append, OX_eIs, OX_sFor, OX_sWh, OX_eLc, OX_iR1, OX_iR2, OX_iL, OX_iT, OX_oN, OX_oS, OX_eSl, OX_pE0, OX_pE, OX_eDk, OX_eGet2, OX_eDn, OX_eD0, OX_iI, OX_iB, OX_neg, OX_dEq, OX_dNe, OX_dIs, OX_dIsNot, OX_dIn, OX_dNotIn, OX_inL, OX_inT, OX_catT, OX_catL, OX_ixT, OX_ixL, OX_ixS, OX_slT, OX_slL, OX_lenL, OX_lenT, OX_lenS, OX_max2, OX_min2, OX_intI, OX_intB, OX_tupL, OX_tupT, OX_listL, OX_listT, OX_all, OX_any, OX_strT, OX_truB, OX_truI, OX_truL, OX_truT, OX_truN, OX_rtR_s, OX_rtM_s, frz_v, frz_n, frz_s, toD_lst, toD_dic, toD_dk, dr_v, dr_n, dr_s, ownD_own, vals_nil, vals_v, drs_nil, drs_c, svR_v, svR_own, svR_al, boolR_b, argM_s, ownM_own, slotR_s, ownL_own, valR_v, newR_n, two_2, intD_i, int1_i, int2_i, listD_l, tupD_t, eqD_ii, eqD_ss, eqD_bb, rtR_v, rtR_n, rtM_v, rtM_n, atI_0, atI_1, atI_2, atI_3, atI_4, ixN_0, ixN_1, ixN_2, setAllE, sizeLine_eq, Option.bind_some, Option.map_some, List.getElem?_cons_zero, List.getElem?_cons_succ, List.getElem?_nil, List.set_cons_zero, List.set_cons_succ, List.map_cons, List.map_nil, List.cons_append, List.nil_append, List.append_nil, List.length_cons, List.length_nil, List.replicate_succ, List.replicate_zero, Bool.not_true, Bool.not_false, Bool.false_eq_true, decide_true, decide_false, Nat.reduceAdd, Nat.reduceSub, Nat.reduceEqDiff, Nat.reduceLT, Nat.reduceLeDiff, ↓reduceIte, Int.reduceLT, Int.reduceLE, Int.reduceAdd, Int.reduceSub, Int.reduceMul, Int.reduceNeg, Int.reduceToNat, Int.reduceMod, Int.reduceEq, Int.reducePow, Nat.reducePow, decide_eq_true_eq, decide_eq_false_iff_not, eq_self, ne_eq, not_true_eq_false, not_false_eq_true, and_true, true_and, and_false, false_and, and_self, or_true, true_or, or_false, false_or, h, k, inB_no (isT_bi h)]
    · simp only [F_is_between, OX_some, OX_map, OX_fzf, OX_eV, OX_eK, OX_e1, OX_e2, OX_e3, OX_tb, OX_tru, OX_ite, OX_tand, OX_tor, OX_tnot, OX_eand, OX_eor, OX_enot, OX_eif, OX_a0, OX_aC, OX_etup, OX_elst, OX_eC, OX_eF, OX_eM, OX_sNil, OX_sBk, OX_sCt, OX_sRetN, OX_sq, OX_sIf, OX_sRet, OX_sX, OX_sV, OX_sO, OX_sP, OX_sU, OX_tgn, OX_tgt, OX_sSt, OX_eMM, OX_append, OX_eIs, OX_sFor, OX_sWh, OX_eLc, OX_iR1, OX_iR2, OX_iL, OX_iT, OX_oN, OX_oS, OX_eSl, OX_pE0, OX_pE, OX_eDk, OX_eGet2, OX_eDn, OX_eD0, OX_iI, OX_iB, OX_neg, OX_dEq, OX_dNe, OX_dIs, OX_dIsNot, OX_dIn, OX_dNotIn, OX_inL, OX_inT, OX_catT, OX_catL, OX_ixT, OX_ixL, OX_ixS, OX_slT, OX_slL, OX_lenL, OX_lenT, OX_lenS, OX_max2, OX_min2, OX_intI, OX_intB, OX_tupL, OX_tupT, OX_listL, OX_listT, OX_all, OX_any, OX_strT, OX_truB, OX_truI, OX_truL, OX_truT, OX_truN, OX_rtR_s, OX_rtM_s, frz_v, frz_n, frz_s, toD_lst, toD_dic, toD_dk, dr_v, dr_n, dr_s, ownD_own, vals_nil, vals_v, drs_nil, drs_c, svR_v, svR_own, svR_al, boolR_b, argM_s, ownM_own, slotR_s, ownL_own, valR_v, newR_n, two_2, intD_i, int1_i, int2_i, listD_l, tupD_t, eqD_ii, eqD_ss, eqD_bb, rtR_v, rtR_n, rtM_v, rtM_n, atI_0, atI_1, atI_2, atI_3, atI_4, ixN_0, ixN_1, ixN_2, setAllE, sizeLine_eq, Option.bind_some, Option.map_some, List.getElem?_cons_zero, List.getElem?_cons_succ, List.getElem?_nil, List.set_cons_zero, List.set_cons_succ, List.map_cons, List.map_nil, List.cons_append, List.nil_append, List.append_nil, List.length_cons, List.length_nil, List.replicate_succ, List.replicate_zero, Bool.not_true, Bool.not_false, Bool.false_eq_true, decide_true, decide_false, Nat.reduceAdd, Nat.reduceSub, Nat.reduceEqDiff, Nat.reduceLT, Nat.reduceLeDiff, ↓reduceIte, Int.reduceLT, Int.reduceLE, Int.reduceAdd, Int.reduceSub, Int.reduceMul, Int.reduceNeg, Int.reduceToNat, Int.reduceMod, Int.reduceEq, Int.reducePow, Nat.reducePow, decide_eq_true_eq, decide_eq_false_iff_not, eq_self, ne_eq, not_true_eq_false, not_false_eq_true, and_true, true_and, and_false, false_and, and_self, or_true, true_or, or_false, false_or, h, k, inB_no (isT_bi h)]
theorem whole_ok {d : D} {lo hi : Int} : OX (D_L_whole [d, .int lo, .int hi]) fun r => r = .v (.bool (inB d lo hi)) := by
  refine OX.defF rfl ?_
  rcases isT_int (d := d) with ⟨i, rfl⟩ | h | h
  · by_cases h : lo ≤ i
    · simp only [F_L_whole, OX_some, OX_map, OX_fzf, OX_eV, OX_eK, OX_e1, OX_e2, OX_e3, OX_tb, OX_tru, OX_ite, OX_tand, OX_tor, OX_tnot, OX_eand, OX_eor, OX_enot, OX_eif, OX_a0, OX_aC, OX_etup, OX_elst, OX_eC, OX_eF, OX_eM, OX_sNil, OX_sBk, OX_sCt, OX_sRetN, OX_sq, OX_sIf, OX_sRet, OX_sX, OX_sV, OX_sO, OX_sP, OX_sU, OX_tgn, OX_tgt, OX_sSt, OX_eMM, OX_append, OX_eIs, OX_sFor, OX_sWh, OX_eLc, OX_iR1, OX_iR2, OX_iL, OX_iT, OX_oN, OX_oS, OX_eSl, OX_pE0, OX_pE, OX_eDk, OX_eGet2, OX_eDn, OX_eD0, OX_iI, OX_iB, OX_neg, OX_dEq, OX_dNe, OX_dIs, OX_dIsNot, OX_dIn, OX_dNotIn, OX_inL, OX_inT, OX_catT, OX_catL, OX_ixT, OX_ixL, OX_ixS, OX_slT, OX_slL, OX_lenL, OX_lenT, OX_lenS, OX_max2, OX_min2, OX_intI, OX_intB, OX_tupL, OX_tupT, OX_listL, OX_listT, OX_all, OX_any, OX_strT, OX_truB, OX_truI, OX_truL, OX_truT, OX_truN, OX_rtR_s, OX_rtM_s, frz_v, frz_n, frz_s, toD_lst, toD_dic, toD_dk, dr_v, dr_n, dr_s, ownD_own, vals_nil, vals_v, drs_nil, drs_c, svR_v, svR_own, svR_al, boolR_b, argM_s, ownM_own, slotR_s, ownL_own, valR_v, newR_n, two_2, intD_i, int1_i, int2_i, listD_l, tupD_t, eqD_ii, eqD_ss, eqD_bb, rtR_v, rtR_n, rtM_v, rtM_n, atI_0, atI_1, atI_2, atI_3, atI_4, ixN_0, ixN_1, ixN_2, setAllE, sizeLine_eq, Option.bind_some, Option.map_some, List.getElem?_cons_zero, List.getElem?_cons_succ, List.getElem?_nil, List.set_cons_zero, List.set_cons_succ, List.map_cons, List.map_nil, List.cons_append, List.nil_append, List.append_nil, List.length_cons, List.length_nil, List.replicate_succ, List.replicate_zero, Bool.not_true, Bool.not_false, Bool.false_eq_true, decide_true, decide_false, Nat.reduceAdd, Nat.reduceSub, Nat.reduceEqDiff, Nat.reduceLT, Nat.reduceLeDiff, ↓reduceIte, Int.reduceLT, Int.reduceLE, Int.reduceAdd, Int.reduceSub, Int.reduceMul, Int.reduceNeg, Int.reduceToNat, Int.reduceMod, Int.reduceEq, Int.reducePow, Nat.reducePow, decide_eq_true_eq, decide_eq_false_iff_not, eq_self, ne_eq, not_true_eq_false, not_false_eq_true, and_true, true_and, and_false, false_and, and_self, or_true, true_or, or_false, false_or, isT_ii, h, inB, Bool.true_and]
    · simp only [F_L_whole, OX_some, OX_map, OX_fzf, OX_eV, OX_eK, OX_e1, OX_e2, OX_e3, OX_tb, OX_tru, OX_ite, OX_tand, OX_tor, OX_tnot, OX_eand, OX_eor, OX_enot, OX_eif, OX_a0, OX_aC, OX_etup, OX_elst, OX_eC, OX_eF, OX_eM, OX_sNil, OX_sBk, OX_sCt, OX_sRetN, OX_sq, OX_sIf, OX_sRet, OX_sX, OX_sV, OX_sO, OX_sP, OX_sU, OX_tgn, OX_tgt, OX_sSt, OX_eMM, OX_append, OX_eIs, OX_sFor, OX_sWh, OX_eLc, OX_iR1, OX_iR2, OX_iL, OX_iT, OX_oN, OX_oS, OX_eSl, OX_pE0, OX_pE, OX_eDk, OX_eGet2, OX_eDn, OX_eD0, OX_iI, OX_iB, OX_neg, OX_dEq, OX_dNe, OX_dIs, OX_dIsNot, OX_dIn, OX_dNotIn, OX_inL, OX_inT, OX_catT, OX_catL, OX_ixT, OX_ixL, OX_ixS, OX_slT, OX_slL, OX_lenL, OX_lenT, OX_lenS, OX_max2, OX_min2, OX_intI, OX_intB, OX_tupL, OX_tupT, OX_listL, OX_listT, OX_all, OX_any, OX_strT, OX_truB, OX_truI, OX_truL, OX_truT, OX_truN, OX_rtR_s, OX_rtM_s, frz_v, frz_n, frz_s, toD_lst, toD_dic, toD_dk, dr_v, dr_n, dr_s, ownD_own, vals_nil, vals_v, drs_nil, drs_c, svR_v, svR_own, svR_al, boolR_b, argM_s, ownM_own, slotR_s, ownL_own, valR_v, newR_n, two_2, intD_i, int1_i, int2_i, listD_l, tupD_t, eqD_ii, eqD_ss, eqD_bb, rtR_v, rtR_n, rtM_v, rtM_n, atI_0, atI_1, atI_2, atI_3, atI_4, ixN_0, ixN_1, ixN_2, setAllE, sizeLine_eq, Option.bind_some, Option.map_some, List.getElem?_cons_zero, List.getElem?_cons_succ, List.getElem?_nil, List.set_cons_zero, List.set_cons_succ, List.map_cons, List.map_nil, List.cons_append, List.nil_append, List.append_nil, List.length_cons, List.length_nil, List.replicate_succ, List.replicate_zero, Bool.not_true, Bool.not_false, Bool.false_eq_true, decide_true, decide_false, Nat.reduceAdd, Nat.reduceSub, Nat.reduceEqDiff, Nat.reduceLT, Nat.reduceLeDiff, ↓reduceIte, Int.reduceLT, Int.reduceLE, Int.reduceAdd, Int.reduceSub, Int.reduceMul, Int.reduceNeg, Int.reduceToNat, Int.reduceMod, Int.reduceEq, Int.reducePow, Nat.reducePow, decide_eq_true_eq, decide_eq_false_iff_not, eq_self, ne_eq, not_true_eq_false, not_false_eq_true, and_true, true_and, and_false, false_and, and_self, or_true, true_or, or_false, false_or, isT_ii, h, inB, Bool.false_and]
  · simp only [F_L_whole, OX_some, OX_map, OX_fzf, OX_eV, OX_eK, OX_e1, OX_e2, OX_e3, OX_tb, OX_tru, OX_ite, OX_tand, OX_tor, OX_tnot, OX_eand, OX_eor, OX_enot, OX_eif, OX_a0, OX_aC, OX_etup, OX_elst, OX_eC, OX_eF, OX_eM, OX_sNil, OX_sBk, OX_sCt, OX_sRetN, OX_sq, OX_sIf, OX_sRet, OX_sX, OX_sV, OX_sO, OX_sP, OX_sU, OX_tgn, OX_tgt, OX_sSt, OX_eMM, OX_append, OX_eIs, OX_sFor, OX_sWh, OX_eLc, OX_iR1, OX_iR2, OX_iL, OX_iT, OX_oN, OX_oS, OX_eSl, OX_pE0, OX_pE, OX_eDk, OX_eGet2, OX_eDn, OX_eD0, OX_iI, OX_iB, OX_neg, OX_dEq, OX_dNe, OX_dIs, OX_dIsNot, OX_dIn, OX_dNotIn, OX_inL, OX_inT, OX_catT, OX_catL, OX_ixT, OX_ixL, OX_ixS, OX_slT, OX_slL, OX_lenL, OX_lenT, OX_lenS, OX_max2, OX_min2, OX_intI, OX_intB, OX_tupL, OX_tupT, OX_listL, OX_listT, OX_all, OX_any, OX_strT, OX_truB, OX_truI, OX_truL, OX_truT, OX_truN, OX_rtR_s, OX_rtM_s, frz_v, frz_n, frz_s, toD_lst, toD_dic, toD_dk, dr_v, dr_n, dr_s, ownD_own, vals_nil, vals_v, drs_nil, drs_c, svR_v, svR_own, svR_al, boolR_b, argM_s, ownM_own, slotR_s, ownL_own, valR_v, newR_n, two_2, intD_i, int1_i, int2_i, listD_l, tupD_t, eqD_ii, eqD_ss, eqD_bb, rtR_v, rtR_n, rtM_v, rtM_n, atI_0, atI_1, atI_2, atI_3, atI_4, ixN_0, ixN_1, ixN_2, setAllE, sizeLine_eq, Option.bind_some, Option.map_some, List.getElem?_cons_zero, List.getElem?_cons_succ, List.getElem?_nil, List.set_cons_zero, List.set_cons_succ, List.map_cons, List.map_nil, List.cons_append, List.nil_append, List.append_nil, List.length_cons, List.length_nil, List.replicate_succ, List.replicate_zero, Bool.not_true, Bool.not_false, Bool.false_eq_true, decide_true, decide_false, Nat.reduceAdd, Nat.reduceSub, Nat.reduceEqDiff, Nat.reduceLT, Nat.reduceLeDiff, ↓reduceIte, Int.reduceLT, Int.reduceLE, Int.reduceAdd, Int.reduceSub, Int.reduceMul, Int.reduceNeg, Int.reduceToNat, Int.reduceMod, Int.reduceEq, Int.reducePow, Nat.reducePow, decide_eq_true_eq, decide_eq_false_iff_not, eq_self, ne_eq, not_true_eq_false, not_false_eq_true, and_true, true_and, and_false, false_and, and_self, or_true, true_or, or_false, false_or, h, inB_no (isT_ni h)]
  · by_cases k : isT "int" d = true
    · simp only [F_L_whole, OX_some, OX_map, OX_fzf, OX_eV, OX_eK, OX_e1, OX_e2, OX_e3, OX_tb, OX_tru, OX_ite, OX_tand, OX_tor, OX_tnot, OX_eand, OX_eor, OX_enot, OX_eif, OX_a0, OX_aC, OX_etup, OX_elst, OX_eC, OX_eF, OX_eM, OX_sNil, OX_sBk, OX_sCt, OX_sRetN, OX_sq, OX_sIf, OX_sRet, OX_sX, OX_sV, OX_sO, OX_sP, OX_sU, OX_tgn, OX_tgt, OX_sSt, OX_eMM, OX_append, OX_eIs, OX_sFor, OX_sWh, OX_eLc, OX_iR1, OX_iR2, OX_iL, OX_iT, OX_oN, OX_oS, OX_eSl, OX_pE0, OX_pE, OX_eDk, OX_eGet2, OX_eDn, OX_eD0, OX_iI, OX_iB, OX_neg, OX_dEq, OX_dNe, OX_dIs, OX_dIsNot, OX_dIn, OX_dNotIn, OX_inL, OX_inT, OX_catT, OX_catL, OX_ixT, OX_ixL, OX_ixS, OX_slT, OX_slL, OX_lenL, OX_lenT, OX_lenS, OX_max2, OX_min2, OX_intI, OX_intB, OX_tupL, OX_tupT, OX_listL, OX_listT, OX_all, OX_any, OX_strT, OX_truB, OX_truI, OX_truL, OX_truT, OX_truN, OX_rtR_s, OX_rtM_s, frz_v, frz_n, frz_s, toD_lst, toD_dic, toD_dk, dr_v, dr_n, dr_s, ownD_own, vals_nil, vals_v, drs_nil, drs_c, svR_v, svR_own, svR_al, boolR_b, argM_s, ownM_own, slotR_s, ownL_own, valR_v, newR_n, two_2, intD_i, int1_i, int2_i, listD_l, tupD_t, eqD_ii, eqD_ss, eqD_bb, rtR_v, rtR_n, rtM_v, rtM_n, atI_0, atI_1, atI_2, atI_3, atI_4, ixN_0, ixN_1, ixN_2, setAllE, sizeLine_eq, Option.bind_some, Option.map_some, List.getElem?_cons_zero, List.getElem?_cons_succ, List.getElem?_nil, List.set_cons_zero, List.set_cons_succ, List.map_cons, List.map_nil, List.cons_append, List.nil_append, List.append_nil, List.length_cons, List.length_nil, List.replicate_succ, List.replicate_zero, Bool.not_true, Bool.not_false, Bool.false_eq_true, decide_true, decide_false, Nat.reduceAdd, Nat.reduceSub, Nat.reduceEqDiff, Nat.reduceLT, Nat.reduceLeDiff, ↓reduceIte, Int.reduceLT, Int.reduceLE, Int.reduceAdd, Int.reduceSub, Int.reduceMul, Int.reduceNeg, Int.reduceToNat, Int.reduceMod, Int.reduceEq, Int.reducePow, Nat.reducePow, decide_eq_true_eq, decide_eq_false_iff_not, eq_self, ne_eq, not_true_eq_false, not_false_eq_true, and_true, true_and, and_false, false_and, and_self, or_true, true_or, or_false, false_or, h, k, inB_no (isT_bi h)]
    · simp only [F_L_whole, OX_some, OX_map, OX_fzf, OX_eV, OX_eK, OX_e1, OX_e2, OX_e3, OX_tb, OX_tru, OX_ite, OX_tand, OX_tor, OX_tnot, OX_eand, OX_eor, OX_enot, OX_eif, OX_a0, OX_aC, OX_etup, OX_elst, OX_eC, OX_eF, OX_eM, OX_sNil, OX_sBk, OX_sCt, OX_sRetN, OX_sq, OX_sIf, OX_sRet, OX_sX, OX_sV, OX_sO, OX_sP, OX_sU, OX_tgn, OX_tgt, OX_sSt, OX_eMM, OX_append, OX_eIs, OX_sFor, OX_sWh, OX_eLc, OX_iR1, OX_iR2, OX_iL, OX_iT, OX_oN, OX_oS, OX_eSl, OX_pE0, OX_pE, OX_eDk, OX_eGet2, OX_eDn, OX_eD0, OX_iI, OX_iB, OX_neg, OX_dEq, OX_dNe, OX_dIs, OX_dIsNot, OX_dIn, OX_dNotIn, OX_inL, OX_inT, OX_catT, OX_catL, OX_ixT, OX_ixL, OX_ixS, OX_slT, OX_slL, OX_lenL, OX_lenT, OX_lenS, OX_max2, OX_min2, OX_intI, OX_intB, OX_tupL, OX_tupT, OX_listL, OX_listT, OX_all, OX_any, OX_strT, OX_truB, OX_truI, OX_truL, OX_truT, OX_truN, OX_rtR_s, OX_rtM_s, frz_v, frz_n, frz_s, toD_lst, toD_dic, toD_dk, dr_v, dr_n, dr_s, ownD_own, vals_nil, vals_v, drs_nil, drs_c, svR_v, svR_own, svR_al, boolR_b, argM_s, ownM_own, slotR_s, ownL_own, valR_v, newR_n, two_2, intD_i, int1_i, int2_i, listD_l, tupD_t, eqD_ii, eqD_ss, eqD_bb, rtR_v, rtR_n, rtM_v, rtM_n, atI_0, atI_1, atI_2, atI_3, atI_4, ixN_0, ixN_1, ixN_2, setAllE, sizeLine_eq, Option.bind_some, Option.map_some, List.getElem?_cons_zero, List.getElem?_cons_succ, List.getElem?_nil, List.set_cons_zero, List.set_cons_succ, List.map_cons, List.map_nil, List.cons_append, List.nil_append, List.append_nil, List.length_cons, List.length_nil, List.replicate_succ, List.replicate_zero, Bool.not_true, Bool.not_false, Bool.false_eq_true, decide_true, decide_false, Nat.reduceAdd, Nat.reduceSub, Nat.reduceEqDiff, Nat.reduceLT, Nat.reduceLeDiff, ↓reduceIte, Int.reduceLT, Int.reduceLE, Int.reduceAdd, Int.reduceSub, Int.reduceMul, Int.reduceNeg, Int.reduceToNat, Int.reduceMod, Int.reduceEq, Int.reducePow, Nat.reducePow, decide_eq_true_eq, decide_eq_false_iff_not, eq_self, ne_eq, not_true_eq_false, not_false_eq_true, and_true, true_and, and_false, false_and, and_self, or_true, true_or, or_false, false_or, h, k, inB_no (isT_bi h)]
def sizes : List (D × D) := [(.str "read", .int 3), (.str "write", .int 3), (.str "up", .int 2), (.str "down", .int 2), (.str "leave", .int 2), (.str "stop", .int 2), (.str "tick", .int 1)]
structure WF (w : Str) (tk ask mov : Bool) (sz : Int) : Prop where
  t : eqD (.str w) (.str "tick") = some tk
  a : inD (.str w) c_ASKS = some ask
  m : inD (.str w) c_MOVES = some mov
  z : (lookT sizes w).getD (.int 0) = .int sz
theorem words (w : Str) (ho : PyData.strOk w = true) : WF w true false false 1 ∨ WF w false true false 3 ∨ WF w false false true 2 ∨ WF w false false false 0 := by
  by_cases h1 : w = "read"
  · subst h1; exact .inr (.inl ⟨by kernel_rfl, by kernel_rfl, by kernel_rfl, by kernel_rfl⟩)
  by_cases h2 : w = "write"
  · subst h2; exact .inr (.inl ⟨by kernel_rfl, by kernel_rfl, by kernel_rfl, by kernel_rfl⟩)
  by_cases h3 : w = "up"
  · subst h3; exact .inr (.inr (.inl ⟨by kernel_rfl, by kernel_rfl, by kernel_rfl, by kernel_rfl⟩))
  by_cases h4 : w = "down"
  · subst h4; exact .inr (.inr (.inl ⟨by kernel_rfl, by kernel_rfl, by kernel_rfl, by kernel_rfl⟩))
  by_cases h5 : w = "leave"
  · subst h5; exact .inr (.inr (.inl ⟨by kernel_rfl, by kernel_rfl, by kernel_rfl, by kernel_rfl⟩))
  by_cases h6 : w = "stop"
  · subst h6; exact .inr (.inr (.inl ⟨by kernel_rfl, by kernel_rfl, by kernel_rfl, by kernel_rfl⟩))
  by_cases h7 : w = "tick"
  · subst h7; exact .inl ⟨by kernel_rfl, by kernel_rfl, by kernel_rfl, by kernel_rfl⟩
  have b : ∀ x : Str, w ≠ x → (x == w) = false := fun x h => beq_eq_false_iff_ne.mpr (Ne.symm h)
  refine .inr (.inr (.inr ⟨?_, ?_, ?_, ?_⟩))
  · rw [eqD_ss, decide_eq_false h7]
  · show (if _ then some ([PyData.str "read", PyData.str "write"].any fun z => PyData.eqv z (.str w)) else none) = _
    rw [if_pos (by unfold SeqAt.shaped; simp [PyData.canLay0, PyData.canLayAll0, PyData.depth, ho]; decide +kernel)]
    simp only [List.any_cons, List.any_nil, PyData.eqv, b _ h1, b _ h2, Bool.or_false]
  · show (if _ then some ([PyData.str "up", PyData.str "down", PyData.str "leave", PyData.str "stop"].any fun z => PyData.eqv z (.str w)) else none) = _
    rw [if_pos (by unfold SeqAt.shaped; simp [PyData.canLay0, PyData.canLayAll0, PyData.depth, ho]; decide +kernel)]
    simp only [List.any_cons, List.any_nil, PyData.eqv, b _ h3, b _ h4, b _ h5, b _ h6, Bool.or_false]
  · simp only [sizes, lookT, Ne.symm h1, Ne.symm h2, Ne.symm h3, Ne.symm h4, Ne.symm h5, Ne.symm h6, Ne.symm h7, if_false, Option.getD_none]
theorem tup_or {t : D} : (∃ ds, t = .tuple ds) ∨ isT "tuple" t = false := by
  cases t with
  | tuple ds => exact .inl ⟨ds, rfl⟩
  | none => exact .inr (by rfl)
  | bool b => exact .inr (by rfl)
  | int i => exact .inr (by rfl)
  | str x => exact .inr (by rfl)
  | list ds => exact .inr (by rfl)
  | dict kvs =>
    refine .inr ?_
    unfold isT tyD
    split <;> first | rfl | (rename_i e; cases e)
theorem isT_tt {ds : List D} : isT "tuple" (.tuple ds) = true := rfl
theorem isT_ss {x : Str} : isT "str" (.str x) = true := rfl
theorem edk7 {ρ : En} : eDk [("read", eK (.int 3)), ("write", eK (.int 3)), ("up", eK (.int 2)), ("down", eK (.int 2)), ("leave", eK (.int 2)), ("stop", eK (.int 2)), ("tick", eK (.int 1))] ρ = some (.n (.dk sizes), ρ) := by kernel_rfl
theorem sizes_td : isTD (.dict sizes) = true := rfl
theorem ca : ((1 : Nat) : Int) = 1 ∧ ((2 : Nat) : Int) = 2 ∧ ((3 : Nat) : Int) = 3 := ⟨rfl, rfl, rfl⟩
theorem cb {k : Nat} : (((k + 1 + 1 + 1 + 1 : Nat) : Int) = 0 ↔ False) ∧ (((k + 1 + 1 + 1 + 1 : Nat) : Int) = 1 ↔ False) ∧ (((k + 1 + 1 + 1 + 1 : Nat) : Int) = 2 ↔ False) ∧ (((k + 1 + 1 + 1 + 1 : Nat) : Int) = 3 ↔ False) ∧ (((k + 1 + 1 + 1 + 1 : Nat) : Int) < 2 ↔ False) ∧ (((k + 1 + 1 + 1 + 1 : Nat) : Int) < 3 ↔ False) ∧ ((1 : Int) < ((k + 1 + 1 + 1 + 1 : Nat) : Int) ↔ True) ∧ ((0 : Int) = ((k + 1 + 1 + 1 + 1 : Nat) : Int) ↔ False) ∧ ((1 : Int) = ((k + 1 + 1 + 1 + 1 : Nat) : Int) ↔ False) ∧ ((2 : Int) = ((k + 1 + 1 + 1 + 1 : Nat) : Int) ↔ False) ∧ ((3 : Int) = ((k + 1 + 1 + 1 + 1 : Nat) : Int) ↔ False) := ⟨iff_false_intro (by omega), iff_false_intro (by omega), iff_false_intro (by omega), iff_false_intro (by omega), iff_false_intro (by omega), iff_false_intro (by omega), iff_true_intro (by omega), iff_false_intro (by omega), iff_false_intro (by omega), iff_false_intro (by omega), iff_false_intro (by omega)⟩
theorem cc {k : Nat} : (((k + 1 : Nat) : Int) = 0 ↔ False) := iff_false_intro (by omega)
/-- what both say -/
def isDeed (n : Int) : D → Bool → Bool → Bool → Bool
  | .tuple [_], tk, _, _ => tk
  | .tuple [_, g], _, _, mov => inB g 0 (n - 1) && mov
  | .tuple [_, g, l], _, ask, _ => inB g 0 (n - 1) && (ask && (isN l || inB l 0 9))
  | _, _, _, _ => false
theorem get2_ok {w : Str} {x : D} {q : R → Prop} : OX (dGet2 (.dict sizes) (.str w) x) q ↔ q (.v ((lookT sizes w).getD x)) := OX_some
theorem d_00 {n : Int} {w : Str} (W : WF w true false false 1) : OX (D_is_deed [.int n, .tuple [.str w]]) (fun r => r = .v (.bool (true))) ∧ OX (D_L_is_deed [.int n, .tuple [.str w]]) fun r => r = .v (.bool (true)) := by
  refine ⟨OX.defF rfl ?_, OX.defF rfl ?_⟩
  · simp only [F_is_deed, OX_some, OX_map, OX_fzf, OX_eV, OX_eK, OX_e1, OX_e2, OX_e3, OX_tb, OX_tru, OX_ite, OX_tand, OX_tor, OX_tnot, OX_eand, OX_eor, OX_enot, OX_eif, OX_a0, OX_aC, OX_etup, OX_elst, OX_eC, OX_eF, OX_eM, OX_sNil, OX_sBk, OX_sCt, OX_sRetN, OX_sq, OX_sIf, OX_sRet, OX_sX, OX_sV, OX_sO, OX_sP, OX_sU, OX_tgn, OX_tgt, OX_sSt, OX_eMM, OX_append, OX_eIs, OX_sFor, OX_sWh, OX_eLc, OX_iR1, OX_iR2, OX_iL, OX_iT, OX_oN, OX_oS, OX_eSl, OX_pE0, OX_pE, OX_eDk, OX_eGet2, OX_eDn, OX_eD0, OX_iI, OX_iB, OX_neg, OX_dEq, OX_dNe, OX_dIs, OX_dIsNot, OX_dIn, OX_dNotIn, OX_inL, OX_inT, OX_catT, OX_catL, OX_ixT, OX_ixL, OX_ixS, OX_slT, OX_slL, OX_lenL, OX_lenT, OX_lenS, OX_max2, OX_min2, OX_intI, OX_intB, OX_tupL, OX_tupT, OX_listL, OX_listT, OX_all, OX_any, OX_strT, OX_truB, OX_truI, OX_truL, OX_truT, OX_truN, OX_rtR_s, OX_rtM_s, frz_v, frz_n, frz_s, toD_lst, toD_dic, toD_dk, dr_v, dr_n, dr_s, ownD_own, vals_nil, vals_v, drs_nil, drs_c, svR_v, svR_own, svR_al, boolR_b, argM_s, ownM_own, slotR_s, ownL_own, valR_v, newR_n, two_2, intD_i, int1_i, int2_i, listD_l, tupD_t, eqD_ii, eqD_ss, eqD_bb, rtR_v, rtR_n, rtM_v, rtM_n, atI_0, atI_1, atI_2, atI_3, atI_4, ixN_0, ixN_1, ixN_2, setAllE, sizeLine_eq, Option.bind_some, Option.map_some, List.getElem?_cons_zero, List.getElem?_cons_succ, List.getElem?_nil, List.set_cons_zero, List.set_cons_succ, List.map_cons, List.map_nil, List.cons_append, List.nil_append, List.append_nil, List.length_cons, List.length_nil, List.replicate_succ, List.replicate_zero, Bool.not_true, Bool.not_false, Bool.false_eq_true, decide_true, decide_false, Nat.reduceAdd, Nat.reduceSub, Nat.reduceEqDiff, Nat.reduceLT, Nat.reduceLeDiff, ↓reduceIte, Int.reduceLT, Int.reduceLE, Int.reduceAdd, Int.reduceSub, Int.reduceMul, Int.reduceNeg, Int.reduceToNat, Int.reduceMod, Int.reduceEq, Int.reducePow, Nat.reducePow, decide_eq_true_eq, decide_eq_false_iff_not, eq_self, ne_eq, not_true_eq_false, not_false_eq_true, and_true, true_and, and_false, false_and, and_self, or_true, true_or, or_false, false_or, isT_tt, isT_ss, W.t, W.a, W.m, ca, cb]
    try
      refine between_ok.imp fun r e => ?_
      subst e
      cases hb : inB x 0 (n - 1) <;> simp only [OX_some, OX_map, OX_fzf, OX_eV, OX_eK, OX_e1, OX_e2, OX_e3, OX_tb, OX_tru, OX_ite, OX_tand, OX_tor, OX_tnot, OX_eand, OX_eor, OX_enot, OX_eif, OX_a0, OX_aC, OX_etup, OX_elst, OX_eC, OX_eF, OX_eM, OX_sNil, OX_sBk, OX_sCt, OX_sRetN, OX_sq, OX_sIf, OX_sRet, OX_sX, OX_sV, OX_sO, OX_sP, OX_sU, OX_tgn, OX_tgt, OX_sSt, OX_eMM, OX_append, OX_eIs, OX_sFor, OX_sWh, OX_eLc, OX_iR1, OX_iR2, OX_iL, OX_iT, OX_oN, OX_oS, OX_eSl, OX_pE0, OX_pE, OX_eDk, OX_eGet2, OX_eDn, OX_eD0, OX_iI, OX_iB, OX_neg, OX_dEq, OX_dNe, OX_dIs, OX_dIsNot, OX_dIn, OX_dNotIn, OX_inL, OX_inT, OX_catT, OX_catL, OX_ixT, OX_ixL, OX_ixS, OX_slT, OX_slL, OX_lenL, OX_lenT, OX_lenS, OX_max2, OX_min2, OX_intI, OX_intB, OX_tupL, OX_tupT, OX_listL, OX_listT, OX_all, OX_any, OX_strT, OX_truB, OX_truI, OX_truL, OX_truT, OX_truN, OX_rtR_s, OX_rtM_s, frz_v, frz_n, frz_s, toD_lst, toD_dic, toD_dk, dr_v, dr_n, dr_s, ownD_own, vals_nil, vals_v, drs_nil, drs_c, svR_v, svR_own, svR_al, boolR_b, argM_s, ownM_own, slotR_s, ownL_own, valR_v, newR_n, two_2, intD_i, int1_i, int2_i, listD_l, tupD_t, eqD_ii, eqD_ss, eqD_bb, rtR_v, rtR_n, rtM_v, rtM_n, atI_0, atI_1, atI_2, atI_3, atI_4, ixN_0, ixN_1, ixN_2, setAllE, sizeLine_eq, Option.bind_some, Option.map_some, List.getElem?_cons_zero, List.getElem?_cons_succ, List.getElem?_nil, List.set_cons_zero, List.set_cons_succ, List.map_cons, List.map_nil, List.cons_append, List.nil_append, List.append_nil, List.length_cons, List.length_nil, List.replicate_succ, List.replicate_zero, Bool.not_true, Bool.not_false, Bool.false_eq_true, decide_true, decide_false, Nat.reduceAdd, Nat.reduceSub, Nat.reduceEqDiff, Nat.reduceLT, Nat.reduceLeDiff, ↓reduceIte, Int.reduceLT, Int.reduceLE, Int.reduceAdd, Int.reduceSub, Int.reduceMul, Int.reduceNeg, Int.reduceToNat, Int.reduceMod, Int.reduceEq, Int.reducePow, Nat.reducePow, decide_eq_true_eq, decide_eq_false_iff_not, eq_self, ne_eq, not_true_eq_false, not_false_eq_true, and_true, true_and, and_false, false_and, and_self, or_true, true_or, or_false, false_or, isT_tt, isT_ss, W.t, W.a, W.m, ca, cb, hb, Bool.true_and, Bool.false_and]
    try
      cases hy : isN y <;> simp only [OX_some, OX_map, OX_fzf, OX_eV, OX_eK, OX_e1, OX_e2, OX_e3, OX_tb, OX_tru, OX_ite, OX_tand, OX_tor, OX_tnot, OX_eand, OX_eor, OX_enot, OX_eif, OX_a0, OX_aC, OX_etup, OX_elst, OX_eC, OX_eF, OX_eM, OX_sNil, OX_sBk, OX_sCt, OX_sRetN, OX_sq, OX_sIf, OX_sRet, OX_sX, OX_sV, OX_sO, OX_sP, OX_sU, OX_tgn, OX_tgt, OX_sSt, OX_eMM, OX_append, OX_eIs, OX_sFor, OX_sWh, OX_eLc, OX_iR1, OX_iR2, OX_iL, OX_iT, OX_oN, OX_oS, OX_eSl, OX_pE0, OX_pE, OX_eDk, OX_eGet2, OX_eDn, OX_eD0, OX_iI, OX_iB, OX_neg, OX_dEq, OX_dNe, OX_dIs, OX_dIsNot, OX_dIn, OX_dNotIn, OX_inL, OX_inT, OX_catT, OX_catL, OX_ixT, OX_ixL, OX_ixS, OX_slT, OX_slL, OX_lenL, OX_lenT, OX_lenS, OX_max2, OX_min2, OX_intI, OX_intB, OX_tupL, OX_tupT, OX_listL, OX_listT, OX_all, OX_any, OX_strT, OX_truB, OX_truI, OX_truL, OX_truT, OX_truN, OX_rtR_s, OX_rtM_s, frz_v, frz_n, frz_s, toD_lst, toD_dic, toD_dk, dr_v, dr_n, dr_s, ownD_own, vals_nil, vals_v, drs_nil, drs_c, svR_v, svR_own, svR_al, boolR_b, argM_s, ownM_own, slotR_s, ownL_own, valR_v, newR_n, two_2, intD_i, int1_i, int2_i, listD_l, tupD_t, eqD_ii, eqD_ss, eqD_bb, rtR_v, rtR_n, rtM_v, rtM_n, atI_0, atI_1, atI_2, atI_3, atI_4, ixN_0, ixN_1, ixN_2, setAllE, sizeLine_eq, Option.bind_some, Option.map_some, List.getElem?_cons_zero, List.getElem?_cons_succ, List.getElem?_nil, List.set_cons_zero, List.set_cons_succ, List.map_cons, List.map_nil, List.cons_append, List.nil_append, List.append_nil, List.length_cons, List.length_nil, List.replicate_succ, List.replicate_zero, Bool.not_true, Bool.not_false, Bool.false_eq_true, decide_true, decide_false, Nat.reduceAdd, Nat.reduceSub, Nat.reduceEqDiff, Nat.reduceLT, Nat.reduceLeDiff, ↓reduceIte, Int.reduceLT, Int.reduceLE, Int.reduceAdd, Int.reduceSub, Int.reduceMul, Int.reduceNeg, Int.reduceToNat, Int.reduceMod, Int.reduceEq, Int.reducePow, Nat.reducePow, decide_eq_true_eq, decide_eq_false_iff_not, eq_self, ne_eq, not_true_eq_false, not_false_eq_true, and_true, true_and, and_false, false_and, and_self, or_true, true_or, or_false, false_or, isT_tt, isT_ss, W.t, W.a, W.m, ca, cb, hy, Bool.true_or, Bool.false_or]
      refine between_ok.imp fun r e => ?_
      subst e
      first | rfl | simp only [OX_some, OX_map, OX_fzf, OX_eV, OX_eK, OX_e1, OX_e2, OX_e3, OX_tb, OX_tru, OX_ite, OX_tand, OX_tor, OX_tnot, OX_eand, OX_eor, OX_enot, OX_eif, OX_a0, OX_aC, OX_etup, OX_elst, OX_eC, OX_eF, OX_eM, OX_sNil, OX_sBk, OX_sCt, OX_sRetN, OX_sq, OX_sIf, OX_sRet, OX_sX, OX_sV, OX_sO, OX_sP, OX_sU, OX_tgn, OX_tgt, OX_sSt, OX_eMM, OX_append, OX_eIs, OX_sFor, OX_sWh, OX_eLc, OX_iR1, OX_iR2, OX_iL, OX_iT, OX_oN, OX_oS, OX_eSl, OX_pE0, OX_pE, OX_eDk, OX_eGet2, OX_eDn, OX_eD0, OX_iI, OX_iB, OX_neg, OX_dEq, OX_dNe, OX_dIs, OX_dIsNot, OX_dIn, OX_dNotIn, OX_inL, OX_inT, OX_catT, OX_catL, OX_ixT, OX_ixL, OX_ixS, OX_slT, OX_slL, OX_lenL, OX_lenT, OX_lenS, OX_max2, OX_min2, OX_intI, OX_intB, OX_tupL, OX_tupT, OX_listL, OX_listT, OX_all, OX_any, OX_strT, OX_truB, OX_truI, OX_truL, OX_truT, OX_truN, OX_rtR_s, OX_rtM_s, frz_v, frz_n, frz_s, toD_lst, toD_dic, toD_dk, dr_v, dr_n, dr_s, ownD_own, vals_nil, vals_v, drs_nil, drs_c, svR_v, svR_own, svR_al, boolR_b, argM_s, ownM_own, slotR_s, ownL_own, valR_v, newR_n, two_2, intD_i, int1_i, int2_i, listD_l, tupD_t, eqD_ii, eqD_ss, eqD_bb, rtR_v, rtR_n, rtM_v, rtM_n, atI_0, atI_1, atI_2, atI_3, atI_4, ixN_0, ixN_1, ixN_2, setAllE, sizeLine_eq, Option.bind_some, Option.map_some, List.getElem?_cons_zero, List.getElem?_cons_succ, List.getElem?_nil, List.set_cons_zero, List.set_cons_succ, List.map_cons, List.map_nil, List.cons_append, List.nil_append, List.append_nil, List.length_cons, List.length_nil, List.replicate_succ, List.replicate_zero, Bool.not_true, Bool.not_false, Bool.false_eq_true, decide_true, decide_false, Nat.reduceAdd, Nat.reduceSub, Nat.reduceEqDiff, Nat.reduceLT, Nat.reduceLeDiff, ↓reduceIte, Int.reduceLT, Int.reduceLE, Int.reduceAdd, Int.reduceSub, Int.reduceMul, Int.reduceNeg, Int.reduceToNat, Int.reduceMod, Int.reduceEq, Int.reducePow, Nat.reducePow, decide_eq_true_eq, decide_eq_false_iff_not, eq_self, ne_eq, not_true_eq_false, not_false_eq_true, and_true, true_and, and_false, false_and, and_self, or_true, true_or, or_false, false_or, Bool.true_and, Bool.false_or]
  · simp only [F_L_is_deed, OX_some, OX_map, OX_fzf, OX_eV, OX_eK, OX_e1, OX_e2, OX_e3, OX_tb, OX_tru, OX_ite, OX_tand, OX_tor, OX_tnot, OX_eand, OX_eor, OX_enot, OX_eif, OX_a0, OX_aC, OX_etup, OX_elst, OX_eC, OX_eF, OX_eM, OX_sNil, OX_sBk, OX_sCt, OX_sRetN, OX_sq, OX_sIf, OX_sRet, OX_sX, OX_sV, OX_sO, OX_sP, OX_sU, OX_tgn, OX_tgt, OX_sSt, OX_eMM, OX_append, OX_eIs, OX_sFor, OX_sWh, OX_eLc, OX_iR1, OX_iR2, OX_iL, OX_iT, OX_oN, OX_oS, OX_eSl, OX_pE0, OX_pE, OX_eDk, OX_eGet2, OX_eDn, OX_eD0, OX_iI, OX_iB, OX_neg, OX_dEq, OX_dNe, OX_dIs, OX_dIsNot, OX_dIn, OX_dNotIn, OX_inL, OX_inT, OX_catT, OX_catL, OX_ixT, OX_ixL, OX_ixS, OX_slT, OX_slL, OX_lenL, OX_lenT, OX_lenS, OX_max2, OX_min2, OX_intI, OX_intB, OX_tupL, OX_tupT, OX_listL, OX_listT, OX_all, OX_any, OX_strT, OX_truB, OX_truI, OX_truL, OX_truT, OX_truN, OX_rtR_s, OX_rtM_s, frz_v, frz_n, frz_s, toD_lst, toD_dic, toD_dk, dr_v, dr_n, dr_s, ownD_own, vals_nil, vals_v, drs_nil, drs_c, svR_v, svR_own, svR_al, boolR_b, argM_s, ownM_own, slotR_s, ownL_own, valR_v, newR_n, two_2, intD_i, int1_i, int2_i, listD_l, tupD_t, eqD_ii, eqD_ss, eqD_bb, rtR_v, rtR_n, rtM_v, rtM_n, atI_0, atI_1, atI_2, atI_3, atI_4, ixN_0, ixN_1, ixN_2, setAllE, sizeLine_eq, Option.bind_some, Option.map_some, List.getElem?_cons_zero, List.getElem?_cons_succ, List.getElem?_nil, List.set_cons_zero, List.set_cons_succ, List.map_cons, List.map_nil, List.cons_append, List.nil_append, List.append_nil, List.length_cons, List.length_nil, List.replicate_succ, List.replicate_zero, Bool.not_true, Bool.not_false, Bool.false_eq_true, decide_true, decide_false, Nat.reduceAdd, Nat.reduceSub, Nat.reduceEqDiff, Nat.reduceLT, Nat.reduceLeDiff, ↓reduceIte, Int.reduceLT, Int.reduceLE, Int.reduceAdd, Int.reduceSub, Int.reduceMul, Int.reduceNeg, Int.reduceToNat, Int.reduceMod, Int.reduceEq, Int.reducePow, Nat.reducePow, decide_eq_true_eq, decide_eq_false_iff_not, eq_self, ne_eq, not_true_eq_false, not_false_eq_true, and_true, true_and, and_false, false_and, and_self, or_true, true_or, or_false, false_or, isT_tt, isT_ss, edk7, sizes_td, get2_ok, W.z, ca, cb]
    try
      refine whole_ok.imp fun r e => ?_
      subst e
      cases hb : inB x 0 (n - 1) <;> simp only [OX_some, OX_map, OX_fzf, OX_eV, OX_eK, OX_e1, OX_e2, OX_e3, OX_tb, OX_tru, OX_ite, OX_tand, OX_tor, OX_tnot, OX_eand, OX_eor, OX_enot, OX_eif, OX_a0, OX_aC, OX_etup, OX_elst, OX_eC, OX_eF, OX_eM, OX_sNil, OX_sBk, OX_sCt, OX_sRetN, OX_sq, OX_sIf, OX_sRet, OX_sX, OX_sV, OX_sO, OX_sP, OX_sU, OX_tgn, OX_tgt, OX_sSt, OX_eMM, OX_append, OX_eIs, OX_sFor, OX_sWh, OX_eLc, OX_iR1, OX_iR2, OX_iL, OX_iT, OX_oN, OX_oS, OX_eSl, OX_pE0, OX_pE, OX_eDk, OX_eGet2, OX_eDn, OX_eD0, OX_iI, OX_iB, OX_neg, OX_dEq, OX_dNe, OX_dIs, OX_dIsNot, OX_dIn, OX_dNotIn, OX_inL, OX_inT, OX_catT, OX_catL, OX_ixT, OX_ixL, OX_ixS, OX_slT, OX_slL, OX_lenL, OX_lenT, OX_lenS, OX_max2, OX_min2, OX_intI, OX_intB, OX_tupL, OX_tupT, OX_listL, OX_listT, OX_all, OX_any, OX_strT, OX_truB, OX_truI, OX_truL, OX_truT, OX_truN, OX_rtR_s, OX_rtM_s, frz_v, frz_n, frz_s, toD_lst, toD_dic, toD_dk, dr_v, dr_n, dr_s, ownD_own, vals_nil, vals_v, drs_nil, drs_c, svR_v, svR_own, svR_al, boolR_b, argM_s, ownM_own, slotR_s, ownL_own, valR_v, newR_n, two_2, intD_i, int1_i, int2_i, listD_l, tupD_t, eqD_ii, eqD_ss, eqD_bb, rtR_v, rtR_n, rtM_v, rtM_n, atI_0, atI_1, atI_2, atI_3, atI_4, ixN_0, ixN_1, ixN_2, setAllE, sizeLine_eq, Option.bind_some, Option.map_some, List.getElem?_cons_zero, List.getElem?_cons_succ, List.getElem?_nil, List.set_cons_zero, List.set_cons_succ, List.map_cons, List.map_nil, List.cons_append, List.nil_append, List.append_nil, List.length_cons, List.length_nil, List.replicate_succ, List.replicate_zero, Bool.not_true, Bool.not_false, Bool.false_eq_true, decide_true, decide_false, Nat.reduceAdd, Nat.reduceSub, Nat.reduceEqDiff, Nat.reduceLT, Nat.reduceLeDiff, ↓reduceIte, Int.reduceLT, Int.reduceLE, Int.reduceAdd, Int.reduceSub, Int.reduceMul, Int.reduceNeg, Int.reduceToNat, Int.reduceMod, Int.reduceEq, Int.reducePow, Nat.reducePow, decide_eq_true_eq, decide_eq_false_iff_not, eq_self, ne_eq, not_true_eq_false, not_false_eq_true, and_true, true_and, and_false, false_and, and_self, or_true, true_or, or_false, false_or, isT_tt, isT_ss, ca, cb, hb, Bool.true_and, Bool.false_and]
    try
      cases hy : isN y <;> simp only [OX_some, OX_map, OX_fzf, OX_eV, OX_eK, OX_e1, OX_e2, OX_e3, OX_tb, OX_tru, OX_ite, OX_tand, OX_tor, OX_tnot, OX_eand, OX_eor, OX_enot, OX_eif, OX_a0, OX_aC, OX_etup, OX_elst, OX_eC, OX_eF, OX_eM, OX_sNil, OX_sBk, OX_sCt, OX_sRetN, OX_sq, OX_sIf, OX_sRet, OX_sX, OX_sV, OX_sO, OX_sP, OX_sU, OX_tgn, OX_tgt, OX_sSt, OX_eMM, OX_append, OX_eIs, OX_sFor, OX_sWh, OX_eLc, OX_iR1, OX_iR2, OX_iL, OX_iT, OX_oN, OX_oS, OX_eSl, OX_pE0, OX_pE, OX_eDk, OX_eGet2, OX_eDn, OX_eD0, OX_iI, OX_iB, OX_neg, OX_dEq, OX_dNe, OX_dIs, OX_dIsNot, OX_dIn, OX_dNotIn, OX_inL, OX_inT, OX_catT, OX_catL, OX_ixT, OX_ixL, OX_ixS, OX_slT, OX_slL, OX_lenL, OX_lenT, OX_lenS, OX_max2, OX_min2, OX_intI, OX_intB, OX_tupL, OX_tupT, OX_listL, OX_listT, OX_all, OX_any, OX_strT, OX_truB, OX_truI, OX_truL, OX_truT, OX_truN, OX_rtR_s, OX_rtM_s, frz_v, frz_n, frz_s, toD_lst, toD_dic, toD_dk, dr_v, dr_n, dr_s, ownD_own, vals_nil, vals_v, drs_nil, drs_c, svR_v, svR_own, svR_al, boolR_b, argM_s, ownM_own, slotR_s, ownL_own, valR_v, newR_n, two_2, intD_i, int1_i, int2_i, listD_l, tupD_t, eqD_ii, eqD_ss, eqD_bb, rtR_v, rtR_n, rtM_v, rtM_n, atI_0, atI_1, atI_2, atI_3, atI_4, ixN_0, ixN_1, ixN_2, setAllE, sizeLine_eq, Option.bind_some, Option.map_some, List.getElem?_cons_zero, List.getElem?_cons_succ, List.getElem?_nil, List.set_cons_zero, List.set_cons_succ, List.map_cons, List.map_nil, List.cons_append, List.nil_append, List.append_nil, List.length_cons, List.length_nil, List.replicate_succ, List.replicate_zero, Bool.not_true, Bool.not_false, Bool.false_eq_true, decide_true, decide_false, Nat.reduceAdd, Nat.reduceSub, Nat.reduceEqDiff, Nat.reduceLT, Nat.reduceLeDiff, ↓reduceIte, Int.reduceLT, Int.reduceLE, Int.reduceAdd, Int.reduceSub, Int.reduceMul, Int.reduceNeg, Int.reduceToNat, Int.reduceMod, Int.reduceEq, Int.reducePow, Nat.reducePow, decide_eq_true_eq, decide_eq_false_iff_not, eq_self, ne_eq, not_true_eq_false, not_false_eq_true, and_true, true_and, and_false, false_and, and_self, or_true, true_or, or_false, false_or, isT_tt, isT_ss, ca, cb, hy, Bool.true_or, Bool.false_or]
      refine whole_ok.imp fun r e => ?_
      subst e
      first | rfl | simp only [OX_some, OX_map, OX_fzf, OX_eV, OX_eK, OX_e1, OX_e2, OX_e3, OX_tb, OX_tru, OX_ite, OX_tand, OX_tor, OX_tnot, OX_eand, OX_eor, OX_enot, OX_eif, OX_a0, OX_aC, OX_etup, OX_elst, OX_eC, OX_eF, OX_eM, OX_sNil, OX_sBk, OX_sCt, OX_sRetN, OX_sq, OX_sIf, OX_sRet, OX_sX, OX_sV, OX_sO, OX_sP, OX_sU, OX_tgn, OX_tgt, OX_sSt, OX_eMM, OX_append, OX_eIs, OX_sFor, OX_sWh, OX_eLc, OX_iR1, OX_iR2, OX_iL, OX_iT, OX_oN, OX_oS, OX_eSl, OX_pE0, OX_pE, OX_eDk, OX_eGet2, OX_eDn, OX_eD0, OX_iI, OX_iB, OX_neg, OX_dEq, OX_dNe, OX_dIs, OX_dIsNot, OX_dIn, OX_dNotIn, OX_inL, OX_inT, OX_catT, OX_catL, OX_ixT, OX_ixL, OX_ixS, OX_slT, OX_slL, OX_lenL, OX_lenT, OX_lenS, OX_max2, OX_min2, OX_intI, OX_intB, OX_tupL, OX_tupT, OX_listL, OX_listT, OX_all, OX_any, OX_strT, OX_truB, OX_truI, OX_truL, OX_truT, OX_truN, OX_rtR_s, OX_rtM_s, frz_v, frz_n, frz_s, toD_lst, toD_dic, toD_dk, dr_v, dr_n, dr_s, ownD_own, vals_nil, vals_v, drs_nil, drs_c, svR_v, svR_own, svR_al, boolR_b, argM_s, ownM_own, slotR_s, ownL_own, valR_v, newR_n, two_2, intD_i, int1_i, int2_i, listD_l, tupD_t, eqD_ii, eqD_ss, eqD_bb, rtR_v, rtR_n, rtM_v, rtM_n, atI_0, atI_1, atI_2, atI_3, atI_4, ixN_0, ixN_1, ixN_2, setAllE, sizeLine_eq, Option.bind_some, Option.map_some, List.getElem?_cons_zero, List.getElem?_cons_succ, List.getElem?_nil, List.set_cons_zero, List.set_cons_succ, List.map_cons, List.map_nil, List.cons_append, List.nil_append, List.append_nil, List.length_cons, List.length_nil, List.replicate_succ, List.replicate_zero, Bool.not_true, Bool.not_false, Bool.false_eq_true, decide_true, decide_false, Nat.reduceAdd, Nat.reduceSub, Nat.reduceEqDiff, Nat.reduceLT, Nat.reduceLeDiff, ↓reduceIte, Int.reduceLT, Int.reduceLE, Int.reduceAdd, Int.reduceSub, Int.reduceMul, Int.reduceNeg, Int.reduceToNat, Int.reduceMod, Int.reduceEq, Int.reducePow, Nat.reducePow, decide_eq_true_eq, decide_eq_false_iff_not, eq_self, ne_eq, not_true_eq_false, not_false_eq_true, and_true, true_and, and_false, false_and, and_self, or_true, true_or, or_false, false_or, Bool.true_and, Bool.false_or]
theorem d_01 {n : Int} {w : Str} {x : D} (W : WF w true false false 1) : OX (D_is_deed [.int n, .tuple [.str w, x]]) (fun r => r = .v (.bool (false))) ∧ OX (D_L_is_deed [.int n, .tuple [.str w, x]]) fun r => r = .v (.bool (false)) := by
  refine ⟨OX.defF rfl ?_, OX.defF rfl ?_⟩
  · simp only [F_is_deed, OX_some, OX_map, OX_fzf, OX_eV, OX_eK, OX_e1, OX_e2, OX_e3, OX_tb, OX_tru, OX_ite, OX_tand, OX_tor, OX_tnot, OX_eand, OX_eor, OX_enot, OX_eif, OX_a0, OX_aC, OX_etup, OX_elst, OX_eC, OX_eF, OX_eM, OX_sNil, OX_sBk, OX_sCt, OX_sRetN, OX_sq, OX_sIf, OX_sRet, OX_sX, OX_sV, OX_sO, OX_sP, OX_sU, OX_tgn, OX_tgt, OX_sSt, OX_eMM, OX_append, OX_eIs, OX_sFor, OX_sWh, OX_eLc, OX_iR1, OX_iR2, OX_iL, OX_iT, OX_oN, OX_oS, OX_eSl, OX_pE0, OX_pE, OX_eDk, OX_eGet2, OX_eDn, OX_eD0, OX_iI, OX_iB, OX_neg, OX_dEq, OX_dNe, OX_dIs, OX_dIsNot, OX_dIn, OX_dNotIn, OX_inL, OX_inT, OX_catT, OX_catL, OX_ixT, OX_ixL, OX_ixS, OX_slT, OX_slL, OX_lenL, OX_lenT, OX_lenS, OX_max2, OX_min2, OX_intI, OX_intB, OX_tupL, OX_tupT, OX_listL, OX_listT, OX_all, OX_any, OX_strT, OX_truB, OX_truI, OX_truL, OX_truT, OX_truN, OX_rtR_s, OX_rtM_s, frz_v, frz_n, frz_s, toD_lst, toD_dic, toD_dk, dr_v, dr_n, dr_s, ownD_own, vals_nil, vals_v, drs_nil, drs_c, svR_v, svR_own, svR_al, boolR_b, argM_s, ownM_own, slotR_s, ownL_own, valR_v, newR_n, two_2, intD_i, int1_i, int2_i, listD_l, tupD_t, eqD_ii, eqD_ss, eqD_bb, rtR_v, rtR_n, rtM_v, rtM_n, atI_0, atI_1, atI_2, atI_3, atI_4, ixN_0, ixN_1, ixN_2, setAllE, sizeLine_eq, Option.bind_some, Option.map_some, List.getElem?_cons_zero, List.getElem?_cons_succ, List.getElem?_nil, List.set_cons_zero, List.set_cons_succ, List.map_cons, List.map_nil, List.cons_append, List.nil_append, List.append_nil, List.length_cons, List.length_nil, List.replicate_succ, List.replicate_zero, Bool.not_true, Bool.not_false, Bool.false_eq_true, decide_true, decide_false, Nat.reduceAdd, Nat.reduceSub, Nat.reduceEqDiff, Nat.reduceLT, Nat.reduceLeDiff, ↓reduceIte, Int.reduceLT, Int.reduceLE, Int.reduceAdd, Int.reduceSub, Int.reduceMul, Int.reduceNeg, Int.reduceToNat, Int.reduceMod, Int.reduceEq, Int.reducePow, Nat.reducePow, decide_eq_true_eq, decide_eq_false_iff_not, eq_self, ne_eq, not_true_eq_false, not_false_eq_true, and_true, true_and, and_false, false_and, and_self, or_true, true_or, or_false, false_or, isT_tt, isT_ss, W.t, W.a, W.m, ca, cb]
    try
      refine between_ok.imp fun r e => ?_
      subst e
      cases hb : inB x 0 (n - 1) <;> simp only [OX_some, OX_map, OX_fzf, OX_eV, OX_eK, OX_e1, OX_e2, OX_e3, OX_tb, OX_tru, OX_ite, OX_tand, OX_tor, OX_tnot, OX_eand, OX_eor, OX_enot, OX_eif, OX_a0, OX_aC, OX_etup, OX_elst, OX_eC, OX_eF, OX_eM, OX_sNil, OX_sBk, OX_sCt, OX_sRetN, OX_sq, OX_sIf, OX_sRet, OX_sX, OX_sV, OX_sO, OX_sP, OX_sU, OX_tgn, OX_tgt, OX_sSt, OX_eMM, OX_append, OX_eIs, OX_sFor, OX_sWh, OX_eLc, OX_iR1, OX_iR2, OX_iL, OX_iT, OX_oN, OX_oS, OX_eSl, OX_pE0, OX_pE, OX_eDk, OX_eGet2, OX_eDn, OX_eD0, OX_iI, OX_iB, OX_neg, OX_dEq, OX_dNe, OX_dIs, OX_dIsNot, OX_dIn, OX_dNotIn, OX_inL, OX_inT, OX_catT, OX_catL, OX_ixT, OX_ixL, OX_ixS, OX_slT, OX_slL, OX_lenL, OX_lenT, OX_lenS, OX_max2, OX_min2, OX_intI, OX_intB, OX_tupL, OX_tupT, OX_listL, OX_listT, OX_all, OX_any, OX_strT, OX_truB, OX_truI, OX_truL, OX_truT, OX_truN, OX_rtR_s, OX_rtM_s, frz_v, frz_n, frz_s, toD_lst, toD_dic, toD_dk, dr_v, dr_n, dr_s, ownD_own, vals_nil, vals_v, drs_nil, drs_c, svR_v, svR_own, svR_al, boolR_b, argM_s, ownM_own, slotR_s, ownL_own, valR_v, newR_n, two_2, intD_i, int1_i, int2_i, listD_l, tupD_t, eqD_ii, eqD_ss, eqD_bb, rtR_v, rtR_n, rtM_v, rtM_n, atI_0, atI_1, atI_2, atI_3, atI_4, ixN_0, ixN_1, ixN_2, setAllE, sizeLine_eq, Option.bind_some, Option.map_some, List.getElem?_cons_zero, List.getElem?_cons_succ, List.getElem?_nil, List.set_cons_zero, List.set_cons_succ, List.map_cons, List.map_nil, List.cons_append, List.nil_append, List.append_nil, List.length_cons, List.length_nil, List.replicate_succ, List.replicate_zero, Bool.not_true, Bool.not_false, Bool.false_eq_true, decide_true, decide_false, Nat.reduceAdd, Nat.reduceSub, Nat.reduceEqDiff, Nat.reduceLT, Nat.reduceLeDiff, ↓reduceIte, Int.reduceLT, Int.reduceLE, Int.reduceAdd, Int.reduceSub, Int.reduceMul, Int.reduceNeg, Int.reduceToNat, Int.reduceMod, Int.reduceEq, Int.reducePow, Nat.reducePow, decide_eq_true_eq, decide_eq_false_iff_not, eq_self, ne_eq, not_true_eq_false, not_false_eq_true, and_true, true_and, and_false, false_and, and_self, or_true, true_or, or_false, false_or, isT_tt, isT_ss, W.t, W.a, W.m, ca, cb, hb, Bool.true_and, Bool.false_and]
    try
      cases hy : isN y <;> simp only [OX_some, OX_map, OX_fzf, OX_eV, OX_eK, OX_e1, OX_e2, OX_e3, OX_tb, OX_tru, OX_ite, OX_tand, OX_tor, OX_tnot, OX_eand, OX_eor, OX_enot, OX_eif, OX_a0, OX_aC, OX_etup, OX_elst, OX_eC, OX_eF, OX_eM, OX_sNil, OX_sBk, OX_sCt, OX_sRetN, OX_sq, OX_sIf, OX_sRet, OX_sX, OX_sV, OX_sO, OX_sP, OX_sU, OX_tgn, OX_tgt, OX_sSt, OX_eMM, OX_append, OX_eIs, OX_sFor, OX_sWh, OX_eLc, OX_iR1, OX_iR2, OX_iL, OX_iT, OX_oN, OX_oS, OX_eSl, OX_pE0, OX_pE, OX_eDk, OX_eGet2, OX_eDn, OX_eD0, OX_iI, OX_iB, OX_neg, OX_dEq, OX_dNe, OX_dIs, OX_dIsNot, OX_dIn, OX_dNotIn, OX_inL, OX_inT, OX_catT, OX_catL, OX_ixT, OX_ixL, OX_ixS, OX_slT, OX_slL, OX_lenL, OX_lenT, OX_lenS, OX_max2, OX_min2, OX_intI, OX_intB, OX_tupL, OX_tupT, OX_listL, OX_listT, OX_all, OX_any, OX_strT, OX_truB, OX_truI, OX_truL, OX_truT, OX_truN, OX_rtR_s, OX_rtM_s, frz_v, frz_n, frz_s, toD_lst, toD_dic, toD_dk, dr_v, dr_n, dr_s, ownD_own, vals_nil, vals_v, drs_nil, drs_c, svR_v, svR_own, svR_al, boolR_b, argM_s, ownM_own, slotR_s, ownL_own, valR_v, newR_n, two_2, intD_i, int1_i, int2_i, listD_l, tupD_t, eqD_ii, eqD_ss, eqD_bb, rtR_v, rtR_n, rtM_v, rtM_n, atI_0, atI_1, atI_2, atI_3, atI_4, ixN_0, ixN_1, ixN_2, setAllE, sizeLine_eq, Option.bind_some, Option.map_some, List.getElem?_cons_zero, List.getElem?_cons_succ, List.getElem?_nil, List.set_cons_zero, List.set_cons_succ, List.map_cons, List.map_nil, List.cons_append, List.nil_append, List.append_nil, List.length_cons, List.length_nil, List.replicate_succ, List.replicate_zero, Bool.not_true, Bool.not_false, Bool.false_eq_true, decide_true, decide_false, Nat.reduceAdd, Nat.reduceSub, Nat.reduceEqDiff, Nat.reduceLT, Nat.reduceLeDiff, ↓reduceIte, Int.reduceLT, Int.reduceLE, Int.reduceAdd, Int.reduceSub, Int.reduceMul, Int.reduceNeg, Int.reduceToNat, Int.reduceMod, Int.reduceEq, Int.reducePow, Nat.reducePow, decide_eq_true_eq, decide_eq_false_iff_not, eq_self, ne_eq, not_true_eq_false, not_false_eq_true, and_true, true_and, and_false, false_and, and_self, or_true, true_or, or_false, false_or, isT_tt, isT_ss, W.t, W.a, W.m, ca, cb, hy, Bool.true_or, Bool.false_or]
      refine between_ok.imp fun r e => ?_
      subst e
      first | rfl | simp only [OX_some, OX_map, OX_fzf, OX_eV, OX_eK, OX_e1, OX_e2, OX_e3, OX_tb, OX_tru, OX_ite, OX_tand, OX_tor, OX_tnot, OX_eand, OX_eor, OX_enot, OX_eif, OX_a0, OX_aC, OX_etup, OX_elst, OX_eC, OX_eF, OX_eM, OX_sNil, OX_sBk, OX_sCt, OX_sRetN, OX_sq, OX_sIf, OX_sRet, OX_sX, OX_sV, OX_sO, OX_sP, OX_sU, OX_tgn, OX_tgt, OX_sSt, OX_eMM, OX_append, OX_eIs, OX_sFor, OX_sWh, OX_eLc, OX_iR1, OX_iR2, OX_iL, OX_iT, OX_oN, OX_oS, OX_eSl, OX_pE0, OX_pE, OX_eDk, OX_eGet2, OX_eDn, OX_eD0, OX_iI, OX_iB, OX_neg, OX_dEq, OX_dNe, OX_dIs, OX_dIsNot, OX_dIn, OX_dNotIn, OX_inL, OX_inT, OX_catT, OX_catL, OX_ixT, OX_ixL, OX_ixS, OX_slT, OX_slL, OX_lenL, OX_lenT, OX_lenS, OX_max2, OX_min2, OX_intI, OX_intB, OX_tupL, OX_tupT, OX_listL, OX_listT, OX_all, OX_any, OX_strT, OX_truB, OX_truI, OX_truL, OX_truT, OX_truN, OX_rtR_s, OX_rtM_s, frz_v, frz_n, frz_s, toD_lst, toD_dic, toD_dk, dr_v, dr_n, dr_s, ownD_own, vals_nil, vals_v, drs_nil, drs_c, svR_v, svR_own, svR_al, boolR_b, argM_s, ownM_own, slotR_s, ownL_own, valR_v, newR_n, two_2, intD_i, int1_i, int2_i, listD_l, tupD_t, eqD_ii, eqD_ss, eqD_bb, rtR_v, rtR_n, rtM_v, rtM_n, atI_0, atI_1, atI_2, atI_3, atI_4, ixN_0, ixN_1, ixN_2, setAllE, sizeLine_eq, Option.bind_some, Option.map_some, List.getElem?_cons_zero, List.getElem?_cons_succ, List.getElem?_nil, List.set_cons_zero, List.set_cons_succ, List.map_cons, List.map_nil, List.cons_append, List.nil_append, List.append_nil, List.length_cons, List.length_nil, List.replicate_succ, List.replicate_zero, Bool.not_true, Bool.not_false, Bool.false_eq_true, decide_true, decide_false, Nat.reduceAdd, Nat.reduceSub, Nat.reduceEqDiff, Nat.reduceLT, Nat.reduceLeDiff, ↓reduceIte, Int.reduceLT, Int.reduceLE, Int.reduceAdd, Int.reduceSub, Int.reduceMul, Int.reduceNeg, Int.reduceToNat, Int.reduceMod, Int.reduceEq, Int.reducePow, Nat.reducePow, decide_eq_true_eq, decide_eq_false_iff_not, eq_self, ne_eq, not_true_eq_false, not_false_eq_true, and_true, true_and, and_false, false_and, and_self, or_true, true_or, or_false, false_or, Bool.true_and, Bool.false_or]
  · simp only [F_L_is_deed, OX_some, OX_map, OX_fzf, OX_eV, OX_eK, OX_e1, OX_e2, OX_e3, OX_tb, OX_tru, OX_ite, OX_tand, OX_tor, OX_tnot, OX_eand, OX_eor, OX_enot, OX_eif, OX_a0, OX_aC, OX_etup, OX_elst, OX_eC, OX_eF, OX_eM, OX_sNil, OX_sBk, OX_sCt, OX_sRetN, OX_sq, OX_sIf, OX_sRet, OX_sX, OX_sV, OX_sO, OX_sP, OX_sU, OX_tgn, OX_tgt, OX_sSt, OX_eMM, OX_append, OX_eIs, OX_sFor, OX_sWh, OX_eLc, OX_iR1, OX_iR2, OX_iL, OX_iT, OX_oN, OX_oS, OX_eSl, OX_pE0, OX_pE, OX_eDk, OX_eGet2, OX_eDn, OX_eD0, OX_iI, OX_iB, OX_neg, OX_dEq, OX_dNe, OX_dIs, OX_dIsNot, OX_dIn, OX_dNotIn, OX_inL, OX_inT, OX_catT, OX_catL, OX_ixT, OX_ixL, OX_ixS, OX_slT, OX_slL, OX_lenL, OX_lenT, OX_lenS, OX_max2, OX_min2, OX_intI, OX_intB, OX_tupL, OX_tupT, OX_listL, OX_listT, OX_all, OX_any, OX_strT, OX_truB, OX_truI, OX_truL, OX_truT, OX_truN, OX_rtR_s, OX_rtM_s, frz_v, frz_n, frz_s, toD_lst, toD_dic, toD_dk, dr_v, dr_n, dr_s, ownD_own, vals_nil, vals_v, drs_nil, drs_c, svR_v, svR_own, svR_al, boolR_b, argM_s, ownM_own, slotR_s, ownL_own, valR_v, newR_n, two_2, intD_i, int1_i, int2_i, listD_l, tupD_t, eqD_ii, eqD_ss, eqD_bb, rtR_v, rtR_n, rtM_v, rtM_n, atI_0, atI_1, atI_2, atI_3, atI_4, ixN_0, ixN_1, ixN_2, setAllE, sizeLine_eq, Option.bind_some, Option.map_some, List.getElem?_cons_zero, List.getElem?_cons_succ, List.getElem?_nil, List.set_cons_zero, List.set_cons_succ, List.map_cons, List.map_nil, List.cons_append, List.nil_append, List.append_nil, List.length_cons, List.length_nil, List.replicate_succ, List.replicate_zero, Bool.not_true, Bool.not_false, Bool.false_eq_true, decide_true, decide_false, Nat.reduceAdd, Nat.reduceSub, Nat.reduceEqDiff, Nat.reduceLT, Nat.reduceLeDiff, ↓reduceIte, Int.reduceLT, Int.reduceLE, Int.reduceAdd, Int.reduceSub, Int.reduceMul, Int.reduceNeg, Int.reduceToNat, Int.reduceMod, Int.reduceEq, Int.reducePow, Nat.reducePow, decide_eq_true_eq, decide_eq_false_iff_not, eq_self, ne_eq, not_true_eq_false, not_false_eq_true, and_true, true_and, and_false, false_and, and_self, or_true, true_or, or_false, false_or, isT_tt, isT_ss, edk7, sizes_td, get2_ok, W.z, ca, cb]
    try
      refine whole_ok.imp fun r e => ?_
      subst e
      cases hb : inB x 0 (n - 1) <;> simp only [OX_some, OX_map, OX_fzf, OX_eV, OX_eK, OX_e1, OX_e2, OX_e3, OX_tb, OX_tru, OX_ite, OX_tand, OX_tor, OX_tnot, OX_eand, OX_eor, OX_enot, OX_eif, OX_a0, OX_aC, OX_etup, OX_elst, OX_eC, OX_eF, OX_eM, OX_sNil, OX_sBk, OX_sCt, OX_sRetN, OX_sq, OX_sIf, OX_sRet, OX_sX, OX_sV, OX_sO, OX_sP, OX_sU, OX_tgn, OX_tgt, OX_sSt, OX_eMM, OX_append, OX_eIs, OX_sFor, OX_sWh, OX_eLc, OX_iR1, OX_iR2, OX_iL, OX_iT, OX_oN, OX_oS, OX_eSl, OX_pE0, OX_pE, OX_eDk, OX_eGet2, OX_eDn, OX_eD0, OX_iI, OX_iB, OX_neg, OX_dEq, OX_dNe, OX_dIs, OX_dIsNot, OX_dIn, OX_dNotIn, OX_inL, OX_inT, OX_catT, OX_catL, OX_ixT, OX_ixL, OX_ixS, OX_slT, OX_slL, OX_lenL, OX_lenT, OX_lenS, OX_max2, OX_min2, OX_intI, OX_intB, OX_tupL, OX_tupT, OX_listL, OX_listT, OX_all, OX_any, OX_strT, OX_truB, OX_truI, OX_truL, OX_truT, OX_truN, OX_rtR_s, OX_rtM_s, frz_v, frz_n, frz_s, toD_lst, toD_dic, toD_dk, dr_v, dr_n, dr_s, ownD_own, vals_nil, vals_v, drs_nil, drs_c, svR_v, svR_own, svR_al, boolR_b, argM_s, ownM_own, slotR_s, ownL_own, valR_v, newR_n, two_2, intD_i, int1_i, int2_i, listD_l, tupD_t, eqD_ii, eqD_ss, eqD_bb, rtR_v, rtR_n, rtM_v, rtM_n, atI_0, atI_1, atI_2, atI_3, atI_4, ixN_0, ixN_1, ixN_2, setAllE, sizeLine_eq, Option.bind_some, Option.map_some, List.getElem?_cons_zero, List.getElem?_cons_succ, List.getElem?_nil, List.set_cons_zero, List.set_cons_succ, List.map_cons, List.map_nil, List.cons_append, List.nil_append, List.append_nil, List.length_cons, List.length_nil, List.replicate_succ, List.replicate_zero, Bool.not_true, Bool.not_false, Bool.false_eq_true, decide_true, decide_false, Nat.reduceAdd, Nat.reduceSub, Nat.reduceEqDiff, Nat.reduceLT, Nat.reduceLeDiff, ↓reduceIte, Int.reduceLT, Int.reduceLE, Int.reduceAdd, Int.reduceSub, Int.reduceMul, Int.reduceNeg, Int.reduceToNat, Int.reduceMod, Int.reduceEq, Int.reducePow, Nat.reducePow, decide_eq_true_eq, decide_eq_false_iff_not, eq_self, ne_eq, not_true_eq_false, not_false_eq_true, and_true, true_and, and_false, false_and, and_self, or_true, true_or, or_false, false_or, isT_tt, isT_ss, ca, cb, hb, Bool.true_and, Bool.false_and]
    try
      cases hy : isN y <;> simp only [OX_some, OX_map, OX_fzf, OX_eV, OX_eK, OX_e1, OX_e2, OX_e3, OX_tb, OX_tru, OX_ite, OX_tand, OX_tor, OX_tnot, OX_eand, OX_eor, OX_enot, OX_eif, OX_a0, OX_aC, OX_etup, OX_elst, OX_eC, OX_eF, OX_eM, OX_sNil, OX_sBk, OX_sCt, OX_sRetN, OX_sq, OX_sIf, OX_sRet, OX_sX, OX_sV, OX_sO, OX_sP, OX_sU, OX_tgn, OX_tgt, OX_sSt, OX_eMM, OX_append, OX_eIs, OX_sFor, OX_sWh, OX_eLc, OX_iR1, OX_iR2, OX_iL, OX_iT, OX_oN, OX_oS, OX_eSl, OX_pE0, OX_pE, OX_eDk, OX_eGet2, OX_eDn, OX_eD0, OX_iI, OX_iB, OX_neg, OX_dEq, OX_dNe, OX_dIs, OX_dIsNot, OX_dIn, OX_dNotIn, OX_inL, OX_inT, OX_catT, OX_catL, OX_ixT, OX_ixL, OX_ixS, OX_slT, OX_slL, OX_lenL, OX_lenT, OX_lenS, OX_max2, OX_min2, OX_intI, OX_intB, OX_tupL, OX_tupT, OX_listL, OX_listT, OX_all, OX_any, OX_strT, OX_truB, OX_truI, OX_truL, OX_truT, OX_truN, OX_rtR_s, OX_rtM_s, frz_v, frz_n, frz_s, toD_lst, toD_dic, toD_dk, dr_v, dr_n, dr_s, ownD_own, vals_nil, vals_v, drs_nil, drs_c, svR_v, svR_own, svR_al, boolR_b, argM_s, ownM_own, slotR_s, ownL_own, valR_v, newR_n, two_2, intD_i, int1_i, int2_i, listD_l, tupD_t, eqD_ii, eqD_ss, eqD_bb, rtR_v, rtR_n, rtM_v, rtM_n, atI_0, atI_1, atI_2, atI_3, atI_4, ixN_0, ixN_1, ixN_2, setAllE, sizeLine_eq, Option.bind_some, Option.map_some, List.getElem?_cons_zero, List.getElem?_cons_succ, List.getElem?_nil, List.set_cons_zero, List.set_cons_succ, List.map_cons, List.map_nil, List.cons_append, List.nil_append, List.append_nil, List.length_cons, List.length_nil, List.replicate_succ, List.replicate_zero, Bool.not_true, Bool.not_false, Bool.false_eq_true, decide_true, decide_false, Nat.reduceAdd, Nat.reduceSub, Nat.reduceEqDiff, Nat.reduceLT, Nat.reduceLeDiff, ↓reduceIte, Int.reduceLT, Int.reduceLE, Int.reduceAdd, Int.reduceSub, Int.reduceMul, Int.reduceNeg, Int.reduceToNat, Int.reduceMod, Int.reduceEq, Int.reducePow, Nat.reducePow, decide_eq_true_eq, decide_eq_false_iff_not, eq_self, ne_eq, not_true_eq_false, not_false_eq_true, and_true, true_and, and_false, false_and, and_self, or_true, true_or, or_false, false_or, isT_tt, isT_ss, ca, cb, hy, Bool.true_or, Bool.false_or]
      refine whole_ok.imp fun r e => ?_
      subst e
      first | rfl | simp only [OX_some, OX_map, OX_fzf, OX_eV, OX_eK, OX_e1, OX_e2, OX_e3, OX_tb, OX_tru, OX_ite, OX_tand, OX_tor, OX_tnot, OX_eand, OX_eor, OX_enot, OX_eif, OX_a0, OX_aC, OX_etup, OX_elst, OX_eC, OX_eF, OX_eM, OX_sNil, OX_sBk, OX_sCt, OX_sRetN, OX_sq, OX_sIf, OX_sRet, OX_sX, OX_sV, OX_sO, OX_sP, OX_sU, OX_tgn, OX_tgt, OX_sSt, OX_eMM, OX_append, OX_eIs, OX_sFor, OX_sWh, OX_eLc, OX_iR1, OX_iR2, OX_iL, OX_iT, OX_oN, OX_oS, OX_eSl, OX_pE0, OX_pE, OX_eDk, OX_eGet2, OX_eDn, OX_eD0, OX_iI, OX_iB, OX_neg, OX_dEq, OX_dNe, OX_dIs, OX_dIsNot, OX_dIn, OX_dNotIn, OX_inL, OX_inT, OX_catT, OX_catL, OX_ixT, OX_ixL, OX_ixS, OX_slT, OX_slL, OX_lenL, OX_lenT, OX_lenS, OX_max2, OX_min2, OX_intI, OX_intB, OX_tupL, OX_tupT, OX_listL, OX_listT, OX_all, OX_any, OX_strT, OX_truB, OX_truI, OX_truL, OX_truT, OX_truN, OX_rtR_s, OX_rtM_s, frz_v, frz_n, frz_s, toD_lst, toD_dic, toD_dk, dr_v, dr_n, dr_s, ownD_own, vals_nil, vals_v, drs_nil, drs_c, svR_v, svR_own, svR_al, boolR_b, argM_s, ownM_own, slotR_s, ownL_own, valR_v, newR_n, two_2, intD_i, int1_i, int2_i, listD_l, tupD_t, eqD_ii, eqD_ss, eqD_bb, rtR_v, rtR_n, rtM_v, rtM_n, atI_0, atI_1, atI_2, atI_3, atI_4, ixN_0, ixN_1, ixN_2, setAllE, sizeLine_eq, Option.bind_some, Option.map_some, List.getElem?_cons_zero, List.getElem?_cons_succ, List.getElem?_nil, List.set_cons_zero, List.set_cons_succ, List.map_cons, List.map_nil, List.cons_append, List.nil_append, List.append_nil, List.length_cons, List.length_nil, List.replicate_succ, List.replicate_zero, Bool.not_true, Bool.not_false, Bool.false_eq_true, decide_true, decide_false, Nat.reduceAdd, Nat.reduceSub, Nat.reduceEqDiff, Nat.reduceLT, Nat.reduceLeDiff, ↓reduceIte, Int.reduceLT, Int.reduceLE, Int.reduceAdd, Int.reduceSub, Int.reduceMul, Int.reduceNeg, Int.reduceToNat, Int.reduceMod, Int.reduceEq, Int.reducePow, Nat.reducePow, decide_eq_true_eq, decide_eq_false_iff_not, eq_self, ne_eq, not_true_eq_false, not_false_eq_true, and_true, true_and, and_false, false_and, and_self, or_true, true_or, or_false, false_or, Bool.true_and, Bool.false_or]
theorem d_02 {n : Int} {w : Str} {x y : D} (W : WF w true false false 1) : OX (D_is_deed [.int n, .tuple [.str w, x, y]]) (fun r => r = .v (.bool (false))) ∧ OX (D_L_is_deed [.int n, .tuple [.str w, x, y]]) fun r => r = .v (.bool (false)) := by
  refine ⟨OX.defF rfl ?_, OX.defF rfl ?_⟩
  · simp only [F_is_deed, OX_some, OX_map, OX_fzf, OX_eV, OX_eK, OX_e1, OX_e2, OX_e3, OX_tb, OX_tru, OX_ite, OX_tand, OX_tor, OX_tnot, OX_eand, OX_eor, OX_enot, OX_eif, OX_a0, OX_aC, OX_etup, OX_elst, OX_eC, OX_eF, OX_eM, OX_sNil, OX_sBk, OX_sCt, OX_sRetN, OX_sq, OX_sIf, OX_sRet, OX_sX, OX_sV, OX_sO, OX_sP, OX_sU, OX_tgn, OX_tgt, OX_sSt, OX_eMM, OX_append, OX_eIs, OX_sFor, OX_sWh, OX_eLc, OX_iR1, OX_iR2, OX_iL, OX_iT, OX_oN, OX_oS, OX_eSl, OX_pE0, OX_pE, OX_eDk, OX_eGet2, OX_eDn, OX_eD0, OX_iI, OX_iB, OX_neg, OX_dEq, OX_dNe, OX_dIs, OX_dIsNot, OX_dIn, OX_dNotIn, OX_inL, OX_inT, OX_catT, OX_catL, OX_ixT, OX_ixL, OX_ixS, OX_slT, OX_slL, OX_lenL, OX_lenT, OX_lenS, OX_max2, OX_min2, OX_intI, OX_intB, OX_tupL, OX_tupT, OX_listL, OX_listT, OX_all, OX_any, OX_strT, OX_truB, OX_truI, OX_truL, OX_truT, OX_truN, OX_rtR_s, OX_rtM_s, frz_v, frz_n, frz_s, toD_lst, toD_dic, toD_dk, dr_v, dr_n, dr_s, ownD_own, vals_nil, vals_v, drs_nil, drs_c, svR_v, svR_own, svR_al, boolR_b, argM_s, ownM_own, slotR_s, ownL_own, valR_v, newR_n, two_2, intD_i, int1_i, int2_i, listD_l, tupD_t, eqD_ii, eqD_ss, eqD_bb, rtR_v, rtR_n, rtM_v, rtM_n, atI_0, atI_1, atI_2, atI_3, atI_4, ixN_0, ixN_1, ixN_2, setAllE, sizeLine_eq, Option.bind_some, Option.map_some, List.getElem?_cons_zero, List.getElem?_cons_succ, List.getElem?_nil, List.set_cons_zero, List.set_cons_succ, List.map_cons, List.map_nil, List.cons_append, List.nil_append, List.append_nil, List.length_cons, List.length_nil, List.replicate_succ, List.replicate_zero, Bool.not_true, Bool.not_false, Bool.false_eq_true, decide_true, decide_false, Nat.reduceAdd, Nat.reduceSub, Nat.reduceEqDiff, Nat.reduceLT, Nat.reduceLeDiff, ↓reduceIte, Int.reduceLT, Int.reduceLE, Int.reduceAdd, Int.reduceSub, Int.reduceMul, Int.reduceNeg, Int.reduceToNat, Int.reduceMod, Int.reduceEq, Int.reducePow, Nat.reducePow, decide_eq_true_eq, decide_eq_false_iff_not, eq_self, ne_eq, not_true_eq_false, not_false_eq_true, and_true, true_and, and_false, false_and, and_self, or_true, true_or, or_false, false_or, isT_tt, isT_ss, W.t, W.a, W.m, ca, cb]
    try
      refine between_ok.imp fun r e => ?_
      subst e
      cases hb : inB x 0 (n - 1) <;> simp only [OX_some, OX_map, OX_fzf, OX_eV, OX_eK, OX_e1, OX_e2, OX_e3, OX_tb, OX_tru, OX_ite, OX_tand, OX_tor, OX_tnot, OX_eand, OX_eor, OX_enot, OX_eif, OX_a0, OX_aC, OX_etup, OX_elst, OX_eC, OX_eF, OX_eM, OX_sNil, OX_sBk, OX_sCt, OX_sRetN, OX_sq, OX_sIf, OX_sRet, OX_sX, OX_sV, OX_sO, OX_sP, OX_sU, OX_tgn, OX_tgt, OX_sSt, OX_eMM, OX_append, OX_eIs, OX_sFor, OX_sWh, OX_eLc, OX_iR1, OX_iR2, OX_iL, OX_iT, OX_oN, OX_oS, OX_eSl, OX_pE0, OX_pE, OX_eDk, OX_eGet2, OX_eDn, OX_eD0, OX_iI, OX_iB, OX_neg, OX_dEq, OX_dNe, OX_dIs, OX_dIsNot, OX_dIn, OX_dNotIn, OX_inL, OX_inT, OX_catT, OX_catL, OX_ixT, OX_ixL, OX_ixS, OX_slT, OX_slL, OX_lenL, OX_lenT, OX_lenS, OX_max2, OX_min2, OX_intI, OX_intB, OX_tupL, OX_tupT, OX_listL, OX_listT, OX_all, OX_any, OX_strT, OX_truB, OX_truI, OX_truL, OX_truT, OX_truN, OX_rtR_s, OX_rtM_s, frz_v, frz_n, frz_s, toD_lst, toD_dic, toD_dk, dr_v, dr_n, dr_s, ownD_own, vals_nil, vals_v, drs_nil, drs_c, svR_v, svR_own, svR_al, boolR_b, argM_s, ownM_own, slotR_s, ownL_own, valR_v, newR_n, two_2, intD_i, int1_i, int2_i, listD_l, tupD_t, eqD_ii, eqD_ss, eqD_bb, rtR_v, rtR_n, rtM_v, rtM_n, atI_0, atI_1, atI_2, atI_3, atI_4, ixN_0, ixN_1, ixN_2, setAllE, sizeLine_eq, Option.bind_some, Option.map_some, List.getElem?_cons_zero, List.getElem?_cons_succ, List.getElem?_nil, List.set_cons_zero, List.set_cons_succ, List.map_cons, List.map_nil, List.cons_append, List.nil_append, List.append_nil, List.length_cons, List.length_nil, List.replicate_succ, List.replicate_zero, Bool.not_true, Bool.not_false, Bool.false_eq_true, decide_true, decide_false, Nat.reduceAdd, Nat.reduceSub, Nat.reduceEqDiff, Nat.reduceLT, Nat.reduceLeDiff, ↓reduceIte, Int.reduceLT, Int.reduceLE, Int.reduceAdd, Int.reduceSub, Int.reduceMul, Int.reduceNeg, Int.reduceToNat, Int.reduceMod, Int.reduceEq, Int.reducePow, Nat.reducePow, decide_eq_true_eq, decide_eq_false_iff_not, eq_self, ne_eq, not_true_eq_false, not_false_eq_true, and_true, true_and, and_false, false_and, and_self, or_true, true_or, or_false, false_or, isT_tt, isT_ss, W.t, W.a, W.m, ca, cb, hb, Bool.true_and, Bool.false_and]
    try
      cases hy : isN y <;> simp only [OX_some, OX_map, OX_fzf, OX_eV, OX_eK, OX_e1, OX_e2, OX_e3, OX_tb, OX_tru, OX_ite, OX_tand, OX_tor, OX_tnot, OX_eand, OX_eor, OX_enot, OX_eif, OX_a0, OX_aC, OX_etup, OX_elst, OX_eC, OX_eF, OX_eM, OX_sNil, OX_sBk, OX_sCt, OX_sRetN, OX_sq, OX_sIf, OX_sRet, OX_sX, OX_sV, OX_sO, OX_sP, OX_sU, OX_tgn, OX_tgt, OX_sSt, OX_eMM, OX_append, OX_eIs, OX_sFor, OX_sWh, OX_eLc, OX_iR1, OX_iR2, OX_iL, OX_iT, OX_oN, OX_oS, OX_eSl, OX_pE0, OX_pE, OX_eDk, OX_eGet2, OX_eDn, OX_eD0, OX_iI, OX_iB, OX_neg, OX_dEq, OX_dNe, OX_dIs, OX_dIsNot, OX_dIn, OX_dNotIn, OX_inL, OX_inT, OX_catT, OX_catL, OX_ixT, OX_ixL, OX_ixS, OX_slT, OX_slL, OX_lenL, OX_lenT, OX_lenS, OX_max2, OX_min2, OX_intI, OX_intB, OX_tupL, OX_tupT, OX_listL, OX_listT, OX_all, OX_any, OX_strT, OX_truB, OX_truI, OX_truL, OX_truT, OX_truN, OX_rtR_s, OX_rtM_s, frz_v, frz_n, frz_s, toD_lst, toD_dic, toD_dk, dr_v, dr_n, dr_s, ownD_own, vals_nil, vals_v, drs_nil, drs_c, svR_v, svR_own, svR_al, boolR_b, argM_s, ownM_own, slotR_s, ownL_own, valR_v, newR_n, two_2, intD_i, int1_i, int2_i, listD_l, tupD_t, eqD_ii, eqD_ss, eqD_bb, rtR_v, rtR_n, rtM_v, rtM_n, atI_0, atI_1, atI_2, atI_3, atI_4, ixN_0, ixN_1, ixN_2, setAllE, sizeLine_eq, Option.bind_some, Option.map_some, List.getElem?_cons_zero, List.getElem?_cons_succ, List.getElem?_nil, List.set_cons_zero, List.set_cons_succ, List.map_cons, List.map_nil, List.cons_append, List.nil_append, List.append_nil, List.length_cons, List.length_nil, List.replicate_succ, List.replicate_zero, Bool.not_true, Bool.not_false, Bool.false_eq_true, decide_true, decide_false, Nat.reduceAdd, Nat.reduceSub, Nat.reduceEqDiff, Nat.reduceLT, Nat.reduceLeDiff, ↓reduceIte, Int.reduceLT, Int.reduceLE, Int.reduceAdd, Int.reduceSub, Int.reduceMul, Int.reduceNeg, Int.reduceToNat, Int.reduceMod, Int.reduceEq, Int.reducePow, Nat.reducePow, decide_eq_true_eq, decide_eq_false_iff_not, eq_self, ne_eq, not_true_eq_false, not_false_eq_true, and_true, true_and, and_false, false_and, and_self, or_true, true_or, or_false, false_or, isT_tt, isT_ss, W.t, W.a, W.m, ca, cb, hy, Bool.true_or, Bool.false_or]
      refine between_ok.imp fun r e => ?_
      subst e
      first | rfl | simp only [OX_some, OX_map, OX_fzf, OX_eV, OX_eK, OX_e1, OX_e2, OX_e3, OX_tb, OX_tru, OX_ite, OX_tand, OX_tor, OX_tnot, OX_eand, OX_eor, OX_enot, OX_eif, OX_a0, OX_aC, OX_etup, OX_elst, OX_eC, OX_eF, OX_eM, OX_sNil, OX_sBk, OX_sCt, OX_sRetN, OX_sq, OX_sIf, OX_sRet, OX_sX, OX_sV, OX_sO, OX_sP, OX_sU, OX_tgn, OX_tgt, OX_sSt, OX_eMM, OX_append, OX_eIs, OX_sFor, OX_sWh, OX_eLc, OX_iR1, OX_iR2, OX_iL, OX_iT, OX_oN, OX_oS, OX_eSl, OX_pE0, OX_pE, OX_eDk, OX_eGet2, OX_eDn, OX_eD0, OX_iI, OX_iB, OX_neg, OX_dEq, OX_dNe, OX_dIs, OX_dIsNot, OX_dIn, OX_dNotIn, OX_inL, OX_inT, OX_catT, OX_catL, OX_ixT, OX_ixL, OX_ixS, OX_slT, OX_slL, OX_lenL, OX_lenT, OX_lenS, OX_max2, OX_min2, OX_intI, OX_intB, OX_tupL, OX_tupT, OX_listL, OX_listT, OX_all, OX_any, OX_strT, OX_truB, OX_truI, OX_truL, OX_truT, OX_truN, OX_rtR_s, OX_rtM_s, frz_v, frz_n, frz_s, toD_lst, toD_dic, toD_dk, dr_v, dr_n, dr_s, ownD_own, vals_nil, vals_v, drs_nil, drs_c, svR_v, svR_own, svR_al, boolR_b, argM_s, ownM_own, slotR_s, ownL_own, valR_v, newR_n, two_2, intD_i, int1_i, int2_i, listD_l, tupD_t, eqD_ii, eqD_ss, eqD_bb, rtR_v, rtR_n, rtM_v, rtM_n, atI_0, atI_1, atI_2, atI_3, atI_4, ixN_0, ixN_1, ixN_2, setAllE, sizeLine_eq, Option.bind_some, Option.map_some, List.getElem?_cons_zero, List.getElem?_cons_succ, List.getElem?_nil, List.set_cons_zero, List.set_cons_succ, List.map_cons, List.map_nil, List.cons_append, List.nil_append, List.append_nil, List.length_cons, List.length_nil, List.replicate_succ, List.replicate_zero, Bool.not_true, Bool.not_false, Bool.false_eq_true, decide_true, decide_false, Nat.reduceAdd, Nat.reduceSub, Nat.reduceEqDiff, Nat.reduceLT, Nat.reduceLeDiff, ↓reduceIte, Int.reduceLT, Int.reduceLE, Int.reduceAdd, Int.reduceSub, Int.reduceMul, Int.reduceNeg, Int.reduceToNat, Int.reduceMod, Int.reduceEq, Int.reducePow, Nat.reducePow, decide_eq_true_eq, decide_eq_false_iff_not, eq_self, ne_eq, not_true_eq_false, not_false_eq_true, and_true, true_and, and_false, false_and, and_self, or_true, true_or, or_false, false_or, Bool.true_and, Bool.false_or]
  · simp only [F_L_is_deed, OX_some, OX_map, OX_fzf, OX_eV, OX_eK, OX_e1, OX_e2, OX_e3, OX_tb, OX_tru, OX_ite, OX_tand, OX_tor, OX_tnot, OX_eand, OX_eor, OX_enot, OX_eif, OX_a0, OX_aC, OX_etup, OX_elst, OX_eC, OX_eF, OX_eM, OX_sNil, OX_sBk, OX_sCt, OX_sRetN, OX_sq, OX_sIf, OX_sRet, OX_sX, OX_sV, OX_sO, OX_sP, OX_sU, OX_tgn, OX_tgt, OX_sSt, OX_eMM, OX_append, OX_eIs, OX_sFor, OX_sWh, OX_eLc, OX_iR1, OX_iR2, OX_iL, OX_iT, OX_oN, OX_oS, OX_eSl, OX_pE0, OX_pE, OX_eDk, OX_eGet2, OX_eDn, OX_eD0, OX_iI, OX_iB, OX_neg, OX_dEq, OX_dNe, OX_dIs, OX_dIsNot, OX_dIn, OX_dNotIn, OX_inL, OX_inT, OX_catT, OX_catL, OX_ixT, OX_ixL, OX_ixS, OX_slT, OX_slL, OX_lenL, OX_lenT, OX_lenS, OX_max2, OX_min2, OX_intI, OX_intB, OX_tupL, OX_tupT, OX_listL, OX_listT, OX_all, OX_any, OX_strT, OX_truB, OX_truI, OX_truL, OX_truT, OX_truN, OX_rtR_s, OX_rtM_s, frz_v, frz_n, frz_s, toD_lst, toD_dic, toD_dk, dr_v, dr_n, dr_s, ownD_own, vals_nil, vals_v, drs_nil, drs_c, svR_v, svR_own, svR_al, boolR_b, argM_s, ownM_own, slotR_s, ownL_own, valR_v, newR_n, two_2, intD_i, int1_i, int2_i, listD_l, tupD_t, eqD_ii, eqD_ss, eqD_bb, rtR_v, rtR_n, rtM_v, rtM_n, atI_0, atI_1, atI_2, atI_3, atI_4, ixN_0, ixN_1, ixN_2, setAllE, sizeLine_eq, Option.bind_some, Option.map_some, List.getElem?_cons_zero, List.getElem?_cons_succ, List.getElem?_nil, List.set_cons_zero, List.set_cons_succ, List.map_cons, List.map_nil, List.cons_append, List.nil_append, List.append_nil, List.length_cons, List.length_nil, List.replicate_succ, List.replicate_zero, Bool.not_true, Bool.not_false, Bool.false_eq_true, decide_true, decide_false, Nat.reduceAdd, Nat.reduceSub, Nat.reduceEqDiff, Nat.reduceLT, Nat.reduceLeDiff, ↓reduceIte, Int.reduceLT, Int.reduceLE, Int.reduceAdd, Int.reduceSub, Int.reduceMul, Int.reduceNeg, Int.reduceToNat, Int.reduceMod, Int.reduceEq, Int.reducePow, Nat.reducePow, decide_eq_true_eq, decide_eq_false_iff_not, eq_self, ne_eq, not_true_eq_false, not_false_eq_true, and_true, true_and, and_false, false_and, and_self, or_true, true_or, or_false, false_or, isT_tt, isT_ss, edk7, sizes_td, get2_ok, W.z, ca, cb]
    try
      refine whole_ok.imp fun r e => ?_
      subst e
      cases hb : inB x 0 (n - 1) <;> simp only [OX_some, OX_map, OX_fzf, OX_eV, OX_eK, OX_e1, OX_e2, OX_e3, OX_tb, OX_tru, OX_ite, OX_tand, OX_tor, OX_tnot, OX_eand, OX_eor, OX_enot, OX_eif, OX_a0, OX_aC, OX_etup, OX_elst, OX_eC, OX_eF, OX_eM, OX_sNil, OX_sBk, OX_sCt, OX_sRetN, OX_sq, OX_sIf, OX_sRet, OX_sX, OX_sV, OX_sO, OX_sP, OX_sU, OX_tgn, OX_tgt, OX_sSt, OX_eMM, OX_append, OX_eIs, OX_sFor, OX_sWh, OX_eLc, OX_iR1, OX_iR2, OX_iL, OX_iT, OX_oN, OX_oS, OX_eSl, OX_pE0, OX_pE, OX_eDk, OX_eGet2, OX_eDn, OX_eD0, OX_iI, OX_iB, OX_neg, OX_dEq, OX_dNe, OX_dIs, OX_dIsNot, OX_dIn, OX_dNotIn, OX_inL, OX_inT, OX_catT, OX_catL, OX_ixT, OX_ixL, OX_ixS, OX_slT, OX_slL, OX_lenL, OX_lenT, OX_lenS, OX_max2, OX_min2, OX_intI, OX_intB, OX_tupL, OX_tupT, OX_listL, OX_listT, OX_all, OX_any, OX_strT, OX_truB, OX_truI, OX_truL, OX_truT, OX_truN, OX_rtR_s, OX_rtM_s, frz_v, frz_n, frz_s, toD_lst, toD_dic, toD_dk, dr_v, dr_n, dr_s, ownD_own, vals_nil, vals_v, drs_nil, drs_c, svR_v, svR_own, svR_al, boolR_b, argM_s, ownM_own, slotR_s, ownL_own, valR_v, newR_n, two_2, intD_i, int1_i, int2_i, listD_l, tupD_t, eqD_ii, eqD_ss, eqD_bb, rtR_v, rtR_n, rtM_v, rtM_n, atI_0, atI_1, atI_2, atI_3, atI_4, ixN_0, ixN_1, ixN_2, setAllE, sizeLine_eq, Option.bind_some, Option.map_some, List.getElem?_cons_zero, List.getElem?_cons_succ, List.getElem?_nil, List.set_cons_zero, List.set_cons_succ, List.map_cons, List.map_nil, List.cons_append, List.nil_append, List.append_nil, List.length_cons, List.length_nil, List.replicate_succ, List.replicate_zero, Bool.not_true, Bool.not_false, Bool.false_eq_true, decide_true, decide_false, Nat.reduceAdd, Nat.reduceSub, Nat.reduceEqDiff, Nat.reduceLT, Nat.reduceLeDiff, ↓reduceIte, Int.reduceLT, Int.reduceLE, Int.reduceAdd, Int.reduceSub, Int.reduceMul, Int.reduceNeg, Int.reduceToNat, Int.reduceMod, Int.reduceEq, Int.reducePow, Nat.reducePow, decide_eq_true_eq, decide_eq_false_iff_not, eq_self, ne_eq, not_true_eq_false, not_false_eq_true, and_true, true_and, and_false, false_and, and_self, or_true, true_or, or_false, false_or, isT_tt, isT_ss, ca, cb, hb, Bool.true_and, Bool.false_and]
    try
      cases hy : isN y <;> simp only [OX_some, OX_map, OX_fzf, OX_eV, OX_eK, OX_e1, OX_e2, OX_e3, OX_tb, OX_tru, OX_ite, OX_tand, OX_tor, OX_tnot, OX_eand, OX_eor, OX_enot, OX_eif, OX_a0, OX_aC, OX_etup, OX_elst, OX_eC, OX_eF, OX_eM, OX_sNil, OX_sBk, OX_sCt, OX_sRetN, OX_sq, OX_sIf, OX_sRet, OX_sX, OX_sV, OX_sO, OX_sP, OX_sU, OX_tgn, OX_tgt, OX_sSt, OX_eMM, OX_append, OX_eIs, OX_sFor, OX_sWh, OX_eLc, OX_iR1, OX_iR2, OX_iL, OX_iT, OX_oN, OX_oS, OX_eSl, OX_pE0, OX_pE, OX_eDk, OX_eGet2, OX_eDn, OX_eD0, OX_iI, OX_iB, OX_neg, OX_dEq, OX_dNe, OX_dIs, OX_dIsNot, OX_dIn, OX_dNotIn, OX_inL, OX_inT, OX_catT, OX_catL, OX_ixT, OX_ixL, OX_ixS, OX_slT, OX_slL, OX_lenL, OX_lenT, OX_lenS, OX_max2, OX_min2, OX_intI, OX_intB, OX_tupL, OX_tupT, OX_listL, OX_listT, OX_all, OX_any, OX_strT, OX_truB, OX_truI, OX_truL, OX_truT, OX_truN, OX_rtR_s, OX_rtM_s, frz_v, frz_n, frz_s, toD_lst, toD_dic, toD_dk, dr_v, dr_n, dr_s, ownD_own, vals_nil, vals_v, drs_nil, drs_c, svR_v, svR_own, svR_al, boolR_b, argM_s, ownM_own, slotR_s, ownL_own, valR_v, newR_n, two_2, intD_i, int1_i, int2_i, listD_l, tupD_t, eqD_ii, eqD_ss, eqD_bb, rtR_v, rtR_n, rtM_v, rtM_n, atI_0, atI_1, atI_2, atI_3, atI_4, ixN_0, ixN_1, ixN_2, setAllE, sizeLine_eq, Option.bind_some, Option.map_some, List.getElem?_cons_zero, List.getElem?_cons_succ, List.getElem?_nil, List.set_cons_zero, List.set_cons_succ, List.map_cons, List.map_nil, List.cons_append, List.nil_append, List.append_nil, List.length_cons, List.length_nil, List.replicate_succ, List.replicate_zero, Bool.not_true, Bool.not_false, Bool.false_eq_true, decide_true, decide_false, Nat.reduceAdd, Nat.reduceSub, Nat.reduceEqDiff, Nat.reduceLT, Nat.reduceLeDiff, ↓reduceIte, Int.reduceLT, Int.reduceLE, Int.reduceAdd, Int.reduceSub, Int.reduceMul, Int.reduceNeg, Int.reduceToNat, Int.reduceMod, Int.reduceEq, Int.reducePow, Nat.reducePow, decide_eq_true_eq, decide_eq_false_iff_not, eq_self, ne_eq, not_true_eq_false, not_false_eq_true, and_true, true_and, and_false, false_and, and_self, or_true, true_or, or_false, false_or, isT_tt, isT_ss, ca, cb, hy, Bool.true_or, Bool.false_or]
      refine whole_ok.imp fun r e => ?_
      subst e
      first | rfl | simp only [OX_some, OX_map, OX_fzf, OX_eV, OX_eK, OX_e1, OX_e2, OX_e3, OX_tb, OX_tru, OX_ite, OX_tand, OX_tor, OX_tnot, OX_eand, OX_eor, OX_enot, OX_eif, OX_a0, OX_aC, OX_etup, OX_elst, OX_eC, OX_eF, OX_eM, OX_sNil, OX_sBk, OX_sCt, OX_sRetN, OX_sq, OX_sIf, OX_sRet, OX_sX, OX_sV, OX_sO, OX_sP, OX_sU, OX_tgn, OX_tgt, OX_sSt, OX_eMM, OX_append, OX_eIs, OX_sFor, OX_sWh, OX_eLc, OX_iR1, OX_iR2, OX_iL, OX_iT, OX_oN, OX_oS, OX_eSl, OX_pE0, OX_pE, OX_eDk, OX_eGet2, OX_eDn, OX_eD0, OX_iI, OX_iB, OX_neg, OX_dEq, OX_dNe, OX_dIs, OX_dIsNot, OX_dIn, OX_dNotIn, OX_inL, OX_inT, OX_catT, OX_catL, OX_ixT, OX_ixL, OX_ixS, OX_slT, OX_slL, OX_lenL, OX_lenT, OX_lenS, OX_max2, OX_min2, OX_intI, OX_intB, OX_tupL, OX_tupT, OX_listL, OX_listT, OX_all, OX_any, OX_strT, OX_truB, OX_truI, OX_truL, OX_truT, OX_truN, OX_rtR_s, OX_rtM_s, frz_v, frz_n, frz_s, toD_lst, toD_dic, toD_dk, dr_v, dr_n, dr_s, ownD_own, vals_nil, vals_v, drs_nil, drs_c, svR_v, svR_own, svR_al, boolR_b, argM_s, ownM_own, slotR_s, ownL_own, valR_v, newR_n, two_2, intD_i, int1_i, int2_i, listD_l, tupD_t, eqD_ii, eqD_ss, eqD_bb, rtR_v, rtR_n, rtM_v, rtM_n, atI_0, atI_1, atI_2, atI_3, atI_4, ixN_0, ixN_1, ixN_2, setAllE, sizeLine_eq, Option.bind_some, Option.map_some, List.getElem?_cons_zero, List.getElem?_cons_succ, List.getElem?_nil, List.set_cons_zero, List.set_cons_succ, List.map_cons, List.map_nil, List.cons_append, List.nil_append, List.append_nil, List.length_cons, List.length_nil, List.replicate_succ, List.replicate_zero, Bool.not_true, Bool.not_false, Bool.false_eq_true, decide_true, decide_false, Nat.reduceAdd, Nat.reduceSub, Nat.reduceEqDiff, Nat.reduceLT, Nat.reduceLeDiff, ↓reduceIte, Int.reduceLT, Int.reduceLE, Int.reduceAdd, Int.reduceSub, Int.reduceMul, Int.reduceNeg, Int.reduceToNat, Int.reduceMod, Int.reduceEq, Int.reducePow, Nat.reducePow, decide_eq_true_eq, decide_eq_false_iff_not, eq_self, ne_eq, not_true_eq_false, not_false_eq_true, and_true, true_and, and_false, false_and, and_self, or_true, true_or, or_false, false_or, Bool.true_and, Bool.false_or]
theorem d_03 {n : Int} {w : Str} {x y z : D} {r : List D} (W : WF w true false false 1) : OX (D_is_deed [.int n, .tuple (.str w :: x :: y :: z :: r)]) (fun r => r = .v (.bool (false))) ∧ OX (D_L_is_deed [.int n, .tuple (.str w :: x :: y :: z :: r)]) fun r => r = .v (.bool (false)) := by
  refine ⟨OX.defF rfl ?_, OX.defF rfl ?_⟩
  · simp only [F_is_deed, OX_some, OX_map, OX_fzf, OX_eV, OX_eK, OX_e1, OX_e2, OX_e3, OX_tb, OX_tru, OX_ite, OX_tand, OX_tor, OX_tnot, OX_eand, OX_eor, OX_enot, OX_eif, OX_a0, OX_aC, OX_etup, OX_elst, OX_eC, OX_eF, OX_eM, OX_sNil, OX_sBk, OX_sCt, OX_sRetN, OX_sq, OX_sIf, OX_sRet, OX_sX, OX_sV, OX_sO, OX_sP, OX_sU, OX_tgn, OX_tgt, OX_sSt, OX_eMM, OX_append, OX_eIs, OX_sFor, OX_sWh, OX_eLc, OX_iR1, OX_iR2, OX_iL, OX_iT, OX_oN, OX_oS, OX_eSl, OX_pE0, OX_pE, OX_eDk, OX_eGet2, OX_eDn, OX_eD0, OX_iI, OX_iB, OX_neg, OX_dEq, OX_dNe, OX_dIs, OX_dIsNot, OX_dIn, OX_dNotIn, OX_inL, OX_inT, OX_catT, OX_catL, OX_ixT, OX_ixL, OX_ixS, OX_slT, OX_slL, OX_lenL, OX_lenT, OX_lenS, OX_max2, OX_min2, OX_intI, OX_intB, OX_tupL, OX_tupT, OX_listL, OX_listT, OX_all, OX_any, OX_strT, OX_truB, OX_truI, OX_truL, OX_truT, OX_truN, OX_rtR_s, OX_rtM_s, frz_v, frz_n, frz_s, toD_lst, toD_dic, toD_dk, dr_v, dr_n, dr_s, ownD_own, vals_nil, vals_v, drs_nil, drs_c, svR_v, svR_own, svR_al, boolR_b, argM_s, ownM_own, slotR_s, ownL_own, valR_v, newR_n, two_2, intD_i, int1_i, int2_i, listD_l, tupD_t, eqD_ii, eqD_ss, eqD_bb, rtR_v, rtR_n, rtM_v, rtM_n, atI_0, atI_1, atI_2, atI_3, atI_4, ixN_0, ixN_1, ixN_2, setAllE, sizeLine_eq, Option.bind_some, Option.map_some, List.getElem?_cons_zero, List.getElem?_cons_succ, List.getElem?_nil, List.set_cons_zero, List.set_cons_succ, List.map_cons, List.map_nil, List.cons_append, List.nil_append, List.append_nil, List.length_cons, List.length_nil, List.replicate_succ, List.replicate_zero, Bool.not_true, Bool.not_false, Bool.false_eq_true, decide_true, decide_false, Nat.reduceAdd, Nat.reduceSub, Nat.reduceEqDiff, Nat.reduceLT, Nat.reduceLeDiff, ↓reduceIte, Int.reduceLT, Int.reduceLE, Int.reduceAdd, Int.reduceSub, Int.reduceMul, Int.reduceNeg, Int.reduceToNat, Int.reduceMod, Int.reduceEq, Int.reducePow, Nat.reducePow, decide_eq_true_eq, decide_eq_false_iff_not, eq_self, ne_eq, not_true_eq_false, not_false_eq_true, and_true, true_and, and_false, false_and, and_self, or_true, true_or, or_false, false_or, isT_tt, isT_ss, W.t, W.a, W.m, ca, cb]
    try
      refine between_ok.imp fun r e => ?_
      subst e
      cases hb : inB x 0 (n - 1) <;> simp only [OX_some, OX_map, OX_fzf, OX_eV, OX_eK, OX_e1, OX_e2, OX_e3, OX_tb, OX_tru, OX_ite, OX_tand, OX_tor, OX_tnot, OX_eand, OX_eor, OX_enot, OX_eif, OX_a0, OX_aC, OX_etup, OX_elst, OX_eC, OX_eF, OX_eM, OX_sNil, OX_sBk, OX_sCt, OX_sRetN, OX_sq, OX_sIf, OX_sRet, OX_sX, OX_sV, OX_sO, OX_sP, OX_sU, OX_tgn, OX_tgt, OX_sSt, OX_eMM, OX_append, OX_eIs, OX_sFor, OX_sWh, OX_eLc, OX_iR1, OX_iR2, OX_iL, OX_iT, OX_oN, OX_oS, OX_eSl, OX_pE0, OX_pE, OX_eDk, OX_eGet2, OX_eDn, OX_eD0, OX_iI, OX_iB, OX_neg, OX_dEq, OX_dNe, OX_dIs, OX_dIsNot, OX_dIn, OX_dNotIn, OX_inL, OX_inT, OX_catT, OX_catL, OX_ixT, OX_ixL, OX_ixS, OX_slT, OX_slL, OX_lenL, OX_lenT, OX_lenS, OX_max2, OX_min2, OX_intI, OX_intB, OX_tupL, OX_tupT, OX_listL, OX_listT, OX_all, OX_any, OX_strT, OX_truB, OX_truI, OX_truL, OX_truT, OX_truN, OX_rtR_s, OX_rtM_s, frz_v, frz_n, frz_s, toD_lst, toD_dic, toD_dk, dr_v, dr_n, dr_s, ownD_own, vals_nil, vals_v, drs_nil, drs_c, svR_v, svR_own, svR_al, boolR_b, argM_s, ownM_own, slotR_s, ownL_own, valR_v, newR_n, two_2, intD_i, int1_i, int2_i, listD_l, tupD_t, eqD_ii, eqD_ss, eqD_bb, rtR_v, rtR_n, rtM_v, rtM_n, atI_0, atI_1, atI_2, atI_3, atI_4, ixN_0, ixN_1, ixN_2, setAllE, sizeLine_eq, Option.bind_some, Option.map_some, List.getElem?_cons_zero, List.getElem?_cons_succ, List.getElem?_nil, List.set_cons_zero, List.set_cons_succ, List.map_cons, List.map_nil, List.cons_append, List.nil_append, List.append_nil, List.length_cons, List.length_nil, List.replicate_succ, List.replicate_zero, Bool.not_true, Bool.not_false, Bool.false_eq_true, decide_true, decide_false, Nat.reduceAdd, Nat.reduceSub, Nat.reduceEqDiff, Nat.reduceLT, Nat.reduceLeDiff, ↓reduceIte, Int.reduceLT, Int.reduceLE, Int.reduceAdd, Int.reduceSub, Int.reduceMul, Int.reduceNeg, Int.reduceToNat, Int.reduceMod, Int.reduceEq, Int.reducePow, Nat.reducePow, decide_eq_true_eq, decide_eq_false_iff_not, eq_self, ne_eq, not_true_eq_false, not_false_eq_true, and_true, true_and, and_false, false_and, and_self, or_true, true_or, or_false, false_or, isT_tt, isT_ss, W.t, W.a, W.m, ca, cb, hb, Bool.true_and, Bool.false_and]
    try
      cases hy : isN y <;> simp only [OX_some, OX_map, OX_fzf, OX_eV, OX_eK, OX_e1, OX_e2, OX_e3, OX_tb, OX_tru, OX_ite, OX_tand, OX_tor, OX_tnot, OX_eand, OX_eor, OX_enot, OX_eif, OX_a0, OX_aC, OX_etup, OX_elst, OX_eC, OX_eF, OX_eM, OX_sNil, OX_sBk, OX_sCt, OX_sRetN, OX_sq, OX_sIf, OX_sRet, OX_sX, OX_sV, OX_sO, OX_sP, OX_sU, OX_tgn, OX_tgt, OX_sSt, OX_eMM, OX_append, OX_eIs, OX_sFor, OX_sWh, OX_eLc, OX_iR1, OX_iR2, OX_iL, OX_iT, OX_oN, OX_oS, OX_eSl, OX_pE0, OX_pE, OX_eDk, OX_eGet2, OX_eDn, OX_eD0, OX_iI, OX_iB, OX_neg, OX_dEq, OX_dNe, OX_dIs, OX_dIsNot, OX_dIn, OX_dNotIn, OX_inL, OX_inT, OX_catT, OX_catL, OX_ixT, OX_ixL, OX_ixS, OX_slT, OX_slL, OX_lenL, OX_lenT, OX_lenS, OX_max2, OX_min2, OX_intI, OX_intB, OX_tupL, OX_tupT, OX_listL, OX_listT, OX_all, OX_any, OX_strT, OX_truB, OX_truI, OX_truL, OX_truT, OX_truN, OX_rtR_s, OX_rtM_s, frz_v, frz_n, frz_s, toD_lst, toD_dic, toD_dk, dr_v, dr_n, dr_s, ownD_own, vals_nil, vals_v, drs_nil, drs_c, svR_v, svR_own, svR_al, boolR_b, argM_s, ownM_own, slotR_s, ownL_own, valR_v, newR_n, two_2, intD_i, int1_i, int2_i, listD_l, tupD_t, eqD_ii, eqD_ss, eqD_bb, rtR_v, rtR_n, rtM_v, rtM_n, atI_0, atI_1, atI_2, atI_3, atI_4, ixN_0, ixN_1, ixN_2, setAllE, sizeLine_eq, Option.bind_some, Option.map_some, List.getElem?_cons_zero, List.getElem?_cons_succ, List.getElem?_nil, List.set_cons_zero, List.set_cons_succ, List.map_cons, List.map_nil, List.cons_append, List.nil_append, List.append_nil, List.length_cons, List.length_nil, List.replicate_succ, List.replicate_zero, Bool.not_true, Bool.not_false, Bool.false_eq_true, decide_true, decide_false, Nat.reduceAdd, Nat.reduceSub, Nat.reduceEqDiff, Nat.reduceLT, Nat.reduceLeDiff, ↓reduceIte, Int.reduceLT, Int.reduceLE, Int.reduceAdd, Int.reduceSub, Int.reduceMul, Int.reduceNeg, Int.reduceToNat, Int.reduceMod, Int.reduceEq, Int.reducePow, Nat.reducePow, decide_eq_true_eq, decide_eq_false_iff_not, eq_self, ne_eq, not_true_eq_false, not_false_eq_true, and_true, true_and, and_false, false_and, and_self, or_true, true_or, or_false, false_or, isT_tt, isT_ss, W.t, W.a, W.m, ca, cb, hy, Bool.true_or, Bool.false_or]
      refine between_ok.imp fun r e => ?_
      subst e
      first | rfl | simp only [OX_some, OX_map, OX_fzf, OX_eV, OX_eK, OX_e1, OX_e2, OX_e3, OX_tb, OX_tru, OX_ite, OX_tand, OX_tor, OX_tnot, OX_eand, OX_eor, OX_enot, OX_eif, OX_a0, OX_aC, OX_etup, OX_elst, OX_eC, OX_eF, OX_eM, OX_sNil, OX_sBk, OX_sCt, OX_sRetN, OX_sq, OX_sIf, OX_sRet, OX_sX, OX_sV, OX_sO, OX_sP, OX_sU, OX_tgn, OX_tgt, OX_sSt, OX_eMM, OX_append, OX_eIs, OX_sFor, OX_sWh, OX_eLc, OX_iR1, OX_iR2, OX_iL, OX_iT, OX_oN, OX_oS, OX_eSl, OX_pE0, OX_pE, OX_eDk, OX_eGet2, OX_eDn, OX_eD0, OX_iI, OX_iB, OX_neg, OX_dEq, OX_dNe, OX_dIs, OX_dIsNot, OX_dIn, OX_dNotIn, OX_inL, OX_inT, OX_catT, OX_catL, OX_ixT, OX_ixL, OX_ixS, OX_slT, OX_slL, OX_lenL, OX_lenT, OX_lenS, OX_max2, OX_min2, OX_intI, OX_intB, OX_tupL, OX_tupT, OX_listL, OX_listT, OX_all, OX_any, OX_strT, OX_truB, OX_truI, OX_truL, OX_truT, OX_truN, OX_rtR_s, OX_rtM_s, frz_v, frz_n, frz_s, toD_lst, toD_dic, toD_dk, dr_v, dr_n, dr_s, ownD_own, vals_nil, vals_v, drs_nil, drs_c, svR_v, svR_own, svR_al, boolR_b, argM_s, ownM_own, slotR_s, ownL_own, valR_v, newR_n, two_2, intD_i, int1_i, int2_i, listD_l, tupD_t, eqD_ii, eqD_ss, eqD_bb, rtR_v, rtR_n, rtM_v, rtM_n, atI_0, atI_1, atI_2, atI_3, atI_4, ixN_0, ixN_1, ixN_2, setAllE, sizeLine_eq, Option.bind_some, Option.map_some, List.getElem?_cons_zero, List.getElem?_cons_succ, List.getElem?_nil, List.set_cons_zero, List.set_cons_succ, List.map_cons, List.map_nil, List.cons_append, List.nil_append, List.append_nil, List.length_cons, List.length_nil, List.replicate_succ, List.replicate_zero, Bool.not_true, Bool.not_false, Bool.false_eq_true, decide_true, decide_false, Nat.reduceAdd, Nat.reduceSub, Nat.reduceEqDiff, Nat.reduceLT, Nat.reduceLeDiff, ↓reduceIte, Int.reduceLT, Int.reduceLE, Int.reduceAdd, Int.reduceSub, Int.reduceMul, Int.reduceNeg, Int.reduceToNat, Int.reduceMod, Int.reduceEq, Int.reducePow, Nat.reducePow, decide_eq_true_eq, decide_eq_false_iff_not, eq_self, ne_eq, not_true_eq_false, not_false_eq_true, and_true, true_and, and_false, false_and, and_self, or_true, true_or, or_false, false_or, Bool.true_and, Bool.false_or]
  · simp only [F_L_is_deed, OX_some, OX_map, OX_fzf, OX_eV, OX_eK, OX_e1, OX_e2, OX_e3, OX_tb, OX_tru, OX_ite, OX_tand, OX_tor, OX_tnot, OX_eand, OX_eor, OX_enot, OX_eif, OX_a0, OX_aC, OX_etup, OX_elst, OX_eC, OX_eF, OX_eM, OX_sNil, OX_sBk, OX_sCt, OX_sRetN, OX_sq, OX_sIf, OX_sRet, OX_sX, OX_sV, OX_sO, OX_sP, OX_sU, OX_tgn, OX_tgt, OX_sSt, OX_eMM, OX_append, OX_eIs, OX_sFor, OX_sWh, OX_eLc, OX_iR1, OX_iR2, OX_iL, OX_iT, OX_oN, OX_oS, OX_eSl, OX_pE0, OX_pE, OX_eDk, OX_eGet2, OX_eDn, OX_eD0, OX_iI, OX_iB, OX_neg, OX_dEq, OX_dNe, OX_dIs, OX_dIsNot, OX_dIn, OX_dNotIn, OX_inL, OX_inT, OX_catT, OX_catL, OX_ixT, OX_ixL, OX_ixS, OX_slT, OX_slL, OX_lenL, OX_lenT, OX_lenS, OX_max2, OX_min2, OX_intI, OX_intB, OX_tupL, OX_tupT, OX_listL, OX_listT, OX_all, OX_any, OX_strT, OX_truB, OX_truI, OX_truL, OX_truT, OX_truN, OX_rtR_s, OX_rtM_s, frz_v, frz_n, frz_s, toD_lst, toD_dic, toD_dk, dr_v, dr_n, dr_s, ownD_own, vals_nil, vals_v, drs_nil, drs_c, svR_v, svR_own, svR_al, boolR_b, argM_s, ownM_own, slotR_s, ownL_own, valR_v, newR_n, two_2, intD_i, int1_i, int2_i, listD_l, tupD_t, eqD_ii, eqD_ss, eqD_bb, rtR_v, rtR_n, rtM_v, rtM_n, atI_0, atI_1, atI_2, atI_3, atI_4, ixN_0, ixN_1, ixN_2, setAllE, sizeLine_eq, Option.bind_some, Option.map_some, List.getElem?_cons_zero, List.getElem?_cons_succ, List.getElem?_nil, List.set_cons_zero, List.set_cons_succ, List.map_cons, List.map_nil, List.cons_append, List.nil_append, List.append_nil, List.length_cons, List.length_nil, List.replicate_succ, List.replicate_zero, Bool.not_true, Bool.not_false, Bool.false_eq_true, decide_true, decide_false, Nat.reduceAdd, Nat.reduceSub, Nat.reduceEqDiff, Nat.reduceLT, Nat.reduceLeDiff, ↓reduceIte, Int.reduceLT, Int.reduceLE, Int.reduceAdd, Int.reduceSub, Int.reduceMul, Int.reduceNeg, Int.reduceToNat, Int.reduceMod, Int.reduceEq, Int.reducePow, Nat.reducePow, decide_eq_true_eq, decide_eq_false_iff_not, eq_self, ne_eq, not_true_eq_false, not_false_eq_true, and_true, true_and, and_false, false_and, and_self, or_true, true_or, or_false, false_or, isT_tt, isT_ss, edk7, sizes_td, get2_ok, W.z, ca, cb]
    try
      refine whole_ok.imp fun r e => ?_
      subst e
      cases hb : inB x 0 (n - 1) <;> simp only [OX_some, OX_map, OX_fzf, OX_eV, OX_eK, OX_e1, OX_e2, OX_e3, OX_tb, OX_tru, OX_ite, OX_tand, OX_tor, OX_tnot, OX_eand, OX_eor, OX_enot, OX_eif, OX_a0, OX_aC, OX_etup, OX_elst, OX_eC, OX_eF, OX_eM, OX_sNil, OX_sBk, OX_sCt, OX_sRetN, OX_sq, OX_sIf, OX_sRet, OX_sX, OX_sV, OX_sO, OX_sP, OX_sU, OX_tgn, OX_tgt, OX_sSt, OX_eMM, OX_append, OX_eIs, OX_sFor, OX_sWh, OX_eLc, OX_iR1, OX_iR2, OX_iL, OX_iT, OX_oN, OX_oS, OX_eSl, OX_pE0, OX_pE, OX_eDk, OX_eGet2, OX_eDn, OX_eD0, OX_iI, OX_iB, OX_neg, OX_dEq, OX_dNe, OX_dIs, OX_dIsNot, OX_dIn, OX_dNotIn, OX_inL, OX_inT, OX_catT, OX_catL, OX_ixT, OX_ixL, OX_ixS, OX_slT, OX_slL, OX_lenL, OX_lenT, OX_lenS, OX_max2, OX_min2, OX_intI, OX_intB, OX_tupL, OX_tupT, OX_listL, OX_listT, OX_all, OX_any, OX_strT, OX_truB, OX_truI, OX_truL, OX_truT, OX_truN, OX_rtR_s, OX_rtM_s, frz_v, frz_n, frz_s, toD_lst, toD_dic, toD_dk, dr_v, dr_n, dr_s, ownD_own, vals_nil, vals_v, drs_nil, drs_c, svR_v, svR_own, svR_al, boolR_b, argM_s, ownM_own, slotR_s, ownL_own, valR_v, newR_n, two_2, intD_i, int1_i, int2_i, listD_l, tupD_t, eqD_ii, eqD_ss, eqD_bb, rtR_v, rtR_n, rtM_v, rtM_n, atI_0, atI_1, atI_2, atI_3, atI_4, ixN_0, ixN_1, ixN_2, setAllE, sizeLine_eq, Option.bind_some, Option.map_some, List.getElem?_cons_zero, List.getElem?_cons_succ, List.getElem?_nil, List.set_cons_zero, List.set_cons_succ, List.map_cons, List.map_nil, List.cons_append, List.nil_append, List.append_nil, List.length_cons, List.length_nil, List.replicate_succ, List.replicate_zero, Bool.not_true, Bool.not_false, Bool.false_eq_true, decide_true, decide_false, Nat.reduceAdd, Nat.reduceSub, Nat.reduceEqDiff, Nat.reduceLT, Nat.reduceLeDiff, ↓reduceIte, Int.reduceLT, Int.reduceLE, Int.reduceAdd, Int.reduceSub, Int.reduceMul, Int.reduceNeg, Int.reduceToNat, Int.reduceMod, Int.reduceEq, Int.reducePow, Nat.reducePow, decide_eq_true_eq, decide_eq_false_iff_not, eq_self, ne_eq, not_true_eq_false, not_false_eq_true, and_true, true_and, and_false, false_and, and_self, or_true, true_or, or_false, false_or, isT_tt, isT_ss, ca, cb, hb, Bool.true_and, Bool.false_and]
    try
      cases hy : isN y <;> simp only [OX_some, OX_map, OX_fzf, OX_eV, OX_eK, OX_e1, OX_e2, OX_e3, OX_tb, OX_tru, OX_ite, OX_tand, OX_tor, OX_tnot, OX_eand, OX_eor, OX_enot, OX_eif, OX_a0, OX_aC, OX_etup, OX_elst, OX_eC, OX_eF, OX_eM, OX_sNil, OX_sBk, OX_sCt, OX_sRetN, OX_sq, OX_sIf, OX_sRet, OX_sX, OX_sV, OX_sO, OX_sP, OX_sU, OX_tgn, OX_tgt, OX_sSt, OX_eMM, OX_append, OX_eIs, OX_sFor, OX_sWh, OX_eLc, OX_iR1, OX_iR2, OX_iL, OX_iT, OX_oN, OX_oS, OX_eSl, OX_pE0, OX_pE, OX_eDk, OX_eGet2, OX_eDn, OX_eD0, OX_iI, OX_iB, OX_neg, OX_dEq, OX_dNe, OX_dIs, OX_dIsNot, OX_dIn, OX_dNotIn, OX_inL, OX_inT, OX_catT, OX_catL, OX_ixT, OX_ixL, OX_ixS, OX_slT, OX_slL, OX_lenL, OX_lenT, OX_lenS, OX_max2, OX_min2, OX_intI, OX_intB, OX_tupL, OX_tupT, OX_listL, OX_listT, OX_all, OX_any, OX_strT, OX_truB, OX_truI, OX_truL, OX_truT, OX_truN, OX_rtR_s, OX_rtM_s, frz_v, frz_n, frz_s, toD_lst, toD_dic, toD_dk, dr_v, dr_n, dr_s, ownD_own, vals_nil, vals_v, drs_nil, drs_c, svR_v, svR_own, svR_al, boolR_b, argM_s, ownM_own, slotR_s, ownL_own, valR_v, newR_n, two_2, intD_i, int1_i, int2_i, listD_l, tupD_t, eqD_ii, eqD_ss, eqD_bb, rtR_v, rtR_n, rtM_v, rtM_n, atI_0, atI_1, atI_2, atI_3, atI_4, ixN_0, ixN_1, ixN_2, setAllE, sizeLine_eq, Option.bind_some, Option.map_some, List.getElem?_cons_zero, List.getElem?_cons_succ, List.getElem?_nil, List.set_cons_zero, List.set_cons_succ, List.map_cons, List.map_nil, List.cons_append, List.nil_append, List.append_nil, List.length_cons, List.length_nil, List.replicate_succ, List.replicate_zero, Bool.not_true, Bool.not_false, Bool.false_eq_true, decide_true, decide_false, Nat.reduceAdd, Nat.reduceSub, Nat.reduceEqDiff, Nat.reduceLT, Nat.reduceLeDiff, ↓reduceIte, Int.reduceLT, Int.reduceLE, Int.reduceAdd, Int.reduceSub, Int.reduceMul, Int.reduceNeg, Int.reduceToNat, Int.reduceMod, Int.reduceEq, Int.reducePow, Nat.reducePow, decide_eq_true_eq, decide_eq_false_iff_not, eq_self, ne_eq, not_true_eq_false, not_false_eq_true, and_true, true_and, and_false, false_and, and_self, or_true, true_or, or_false, false_or, isT_tt, isT_ss, ca, cb, hy, Bool.true_or, Bool.false_or]
      refine whole_ok.imp fun r e => ?_
      subst e
      first | rfl | simp only [OX_some, OX_map, OX_fzf, OX_eV, OX_eK, OX_e1, OX_e2, OX_e3, OX_tb, OX_tru, OX_ite, OX_tand, OX_tor, OX_tnot, OX_eand, OX_eor, OX_enot, OX_eif, OX_a0, OX_aC, OX_etup, OX_elst, OX_eC, OX_eF, OX_eM, OX_sNil, OX_sBk, OX_sCt, OX_sRetN, OX_sq, OX_sIf, OX_sRet, OX_sX, OX_sV, OX_sO, OX_sP, OX_sU, OX_tgn, OX_tgt, OX_sSt, OX_eMM, OX_append, OX_eIs, OX_sFor, OX_sWh, OX_eLc, OX_iR1, OX_iR2, OX_iL, OX_iT, OX_oN, OX_oS, OX_eSl, OX_pE0, OX_pE, OX_eDk, OX_eGet2, OX_eDn, OX_eD0, OX_iI, OX_iB, OX_neg, OX_dEq, OX_dNe, OX_dIs, OX_dIsNot, OX_dIn, OX_dNotIn, OX_inL, OX_inT, OX_catT, OX_catL, OX_ixT, OX_ixL, OX_ixS, OX_slT, OX_slL, OX_lenL, OX_lenT, OX_lenS, OX_max2, OX_min2, OX_intI, OX_intB, OX_tupL, OX_tupT, OX_listL, OX_listT, OX_all, OX_any, OX_strT, OX_truB, OX_truI, OX_truL, OX_truT, OX_truN, OX_rtR_s, OX_rtM_s, frz_v, frz_n, frz_s, toD_lst, toD_dic, toD_dk, dr_v, dr_n, dr_s, ownD_own, vals_nil, vals_v, drs_nil, drs_c, svR_v, svR_own, svR_al, boolR_b, argM_s, ownM_own, slotR_s, ownL_own, valR_v, newR_n, two_2, intD_i, int1_i, int2_i, listD_l, tupD_t, eqD_ii, eqD_ss, eqD_bb, rtR_v, rtR_n, rtM_v, rtM_n, atI_0, atI_1, atI_2, atI_3, atI_4, ixN_0, ixN_1, ixN_2, setAllE, sizeLine_eq, Option.bind_some, Option.map_some, List.getElem?_cons_zero, List.getElem?_cons_succ, List.getElem?_nil, List.set_cons_zero, List.set_cons_succ, List.map_cons, List.map_nil, List.cons_append, List.nil_append, List.append_nil, List.length_cons, List.length_nil, List.replicate_succ, List.replicate_zero, Bool.not_true, Bool.not_false, Bool.false_eq_true, decide_true, decide_false, Nat.reduceAdd, Nat.reduceSub, Nat.reduceEqDiff, Nat.reduceLT, Nat.reduceLeDiff, ↓reduceIte, Int.reduceLT, Int.reduceLE, Int.reduceAdd, Int.reduceSub, Int.reduceMul, Int.reduceNeg, Int.reduceToNat, Int.reduceMod, Int.reduceEq, Int.reducePow, Nat.reducePow, decide_eq_true_eq, decide_eq_false_iff_not, eq_self, ne_eq, not_true_eq_false, not_false_eq_true, and_true, true_and, and_false, false_and, and_self, or_true, true_or, or_false, false_or, Bool.true_and, Bool.false_or]
theorem d_10 {n : Int} {w : Str} (W : WF w false true false 3) : OX (D_is_deed [.int n, .tuple [.str w]]) (fun r => r = .v (.bool (false))) ∧ OX (D_L_is_deed [.int n, .tuple [.str w]]) fun r => r = .v (.bool (false)) := by
  refine ⟨OX.defF rfl ?_, OX.defF rfl ?_⟩
  · simp only [F_is_deed, OX_some, OX_map, OX_fzf, OX_eV, OX_eK, OX_e1, OX_e2, OX_e3, OX_tb, OX_tru, OX_ite, OX_tand, OX_tor, OX_tnot, OX_eand, OX_eor, OX_enot, OX_eif, OX_a0, OX_aC, OX_etup, OX_elst, OX_eC, OX_eF, OX_eM, OX_sNil, OX_sBk, OX_sCt, OX_sRetN, OX_sq, OX_sIf, OX_sRet, OX_sX, OX_sV, OX_sO, OX_sP, OX_sU, OX_tgn, OX_tgt, OX_sSt, OX_eMM, OX_append, OX_eIs, OX_sFor, OX_sWh, OX_eLc, OX_iR1, OX_iR2, OX_iL, OX_iT, OX_oN, OX_oS, OX_eSl, OX_pE0, OX_pE, OX_eDk, OX_eGet2, OX_eDn, OX_eD0, OX_iI, OX_iB, OX_neg, OX_dEq, OX_dNe, OX_dIs, OX_dIsNot, OX_dIn, OX_dNotIn, OX_inL, OX_inT, OX_catT, OX_catL, OX_ixT, OX_ixL, OX_ixS, OX_slT, OX_slL, OX_lenL, OX_lenT, OX_lenS, OX_max2, OX_min2, OX_intI, OX_intB, OX_tupL, OX_tupT, OX_listL, OX_listT, OX_all, OX_any, OX_strT, OX_truB, OX_truI, OX_truL, OX_truT, OX_truN, OX_rtR_s, OX_rtM_s, frz_v, frz_n, frz_s, toD_lst, toD_dic, toD_dk, dr_v, dr_n, dr_s, ownD_own, vals_nil, vals_v, drs_nil, drs_c, svR_v, svR_own, svR_al, boolR_b, argM_s, ownM_own, slotR_s, ownL_own, valR_v, newR_n, two_2, intD_i, int1_i, int2_i, listD_l, tupD_t, eqD_ii, eqD_ss, eqD_bb, rtR_v, rtR_n, rtM_v, rtM_n, atI_0, atI_1, atI_2, atI_3, atI_4, ixN_0, ixN_1, ixN_2, setAllE, sizeLine_eq, Option.bind_some, Option.map_some, List.getElem?_cons_zero, List.getElem?_cons_succ, List.getElem?_nil, List.set_cons_zero, List.set_cons_succ, List.map_cons, List.map_nil, List.cons_append, List.nil_append, List.append_nil, List.length_cons, List.length_nil, List.replicate_succ, List.replicate_zero, Bool.not_true, Bool.not_false, Bool.false_eq_true, decide_true, decide_false, Nat.reduceAdd, Nat.reduceSub, Nat.reduceEqDiff, Nat.reduceLT, Nat.reduceLeDiff, ↓reduceIte, Int.reduceLT, Int.reduceLE, Int.reduceAdd, Int.reduceSub, Int.reduceMul, Int.reduceNeg, Int.reduceToNat, Int.reduceMod, Int.reduceEq, Int.reducePow, Nat.reducePow, decide_eq_true_eq, decide_eq_false_iff_not, eq_self, ne_eq, not_true_eq_false, not_false_eq_true, and_true, true_and, and_false, false_and, and_self, or_true, true_or, or_false, false_or, isT_tt, isT_ss, W.t, W.a, W.m, ca, cb]
    try
      refine between_ok.imp fun r e => ?_
      subst e
      cases hb : inB x 0 (n - 1) <;> simp only [OX_some, OX_map, OX_fzf, OX_eV, OX_eK, OX_e1, OX_e2, OX_e3, OX_tb, OX_tru, OX_ite, OX_tand, OX_tor, OX_tnot, OX_eand, OX_eor, OX_enot, OX_eif, OX_a0, OX_aC, OX_etup, OX_elst, OX_eC, OX_eF, OX_eM, OX_sNil, OX_sBk, OX_sCt, OX_sRetN, OX_sq, OX_sIf, OX_sRet, OX_sX, OX_sV, OX_sO, OX_sP, OX_sU, OX_tgn, OX_tgt, OX_sSt, OX_eMM, OX_append, OX_eIs, OX_sFor, OX_sWh, OX_eLc, OX_iR1, OX_iR2, OX_iL, OX_iT, OX_oN, OX_oS, OX_eSl, OX_pE0, OX_pE, OX_eDk, OX_eGet2, OX_eDn, OX_eD0, OX_iI, OX_iB, OX_neg, OX_dEq, OX_dNe, OX_dIs, OX_dIsNot, OX_dIn, OX_dNotIn, OX_inL, OX_inT, OX_catT, OX_catL, OX_ixT, OX_ixL, OX_ixS, OX_slT, OX_slL, OX_lenL, OX_lenT, OX_lenS, OX_max2, OX_min2, OX_intI, OX_intB, OX_tupL, OX_tupT, OX_listL, OX_listT, OX_all, OX_any, OX_strT, OX_truB, OX_truI, OX_truL, OX_truT, OX_truN, OX_rtR_s, OX_rtM_s, frz_v, frz_n, frz_s, toD_lst, toD_dic, toD_dk, dr_v, dr_n, dr_s, ownD_own, vals_nil, vals_v, drs_nil, drs_c, svR_v, svR_own, svR_al, boolR_b, argM_s, ownM_own, slotR_s, ownL_own, valR_v, newR_n, two_2, intD_i, int1_i, int2_i, listD_l, tupD_t, eqD_ii, eqD_ss, eqD_bb, rtR_v, rtR_n, rtM_v, rtM_n, atI_0, atI_1, atI_2, atI_3, atI_4, ixN_0, ixN_1, ixN_2, setAllE, sizeLine_eq, Option.bind_some, Option.map_some, List.getElem?_cons_zero, List.getElem?_cons_succ, List.getElem?_nil, List.set_cons_zero, List.set_cons_succ, List.map_cons, List.map_nil, List.cons_append, List.nil_append, List.append_nil, List.length_cons, List.length_nil, List.replicate_succ, List.replicate_zero, Bool.not_true, Bool.not_false, Bool.false_eq_true, decide_true, decide_false, Nat.reduceAdd, Nat.reduceSub, Nat.reduceEqDiff, Nat.reduceLT, Nat.reduceLeDiff, ↓reduceIte, Int.reduceLT, Int.reduceLE, Int.reduceAdd, Int.reduceSub, Int.reduceMul, Int.reduceNeg, Int.reduceToNat, Int.reduceMod, Int.reduceEq, Int.reducePow, Nat.reducePow, decide_eq_true_eq, decide_eq_false_iff_not, eq_self, ne_eq, not_true_eq_false, not_false_eq_true, and_true, true_and, and_false, false_and, and_self, or_true, true_or, or_false, false_or, isT_tt, isT_ss, W.t, W.a, W.m, ca, cb, hb, Bool.true_and, Bool.false_and]
    try
      cases hy : isN y <;> simp only [OX_some, OX_map, OX_fzf, OX_eV, OX_eK, OX_e1, OX_e2, OX_e3, OX_tb, OX_tru, OX_ite, OX_tand, OX_tor, OX_tnot, OX_eand, OX_eor, OX_enot, OX_eif, OX_a0, OX_aC, OX_etup, OX_elst, OX_eC, OX_eF, OX_eM, OX_sNil, OX_sBk, OX_sCt, OX_sRetN, OX_sq, OX_sIf, OX_sRet, OX_sX, OX_sV, OX_sO, OX_sP, OX_sU, OX_tgn, OX_tgt, OX_sSt, OX_eMM, OX_append, OX_eIs, OX_sFor, OX_sWh, OX_eLc, OX_iR1, OX_iR2, OX_iL, OX_iT, OX_oN, OX_oS, OX_eSl, OX_pE0, OX_pE, OX_eDk, OX_eGet2, OX_eDn, OX_eD0, OX_iI, OX_iB, OX_neg, OX_dEq, OX_dNe, OX_dIs, OX_dIsNot, OX_dIn, OX_dNotIn, OX_inL, OX_inT, OX_catT, OX_catL, OX_ixT, OX_ixL, OX_ixS, OX_slT, OX_slL, OX_lenL, OX_lenT, OX_lenS, OX_max2, OX_min2, OX_intI, OX_intB, OX_tupL, OX_tupT, OX_listL, OX_listT, OX_all, OX_any, OX_strT, OX_truB, OX_truI, OX_truL, OX_truT, OX_truN, OX_rtR_s, OX_rtM_s, frz_v, frz_n, frz_s, toD_lst, toD_dic, toD_dk, dr_v, dr_n, dr_s, ownD_own, vals_nil, vals_v, drs_nil, drs_c, svR_v, svR_own, svR_al, boolR_b, argM_s, ownM_own, slotR_s, ownL_own, valR_v, newR_n, two_2, intD_i, int1_i, int2_i, listD_l, tupD_t, eqD_ii, eqD_ss, eqD_bb, rtR_v, rtR_n, rtM_v, rtM_n, atI_0, atI_1, atI_2, atI_3, atI_4, ixN_0, ixN_1, ixN_2, setAllE, sizeLine_eq, Option.bind_some, Option.map_some, List.getElem?_cons_zero, List.getElem?_cons_succ, List.getElem?_nil, List.set_cons_zero, List.set_cons_succ, List.map_cons, List.map_nil, List.cons_append, List.nil_append, List.append_nil, List.length_cons, List.length_nil, List.replicate_succ, List.replicate_zero, Bool.not_true, Bool.not_false, Bool.false_eq_true, decide_true, decide_false, Nat.reduceAdd, Nat.reduceSub, Nat.reduceEqDiff, Nat.reduceLT, Nat.reduceLeDiff, ↓reduceIte, Int.reduceLT, Int.reduceLE, Int.reduceAdd, Int.reduceSub, Int.reduceMul, Int.reduceNeg, Int.reduceToNat, Int.reduceMod, Int.reduceEq, Int.reducePow, Nat.reducePow, decide_eq_true_eq, decide_eq_false_iff_not, eq_self, ne_eq, not_true_eq_false, not_false_eq_true, and_true, true_and, and_false, false_and, and_self, or_true, true_or, or_false, false_or, isT_tt, isT_ss, W.t, W.a, W.m, ca, cb, hy, Bool.true_or, Bool.false_or]
      refine between_ok.imp fun r e => ?_
      subst e
      first | rfl | simp only [OX_some, OX_map, OX_fzf, OX_eV, OX_eK, OX_e1, OX_e2, OX_e3, OX_tb, OX_tru, OX_ite, OX_tand, OX_tor, OX_tnot, OX_eand, OX_eor, OX_enot, OX_eif, OX_a0, OX_aC, OX_etup, OX_elst, OX_eC, OX_eF, OX_eM, OX_sNil, OX_sBk, OX_sCt, OX_sRetN, OX_sq, OX_sIf, OX_sRet, OX_sX, OX_sV, OX_sO, OX_sP, OX_sU, OX_tgn, OX_tgt, OX_sSt, OX_eMM, OX_append, OX_eIs, OX_sFor, OX_sWh, OX_eLc, OX_iR1, OX_iR2, OX_iL, OX_iT, OX_oN, OX_oS, OX_eSl, OX_pE0, OX_pE, OX_eDk, OX_eGet2, OX_eDn, OX_eD0, OX_iI, OX_iB, OX_neg, OX_dEq, OX_dNe, OX_dIs, OX_dIsNot, OX_dIn, OX_dNotIn, OX_inL, OX_inT, OX_catT, OX_catL, OX_ixT, OX_ixL, OX_ixS, OX_slT, OX_slL, OX_lenL, OX_lenT, OX_lenS, OX_max2, OX_min2, OX_intI, OX_intB, OX_tupL, OX_tupT, OX_listL, OX_listT, OX_all, OX_any, OX_strT, OX_truB, OX_truI, OX_truL, OX_truT, OX_truN, OX_rtR_s, OX_rtM_s, frz_v, frz_n, frz_s, toD_lst, toD_dic, toD_dk, dr_v, dr_n, dr_s, ownD_own, vals_nil, vals_v, drs_nil, drs_c, svR_v, svR_own, svR_al, boolR_b, argM_s, ownM_own, slotR_s, ownL_own, valR_v, newR_n, two_2, intD_i, int1_i, int2_i, listD_l, tupD_t, eqD_ii, eqD_ss, eqD_bb, rtR_v, rtR_n, rtM_v, rtM_n, atI_0, atI_1, atI_2, atI_3, atI_4, ixN_0, ixN_1, ixN_2, setAllE, sizeLine_eq, Option.bind_some, Option.map_some, List.getElem?_cons_zero, List.getElem?_cons_succ, List.getElem?_nil, List.set_cons_zero, List.set_cons_succ, List.map_cons, List.map_nil, List.cons_append, List.nil_append, List.append_nil, List.length_cons, List.length_nil, List.replicate_succ, List.replicate_zero, Bool.not_true, Bool.not_false, Bool.false_eq_true, decide_true, decide_false, Nat.reduceAdd, Nat.reduceSub, Nat.reduceEqDiff, Nat.reduceLT, Nat.reduceLeDiff, ↓reduceIte, Int.reduceLT, Int.reduceLE, Int.reduceAdd, Int.reduceSub, Int.reduceMul, Int.reduceNeg, Int.reduceToNat, Int.reduceMod, Int.reduceEq, Int.reducePow, Nat.reducePow, decide_eq_true_eq, decide_eq_false_iff_not, eq_self, ne_eq, not_true_eq_false, not_false_eq_true, and_true, true_and, and_false, false_and, and_self, or_true, true_or, or_false, false_or, Bool.true_and, Bool.false_or]
  · simp only [F_L_is_deed, OX_some, OX_map, OX_fzf, OX_eV, OX_eK, OX_e1, OX_e2, OX_e3, OX_tb, OX_tru, OX_ite, OX_tand, OX_tor, OX_tnot, OX_eand, OX_eor, OX_enot, OX_eif, OX_a0, OX_aC, OX_etup, OX_elst, OX_eC, OX_eF, OX_eM, OX_sNil, OX_sBk, OX_sCt, OX_sRetN, OX_sq, OX_sIf, OX_sRet, OX_sX, OX_sV, OX_sO, OX_sP, OX_sU, OX_tgn, OX_tgt, OX_sSt, OX_eMM, OX_append, OX_eIs, OX_sFor, OX_sWh, OX_eLc, OX_iR1, OX_iR2, OX_iL, OX_iT, OX_oN, OX_oS, OX_eSl, OX_pE0, OX_pE, OX_eDk, OX_eGet2, OX_eDn, OX_eD0, OX_iI, OX_iB, OX_neg, OX_dEq, OX_dNe, OX_dIs, OX_dIsNot, OX_dIn, OX_dNotIn, OX_inL, OX_inT, OX_catT, OX_catL, OX_ixT, OX_ixL, OX_ixS, OX_slT, OX_slL, OX_lenL, OX_lenT, OX_lenS, OX_max2, OX_min2, OX_intI, OX_intB, OX_tupL, OX_tupT, OX_listL, OX_listT, OX_all, OX_any, OX_strT, OX_truB, OX_truI, OX_truL, OX_truT, OX_truN, OX_rtR_s, OX_rtM_s, frz_v, frz_n, frz_s, toD_lst, toD_dic, toD_dk, dr_v, dr_n, dr_s, ownD_own, vals_nil, vals_v, drs_nil, drs_c, svR_v, svR_own, svR_al, boolR_b, argM_s, ownM_own, slotR_s, ownL_own, valR_v, newR_n, two_2, intD_i, int1_i, int2_i, listD_l, tupD_t, eqD_ii, eqD_ss, eqD_bb, rtR_v, rtR_n, rtM_v, rtM_n, atI_0, atI_1, atI_2, atI_3, atI_4, ixN_0, ixN_1, ixN_2, setAllE, sizeLine_eq, Option.bind_some, Option.map_some, List.getElem?_cons_zero, List.getElem?_cons_succ, List.getElem?_nil, List.set_cons_zero, List.set_cons_succ, List.map_cons, List.map_nil, List.cons_append, List.nil_append, List.append_nil, List.length_cons, List.length_nil, List.replicate_succ, List.replicate_zero, Bool.not_true, Bool.not_false, Bool.false_eq_true, decide_true, decide_false, Nat.reduceAdd, Nat.reduceSub, Nat.reduceEqDiff, Nat.reduceLT, Nat.reduceLeDiff, ↓reduceIte, Int.reduceLT, Int.reduceLE, Int.reduceAdd, Int.reduceSub, Int.reduceMul, Int.reduceNeg, Int.reduceToNat, Int.reduceMod, Int.reduceEq, Int.reducePow, Nat.reducePow, decide_eq_true_eq, decide_eq_false_iff_not, eq_self, ne_eq, not_true_eq_false, not_false_eq_true, and_true, true_and, and_false, false_and, and_self, or_true, true_or, or_false, false_or, isT_tt, isT_ss, edk7, sizes_td, get2_ok, W.z, ca, cb]
    try
      refine whole_ok.imp fun r e => ?_
      subst e
      cases hb : inB x 0 (n - 1) <;> simp only [OX_some, OX_map, OX_fzf, OX_eV, OX_eK, OX_e1, OX_e2, OX_e3, OX_tb, OX_tru, OX_ite, OX_tand, OX_tor, OX_tnot, OX_eand, OX_eor, OX_enot, OX_eif, OX_a0, OX_aC, OX_etup, OX_elst, OX_eC, OX_eF, OX_eM, OX_sNil, OX_sBk, OX_sCt, OX_sRetN, OX_sq, OX_sIf, OX_sRet, OX_sX, OX_sV, OX_sO, OX_sP, OX_sU, OX_tgn, OX_tgt, OX_sSt, OX_eMM, OX_append, OX_eIs, OX_sFor, OX_sWh, OX_eLc, OX_iR1, OX_iR2, OX_iL, OX_iT, OX_oN, OX_oS, OX_eSl, OX_pE0, OX_pE, OX_eDk, OX_eGet2, OX_eDn, OX_eD0, OX_iI, OX_iB, OX_neg, OX_dEq, OX_dNe, OX_dIs, OX_dIsNot, OX_dIn, OX_dNotIn, OX_inL, OX_inT, OX_catT, OX_catL, OX_ixT, OX_ixL, OX_ixS, OX_slT, OX_slL, OX_lenL, OX_lenT, OX_lenS, OX_max2, OX_min2, OX_intI, OX_intB, OX_tupL, OX_tupT, OX_listL, OX_listT, OX_all, OX_any, OX_strT, OX_truB, OX_truI, OX_truL, OX_truT, OX_truN, OX_rtR_s, OX_rtM_s, frz_v, frz_n, frz_s, toD_lst, toD_dic, toD_dk, dr_v, dr_n, dr_s, ownD_own, vals_nil, vals_v, drs_nil, drs_c, svR_v, svR_own, svR_al, boolR_b, argM_s, ownM_own, slotR_s, ownL_own, valR_v, newR_n, two_2, intD_i, int1_i, int2_i, listD_l, tupD_t, eqD_ii, eqD_ss, eqD_bb, rtR_v, rtR_n, rtM_v, rtM_n, atI_0, atI_1, atI_2, atI_3, atI_4, ixN_0, ixN_1, ixN_2, setAllE, sizeLine_eq, Option.bind_some, Option.map_some, List.getElem?_cons_zero, List.getElem?_cons_succ, List.getElem?_nil, List.set_cons_zero, List.set_cons_succ, List.map_cons, List.map_nil, List.cons_append, List.nil_append, List.append_nil, List.length_cons, List.length_nil, List.replicate_succ, List.replicate_zero, Bool.not_true, Bool.not_false, Bool.false_eq_true, decide_true, decide_false, Nat.reduceAdd, Nat.reduceSub, Nat.reduceEqDiff, Nat.reduceLT, Nat.reduceLeDiff, ↓reduceIte, Int.reduceLT, Int.reduceLE, Int.reduceAdd, Int.reduceSub, Int.reduceMul, Int.reduceNeg, Int.reduceToNat, Int.reduceMod, Int.reduceEq, Int.reducePow, Nat.reducePow, decide_eq_true_eq, decide_eq_false_iff_not, eq_self, ne_eq, not_true_eq_false, not_false_eq_true, and_true, true_and, and_false, false_and, and_self, or_true, true_or, or_false, false_or, isT_tt, isT_ss, ca, cb, hb, Bool.true_and, Bool.false_and]
    try
      cases hy : isN y <;> simp only [OX_some, OX_map, OX_fzf, OX_eV, OX_eK, OX_e1, OX_e2, OX_e3, OX_tb, OX_tru, OX_ite, OX_tand, OX_tor, OX_tnot, OX_eand, OX_eor, OX_enot, OX_eif, OX_a0, OX_aC, OX_etup, OX_elst, OX_eC, OX_eF, OX_eM, OX_sNil, OX_sBk, OX_sCt, OX_sRetN, OX_sq, OX_sIf, OX_sRet, OX_sX, OX_sV, OX_sO, OX_sP, OX_sU, OX_tgn, OX_tgt, OX_sSt, OX_eMM, OX_append, OX_eIs, OX_sFor, OX_sWh, OX_eLc, OX_iR1, OX_iR2, OX_iL, OX_iT, OX_oN, OX_oS, OX_eSl, OX_pE0, OX_pE, OX_eDk, OX_eGet2, OX_eDn, OX_eD0, OX_iI, OX_iB, OX_neg, OX_dEq, OX_dNe, OX_dIs, OX_dIsNot, OX_dIn, OX_dNotIn, OX_inL, OX_inT, OX_catT, OX_catL, OX_ixT, OX_ixL, OX_ixS, OX_slT, OX_slL, OX_lenL, OX_lenT, OX_lenS, OX_max2, OX_min2, OX_intI, OX_intB, OX_tupL, OX_tupT, OX_listL, OX_listT, OX_all, OX_any, OX_strT, OX_truB, OX_truI, OX_truL, OX_truT, OX_truN, OX_rtR_s, OX_rtM_s, frz_v, frz_n, frz_s, toD_lst, toD_dic, toD_dk, dr_v, dr_n, dr_s, ownD_own, vals_nil, vals_v, drs_nil, drs_c, svR_v, svR_own, svR_al, boolR_b, argM_s, ownM_own, slotR_s, ownL_own, valR_v, newR_n, two_2, intD_i, int1_i, int2_i, listD_l, tupD_t, eqD_ii, eqD_ss, eqD_bb, rtR_v, rtR_n, rtM_v, rtM_n, atI_0, atI_1, atI_2, atI_3, atI_4, ixN_0, ixN_1, ixN_2, setAllE, sizeLine_eq, Option.bind_some, Option.map_some, List.getElem?_cons_zero, List.getElem?_cons_succ, List.getElem?_nil, List.set_cons_zero, List.set_cons_succ, List.map_cons, List.map_nil, List.cons_append, List.nil_append, List.append_nil, List.length_cons, List.length_nil, List.replicate_succ, List.replicate_zero, Bool.not_true, Bool.not_false, Bool.false_eq_true, decide_true, decide_false, Nat.reduceAdd, Nat.reduceSub, Nat.reduceEqDiff, Nat.reduceLT, Nat.reduceLeDiff, ↓reduceIte, Int.reduceLT, Int.reduceLE, Int.reduceAdd, Int.reduceSub, Int.reduceMul, Int.reduceNeg, Int.reduceToNat, Int.reduceMod, Int.reduceEq, Int.reducePow, Nat.reducePow, decide_eq_true_eq, decide_eq_false_iff_not, eq_self, ne_eq, not_true_eq_false, not_false_eq_true, and_true, true_and, and_false, false_and, and_self, or_true, true_or, or_false, false_or, isT_tt, isT_ss, ca, cb, hy, Bool.true_or, Bool.false_or]
      refine whole_ok.imp fun r e => ?_
      subst e
      first | rfl | simp only [OX_some, OX_map, OX_fzf, OX_eV, OX_eK, OX_e1, OX_e2, OX_e3, OX_tb, OX_tru, OX_ite, OX_tand, OX_tor, OX_tnot, OX_eand, OX_eor, OX_enot, OX_eif, OX_a0, OX_aC, OX_etup, OX_elst, OX_eC, OX_eF, OX_eM, OX_sNil, OX_sBk, OX_sCt, OX_sRetN, OX_sq, OX_sIf, OX_sRet, OX_sX, OX_sV, OX_sO, OX_sP, OX_sU, OX_tgn, OX_tgt, OX_sSt, OX_eMM, OX_append, OX_eIs, OX_sFor, OX_sWh, OX_eLc, OX_iR1, OX_iR2, OX_iL, OX_iT, OX_oN, OX_oS, OX_eSl, OX_pE0, OX_pE, OX_eDk, OX_eGet2, OX_eDn, OX_eD0, OX_iI, OX_iB, OX_neg, OX_dEq, OX_dNe, OX_dIs, OX_dIsNot, OX_dIn, OX_dNotIn, OX_inL, OX_inT, OX_catT, OX_catL, OX_ixT, OX_ixL, OX_ixS, OX_slT, OX_slL, OX_lenL, OX_lenT, OX_lenS, OX_max2, OX_min2, OX_intI, OX_intB, OX_tupL, OX_tupT, OX_listL, OX_listT, OX_all, OX_any, OX_strT, OX_truB, OX_truI, OX_truL, OX_truT, OX_truN, OX_rtR_s, OX_rtM_s, frz_v, frz_n, frz_s, toD_lst, toD_dic, toD_dk, dr_v, dr_n, dr_s, ownD_own, vals_nil, vals_v, drs_nil, drs_c, svR_v, svR_own, svR_al, boolR_b, argM_s, ownM_own, slotR_s, ownL_own, valR_v, newR_n, two_2, intD_i, int1_i, int2_i, listD_l, tupD_t, eqD_ii, eqD_ss, eqD_bb, rtR_v, rtR_n, rtM_v, rtM_n, atI_0, atI_1, atI_2, atI_3, atI_4, ixN_0, ixN_1, ixN_2, setAllE, sizeLine_eq, Option.bind_some, Option.map_some, List.getElem?_cons_zero, List.getElem?_cons_succ, List.getElem?_nil, List.set_cons_zero, List.set_cons_succ, List.map_cons, List.map_nil, List.cons_append, List.nil_append, List.append_nil, List.length_cons, List.length_nil, List.replicate_succ, List.replicate_zero, Bool.not_true, Bool.not_false, Bool.false_eq_true, decide_true, decide_false, Nat.reduceAdd, Nat.reduceSub, Nat.reduceEqDiff, Nat.reduceLT, Nat.reduceLeDiff, ↓reduceIte, Int.reduceLT, Int.reduceLE, Int.reduceAdd, Int.reduceSub, Int.reduceMul, Int.reduceNeg, Int.reduceToNat, Int.reduceMod, Int.reduceEq, Int.reducePow, Nat.reducePow, decide_eq_true_eq, decide_eq_false_iff_not, eq_self, ne_eq, not_true_eq_false, not_false_eq_true, and_true, true_and, and_false, false_and, and_self, or_true, true_or, or_false, false_or, Bool.true_and, Bool.false_or]
theorem d_11 {n : Int} {w : Str} {x : D} (W : WF w false true false 3) : OX (D_is_deed [.int n, .tuple [.str w, x]]) (fun r => r = .v (.bool (false))) ∧ OX (D_L_is_deed [.int n, .tuple [.str w, x]]) fun r => r = .v (.bool (false)) := by
  refine ⟨OX.defF rfl ?_, OX.defF rfl ?_⟩
  · simp only [F_is_deed, OX_some, OX_map, OX_fzf, OX_eV, OX_eK, OX_e1, OX_e2, OX_e3, OX_tb, OX_tru, OX_ite, OX_tand, OX_tor, OX_tnot, OX_eand, OX_eor, OX_enot, OX_eif, OX_a0, OX_aC, OX_etup, OX_elst, OX_eC, OX_eF, OX_eM, OX_sNil, OX_sBk, OX_sCt, OX_sRetN, OX_sq, OX_sIf, OX_sRet, OX_sX, OX_sV, OX_sO, OX_sP, OX_sU, OX_tgn, OX_tgt, OX_sSt, OX_eMM, OX_append, OX_eIs, OX_sFor, OX_sWh, OX_eLc, OX_iR1, OX_iR2, OX_iL, OX_iT, OX_oN, OX_oS, OX_eSl, OX_pE0, OX_pE, OX_eDk, OX_eGet2, OX_eDn, OX_eD0, OX_iI, OX_iB, OX_neg, OX_dEq, OX_dNe, OX_dIs, OX_dIsNot, OX_dIn, OX_dNotIn, OX_inL, OX_inT, OX_catT, OX_catL, OX_ixT, OX_ixL, OX_ixS, OX_slT, OX_slL, OX_lenL, OX_lenT, OX_lenS, OX_max2, OX_min2, OX_intI, OX_intB, OX_tupL, OX_tupT, OX_listL, OX_listT, OX_all, OX_any, OX_strT, OX_truB, OX_truI, OX_truL, OX_truT, OX_truN, OX_rtR_s, OX_rtM_s, frz_v, frz_n, frz_s, toD_lst, toD_dic, toD_dk, dr_v, dr_n, dr_s, ownD_own, vals_nil, vals_v, drs_nil, drs_c, svR_v, svR_own, svR_al, boolR_b, argM_s, ownM_own, slotR_s, ownL_own, valR_v, newR_n, two_2, intD_i, int1_i, int2_i, listD_l, tupD_t, eqD_ii, eqD_ss, eqD_bb, rtR_v, rtR_n, rtM_v, rtM_n, atI_0, atI_1, atI_2, atI_3, atI_4, ixN_0, ixN_1, ixN_2, setAllE, sizeLine_eq, Option.bind_some, Option.map_some, List.getElem?_cons_zero, List.getElem?_cons_succ, List.getElem?_nil, List.set_cons_zero, List.set_cons_succ, List.map_cons, List.map_nil, List.cons_append, List.nil_append, List.append_nil, List.length_cons, List.length_nil, List.replicate_succ, List.replicate_zero, Bool.not_true, Bool.not_false, Bool.false_eq_true, decide_true, decide_false, Nat.reduceAdd, Nat.reduceSub, Nat.reduceEqDiff, Nat.reduceLT, Nat.reduceLeDiff, ↓reduceIte, Int.reduceLT, Int.reduceLE, Int.reduceAdd, Int.reduceSub, Int.reduceMul, Int.reduceNeg, Int.reduceToNat, Int.reduceMod, Int.reduceEq, Int.reducePow, Nat.reducePow, decide_eq_true_eq, decide_eq_false_iff_not, eq_self, ne_eq, not_true_eq_false, not_false_eq_true, and_true, true_and, and_false, false_and, and_self, or_true, true_or, or_false, false_or, isT_tt, isT_ss, W.t, W.a, W.m, ca, cb]
    try
      refine between_ok.imp fun r e => ?_
      subst e
      cases hb : inB x 0 (n - 1) <;> simp only [OX_some, OX_map, OX_fzf, OX_eV, OX_eK, OX_e1, OX_e2, OX_e3, OX_tb, OX_tru, OX_ite, OX_tand, OX_tor, OX_tnot, OX_eand, OX_eor, OX_enot, OX_eif, OX_a0, OX_aC, OX_etup, OX_elst, OX_eC, OX_eF, OX_eM, OX_sNil, OX_sBk, OX_sCt, OX_sRetN, OX_sq, OX_sIf, OX_sRet, OX_sX, OX_sV, OX_sO, OX_sP, OX_sU, OX_tgn, OX_tgt, OX_sSt, OX_eMM, OX_append, OX_eIs, OX_sFor, OX_sWh, OX_eLc, OX_iR1, OX_iR2, OX_iL, OX_iT, OX_oN, OX_oS, OX_eSl, OX_pE0, OX_pE, OX_eDk, OX_eGet2, OX_eDn, OX_eD0, OX_iI, OX_iB, OX_neg, OX_dEq, OX_dNe, OX_dIs, OX_dIsNot, OX_dIn, OX_dNotIn, OX_inL, OX_inT, OX_catT, OX_catL, OX_ixT, OX_ixL, OX_ixS, OX_slT, OX_slL, OX_lenL, OX_lenT, OX_lenS, OX_max2, OX_min2, OX_intI, OX_intB, OX_tupL, OX_tupT, OX_listL, OX_listT, OX_all, OX_any, OX_strT, OX_truB, OX_truI, OX_truL, OX_truT, OX_truN, OX_rtR_s, OX_rtM_s, frz_v, frz_n, frz_s, toD_lst, toD_dic, toD_dk, dr_v, dr_n, dr_s, ownD_own, vals_nil, vals_v, drs_nil, drs_c, svR_v, svR_own, svR_al, boolR_b, argM_s, ownM_own, slotR_s, ownL_own, valR_v, newR_n, two_2, intD_i, int1_i, int2_i, listD_l, tupD_t, eqD_ii, eqD_ss, eqD_bb, rtR_v, rtR_n, rtM_v, rtM_n, atI_0, atI_1, atI_2, atI_3, atI_4, ixN_0, ixN_1, ixN_2, setAllE, sizeLine_eq, Option.bind_some, Option.map_some, List.getElem?_cons_zero, List.getElem?_cons_succ, List.getElem?_nil, List.set_cons_zero, List.set_cons_succ, List.map_cons, List.map_nil, List.cons_append, List.nil_append, List.append_nil, List.length_cons, List.length_nil, List.replicate_succ, List.replicate_zero, Bool.not_true, Bool.not_false, Bool.false_eq_true, decide_true, decide_false, Nat.reduceAdd, Nat.reduceSub, Nat.reduceEqDiff, Nat.reduceLT, Nat.reduceLeDiff, ↓reduceIte, Int.reduceLT, Int.reduceLE, Int.reduceAdd, Int.reduceSub, Int.reduceMul, Int.reduceNeg, Int.reduceToNat, Int.reduceMod, Int.reduceEq, Int.reducePow, Nat.reducePow, decide_eq_true_eq, decide_eq_false_iff_not, eq_self, ne_eq, not_true_eq_false, not_false_eq_true, and_true, true_and, and_false, false_and, and_self, or_true, true_or, or_false, false_or, isT_tt, isT_ss, W.t, W.a, W.m, ca, cb, hb, Bool.true_and, Bool.false_and]
    try
      cases hy : isN y <;> simp only [OX_some, OX_map, OX_fzf, OX_eV, OX_eK, OX_e1, OX_e2, OX_e3, OX_tb, OX_tru, OX_ite, OX_tand, OX_tor, OX_tnot, OX_eand, OX_eor, OX_enot, OX_eif, OX_a0, OX_aC, OX_etup, OX_elst, OX_eC, OX_eF, OX_eM, OX_sNil, OX_sBk, OX_sCt, OX_sRetN, OX_sq, OX_sIf, OX_sRet, OX_sX, OX_sV, OX_sO, OX_sP, OX_sU, OX_tgn, OX_tgt, OX_sSt, OX_eMM, OX_append, OX_eIs, OX_sFor, OX_sWh, OX_eLc, OX_iR1, OX_iR2, OX_iL, OX_iT, OX_oN, OX_oS, OX_eSl, OX_pE0, OX_pE, OX_eDk, OX_eGet2, OX_eDn, OX_eD0, OX_iI, OX_iB, OX_neg, OX_dEq, OX_dNe, OX_dIs, OX_dIsNot, OX_dIn, OX_dNotIn, OX_inL, OX_inT, OX_catT, OX_catL, OX_ixT, OX_ixL, OX_ixS, OX_slT, OX_slL, OX_lenL, OX_lenT, OX_lenS, OX_max2, OX_min2, OX_intI, OX_intB, OX_tupL, OX_tupT, OX_listL, OX_listT, OX_all, OX_any, OX_strT, OX_truB, OX_truI, OX_truL, OX_truT, OX_truN, OX_rtR_s, OX_rtM_s, frz_v, frz_n, frz_s, toD_lst, toD_dic, toD_dk, dr_v, dr_n, dr_s, ownD_own, vals_nil, vals_v, drs_nil, drs_c, svR_v, svR_own, svR_al, boolR_b, argM_s, ownM_own, slotR_s, ownL_own, valR_v, newR_n, two_2, intD_i, int1_i, int2_i, listD_l, tupD_t, eqD_ii, eqD_ss, eqD_bb, rtR_v, rtR_n, rtM_v, rtM_n, atI_0, atI_1, atI_2, atI_3, atI_4, ixN_0, ixN_1, ixN_2, setAllE, sizeLine_eq, Option.bind_some, Option.map_some, List.getElem?_cons_zero, List.getElem?_cons_succ, List.getElem?_nil, List.set_cons_zero, List.set_cons_succ, List.map_cons, List.map_nil, List.cons_append, List.nil_append, List.append_nil, List.length_cons, List.length_nil, List.replicate_succ, List.replicate_zero, Bool.not_true, Bool.not_false, Bool.false_eq_true, decide_true, decide_false, Nat.reduceAdd, Nat.reduceSub, Nat.reduceEqDiff, Nat.reduceLT, Nat.reduceLeDiff, ↓reduceIte, Int.reduceLT, Int.reduceLE, Int.reduceAdd, Int.reduceSub, Int.reduceMul, Int.reduceNeg, Int.reduceToNat, Int.reduceMod, Int.reduceEq, Int.reducePow, Nat.reducePow, decide_eq_true_eq, decide_eq_false_iff_not, eq_self, ne_eq, not_true_eq_false, not_false_eq_true, and_true, true_and, and_false, false_and, and_self, or_true, true_or, or_false, false_or, isT_tt, isT_ss, W.t, W.a, W.m, ca, cb, hy, Bool.true_or, Bool.false_or]
      refine between_ok.imp fun r e => ?_
      subst e
      first | rfl | simp only [OX_some, OX_map, OX_fzf, OX_eV, OX_eK, OX_e1, OX_e2, OX_e3, OX_tb, OX_tru, OX_ite, OX_tand, OX_tor, OX_tnot, OX_eand, OX_eor, OX_enot, OX_eif, OX_a0, OX_aC, OX_etup, OX_elst, OX_eC, OX_eF, OX_eM, OX_sNil, OX_sBk, OX_sCt, OX_sRetN, OX_sq, OX_sIf, OX_sRet, OX_sX, OX_sV, OX_sO, OX_sP, OX_sU, OX_tgn, OX_tgt, OX_sSt, OX_eMM, OX_append, OX_eIs, OX_sFor, OX_sWh, OX_eLc, OX_iR1, OX_iR2, OX_iL, OX_iT, OX_oN, OX_oS, OX_eSl, OX_pE0, OX_pE, OX_eDk, OX_eGet2, OX_eDn, OX_eD0, OX_iI, OX_iB, OX_neg, OX_dEq, OX_dNe, OX_dIs, OX_dIsNot, OX_dIn, OX_dNotIn, OX_inL, OX_inT, OX_catT, OX_catL, OX_ixT, OX_ixL, OX_ixS, OX_slT, OX_slL, OX_lenL, OX_lenT, OX_lenS, OX_max2, OX_min2, OX_intI, OX_intB, OX_tupL, OX_tupT, OX_listL, OX_listT, OX_all, OX_any, OX_strT, OX_truB, OX_truI, OX_truL, OX_truT, OX_truN, OX_rtR_s, OX_rtM_s, frz_v, frz_n, frz_s, toD_lst, toD_dic, toD_dk, dr_v, dr_n, dr_s, ownD_own, vals_nil, vals_v, drs_nil, drs_c, svR_v, svR_own, svR_al, boolR_b, argM_s, ownM_own, slotR_s, ownL_own, valR_v, newR_n, two_2, intD_i, int1_i, int2_i, listD_l, tupD_t, eqD_ii, eqD_ss, eqD_bb, rtR_v, rtR_n, rtM_v, rtM_n, atI_0, atI_1, atI_2, atI_3, atI_4, ixN_0, ixN_1, ixN_2, setAllE, sizeLine_eq, Option.bind_some, Option.map_some, List.getElem?_cons_zero, List.getElem?_cons_succ, List.getElem?_nil, List.set_cons_zero, List.set_cons_succ, List.map_cons, List.map_nil, List.cons_append, List.nil_append, List.append_nil, List.length_cons, List.length_nil, List.replicate_succ, List.replicate_zero, Bool.not_true, Bool.not_false, Bool.false_eq_true, decide_true, decide_false, Nat.reduceAdd, Nat.reduceSub, Nat.reduceEqDiff, Nat.reduceLT, Nat.reduceLeDiff, ↓reduceIte, Int.reduceLT, Int.reduceLE, Int.reduceAdd, Int.reduceSub, Int.reduceMul, Int.reduceNeg, Int.reduceToNat, Int.reduceMod, Int.reduceEq, Int.reducePow, Nat.reducePow, decide_eq_true_eq, decide_eq_false_iff_not, eq_self, ne_eq, not_true_eq_false, not_false_eq_true, and_true, true_and, and_false, false_and, and_self, or_true, true_or, or_false, false_or, Bool.true_and, Bool.false_or]
  · simp only [F_L_is_deed, OX_some, OX_map, OX_fzf, OX_eV, OX_eK, OX_e1, OX_e2, OX_e3, OX_tb, OX_tru, OX_ite, OX_tand, OX_tor, OX_tnot, OX_eand, OX_eor, OX_enot, OX_eif, OX_a0, OX_aC, OX_etup, OX_elst, OX_eC, OX_eF, OX_eM, OX_sNil, OX_sBk, OX_sCt, OX_sRetN, OX_sq, OX_sIf, OX_sRet, OX_sX, OX_sV, OX_sO, OX_sP, OX_sU, OX_tgn, OX_tgt, OX_sSt, OX_eMM, OX_append, OX_eIs, OX_sFor, OX_sWh, OX_eLc, OX_iR1, OX_iR2, OX_iL, OX_iT, OX_oN, OX_oS, OX_eSl, OX_pE0, OX_pE, OX_eDk, OX_eGet2, OX_eDn, OX_eD0, OX_iI, OX_iB, OX_neg, OX_dEq, OX_dNe, OX_dIs, OX_dIsNot, OX_dIn, OX_dNotIn, OX_inL, OX_inT, OX_catT, OX_catL, OX_ixT, OX_ixL, OX_ixS, OX_slT, OX_slL, OX_lenL, OX_lenT, OX_lenS, OX_max2, OX_min2, OX_intI, OX_intB, OX_tupL, OX_tupT, OX_listL, OX_listT, OX_all, OX_any, OX_strT, OX_truB, OX_truI, OX_truL, OX_truT, OX_truN, OX_rtR_s, OX_rtM_s, frz_v, frz_n, frz_s, toD_lst, toD_dic, toD_dk, dr_v, dr_n, dr_s, ownD_own, vals_nil, vals_v, drs_nil, drs_c, svR_v, svR_own, svR_al, boolR_b, argM_s, ownM_own, slotR_s, ownL_own, valR_v, newR_n, two_2, intD_i, int1_i, int2_i, listD_l, tupD_t, eqD_ii, eqD_ss, eqD_bb, rtR_v, rtR_n, rtM_v, rtM_n, atI_0, atI_1, atI_2, atI_3, atI_4, ixN_0, ixN_1, ixN_2, setAllE, sizeLine_eq, Option.bind_some, Option.map_some, List.getElem?_cons_zero, List.getElem?_cons_succ, List.getElem?_nil, List.set_cons_zero, List.set_cons_succ, List.map_cons, List.map_nil, List.cons_append, List.nil_append, List.append_nil, List.length_cons, List.length_nil, List.replicate_succ, List.replicate_zero, Bool.not_true, Bool.not_false, Bool.false_eq_true, decide_true, decide_false, Nat.reduceAdd, Nat.reduceSub, Nat.reduceEqDiff, Nat.reduceLT, Nat.reduceLeDiff, ↓reduceIte, Int.reduceLT, Int.reduceLE, Int.reduceAdd, Int.reduceSub, Int.reduceMul, Int.reduceNeg, Int.reduceToNat, Int.reduceMod, Int.reduceEq, Int.reducePow, Nat.reducePow, decide_eq_true_eq, decide_eq_false_iff_not, eq_self, ne_eq, not_true_eq_false, not_false_eq_true, and_true, true_and, and_false, false_and, and_self, or_true, true_or, or_false, false_or, isT_tt, isT_ss, edk7, sizes_td, get2_ok, W.z, ca, cb]
    try
      refine whole_ok.imp fun r e => ?_
      subst e
      cases hb : inB x 0 (n - 1) <;> simp only [OX_some, OX_map, OX_fzf, OX_eV, OX_eK, OX_e1, OX_e2, OX_e3, OX_tb, OX_tru, OX_ite, OX_tand, OX_tor, OX_tnot, OX_eand, OX_eor, OX_enot, OX_eif, OX_a0, OX_aC, OX_etup, OX_elst, OX_eC, OX_eF, OX_eM, OX_sNil, OX_sBk, OX_sCt, OX_sRetN, OX_sq, OX_sIf, OX_sRet, OX_sX, OX_sV, OX_sO, OX_sP, OX_sU, OX_tgn, OX_tgt, OX_sSt, OX_eMM, OX_append, OX_eIs, OX_sFor, OX_sWh, OX_eLc, OX_iR1, OX_iR2, OX_iL, OX_iT, OX_oN, OX_oS, OX_eSl, OX_pE0, OX_pE, OX_eDk, OX_eGet2, OX_eDn, OX_eD0, OX_iI, OX_iB, OX_neg, OX_dEq, OX_dNe, OX_dIs, OX_dIsNot, OX_dIn, OX_dNotIn, OX_inL, OX_inT, OX_catT, OX_catL, OX_ixT, OX_ixL, OX_ixS, OX_slT, OX_slL, OX_lenL, OX_lenT, OX_lenS, OX_max2, OX_min2, OX_intI, OX_intB, OX_tupL, OX_tupT, OX_listL, OX_listT, OX_all, OX_any, OX_strT, OX_truB, OX_truI, OX_truL, OX_truT, OX_truN, OX_rtR_s, OX_rtM_s, frz_v, frz_n, frz_s, toD_lst, toD_dic, toD_dk, dr_v, dr_n, dr_s, ownD_own, vals_nil, vals_v, drs_nil, drs_c, svR_v, svR_own, svR_al, boolR_b, argM_s, ownM_own, slotR_s, ownL_own, valR_v, newR_n, two_2, intD_i, int1_i, int2_i, listD_l, tupD_t, eqD_ii, eqD_ss, eqD_bb, rtR_v, rtR_n, rtM_v, rtM_n, atI_0, atI_1, atI_2, atI_3, atI_4, ixN_0, ixN_1, ixN_2, setAllE, sizeLine_eq, Option.bind_some, Option.map_some, List.getElem?_cons_zero, List.getElem?_cons_succ, List.getElem?_nil, List.set_cons_zero, List.set_cons_succ, List.map_cons, List.map_nil, List.cons_append, List.nil_append, List.append_nil, List.length_cons, List.length_nil, List.replicate_succ, List.replicate_zero, Bool.not_true, Bool.not_false, Bool.false_eq_true, decide_true, decide_false, Nat.reduceAdd, Nat.reduceSub, Nat.reduceEqDiff, Nat.reduceLT, Nat.reduceLeDiff, ↓reduceIte, Int.reduceLT, Int.reduceLE, Int.reduceAdd, Int.reduceSub, Int.reduceMul, Int.reduceNeg, Int.reduceToNat, Int.reduceMod, Int.reduceEq, Int.reducePow, Nat.reducePow, decide_eq_true_eq, decide_eq_false_iff_not, eq_self, ne_eq, not_true_eq_false, not_false_eq_true, and_true, true_and, and_false, false_and, and_self, or_true, true_or, or_false, false_or, isT_tt, isT_ss, ca, cb, hb, Bool.true_and, Bool.false_and]
    try
      cases hy : isN y <;> simp only [OX_some, OX_map, OX_fzf, OX_eV, OX_eK, OX_e1, OX_e2, OX_e3, OX_tb, OX_tru, OX_ite, OX_tand, OX_tor, OX_tnot, OX_eand, OX_eor, OX_enot, OX_eif, OX_a0, OX_aC, OX_etup, OX_elst, OX_eC, OX_eF, OX_eM, OX_sNil, OX_sBk, OX_sCt, OX_sRetN, OX_sq, OX_sIf, OX_sRet, OX_sX, OX_sV, OX_sO, OX_sP, OX_sU, OX_tgn, OX_tgt, OX_sSt, OX_eMM, OX_append, OX_eIs, OX_sFor, OX_sWh, OX_eLc, OX_iR1, OX_iR2, OX_iL, OX_iT, OX_oN, OX_oS, OX_eSl, OX_pE0, OX_pE, OX_eDk, OX_eGet2, OX_eDn, OX_eD0, OX_iI, OX_iB, OX_neg, OX_dEq, OX_dNe, OX_dIs, OX_dIsNot, OX_dIn, OX_dNotIn, OX_inL, OX_inT, OX_catT, OX_catL, OX_ixT, OX_ixL, OX_ixS, OX_slT, OX_slL, OX_lenL, OX_lenT, OX_lenS, OX_max2, OX_min2, OX_intI, OX_intB, OX_tupL, OX_tupT, OX_listL, OX_listT, OX_all, OX_any, OX_strT, OX_truB, OX_truI, OX_truL, OX_truT, OX_truN, OX_rtR_s, OX_rtM_s, frz_v, frz_n, frz_s, toD_lst, toD_dic, toD_dk, dr_v, dr_n, dr_s, ownD_own, vals_nil, vals_v, drs_nil, drs_c, svR_v, svR_own, svR_al, boolR_b, argM_s, ownM_own, slotR_s, ownL_own, valR_v, newR_n, two_2, intD_i, int1_i, int2_i, listD_l, tupD_t, eqD_ii, eqD_ss, eqD_bb, rtR_v, rtR_n, rtM_v, rtM_n, atI_0, atI_1, atI_2, atI_3, atI_4, ixN_0, ixN_1, ixN_2, setAllE, sizeLine_eq, Option.bind_some, Option.map_some, List.getElem?_cons_zero, List.getElem?_cons_succ, List.getElem?_nil, List.set_cons_zero, List.set_cons_succ, List.map_cons, List.map_nil, List.cons_append, List.nil_append, List.append_nil, List.length_cons, List.length_nil, List.replicate_succ, List.replicate_zero, Bool.not_true, Bool.not_false, Bool.false_eq_true, decide_true, decide_false, Nat.reduceAdd, Nat.reduceSub, Nat.reduceEqDiff, Nat.reduceLT, Nat.reduceLeDiff, ↓reduceIte, Int.reduceLT, Int.reduceLE, Int.reduceAdd, Int.reduceSub, Int.reduceMul, Int.reduceNeg, Int.reduceToNat, Int.reduceMod, Int.reduceEq, Int.reducePow, Nat.reducePow, decide_eq_true_eq, decide_eq_false_iff_not, eq_self, ne_eq, not_true_eq_false, not_false_eq_true, and_true, true_and, and_false, false_and, and_self, or_true, true_or, or_false, false_or, isT_tt, isT_ss, ca, cb, hy, Bool.true_or, Bool.false_or]
      refine whole_ok.imp fun r e => ?_
      subst e
      first | rfl | simp only [OX_some, OX_map, OX_fzf, OX_eV, OX_eK, OX_e1, OX_e2, OX_e3, OX_tb, OX_tru, OX_ite, OX_tand, OX_tor, OX_tnot, OX_eand, OX_eor, OX_enot, OX_eif, OX_a0, OX_aC, OX_etup, OX_elst, OX_eC, OX_eF, OX_eM, OX_sNil, OX_sBk, OX_sCt, OX_sRetN, OX_sq, OX_sIf, OX_sRet, OX_sX, OX_sV, OX_sO, OX_sP, OX_sU, OX_tgn, OX_tgt, OX_sSt, OX_eMM, OX_append, OX_eIs, OX_sFor, OX_sWh, OX_eLc, OX_iR1, OX_iR2, OX_iL, OX_iT, OX_oN, OX_oS, OX_eSl, OX_pE0, OX_pE, OX_eDk, OX_eGet2, OX_eDn, OX_eD0, OX_iI, OX_iB, OX_neg, OX_dEq, OX_dNe, OX_dIs, OX_dIsNot, OX_dIn, OX_dNotIn, OX_inL, OX_inT, OX_catT, OX_catL, OX_ixT, OX_ixL, OX_ixS, OX_slT, OX_slL, OX_lenL, OX_lenT, OX_lenS, OX_max2, OX_min2, OX_intI, OX_intB, OX_tupL, OX_tupT, OX_listL, OX_listT, OX_all, OX_any, OX_strT, OX_truB, OX_truI, OX_truL, OX_truT, OX_truN, OX_rtR_s, OX_rtM_s, frz_v, frz_n, frz_s, toD_lst, toD_dic, toD_dk, dr_v, dr_n, dr_s, ownD_own, vals_nil, vals_v, drs_nil, drs_c, svR_v, svR_own, svR_al, boolR_b, argM_s, ownM_own, slotR_s, ownL_own, valR_v, newR_n, two_2, intD_i, int1_i, int2_i, listD_l, tupD_t, eqD_ii, eqD_ss, eqD_bb, rtR_v, rtR_n, rtM_v, rtM_n, atI_0, atI_1, atI_2, atI_3, atI_4, ixN_0, ixN_1, ixN_2, setAllE, sizeLine_eq, Option.bind_some, Option.map_some, List.getElem?_cons_zero, List.getElem?_cons_succ, List.getElem?_nil, List.set_cons_zero, List.set_cons_succ, List.map_cons, List.map_nil, List.cons_append, List.nil_append, List.append_nil, List.length_cons, List.length_nil, List.replicate_succ, List.replicate_zero, Bool.not_true, Bool.not_false, Bool.false_eq_true, decide_true, decide_false, Nat.reduceAdd, Nat.reduceSub, Nat.reduceEqDiff, Nat.reduceLT, Nat.reduceLeDiff, ↓reduceIte, Int.reduceLT, Int.reduceLE, Int.reduceAdd, Int.reduceSub, Int.reduceMul, Int.reduceNeg, Int.reduceToNat, Int.reduceMod, Int.reduceEq, Int.reducePow, Nat.reducePow, decide_eq_true_eq, decide_eq_false_iff_not, eq_self, ne_eq, not_true_eq_false, not_false_eq_true, and_true, true_and, and_false, false_and, and_self, or_true, true_or, or_false, false_or, Bool.true_and, Bool.false_or]
theorem d_12 {n : Int} {w : Str} {x y : D} (W : WF w false true false 3) : OX (D_is_deed [.int n, .tuple [.str w, x, y]]) (fun r => r = .v (.bool (inB x 0 (n - 1) && (isN y || inB y 0 9)))) ∧ OX (D_L_is_deed [.int n, .tuple [.str w, x, y]]) fun r => r = .v (.bool (inB x 0 (n - 1) && (isN y || inB y 0 9))) := by
  refine ⟨OX.defF rfl ?_, OX.defF rfl ?_⟩
  · simp only [F_is_deed, OX_some, OX_map, OX_fzf, OX_eV, OX_eK, OX_e1, OX_e2, OX_e3, OX_tb, OX_tru, OX_ite, OX_tand, OX_tor, OX_tnot, OX_eand, OX_eor, OX_enot, OX_eif, OX_a0, OX_aC, OX_etup, OX_elst, OX_eC, OX_eF, OX_eM, OX_sNil, OX_sBk, OX_sCt, OX_sRetN, OX_sq, OX_sIf, OX_sRet, OX_sX, OX_sV, OX_sO, OX_sP, OX_sU, OX_tgn, OX_tgt, OX_sSt, OX_eMM, OX_append, OX_eIs, OX_sFor, OX_sWh, OX_eLc, OX_iR1, OX_iR2, OX_iL, OX_iT, OX_oN, OX_oS, OX_eSl, OX_pE0, OX_pE, OX_eDk, OX_eGet2, OX_eDn, OX_eD0, OX_iI, OX_iB, OX_neg, OX_dEq, OX_dNe, OX_dIs, OX_dIsNot, OX_dIn, OX_dNotIn, OX_inL, OX_inT, OX_catT, OX_catL, OX_ixT, OX_ixL, OX_ixS, OX_slT, OX_slL, OX_lenL, OX_lenT, OX_lenS, OX_max2, OX_min2, OX_intI, OX_intB, OX_tupL, OX_tupT, OX_listL, OX_listT, OX_all, OX_any, OX_strT, OX_truB, OX_truI, OX_truL, OX_truT, OX_truN, OX_rtR_s, OX_rtM_s, frz_v, frz_n, frz_s, toD_lst, toD_dic, toD_dk, dr_v, dr_n, dr_s, ownD_own, vals_nil, vals_v, drs_nil, drs_c, svR_v, svR_own, svR_al, boolR_b, argM_s, ownM_own, slotR_s, ownL_own, valR_v, newR_n, two_2, intD_i, int1_i, int2_i, listD_l, tupD_t, eqD_ii, eqD_ss, eqD_bb, rtR_v, rtR_n, rtM_v, rtM_n, atI_0, atI_1, atI_2, atI_3, atI_4, ixN_0, ixN_1, ixN_2, setAllE, sizeLine_eq, Option.bind_some, Option.map_some, List.getElem?_cons_zero, List.getElem?_cons_succ, List.getElem?_nil, List.set_cons_zero, List.set_cons_succ, List.map_cons, List.map_nil, List.cons_append, List.nil_append, List.append_nil, List.length_cons, List.length_nil, List.replicate_succ, List.replicate_zero, Bool.not_true, Bool.not_false, Bool.false_eq_true, decide_true, decide_false, Nat.reduceAdd, Nat.reduceSub, Nat.reduceEqDiff, Nat.reduceLT, Nat.reduceLeDiff, ↓reduceIte, Int.reduceLT, Int.reduceLE, Int.reduceAdd, Int.reduceSub, Int.reduceMul, Int.reduceNeg, Int.reduceToNat, Int.reduceMod, Int.reduceEq, Int.reducePow, Nat.reducePow, decide_eq_true_eq, decide_eq_false_iff_not, eq_self, ne_eq, not_true_eq_false, not_false_eq_true, and_true, true_and, and_false, false_and, and_self, or_true, true_or, or_false, false_or, isT_tt, isT_ss, W.t, W.a, W.m, ca, cb]
    try
      refine between_ok.imp fun r e => ?_
      subst e
      cases hb : inB x 0 (n - 1) <;> simp only [OX_some, OX_map, OX_fzf, OX_eV, OX_eK, OX_e1, OX_e2, OX_e3, OX_tb, OX_tru, OX_ite, OX_tand, OX_tor, OX_tnot, OX_eand, OX_eor, OX_enot, OX_eif, OX_a0, OX_aC, OX_etup, OX_elst, OX_eC, OX_eF, OX_eM, OX_sNil, OX_sBk, OX_sCt, OX_sRetN, OX_sq, OX_sIf, OX_sRet, OX_sX, OX_sV, OX_sO, OX_sP, OX_sU, OX_tgn, OX_tgt, OX_sSt, OX_eMM, OX_append, OX_eIs, OX_sFor, OX_sWh, OX_eLc, OX_iR1, OX_iR2, OX_iL, OX_iT, OX_oN, OX_oS, OX_eSl, OX_pE0, OX_pE, OX_eDk, OX_eGet2, OX_eDn, OX_eD0, OX_iI, OX_iB, OX_neg, OX_dEq, OX_dNe, OX_dIs, OX_dIsNot, OX_dIn, OX_dNotIn, OX_inL, OX_inT, OX_catT, OX_catL, OX_ixT, OX_ixL, OX_ixS, OX_slT, OX_slL, OX_lenL, OX_lenT, OX_lenS, OX_max2, OX_min2, OX_intI, OX_intB, OX_tupL, OX_tupT, OX_listL, OX_listT, OX_all, OX_any, OX_strT, OX_truB, OX_truI, OX_truL, OX_truT, OX_truN, OX_rtR_s, OX_rtM_s, frz_v, frz_n, frz_s, toD_lst, toD_dic, toD_dk, dr_v, dr_n, dr_s, ownD_own, vals_nil, vals_v, drs_nil, drs_c, svR_v, svR_own, svR_al, boolR_b, argM_s, ownM_own, slotR_s, ownL_own, valR_v, newR_n, two_2, intD_i, int1_i, int2_i, listD_l, tupD_t, eqD_ii, eqD_ss, eqD_bb, rtR_v, rtR_n, rtM_v, rtM_n, atI_0, atI_1, atI_2, atI_3, atI_4, ixN_0, ixN_1, ixN_2, setAllE, sizeLine_eq, Option.bind_some, Option.map_some, List.getElem?_cons_zero, List.getElem?_cons_succ, List.getElem?_nil, List.set_cons_zero, List.set_cons_succ, List.map_cons, List.map_nil, List.cons_append, List.nil_append, List.append_nil, List.length_cons, List.length_nil, List.replicate_succ, List.replicate_zero, Bool.not_true, Bool.not_false, Bool.false_eq_true, decide_true, decide_false, Nat.reduceAdd, Nat.reduceSub, Nat.reduceEqDiff, Nat.reduceLT, Nat.reduceLeDiff, ↓reduceIte, Int.reduceLT, Int.reduceLE, Int.reduceAdd, Int.reduceSub, Int.reduceMul, Int.reduceNeg, Int.reduceToNat, Int.reduceMod, Int.reduceEq, Int.reducePow, Nat.reducePow, decide_eq_true_eq, decide_eq_false_iff_not, eq_self, ne_eq, not_true_eq_false, not_false_eq_true, and_true, true_and, and_false, false_and, and_self, or_true, true_or, or_false, false_or, isT_tt, isT_ss, W.t, W.a, W.m, ca, cb, hb, Bool.true_and, Bool.false_and]
    try
      cases hy : isN y <;> simp only [OX_some, OX_map, OX_fzf, OX_eV, OX_eK, OX_e1, OX_e2, OX_e3, OX_tb, OX_tru, OX_ite, OX_tand, OX_tor, OX_tnot, OX_eand, OX_eor, OX_enot, OX_eif, OX_a0, OX_aC, OX_etup, OX_elst, OX_eC, OX_eF, OX_eM, OX_sNil, OX_sBk, OX_sCt, OX_sRetN, OX_sq, OX_sIf, OX_sRet, OX_sX, OX_sV, OX_sO, OX_sP, OX_sU, OX_tgn, OX_tgt, OX_sSt, OX_eMM, OX_append, OX_eIs, OX_sFor, OX_sWh, OX_eLc, OX_iR1, OX_iR2, OX_iL, OX_iT, OX_oN, OX_oS, OX_eSl, OX_pE0, OX_pE, OX_eDk, OX_eGet2, OX_eDn, OX_eD0, OX_iI, OX_iB, OX_neg, OX_dEq, OX_dNe, OX_dIs, OX_dIsNot, OX_dIn, OX_dNotIn, OX_inL, OX_inT, OX_catT, OX_catL, OX_ixT, OX_ixL, OX_ixS, OX_slT, OX_slL, OX_lenL, OX_lenT, OX_lenS, OX_max2, OX_min2, OX_intI, OX_intB, OX_tupL, OX_tupT, OX_listL, OX_listT, OX_all, OX_any, OX_strT, OX_truB, OX_truI, OX_truL, OX_truT, OX_truN, OX_rtR_s, OX_rtM_s, frz_v, frz_n, frz_s, toD_lst, toD_dic, toD_dk, dr_v, dr_n, dr_s, ownD_own, vals_nil, vals_v, drs_nil, drs_c, svR_v, svR_own, svR_al, boolR_b, argM_s, ownM_own, slotR_s, ownL_own, valR_v, newR_n, two_2, intD_i, int1_i, int2_i, listD_l, tupD_t, eqD_ii, eqD_ss, eqD_bb, rtR_v, rtR_n, rtM_v, rtM_n, atI_0, atI_1, atI_2, atI_3, atI_4, ixN_0, ixN_1, ixN_2, setAllE, sizeLine_eq, Option.bind_some, Option.map_some, List.getElem?_cons_zero, List.getElem?_cons_succ, List.getElem?_nil, List.set_cons_zero, List.set_cons_succ, List.map_cons, List.map_nil, List.cons_append, List.nil_append, List.append_nil, List.length_cons, List.length_nil, List.replicate_succ, List.replicate_zero, Bool.not_true, Bool.not_false, Bool.false_eq_true, decide_true, decide_false, Nat.reduceAdd, Nat.reduceSub, Nat.reduceEqDiff, Nat.reduceLT, Nat.reduceLeDiff, ↓reduceIte, Int.reduceLT, Int.reduceLE, Int.reduceAdd, Int.reduceSub, Int.reduceMul, Int.reduceNeg, Int.reduceToNat, Int.reduceMod, Int.reduceEq, Int.reducePow, Nat.reducePow, decide_eq_true_eq, decide_eq_false_iff_not, eq_self, ne_eq, not_true_eq_false, not_false_eq_true, and_true, true_and, and_false, false_and, and_self, or_true, true_or, or_false, false_or, isT_tt, isT_ss, W.t, W.a, W.m, ca, cb, hy, Bool.true_or, Bool.false_or]
      refine between_ok.imp fun r e => ?_
      subst e
      first | rfl | simp only [OX_some, OX_map, OX_fzf, OX_eV, OX_eK, OX_e1, OX_e2, OX_e3, OX_tb, OX_tru, OX_ite, OX_tand, OX_tor, OX_tnot, OX_eand, OX_eor, OX_enot, OX_eif, OX_a0, OX_aC, OX_etup, OX_elst, OX_eC, OX_eF, OX_eM, OX_sNil, OX_sBk, OX_sCt, OX_sRetN, OX_sq, OX_sIf, OX_sRet, OX_sX, OX_sV, OX_sO, OX_sP, OX_sU, OX_tgn, OX_tgt, OX_sSt, OX_eMM, OX_append, OX_eIs, OX_sFor, OX_sWh, OX_eLc, OX_iR1, OX_iR2, OX_iL, OX_iT, OX_oN, OX_oS, OX_eSl, OX_pE0, OX_pE, OX_eDk, OX_eGet2, OX_eDn, OX_eD0, OX_iI, OX_iB, OX_neg, OX_dEq, OX_dNe, OX_dIs, OX_dIsNot, OX_dIn, OX_dNotIn, OX_inL, OX_inT, OX_catT, OX_catL, OX_ixT, OX_ixL, OX_ixS, OX_slT, OX_slL, OX_lenL, OX_lenT, OX_lenS, OX_max2, OX_min2, OX_intI, OX_intB, OX_tupL, OX_tupT, OX_listL, OX_listT, OX_all, OX_any, OX_strT, OX_truB, OX_truI, OX_truL, OX_truT, OX_truN, OX_rtR_s, OX_rtM_s, frz_v, frz_n, frz_s, toD_lst, toD_dic, toD_dk, dr_v, dr_n, dr_s, ownD_own, vals_nil, vals_v, drs_nil, drs_c, svR_v, svR_own, svR_al, boolR_b, argM_s, ownM_own, slotR_s, ownL_own, valR_v, newR_n, two_2, intD_i, int1_i, int2_i, listD_l, tupD_t, eqD_ii, eqD_ss, eqD_bb, rtR_v, rtR_n, rtM_v, rtM_n, atI_0, atI_1, atI_2, atI_3, atI_4, ixN_0, ixN_1, ixN_2, setAllE, sizeLine_eq, Option.bind_some, Option.map_some, List.getElem?_cons_zero, List.getElem?_cons_succ, List.getElem?_nil, List.set_cons_zero, List.set_cons_succ, List.map_cons, List.map_nil, List.cons_append, List.nil_append, List.append_nil, List.length_cons, List.length_nil, List.replicate_succ, List.replicate_zero, Bool.not_true, Bool.not_false, Bool.false_eq_true, decide_true, decide_false, Nat.reduceAdd, Nat.reduceSub, Nat.reduceEqDiff, Nat.reduceLT, Nat.reduceLeDiff, ↓reduceIte, Int.reduceLT, Int.reduceLE, Int.reduceAdd, Int.reduceSub, Int.reduceMul, Int.reduceNeg, Int.reduceToNat, Int.reduceMod, Int.reduceEq, Int.reducePow, Nat.reducePow, decide_eq_true_eq, decide_eq_false_iff_not, eq_self, ne_eq, not_true_eq_false, not_false_eq_true, and_true, true_and, and_false, false_and, and_self, or_true, true_or, or_false, false_or, Bool.true_and, Bool.false_or]
  · simp only [F_L_is_deed, OX_some, OX_map, OX_fzf, OX_eV, OX_eK, OX_e1, OX_e2, OX_e3, OX_tb, OX_tru, OX_ite, OX_tand, OX_tor, OX_tnot, OX_eand, OX_eor, OX_enot, OX_eif, OX_a0, OX_aC, OX_etup, OX_elst, OX_eC, OX_eF, OX_eM, OX_sNil, OX_sBk, OX_sCt, OX_sRetN, OX_sq, OX_sIf, OX_sRet, OX_sX, OX_sV, OX_sO, OX_sP, OX_sU, OX_tgn, OX_tgt, OX_sSt, OX_eMM, OX_append, OX_eIs, OX_sFor, OX_sWh, OX_eLc, OX_iR1, OX_iR2, OX_iL, OX_iT, OX_oN, OX_oS, OX_eSl, OX_pE0, OX_pE, OX_eDk, OX_eGet2, OX_eDn, OX_eD0, OX_iI, OX_iB, OX_neg, OX_dEq, OX_dNe, OX_dIs, OX_dIsNot, OX_dIn, OX_dNotIn, OX_inL, OX_inT, OX_catT, OX_catL, OX_ixT, OX_ixL, OX_ixS, OX_slT, OX_slL, OX_lenL, OX_lenT, OX_lenS, OX_max2, OX_min2, OX_intI, OX_intB, OX_tupL, OX_tupT, OX_listL, OX_listT, OX_all, OX_any, OX_strT, OX_truB, OX_truI, OX_truL, OX_truT, OX_truN, OX_rtR_s, OX_rtM_s, frz_v, frz_n, frz_s, toD_lst, toD_dic, toD_dk, dr_v, dr_n, dr_s, ownD_own, vals_nil, vals_v, drs_nil, drs_c, svR_v, svR_own, svR_al, boolR_b, argM_s, ownM_own, slotR_s, ownL_own, valR_v, newR_n, two_2, intD_i, int1_i, int2_i, listD_l, tupD_t, eqD_ii, eqD_ss, eqD_bb, rtR_v, rtR_n, rtM_v, rtM_n, atI_0, atI_1, atI_2, atI_3, atI_4, ixN_0, ixN_1, ixN_2, setAllE, sizeLine_eq, Option.bind_some, Option.map_some, List.getElem?_cons_zero, List.getElem?_cons_succ, List.getElem?_nil, List.set_cons_zero, List.set_cons_succ, List.map_cons, List.map_nil, List.cons_append, List.nil_append, List.append_nil, List.length_cons, List.length_nil, List.replicate_succ, List.replicate_zero, Bool.not_true, Bool.not_false, Bool.false_eq_true, decide_true, decide_false, Nat.reduceAdd, Nat.reduceSub, Nat.reduceEqDiff, Nat.reduceLT, Nat.reduceLeDiff, ↓reduceIte, Int.reduceLT, Int.reduceLE, Int.reduceAdd, Int.reduceSub, Int.reduceMul, Int.reduceNeg, Int.reduceToNat, Int.reduceMod, Int.reduceEq, Int.reducePow, Nat.reducePow, decide_eq_true_eq, decide_eq_false_iff_not, eq_self, ne_eq, not_true_eq_false, not_false_eq_true, and_true, true_and, and_false, false_and, and_self, or_true, true_or, or_false, false_or, isT_tt, isT_ss, edk7, sizes_td, get2_ok, W.z, ca, cb]
    try
      refine whole_ok.imp fun r e => ?_
      subst e
      cases hb : inB x 0 (n - 1) <;> simp only [OX_some, OX_map, OX_fzf, OX_eV, OX_eK, OX_e1, OX_e2, OX_e3, OX_tb, OX_tru, OX_ite, OX_tand, OX_tor, OX_tnot, OX_eand, OX_eor, OX_enot, OX_eif, OX_a0, OX_aC, OX_etup, OX_elst, OX_eC, OX_eF, OX_eM, OX_sNil, OX_sBk, OX_sCt, OX_sRetN, OX_sq, OX_sIf, OX_sRet, OX_sX, OX_sV, OX_sO, OX_sP, OX_sU, OX_tgn, OX_tgt, OX_sSt, OX_eMM, OX_append, OX_eIs, OX_sFor, OX_sWh, OX_eLc, OX_iR1, OX_iR2, OX_iL, OX_iT, OX_oN, OX_oS, OX_eSl, OX_pE0, OX_pE, OX_eDk, OX_eGet2, OX_eDn, OX_eD0, OX_iI, OX_iB, OX_neg, OX_dEq, OX_dNe, OX_dIs, OX_dIsNot, OX_dIn, OX_dNotIn, OX_inL, OX_inT, OX_catT, OX_catL, OX_ixT, OX_ixL, OX_ixS, OX_slT, OX_slL, OX_lenL, OX_lenT, OX_lenS, OX_max2, OX_min2, OX_intI, OX_intB, OX_tupL, OX_tupT, OX_listL, OX_listT, OX_all, OX_any, OX_strT, OX_truB, OX_truI, OX_truL, OX_truT, OX_truN, OX_rtR_s, OX_rtM_s, frz_v, frz_n, frz_s, toD_lst, toD_dic, toD_dk, dr_v, dr_n, dr_s, ownD_own, vals_nil, vals_v, drs_nil, drs_c, svR_v, svR_own, svR_al, boolR_b, argM_s, ownM_own, slotR_s, ownL_own, valR_v, newR_n, two_2, intD_i, int1_i, int2_i, listD_l, tupD_t, eqD_ii, eqD_ss, eqD_bb, rtR_v, rtR_n, rtM_v, rtM_n, atI_0, atI_1, atI_2, atI_3, atI_4, ixN_0, ixN_1, ixN_2, setAllE, sizeLine_eq, Option.bind_some, Option.map_some, List.getElem?_cons_zero, List.getElem?_cons_succ, List.getElem?_nil, List.set_cons_zero, List.set_cons_succ, List.map_cons, List.map_nil, List.cons_append, List.nil_append, List.append_nil, List.length_cons, List.length_nil, List.replicate_succ, List.replicate_zero, Bool.not_true, Bool.not_false, Bool.false_eq_true, decide_true, decide_false, Nat.reduceAdd, Nat.reduceSub, Nat.reduceEqDiff, Nat.reduceLT, Nat.reduceLeDiff, ↓reduceIte, Int.reduceLT, Int.reduceLE, Int.reduceAdd, Int.reduceSub, Int.reduceMul, Int.reduceNeg, Int.reduceToNat, Int.reduceMod, Int.reduceEq, Int.reducePow, Nat.reducePow, decide_eq_true_eq, decide_eq_false_iff_not, eq_self, ne_eq, not_true_eq_false, not_false_eq_true, and_true, true_and, and_false, false_and, and_self, or_true, true_or, or_false, false_or, isT_tt, isT_ss, ca, cb, hb, Bool.true_and, Bool.false_and]
    try
      cases hy : isN y <;> simp only [OX_some, OX_map, OX_fzf, OX_eV, OX_eK, OX_e1, OX_e2, OX_e3, OX_tb, OX_tru, OX_ite, OX_tand, OX_tor, OX_tnot, OX_eand, OX_eor, OX_enot, OX_eif, OX_a0, OX_aC, OX_etup, OX_elst, OX_eC, OX_eF, OX_eM, OX_sNil, OX_sBk, OX_sCt, OX_sRetN, OX_sq, OX_sIf, OX_sRet, OX_sX, OX_sV, OX_sO, OX_sP, OX_sU, OX_tgn, OX_tgt, OX_sSt, OX_eMM, OX_append, OX_eIs, OX_sFor, OX_sWh, OX_eLc, OX_iR1, OX_iR2, OX_iL, OX_iT, OX_oN, OX_oS, OX_eSl, OX_pE0, OX_pE, OX_eDk, OX_eGet2, OX_eDn, OX_eD0, OX_iI, OX_iB, OX_neg, OX_dEq, OX_dNe, OX_dIs, OX_dIsNot, OX_dIn, OX_dNotIn, OX_inL, OX_inT, OX_catT, OX_catL, OX_ixT, OX_ixL, OX_ixS, OX_slT, OX_slL, OX_lenL, OX_lenT, OX_lenS, OX_max2, OX_min2, OX_intI, OX_intB, OX_tupL, OX_tupT, OX_listL, OX_listT, OX_all, OX_any, OX_strT, OX_truB, OX_truI, OX_truL, OX_truT, OX_truN, OX_rtR_s, OX_rtM_s, frz_v, frz_n, frz_s, toD_lst, toD_dic, toD_dk, dr_v, dr_n, dr_s, ownD_own, vals_nil, vals_v, drs_nil, drs_c, svR_v, svR_own, svR_al, boolR_b, argM_s, ownM_own, slotR_s, ownL_own, valR_v, newR_n, two_2, intD_i, int1_i, int2_i, listD_l, tupD_t, eqD_ii, eqD_ss, eqD_bb, rtR_v, rtR_n, rtM_v, rtM_n, atI_0, atI_1, atI_2, atI_3, atI_4, ixN_0, ixN_1, ixN_2, setAllE, sizeLine_eq, Option.bind_some, Option.map_some, List.getElem?_cons_zero, List.getElem?_cons_succ, List.getElem?_nil, List.set_cons_zero, List.set_cons_succ, List.map_cons, List.map_nil, List.cons_append, List.nil_append, List.append_nil, List.length_cons, List.length_nil, List.replicate_succ, List.replicate_zero, Bool.not_true, Bool.not_false, Bool.false_eq_true, decide_true, decide_false, Nat.reduceAdd, Nat.reduceSub, Nat.reduceEqDiff, Nat.reduceLT, Nat.reduceLeDiff, ↓reduceIte, Int.reduceLT, Int.reduceLE, Int.reduceAdd, Int.reduceSub, Int.reduceMul, Int.reduceNeg, Int.reduceToNat, Int.reduceMod, Int.reduceEq, Int.reducePow, Nat.reducePow, decide_eq_true_eq, decide_eq_false_iff_not, eq_self, ne_eq, not_true_eq_false, not_false_eq_true, and_true, true_and, and_false, false_and, and_self, or_true, true_or, or_false, false_or, isT_tt, isT_ss, ca, cb, hy, Bool.true_or, Bool.false_or]
      refine whole_ok.imp fun r e => ?_
      subst e
      first | rfl | simp only [OX_some, OX_map, OX_fzf, OX_eV, OX_eK, OX_e1, OX_e2, OX_e3, OX_tb, OX_tru, OX_ite, OX_tand, OX_tor, OX_tnot, OX_eand, OX_eor, OX_enot, OX_eif, OX_a0, OX_aC, OX_etup, OX_elst, OX_eC, OX_eF, OX_eM, OX_sNil, OX_sBk, OX_sCt, OX_sRetN, OX_sq, OX_sIf, OX_sRet, OX_sX, OX_sV, OX_sO, OX_sP, OX_sU, OX_tgn, OX_tgt, OX_sSt, OX_eMM, OX_append, OX_eIs, OX_sFor, OX_sWh, OX_eLc, OX_iR1, OX_iR2, OX_iL, OX_iT, OX_oN, OX_oS, OX_eSl, OX_pE0, OX_pE, OX_eDk, OX_eGet2, OX_eDn, OX_eD0, OX_iI, OX_iB, OX_neg, OX_dEq, OX_dNe, OX_dIs, OX_dIsNot, OX_dIn, OX_dNotIn, OX_inL, OX_inT, OX_catT, OX_catL, OX_ixT, OX_ixL, OX_ixS, OX_slT, OX_slL, OX_lenL, OX_lenT, OX_lenS, OX_max2, OX_min2, OX_intI, OX_intB, OX_tupL, OX_tupT, OX_listL, OX_listT, OX_all, OX_any, OX_strT, OX_truB, OX_truI, OX_truL, OX_truT, OX_truN, OX_rtR_s, OX_rtM_s, frz_v, frz_n, frz_s, toD_lst, toD_dic, toD_dk, dr_v, dr_n, dr_s, ownD_own, vals_nil, vals_v, drs_nil, drs_c, svR_v, svR_own, svR_al, boolR_b, argM_s, ownM_own, slotR_s, ownL_own, valR_v, newR_n, two_2, intD_i, int1_i, int2_i, listD_l, tupD_t, eqD_ii, eqD_ss, eqD_bb, rtR_v, rtR_n, rtM_v, rtM_n, atI_0, atI_1, atI_2, atI_3, atI_4, ixN_0, ixN_1, ixN_2, setAllE, sizeLine_eq, Option.bind_some, Option.map_some, List.getElem?_cons_zero, List.getElem?_cons_succ, List.getElem?_nil, List.set_cons_zero, List.set_cons_succ, List.map_cons, List.map_nil, List.cons_append, List.nil_append, List.append_nil, List.length_cons, List.length_nil, List.replicate_succ, List.replicate_zero, Bool.not_true, Bool.not_false, Bool.false_eq_true, decide_true, decide_false, Nat.reduceAdd, Nat.reduceSub, Nat.reduceEqDiff, Nat.reduceLT, Nat.reduceLeDiff, ↓reduceIte, Int.reduceLT, Int.reduceLE, Int.reduceAdd, Int.reduceSub, Int.reduceMul, Int.reduceNeg, Int.reduceToNat, Int.reduceMod, Int.reduceEq, Int.reducePow, Nat.reducePow, decide_eq_true_eq, decide_eq_false_iff_not, eq_self, ne_eq, not_true_eq_false, not_false_eq_true, and_true, true_and, and_false, false_and, and_self, or_true, true_or, or_false, false_or, Bool.true_and, Bool.false_or]
theorem d_13 {n : Int} {w : Str} {x y z : D} {r : List D} (W : WF w false true false 3) : OX (D_is_deed [.int n, .tuple (.str w :: x :: y :: z :: r)]) (fun r => r = .v (.bool (false))) ∧ OX (D_L_is_deed [.int n, .tuple (.str w :: x :: y :: z :: r)]) fun r => r = .v (.bool (false)) := by
  refine ⟨OX.defF rfl ?_, OX.defF rfl ?_⟩
  · simp only [F_is_deed, OX_some, OX_map, OX_fzf, OX_eV, OX_eK, OX_e1, OX_e2, OX_e3, OX_tb, OX_tru, OX_ite, OX_tand, OX_tor, OX_tnot, OX_eand, OX_eor, OX_enot, OX_eif, OX_a0, OX_aC, OX_etup, OX_elst, OX_eC, OX_eF, OX_eM, OX_sNil, OX_sBk, OX_sCt, OX_sRetN, OX_sq, OX_sIf, OX_sRet, OX_sX, OX_sV, OX_sO, OX_sP, OX_sU, OX_tgn, OX_tgt, OX_sSt, OX_eMM, OX_append, OX_eIs, OX_sFor, OX_sWh, OX_eLc, OX_iR1, OX_iR2, OX_iL, OX_iT, OX_oN, OX_oS, OX_eSl, OX_pE0, OX_pE, OX_eDk, OX_eGet2, OX_eDn, OX_eD0, OX_iI, OX_iB, OX_neg, OX_dEq, OX_dNe, OX_dIs, OX_dIsNot, OX_dIn, OX_dNotIn, OX_inL, OX_inT, OX_catT, OX_catL, OX_ixT, OX_ixL, OX_ixS, OX_slT, OX_slL, OX_lenL, OX_lenT, OX_lenS, OX_max2, OX_min2, OX_intI, OX_intB, OX_tupL, OX_tupT, OX_listL, OX_listT, OX_all, OX_any, OX_strT, OX_truB, OX_truI, OX_truL, OX_truT, OX_truN, OX_rtR_s, OX_rtM_s, frz_v, frz_n, frz_s, toD_lst, toD_dic, toD_dk, dr_v, dr_n, dr_s, ownD_own, vals_nil, vals_v, drs_nil, drs_c, svR_v, svR_own, svR_al, boolR_b, argM_s, ownM_own, slotR_s, ownL_own, valR_v, newR_n, two_2, intD_i, int1_i, int2_i, listD_l, tupD_t, eqD_ii, eqD_ss, eqD_bb, rtR_v, rtR_n, rtM_v, rtM_n, atI_0, atI_1, atI_2, atI_3, atI_4, ixN_0, ixN_1, ixN_2, setAllE, sizeLine_eq, Option.bind_some, Option.map_some, List.getElem?_cons_zero, List.getElem?_cons_succ, List.getElem?_nil, List.set_cons_zero, List.set_cons_succ, List.map_cons, List.map_nil, List.cons_append, List.nil_append, List.append_nil, List.length_cons, List.length_nil, List.replicate_succ, List.replicate_zero, Bool.not_true, Bool.not_false, Bool.false_eq_true, decide_true, decide_false, Nat.reduceAdd, Nat.reduceSub, Nat.reduceEqDiff, Nat.reduceLT, Nat.reduceLeDiff, ↓reduceIte, Int.reduceLT, Int.reduceLE, Int.reduceAdd, Int.reduceSub, Int.reduceMul, Int.reduceNeg, Int.reduceToNat, Int.reduceMod, Int.reduceEq, Int.reducePow, Nat.reducePow, decide_eq_true_eq, decide_eq_false_iff_not, eq_self, ne_eq, not_true_eq_false, not_false_eq_true, and_true, true_and, and_false, false_and, and_self, or_true, true_or, or_false, false_or, isT_tt, isT_ss, W.t, W.a, W.m, ca, cb]
    try
      refine between_ok.imp fun r e => ?_
      subst e
      cases hb : inB x 0 (n - 1) <;> simp only [OX_some, OX_map, OX_fzf, OX_eV, OX_eK, OX_e1, OX_e2, OX_e3, OX_tb, OX_tru, OX_ite, OX_tand, OX_tor, OX_tnot, OX_eand, OX_eor, OX_enot, OX_eif, OX_a0, OX_aC, OX_etup, OX_elst, OX_eC, OX_eF, OX_eM, OX_sNil, OX_sBk, OX_sCt, OX_sRetN, OX_sq, OX_sIf, OX_sRet, OX_sX, OX_sV, OX_sO, OX_sP, OX_sU, OX_tgn, OX_tgt, OX_sSt, OX_eMM, OX_append, OX_eIs, OX_sFor, OX_sWh, OX_eLc, OX_iR1, OX_iR2, OX_iL, OX_iT, OX_oN, OX_oS, OX_eSl, OX_pE0, OX_pE, OX_eDk, OX_eGet2, OX_eDn, OX_eD0, OX_iI, OX_iB, OX_neg, OX_dEq, OX_dNe, OX_dIs, OX_dIsNot, OX_dIn, OX_dNotIn, OX_inL, OX_inT, OX_catT, OX_catL, OX_ixT, OX_ixL, OX_ixS, OX_slT, OX_slL, OX_lenL, OX_lenT, OX_lenS, OX_max2, OX_min2, OX_intI, OX_intB, OX_tupL, OX_tupT, OX_listL, OX_listT, OX_all, OX_any, OX_strT, OX_truB, OX_truI, OX_truL, OX_truT, OX_truN, OX_rtR_s, OX_rtM_s, frz_v, frz_n, frz_s, toD_lst, toD_dic, toD_dk, dr_v, dr_n, dr_s, ownD_own, vals_nil, vals_v, drs_nil, drs_c, svR_v, svR_own, svR_al, boolR_b, argM_s, ownM_own, slotR_s, ownL_own, valR_v, newR_n, two_2, intD_i, int1_i, int2_i, listD_l, tupD_t, eqD_ii, eqD_ss, eqD_bb, rtR_v, rtR_n, rtM_v, rtM_n, atI_0, atI_1, atI_2, atI_3, atI_4, ixN_0, ixN_1, ixN_2, setAllE, sizeLine_eq, Option.bind_some, Option.map_some, List.getElem?_cons_zero, List.getElem?_cons_succ, List.getElem?_nil, List.set_cons_zero, List.set_cons_succ, List.map_cons, List.map_nil, List.cons_append, List.nil_append, List.append_nil, List.length_cons, List.length_nil, List.replicate_succ, List.replicate_zero, Bool.not_true, Bool.not_false, Bool.false_eq_true, decide_true, decide_false, Nat.reduceAdd, Nat.reduceSub, Nat.reduceEqDiff, Nat.reduceLT, Nat.reduceLeDiff, ↓reduceIte, Int.reduceLT, Int.reduceLE, Int.reduceAdd, Int.reduceSub, Int.reduceMul, Int.reduceNeg, Int.reduceToNat, Int.reduceMod, Int.reduceEq, Int.reducePow, Nat.reducePow, decide_eq_true_eq, decide_eq_false_iff_not, eq_self, ne_eq, not_true_eq_false, not_false_eq_true, and_true, true_and, and_false, false_and, and_self, or_true, true_or, or_false, false_or, isT_tt, isT_ss, W.t, W.a, W.m, ca, cb, hb, Bool.true_and, Bool.false_and]
    try
      cases hy : isN y <;> simp only [OX_some, OX_map, OX_fzf, OX_eV, OX_eK, OX_e1, OX_e2, OX_e3, OX_tb, OX_tru, OX_ite, OX_tand, OX_tor, OX_tnot, OX_eand, OX_eor, OX_enot, OX_eif, OX_a0, OX_aC, OX_etup, OX_elst, OX_eC, OX_eF, OX_eM, OX_sNil, OX_sBk, OX_sCt, OX_sRetN, OX_sq, OX_sIf, OX_sRet, OX_sX, OX_sV, OX_sO, OX_sP, OX_sU, OX_tgn, OX_tgt, OX_sSt, OX_eMM, OX_append, OX_eIs, OX_sFor, OX_sWh, OX_eLc, OX_iR1, OX_iR2, OX_iL, OX_iT, OX_oN, OX_oS, OX_eSl, OX_pE0, OX_pE, OX_eDk, OX_eGet2, OX_eDn, OX_eD0, OX_iI, OX_iB, OX_neg, OX_dEq, OX_dNe, OX_dIs, OX_dIsNot, OX_dIn, OX_dNotIn, OX_inL, OX_inT, OX_catT, OX_catL, OX_ixT, OX_ixL, OX_ixS, OX_slT, OX_slL, OX_lenL, OX_lenT, OX_lenS, OX_max2, OX_min2, OX_intI, OX_intB, OX_tupL, OX_tupT, OX_listL, OX_listT, OX_all, OX_any, OX_strT, OX_truB, OX_truI, OX_truL, OX_truT, OX_truN, OX_rtR_s, OX_rtM_s, frz_v, frz_n, frz_s, toD_lst, toD_dic, toD_dk, dr_v, dr_n, dr_s, ownD_own, vals_nil, vals_v, drs_nil, drs_c, svR_v, svR_own, svR_al, boolR_b, argM_s, ownM_own, slotR_s, ownL_own, valR_v, newR_n, two_2, intD_i, int1_i, int2_i, listD_l, tupD_t, eqD_ii, eqD_ss, eqD_bb, rtR_v, rtR_n, rtM_v, rtM_n, atI_0, atI_1, atI_2, atI_3, atI_4, ixN_0, ixN_1, ixN_2, setAllE, sizeLine_eq, Option.bind_some, Option.map_some, List.getElem?_cons_zero, List.getElem?_cons_succ, List.getElem?_nil, List.set_cons_zero, List.set_cons_succ, List.map_cons, List.map_nil, List.cons_append, List.nil_append, List.append_nil, List.length_cons, List.length_nil, List.replicate_succ, List.replicate_zero, Bool.not_true, Bool.not_false, Bool.false_eq_true, decide_true, decide_false, Nat.reduceAdd, Nat.reduceSub, Nat.reduceEqDiff, Nat.reduceLT, Nat.reduceLeDiff, ↓reduceIte, Int.reduceLT, Int.reduceLE, Int.reduceAdd, Int.reduceSub, Int.reduceMul, Int.reduceNeg, Int.reduceToNat, Int.reduceMod, Int.reduceEq, Int.reducePow, Nat.reducePow, decide_eq_true_eq, decide_eq_false_iff_not, eq_self, ne_eq, not_true_eq_false, not_false_eq_true, and_true, true_and, and_false, false_and, and_self, or_true, true_or, or_false, false_or, isT_tt, isT_ss, W.t, W.a, W.m, ca, cb, hy, Bool.true_or, Bool.false_or]
      refine between_ok.imp fun r e => ?_
      subst e
      first | rfl | simp only [OX_some, OX_map, OX_fzf, OX_eV, OX_eK, OX_e1, OX_e2, OX_e3, OX_tb, OX_tru, OX_ite, OX_tand, OX_tor, OX_tnot, OX_eand, OX_eor, OX_enot, OX_eif, OX_a0, OX_aC, OX_etup, OX_elst, OX_eC, OX_eF, OX_eM, OX_sNil, OX_sBk, OX_sCt, OX_sRetN, OX_sq, OX_sIf, OX_sRet, OX_sX, OX_sV, OX_sO, OX_sP, OX_sU, OX_tgn, OX_tgt, OX_sSt, OX_eMM, OX_append, OX_eIs, OX_sFor, OX_sWh, OX_eLc, OX_iR1, OX_iR2, OX_iL, OX_iT, OX_oN, OX_oS, OX_eSl, OX_pE0, OX_pE, OX_eDk, OX_eGet2, OX_eDn, OX_eD0, OX_iI, OX_iB, OX_neg, OX_dEq, OX_dNe, OX_dIs, OX_dIsNot, OX_dIn, OX_dNotIn, OX_inL, OX_inT, OX_catT, OX_catL, OX_ixT, OX_ixL, OX_ixS, OX_slT, OX_slL, OX_lenL, OX_lenT, OX_lenS, OX_max2, OX_min2, OX_intI, OX_intB, OX_tupL, OX_tupT, OX_listL, OX_listT, OX_all, OX_any, OX_strT, OX_truB, OX_truI, OX_truL, OX_truT, OX_truN, OX_rtR_s, OX_rtM_s, frz_v, frz_n, frz_s, toD_lst, toD_dic, toD_dk, dr_v, dr_n, dr_s, ownD_own, vals_nil, vals_v, drs_nil, drs_c, svR_v, svR_own, svR_al, boolR_b, argM_s, ownM_own, slotR_s, ownL_own, valR_v, newR_n, two_2, intD_i, int1_i, int2_i, listD_l, tupD_t, eqD_ii, eqD_ss, eqD_bb, rtR_v, rtR_n, rtM_v, rtM_n, atI_0, atI_1, atI_2, atI_3, atI_4, ixN_0, ixN_1, ixN_2, setAllE, sizeLine_eq, Option.bind_some, Option.map_some, List.getElem?_cons_zero, List.getElem?_cons_succ, List.getElem?_nil, List.set_cons_zero, List.set_cons_succ, List.map_cons, List.map_nil, List.cons_append, List.nil_append, List.append_nil, List.length_cons, List.length_nil, List.replicate_succ, List.replicate_zero, Bool.not_true, Bool.not_false, Bool.false_eq_true, decide_true, decide_false, Nat.reduceAdd, Nat.reduceSub, Nat.reduceEqDiff, Nat.reduceLT, Nat.reduceLeDiff, ↓reduceIte, Int.reduceLT, Int.reduceLE, Int.reduceAdd, Int.reduceSub, Int.reduceMul, Int.reduceNeg, Int.reduceToNat, Int.reduceMod, Int.reduceEq, Int.reducePow, Nat.reducePow, decide_eq_true_eq, decide_eq_false_iff_not, eq_self, ne_eq, not_true_eq_false, not_false_eq_true, and_true, true_and, and_false, false_and, and_self, or_true, true_or, or_false, false_or, Bool.true_and, Bool.false_or]
  · simp only [F_L_is_deed, OX_some, OX_map, OX_fzf, OX_eV, OX_eK, OX_e1, OX_e2, OX_e3, OX_tb, OX_tru, OX_ite, OX_tand, OX_tor, OX_tnot, OX_eand, OX_eor, OX_enot, OX_eif, OX_a0, OX_aC, OX_etup, OX_elst, OX_eC, OX_eF, OX_eM, OX_sNil, OX_sBk, OX_sCt, OX_sRetN, OX_sq, OX_sIf, OX_sRet, OX_sX, OX_sV, OX_sO, OX_sP, OX_sU, OX_tgn, OX_tgt, OX_sSt, OX_eMM, OX_append, OX_eIs, OX_sFor, OX_sWh, OX_eLc, OX_iR1, OX_iR2, OX_iL, OX_iT, OX_oN, OX_oS, OX_eSl, OX_pE0, OX_pE, OX_eDk, OX_eGet2, OX_eDn, OX_eD0, OX_iI, OX_iB, OX_neg, OX_dEq, OX_dNe, OX_dIs, OX_dIsNot, OX_dIn, OX_dNotIn, OX_inL, OX_inT, OX_catT, OX_catL, OX_ixT, OX_ixL, OX_ixS, OX_slT, OX_slL, OX_lenL, OX_lenT, OX_lenS, OX_max2, OX_min2, OX_intI, OX_intB, OX_tupL, OX_tupT, OX_listL, OX_listT, OX_all, OX_any, OX_strT, OX_truB, OX_truI, OX_truL, OX_truT, OX_truN, OX_rtR_s, OX_rtM_s, frz_v, frz_n, frz_s, toD_lst, toD_dic, toD_dk, dr_v, dr_n, dr_s, ownD_own, vals_nil, vals_v, drs_nil, drs_c, svR_v, svR_own, svR_al, boolR_b, argM_s, ownM_own, slotR_s, ownL_own, valR_v, newR_n, two_2, intD_i, int1_i, int2_i, listD_l, tupD_t, eqD_ii, eqD_ss, eqD_bb, rtR_v, rtR_n, rtM_v, rtM_n, atI_0, atI_1, atI_2, atI_3, atI_4, ixN_0, ixN_1, ixN_2, setAllE, sizeLine_eq, Option.bind_some, Option.map_some, List.getElem?_cons_zero, List.getElem?_cons_succ, List.getElem?_nil, List.set_cons_zero, List.set_cons_succ, List.map_cons, List.map_nil, List.cons_append, List.nil_append, List.append_nil, List.length_cons, List.length_nil, List.replicate_succ, List.replicate_zero, Bool.not_true, Bool.not_false, Bool.false_eq_true, decide_true, decide_false, Nat.reduceAdd, Nat.reduceSub, Nat.reduceEqDiff, Nat.reduceLT, Nat.reduceLeDiff, ↓reduceIte, Int.reduceLT, Int.reduceLE, Int.reduceAdd, Int.reduceSub, Int.reduceMul, Int.reduceNeg, Int.reduceToNat, Int.reduceMod, Int.reduceEq, Int.reducePow, Nat.reducePow, decide_eq_true_eq, decide_eq_false_iff_not, eq_self, ne_eq, not_true_eq_false, not_false_eq_true, and_true, true_and, and_false, false_and, and_self, or_true, true_or, or_false, false_or, isT_tt, isT_ss, edk7, sizes_td, get2_ok, W.z, ca, cb]
    try
      refine whole_ok.imp fun r e => ?_
      subst e
      cases hb : inB x 0 (n - 1) <;> simp only [OX_some, OX_map, OX_fzf, OX_eV, OX_eK, OX_e1, OX_e2, OX_e3, OX_tb, OX_tru, OX_ite, OX_tand, OX_tor, OX_tnot, OX_eand, OX_eor, OX_enot, OX_eif, OX_a0, OX_aC, OX_etup, OX_elst, OX_eC, OX_eF, OX_eM, OX_sNil, OX_sBk, OX_sCt, OX_sRetN, OX_sq, OX_sIf, OX_sRet, OX_sX, OX_sV, OX_sO, OX_sP, OX_sU, OX_tgn, OX_tgt, OX_sSt, OX_eMM, OX_append, OX_eIs, OX_sFor, OX_sWh, OX_eLc, OX_iR1, OX_iR2, OX_iL, OX_iT, OX_oN, OX_oS, OX_eSl, OX_pE0, OX_pE, OX_eDk, OX_eGet2, OX_eDn, OX_eD0, OX_iI, OX_iB, OX_neg, OX_dEq, OX_dNe, OX_dIs, OX_dIsNot, OX_dIn, OX_dNotIn, OX_inL, OX_inT, OX_catT, OX_catL, OX_ixT, OX_ixL, OX_ixS, OX_slT, OX_slL, OX_lenL, OX_lenT, OX_lenS, OX_max2, OX_min2, OX_intI, OX_intB, OX_tupL, OX_tupT, OX_listL, OX_listT, OX_all, OX_any, OX_strT, OX_truB, OX_truI, OX_truL, OX_truT, OX_truN, OX_rtR_s, OX_rtM_s, frz_v, frz_n, frz_s, toD_lst, toD_dic, toD_dk, dr_v, dr_n, dr_s, ownD_own, vals_nil, vals_v, drs_nil, drs_c, svR_v, svR_own, svR_al, boolR_b, argM_s, ownM_own, slotR_s, ownL_own, valR_v, newR_n, two_2, intD_i, int1_i, int2_i, listD_l, tupD_t, eqD_ii, eqD_ss, eqD_bb, rtR_v, rtR_n, rtM_v, rtM_n, atI_0, atI_1, atI_2, atI_3, atI_4, ixN_0, ixN_1, ixN_2, setAllE, sizeLine_eq, Option.bind_some, Option.map_some, List.getElem?_cons_zero, List.getElem?_cons_succ, List.getElem?_nil, List.set_cons_zero, List.set_cons_succ, List.map_cons, List.map_nil, List.cons_append, List.nil_append, List.append_nil, List.length_cons, List.length_nil, List.replicate_succ, List.replicate_zero, Bool.not_true, Bool.not_false, Bool.false_eq_true, decide_true, decide_false, Nat.reduceAdd, Nat.reduceSub, Nat.reduceEqDiff, Nat.reduceLT, Nat.reduceLeDiff, ↓reduceIte, Int.reduceLT, Int.reduceLE, Int.reduceAdd, Int.reduceSub, Int.reduceMul, Int.reduceNeg, Int.reduceToNat, Int.reduceMod, Int.reduceEq, Int.reducePow, Nat.reducePow, decide_eq_true_eq, decide_eq_false_iff_not, eq_self, ne_eq, not_true_eq_false, not_false_eq_true, and_true, true_and, and_false, false_and, and_self, or_true, true_or, or_false, false_or, isT_tt, isT_ss, ca, cb, hb, Bool.true_and, Bool.false_and]
    try
      cases hy : isN y <;> simp only [OX_some, OX_map, OX_fzf, OX_eV, OX_eK, OX_e1, OX_e2, OX_e3, OX_tb, OX_tru, OX_ite, OX_tand, OX_tor, OX_tnot, OX_eand, OX_eor, OX_enot, OX_eif, OX_a0, OX_aC, OX_etup, OX_elst, OX_eC, OX_eF, OX_eM, OX_sNil, OX_sBk, OX_sCt, OX_sRetN, OX_sq, OX_sIf, OX_sRet, OX_sX, OX_sV, OX_sO, OX_sP, OX_sU, OX_tgn, OX_tgt, OX_sSt, OX_eMM, OX_append, OX_eIs, OX_sFor, OX_sWh, OX_eLc, OX_iR1, OX_iR2, OX_iL, OX_iT, OX_oN, OX_oS, OX_eSl, OX_pE0, OX_pE, OX_eDk, OX_eGet2, OX_eDn, OX_eD0, OX_iI, OX_iB, OX_neg, OX_dEq, OX_dNe, OX_dIs, OX_dIsNot, OX_dIn, OX_dNotIn, OX_inL, OX_inT, OX_catT, OX_catL, OX_ixT, OX_ixL, OX_ixS, OX_slT, OX_slL, OX_lenL, OX_lenT, OX_lenS, OX_max2, OX_min2, OX_intI, OX_intB, OX_tupL, OX_tupT, OX_listL, OX_listT, OX_all, OX_any, OX_strT, OX_truB, OX_truI, OX_truL, OX_truT, OX_truN, OX_rtR_s, OX_rtM_s, frz_v, frz_n, frz_s, toD_lst, toD_dic, toD_dk, dr_v, dr_n, dr_s, ownD_own, vals_nil, vals_v, drs_nil, drs_c, svR_v, svR_own, svR_al, boolR_b, argM_s, ownM_own, slotR_s, ownL_own, valR_v, newR_n, two_2, intD_i, int1_i, int2_i, listD_l, tupD_t, eqD_ii, eqD_ss, eqD_bb, rtR_v, rtR_n, rtM_v, rtM_n, atI_0, atI_1, atI_2, atI_3, atI_4, ixN_0, ixN_1, ixN_2, setAllE, sizeLine_eq, Option.bind_some, Option.map_some, List.getElem?_cons_zero, List.getElem?_cons_succ, List.getElem?_nil, List.set_cons_zero, List.set_cons_succ, List.map_cons, List.map_nil, List.cons_append, List.nil_append, List.append_nil, List.length_cons, List.length_nil, List.replicate_succ, List.replicate_zero, Bool.not_true, Bool.not_false, Bool.false_eq_true, decide_true, decide_false, Nat.reduceAdd, Nat.reduceSub, Nat.reduceEqDiff, Nat.reduceLT, Nat.reduceLeDiff, ↓reduceIte, Int.reduceLT, Int.reduceLE, Int.reduceAdd, Int.reduceSub, Int.reduceMul, Int.reduceNeg, Int.reduceToNat, Int.reduceMod, Int.reduceEq, Int.reducePow, Nat.reducePow, decide_eq_true_eq, decide_eq_false_iff_not, eq_self, ne_eq, not_true_eq_false, not_false_eq_true, and_true, true_and, and_false, false_and, and_self, or_true, true_or, or_false, false_or, isT_tt, isT_ss, ca, cb, hy, Bool.true_or, Bool.false_or]
      refine whole_ok.imp fun r e => ?_
      subst e
      first | rfl | simp only [OX_some, OX_map, OX_fzf, OX_eV, OX_eK, OX_e1, OX_e2, OX_e3, OX_tb, OX_tru, OX_ite, OX_tand, OX_tor, OX_tnot, OX_eand, OX_eor, OX_enot, OX_eif, OX_a0, OX_aC, OX_etup, OX_elst, OX_eC, OX_eF, OX_eM, OX_sNil, OX_sBk, OX_sCt, OX_sRetN, OX_sq, OX_sIf, OX_sRet, OX_sX, OX_sV, OX_sO, OX_sP, OX_sU, OX_tgn, OX_tgt, OX_sSt, OX_eMM, OX_append, OX_eIs, OX_sFor, OX_sWh, OX_eLc, OX_iR1, OX_iR2, OX_iL, OX_iT, OX_oN, OX_oS, OX_eSl, OX_pE0, OX_pE, OX_eDk, OX_eGet2, OX_eDn, OX_eD0, OX_iI, OX_iB, OX_neg, OX_dEq, OX_dNe, OX_dIs, OX_dIsNot, OX_dIn, OX_dNotIn, OX_inL, OX_inT, OX_catT, OX_catL, OX_ixT, OX_ixL, OX_ixS, OX_slT, OX_slL, OX_lenL, OX_lenT, OX_lenS, OX_max2, OX_min2, OX_intI, OX_intB, OX_tupL, OX_tupT, OX_listL, OX_listT, OX_all, OX_any, OX_strT, OX_truB, OX_truI, OX_truL, OX_truT, OX_truN, OX_rtR_s, OX_rtM_s, frz_v, frz_n, frz_s, toD_lst, toD_dic, toD_dk, dr_v, dr_n, dr_s, ownD_own, vals_nil, vals_v, drs_nil, drs_c, svR_v, svR_own, svR_al, boolR_b, argM_s, ownM_own, slotR_s, ownL_own, valR_v, newR_n, two_2, intD_i, int1_i, int2_i, listD_l, tupD_t, eqD_ii, eqD_ss, eqD_bb, rtR_v, rtR_n, rtM_v, rtM_n, atI_0, atI_1, atI_2, atI_3, atI_4, ixN_0, ixN_1, ixN_2, setAllE, sizeLine_eq, Option.bind_some, Option.map_some, List.getElem?_cons_zero, List.getElem?_cons_succ, List.getElem?_nil, List.set_cons_zero, List.set_cons_succ, List.map_cons, List.map_nil, List.cons_append, List.nil_append, List.append_nil, List.length_cons, List.length_nil, List.replicate_succ, List.replicate_zero, Bool.not_true, Bool.not_false, Bool.false_eq_true, decide_true, decide_false, Nat.reduceAdd, Nat.reduceSub, Nat.reduceEqDiff, Nat.reduceLT, Nat.reduceLeDiff, ↓reduceIte, Int.reduceLT, Int.reduceLE, Int.reduceAdd, Int.reduceSub, Int.reduceMul, Int.reduceNeg, Int.reduceToNat, Int.reduceMod, Int.reduceEq, Int.reducePow, Nat.reducePow, decide_eq_true_eq, decide_eq_false_iff_not, eq_self, ne_eq, not_true_eq_false, not_false_eq_true, and_true, true_and, and_false, false_and, and_self, or_true, true_or, or_false, false_or, Bool.true_and, Bool.false_or]
theorem d_20 {n : Int} {w : Str} (W : WF w false false true 2) : OX (D_is_deed [.int n, .tuple [.str w]]) (fun r => r = .v (.bool (false))) ∧ OX (D_L_is_deed [.int n, .tuple [.str w]]) fun r => r = .v (.bool (false)) := by
  refine ⟨OX.defF rfl ?_, OX.defF rfl ?_⟩
  · simp only [F_is_deed, OX_some, OX_map, OX_fzf, OX_eV, OX_eK, OX_e1, OX_e2, OX_e3, OX_tb, OX_tru, OX_ite, OX_tand, OX_tor, OX_tnot, OX_eand, OX_eor, OX_enot, OX_eif, OX_a0, OX_aC, OX_etup, OX_elst, OX_eC, OX_eF, OX_eM, OX_sNil, OX_sBk, OX_sCt, OX_sRetN, OX_sq, OX_sIf, OX_sRet, OX_sX, OX_sV, OX_sO, OX_sP, OX_sU, OX_tgn, OX_tgt, OX_sSt, OX_eMM, OX_append, OX_eIs, OX_sFor, OX_sWh, OX_eLc, OX_iR1, OX_iR2, OX_iL, OX_iT, OX_oN, OX_oS, OX_eSl, OX_pE0, OX_pE, OX_eDk, OX_eGet2, OX_eDn, OX_eD0, OX_iI, OX_iB, OX_neg, OX_dEq, OX_dNe, OX_dIs, OX_dIsNot, OX_dIn, OX_dNotIn, OX_inL, OX_inT, OX_catT, OX_catL, OX_ixT, OX_ixL, OX_ixS, OX_slT, OX_slL, OX_lenL, OX_lenT, OX_lenS, OX_max2, OX_min2, OX_intI, OX_intB, OX_tupL, OX_tupT, OX_listL, OX_listT, OX_all, OX_any, OX_strT, OX_truB, OX_truI, OX_truL, OX_truT, OX_truN, OX_rtR_s, OX_rtM_s, frz_v, frz_n, frz_s, toD_lst, toD_dic, toD_dk, dr_v, dr_n, dr_s, ownD_own, vals_nil, vals_v, drs_nil, drs_c, svR_v, svR_own, svR_al, boolR_b, argM_s, ownM_own, slotR_s, ownL_own, valR_v, newR_n, two_2, intD_i, int1_i, int2_i, listD_l, tupD_t, eqD_ii, eqD_ss, eqD_bb, rtR_v, rtR_n, rtM_v, rtM_n, atI_0, atI_1, atI_2, atI_3, atI_4, ixN_0, ixN_1, ixN_2, setAllE, sizeLine_eq, Option.bind_some, Option.map_some, List.getElem?_cons_zero, List.getElem?_cons_succ, List.getElem?_nil, List.set_cons_zero, List.set_cons_succ, List.map_cons, List.map_nil, List.cons_append, List.nil_append, List.append_nil, List.length_cons, List.length_nil, List.replicate_succ, List.replicate_zero, Bool.not_true, Bool.not_false, Bool.false_eq_true, decide_true, decide_false, Nat.reduceAdd, Nat.reduceSub, Nat.reduceEqDiff, Nat.reduceLT, Nat.reduceLeDiff, ↓reduceIte, Int.reduceLT, Int.reduceLE, Int.reduceAdd, Int.reduceSub, Int.reduceMul, Int.reduceNeg, Int.reduceToNat, Int.reduceMod, Int.reduceEq, Int.reducePow, Nat.reducePow, decide_eq_true_eq, decide_eq_false_iff_not, eq_self, ne_eq, not_true_eq_false, not_false_eq_true, and_true, true_and, and_false, false_and, and_self, or_true, true_or, or_false, false_or, isT_tt, isT_ss, W.t, W.a, W.m, ca, cb]
    try
      refine between_ok.imp fun r e => ?_
      subst e
      cases hb : inB x 0 (n - 1) <;> simp only [OX_some, OX_map, OX_fzf, OX_eV, OX_eK, OX_e1, OX_e2, OX_e3, OX_tb, OX_tru, OX_ite, OX_tand, OX_tor, OX_tnot, OX_eand, OX_eor, OX_enot, OX_eif, OX_a0, OX_aC, OX_etup, OX_elst, OX_eC, OX_eF, OX_eM, OX_sNil, OX_sBk, OX_sCt, OX_sRetN, OX_sq, OX_sIf, OX_sRet, OX_sX, OX_sV, OX_sO, OX_sP, OX_sU, OX_tgn, OX_tgt, OX_sSt, OX_eMM, OX_append, OX_eIs, OX_sFor, OX_sWh, OX_eLc, OX_iR1, OX_iR2, OX_iL, OX_iT, OX_oN, OX_oS, OX_eSl, OX_pE0, OX_pE, OX_eDk, OX_eGet2, OX_eDn, OX_eD0, OX_iI, OX_iB, OX_neg, OX_dEq, OX_dNe, OX_dIs, OX_dIsNot, OX_dIn, OX_dNotIn, OX_inL, OX_inT, OX_catT, OX_catL, OX_ixT, OX_ixL, OX_ixS, OX_slT, OX_slL, OX_lenL, OX_lenT, OX_lenS, OX_max2, OX_min2, OX_intI, OX_intB, OX_tupL, OX_tupT, OX_listL, OX_listT, OX_all, OX_any, OX_strT, OX_truB, OX_truI, OX_truL, OX_truT, OX_truN, OX_rtR_s, OX_rtM_s, frz_v, frz_n, frz_s, toD_lst, toD_dic, toD_dk, dr_v, dr_n, dr_s, ownD_own, vals_nil, vals_v, drs_nil, drs_c, svR_v, svR_own, svR_al, boolR_b, argM_s, ownM_own, slotR_s, ownL_own, valR_v, newR_n, two_2, intD_i, int1_i, int2_i, listD_l, tupD_t, eqD_ii, eqD_ss, eqD_bb, rtR_v, rtR_n, rtM_v, rtM_n, atI_0, atI_1, atI_2, atI_3, atI_4, ixN_0, ixN_1, ixN_2, setAllE, sizeLine_eq, Option.bind_some, Option.map_some, List.getElem?_cons_zero, List.getElem?_cons_succ, List.getElem?_nil, List.set_cons_zero, List.set_cons_succ, List.map_cons, List.map_nil, List.cons_append, List.nil_append, List.append_nil, List.length_cons, List.length_nil, List.replicate_succ, List.replicate_zero, Bool.not_true, Bool.not_false, Bool.false_eq_true, decide_true, decide_false, Nat.reduceAdd, Nat.reduceSub, Nat.reduceEqDiff, Nat.reduceLT, Nat.reduceLeDiff, ↓reduceIte, Int.reduceLT, Int.reduceLE, Int.reduceAdd, Int.reduceSub, Int.reduceMul, Int.reduceNeg, Int.reduceToNat, Int.reduceMod, Int.reduceEq, Int.reducePow, Nat.reducePow, decide_eq_true_eq, decide_eq_false_iff_not, eq_self, ne_eq, not_true_eq_false, not_false_eq_true, and_true, true_and, and_false, false_and, and_self, or_true, true_or, or_false, false_or, isT_tt, isT_ss, W.t, W.a, W.m, ca, cb, hb, Bool.true_and, Bool.false_and]
    try
      cases hy : isN y <;> simp only [OX_some, OX_map, OX_fzf, OX_eV, OX_eK, OX_e1, OX_e2, OX_e3, OX_tb, OX_tru, OX_ite, OX_tand, OX_tor, OX_tnot, OX_eand, OX_eor, OX_enot, OX_eif, OX_a0, OX_aC, OX_etup, OX_elst, OX_eC, OX_eF, OX_eM, OX_sNil, OX_sBk, OX_sCt, OX_sRetN, OX_sq, OX_sIf, OX_sRet, OX_sX, OX_sV, OX_sO, OX_sP, OX_sU, OX_tgn, OX_tgt, OX_sSt, OX_eMM, OX_append, OX_eIs, OX_sFor, OX_sWh, OX_eLc, OX_iR1, OX_iR2, OX_iL, OX_iT, OX_oN, OX_oS, OX_eSl, OX_pE0, OX_pE, OX_eDk, OX_eGet2, OX_eDn, OX_eD0, OX_iI, OX_iB, OX_neg, OX_dEq, OX_dNe, OX_dIs, OX_dIsNot, OX_dIn, OX_dNotIn, OX_inL, OX_inT, OX_catT, OX_catL, OX_ixT, OX_ixL, OX_ixS, OX_slT, OX_slL, OX_lenL, OX_lenT, OX_lenS, OX_max2, OX_min2, OX_intI, OX_intB, OX_tupL, OX_tupT, OX_listL, OX_listT, OX_all, OX_any, OX_strT, OX_truB, OX_truI, OX_truL, OX_truT, OX_truN, OX_rtR_s, OX_rtM_s, frz_v, frz_n, frz_s, toD_lst, toD_dic, toD_dk, dr_v, dr_n, dr_s, ownD_own, vals_nil, vals_v, drs_nil, drs_c, svR_v, svR_own, svR_al, boolR_b, argM_s, ownM_own, slotR_s, ownL_own, valR_v, newR_n, two_2, intD_i, int1_i, int2_i, listD_l, tupD_t, eqD_ii, eqD_ss, eqD_bb, rtR_v, rtR_n, rtM_v, rtM_n, atI_0, atI_1, atI_2, atI_3, atI_4, ixN_0, ixN_1, ixN_2, setAllE, sizeLine_eq, Option.bind_some, Option.map_some, List.getElem?_cons_zero, List.getElem?_cons_succ, List.getElem?_nil, List.set_cons_zero, List.set_cons_succ, List.map_cons, List.map_nil, List.cons_append, List.nil_append, List.append_nil, List.length_cons, List.length_nil, List.replicate_succ, List.replicate_zero, Bool.not_true, Bool.not_false, Bool.false_eq_true, decide_true, decide_false, Nat.reduceAdd, Nat.reduceSub, Nat.reduceEqDiff, Nat.reduceLT, Nat.reduceLeDiff, ↓reduceIte, Int.reduceLT, Int.reduceLE, Int.reduceAdd, Int.reduceSub, Int.reduceMul, Int.reduceNeg, Int.reduceToNat, Int.reduceMod, Int.reduceEq, Int.reducePow, Nat.reducePow, decide_eq_true_eq, decide_eq_false_iff_not, eq_self, ne_eq, not_true_eq_false, not_false_eq_true, and_true, true_and, and_false, false_and, and_self, or_true, true_or, or_false, false_or, isT_tt, isT_ss, W.t, W.a, W.m, ca, cb, hy, Bool.true_or, Bool.false_or]
      refine between_ok.imp fun r e => ?_
      subst e
      first | rfl | simp only [OX_some, OX_map, OX_fzf, OX_eV, OX_eK, OX_e1, OX_e2, OX_e3, OX_tb, OX_tru, OX_ite, OX_tand, OX_tor, OX_tnot, OX_eand, OX_eor, OX_enot, OX_eif, OX_a0, OX_aC, OX_etup, OX_elst, OX_eC, OX_eF, OX_eM, OX_sNil, OX_sBk, OX_sCt, OX_sRetN, OX_sq, OX_sIf, OX_sRet, OX_sX, OX_sV, OX_sO, OX_sP, OX_sU, OX_tgn, OX_tgt, OX_sSt, OX_eMM, OX_append, OX_eIs, OX_sFor, OX_sWh, OX_eLc, OX_iR1, OX_iR2, OX_iL, OX_iT, OX_oN, OX_oS, OX_eSl, OX_pE0, OX_pE, OX_eDk, OX_eGet2, OX_eDn, OX_eD0, OX_iI, OX_iB, OX_neg, OX_dEq, OX_dNe, OX_dIs, OX_dIsNot, OX_dIn, OX_dNotIn, OX_inL, OX_inT, OX_catT, OX_catL, OX_ixT, OX_ixL, OX_ixS, OX_slT, OX_slL, OX_lenL, OX_lenT, OX_lenS, OX_max2, OX_min2, OX_intI, OX_intB, OX_tupL, OX_tupT, OX_listL, OX_listT, OX_all, OX_any, OX_strT, OX_truB, OX_truI, OX_truL, OX_truT, OX_truN, OX_rtR_s, OX_rtM_s, frz_v, frz_n, frz_s, toD_lst, toD_dic, toD_dk, dr_v, dr_n, dr_s, ownD_own, vals_nil, vals_v, drs_nil, drs_c, svR_v, svR_own, svR_al, boolR_b, argM_s, ownM_own, slotR_s, ownL_own, valR_v, newR_n, two_2, intD_i, int1_i, int2_i, listD_l, tupD_t, eqD_ii, eqD_ss, eqD_bb, rtR_v, rtR_n, rtM_v, rtM_n, atI_0, atI_1, atI_2, atI_3, atI_4, ixN_0, ixN_1, ixN_2, setAllE, sizeLine_eq, Option.bind_some, Option.map_some, List.getElem?_cons_zero, List.getElem?_cons_succ, List.getElem?_nil, List.set_cons_zero, List.set_cons_succ, List.map_cons, List.map_nil, List.cons_append, List.nil_append, List.append_nil, List.length_cons, List.length_nil, List.replicate_succ, List.replicate_zero, Bool.not_true, Bool.not_false, Bool.false_eq_true, decide_true, decide_false, Nat.reduceAdd, Nat.reduceSub, Nat.reduceEqDiff, Nat.reduceLT, Nat.reduceLeDiff, ↓reduceIte, Int.reduceLT, Int.reduceLE, Int.reduceAdd, Int.reduceSub, Int.reduceMul, Int.reduceNeg, Int.reduceToNat, Int.reduceMod, Int.reduceEq, Int.reducePow, Nat.reducePow, decide_eq_true_eq, decide_eq_false_iff_not, eq_self, ne_eq, not_true_eq_false, not_false_eq_true, and_true, true_and, and_false, false_and, and_self, or_true, true_or, or_false, false_or, Bool.true_and, Bool.false_or]
  · simp only [F_L_is_deed, OX_some, OX_map, OX_fzf, OX_eV, OX_eK, OX_e1, OX_e2, OX_e3, OX_tb, OX_tru, OX_ite, OX_tand, OX_tor, OX_tnot, OX_eand, OX_eor, OX_enot, OX_eif, OX_a0, OX_aC, OX_etup, OX_elst, OX_eC, OX_eF, OX_eM, OX_sNil, OX_sBk, OX_sCt, OX_sRetN, OX_sq, OX_sIf, OX_sRet, OX_sX, OX_sV, OX_sO, OX_sP, OX_sU, OX_tgn, OX_tgt, OX_sSt, OX_eMM, OX_append, OX_eIs, OX_sFor, OX_sWh, OX_eLc, OX_iR1, OX_iR2, OX_iL, OX_iT, OX_oN, OX_oS, OX_eSl, OX_pE0, OX_pE, OX_eDk, OX_eGet2, OX_eDn, OX_eD0, OX_iI, OX_iB, OX_neg, OX_dEq, OX_dNe, OX_dIs, OX_dIsNot, OX_dIn, OX_dNotIn, OX_inL, OX_inT, OX_catT, OX_catL, OX_ixT, OX_ixL, OX_ixS, OX_slT, OX_slL, OX_lenL, OX_lenT, OX_lenS, OX_max2, OX_min2, OX_intI, OX_intB, OX_tupL, OX_tupT, OX_listL, OX_listT, OX_all, OX_any, OX_strT, OX_truB, OX_truI, OX_truL, OX_truT, OX_truN, OX_rtR_s, OX_rtM_s, frz_v, frz_n, frz_s, toD_lst, toD_dic, toD_dk, dr_v, dr_n, dr_s, ownD_own, vals_nil, vals_v, drs_nil, drs_c, svR_v, svR_own, svR_al, boolR_b, argM_s, ownM_own, slotR_s, ownL_own, valR_v, newR_n, two_2, intD_i, int1_i, int2_i, listD_l, tupD_t, eqD_ii, eqD_ss, eqD_bb, rtR_v, rtR_n, rtM_v, rtM_n, atI_0, atI_1, atI_2, atI_3, atI_4, ixN_0, ixN_1, ixN_2, setAllE, sizeLine_eq, Option.bind_some, Option.map_some, List.getElem?_cons_zero, List.getElem?_cons_succ, List.getElem?_nil, List.set_cons_zero, List.set_cons_succ, List.map_cons, List.map_nil, List.cons_append, List.nil_append, List.append_nil, List.length_cons, List.length_nil, List.replicate_succ, List.replicate_zero, Bool.not_true, Bool.not_false, Bool.false_eq_true, decide_true, decide_false, Nat.reduceAdd, Nat.reduceSub, Nat.reduceEqDiff, Nat.reduceLT, Nat.reduceLeDiff, ↓reduceIte, Int.reduceLT, Int.reduceLE, Int.reduceAdd, Int.reduceSub, Int.reduceMul, Int.reduceNeg, Int.reduceToNat, Int.reduceMod, Int.reduceEq, Int.reducePow, Nat.reducePow, decide_eq_true_eq, decide_eq_false_iff_not, eq_self, ne_eq, not_true_eq_false, not_false_eq_true, and_true, true_and, and_false, false_and, and_self, or_true, true_or, or_false, false_or, isT_tt, isT_ss, edk7, sizes_td, get2_ok, W.z, ca, cb]
    try
      refine whole_ok.imp fun r e => ?_
      subst e
      cases hb : inB x 0 (n - 1) <;> simp only [OX_some, OX_map, OX_fzf, OX_eV, OX_eK, OX_e1, OX_e2, OX_e3, OX_tb, OX_tru, OX_ite, OX_tand, OX_tor, OX_tnot, OX_eand, OX_eor, OX_enot, OX_eif, OX_a0, OX_aC, OX_etup, OX_elst, OX_eC, OX_eF, OX_eM, OX_sNil, OX_sBk, OX_sCt, OX_sRetN, OX_sq, OX_sIf, OX_sRet, OX_sX, OX_sV, OX_sO, OX_sP, OX_sU, OX_tgn, OX_tgt, OX_sSt, OX_eMM, OX_append, OX_eIs, OX_sFor, OX_sWh, OX_eLc, OX_iR1, OX_iR2, OX_iL, OX_iT, OX_oN, OX_oS, OX_eSl, OX_pE0, OX_pE, OX_eDk, OX_eGet2, OX_eDn, OX_eD0, OX_iI, OX_iB, OX_neg, OX_dEq, OX_dNe, OX_dIs, OX_dIsNot, OX_dIn, OX_dNotIn, OX_inL, OX_inT, OX_catT, OX_catL, OX_ixT, OX_ixL, OX_ixS, OX_slT, OX_slL, OX_lenL, OX_lenT, OX_lenS, OX_max2, OX_min2, OX_intI, OX_intB, OX_tupL, OX_tupT, OX_listL, OX_listT, OX_all, OX_any, OX_strT, OX_truB, OX_truI, OX_truL, OX_truT, OX_truN, OX_rtR_s, OX_rtM_s, frz_v, frz_n, frz_s, toD_lst, toD_dic, toD_dk, dr_v, dr_n, dr_s, ownD_own, vals_nil, vals_v, drs_nil, drs_c, svR_v, svR_own, svR_al, boolR_b, argM_s, ownM_own, slotR_s, ownL_own, valR_v, newR_n, two_2, intD_i, int1_i, int2_i, listD_l, tupD_t, eqD_ii, eqD_ss, eqD_bb, rtR_v, rtR_n, rtM_v, rtM_n, atI_0, atI_1, atI_2, atI_3, atI_4, ixN_0, ixN_1, ixN_2, setAllE, sizeLine_eq, Option.bind_some, Option.map_some, List.getElem?_cons_zero, List.getElem?_cons_succ, List.getElem?_nil, List.set_cons_zero, List.set_cons_succ, List.map_cons, List.map_nil, List.cons_append, List.nil_append, List.append_nil, List.length_cons, List.length_nil, List.replicate_succ, List.replicate_zero, Bool.not_true, Bool.not_false, Bool.false_eq_true, decide_true, decide_false, Nat.reduceAdd, Nat.reduceSub, Nat.reduceEqDiff, Nat.reduceLT, Nat.reduceLeDiff, ↓reduceIte, Int.reduceLT, Int.reduceLE, Int.reduceAdd, Int.reduceSub, Int.reduceMul, Int.reduceNeg, Int.reduceToNat, Int.reduceMod, Int.reduceEq, Int.reducePow, Nat.reducePow, decide_eq_true_eq, decide_eq_false_iff_not, eq_self, ne_eq, not_true_eq_false, not_false_eq_true, and_true, true_and, and_false, false_and, and_self, or_true, true_or, or_false, false_or, isT_tt, isT_ss, ca, cb, hb, Bool.true_and, Bool.false_and]
    try
      cases hy : isN y <;> simp only [OX_some, OX_map, OX_fzf, OX_eV, OX_eK, OX_e1, OX_e2, OX_e3, OX_tb, OX_tru, OX_ite, OX_tand, OX_tor, OX_tnot, OX_eand, OX_eor, OX_enot, OX_eif, OX_a0, OX_aC, OX_etup, OX_elst, OX_eC, OX_eF, OX_eM, OX_sNil, OX_sBk, OX_sCt, OX_sRetN, OX_sq, OX_sIf, OX_sRet, OX_sX, OX_sV, OX_sO, OX_sP, OX_sU, OX_tgn, OX_tgt, OX_sSt, OX_eMM, OX_append, OX_eIs, OX_sFor, OX_sWh, OX_eLc, OX_iR1, OX_iR2, OX_iL, OX_iT, OX_oN, OX_oS, OX_eSl, OX_pE0, OX_pE, OX_eDk, OX_eGet2, OX_eDn, OX_eD0, OX_iI, OX_iB, OX_neg, OX_dEq, OX_dNe, OX_dIs, OX_dIsNot, OX_dIn, OX_dNotIn, OX_inL, OX_inT, OX_catT, OX_catL, OX_ixT, OX_ixL, OX_ixS, OX_slT, OX_slL, OX_lenL, OX_lenT, OX_lenS, OX_max2, OX_min2, OX_intI, OX_intB, OX_tupL, OX_tupT, OX_listL, OX_listT, OX_all, OX_any, OX_strT, OX_truB, OX_truI, OX_truL, OX_truT, OX_truN, OX_rtR_s, OX_rtM_s, frz_v, frz_n, frz_s, toD_lst, toD_dic, toD_dk, dr_v, dr_n, dr_s, ownD_own, vals_nil, vals_v, drs_nil, drs_c, svR_v, svR_own, svR_al, boolR_b, argM_s, ownM_own, slotR_s, ownL_own, valR_v, newR_n, two_2, intD_i, int1_i, int2_i, listD_l, tupD_t, eqD_ii, eqD_ss, eqD_bb, rtR_v, rtR_n, rtM_v, rtM_n, atI_0, atI_1, atI_2, atI_3, atI_4, ixN_0, ixN_1, ixN_2, setAllE, sizeLine_eq, Option.bind_some, Option.map_some, List.getElem?_cons_zero, List.getElem?_cons_succ, List.getElem?_nil, List.set_cons_zero, List.set_cons_succ, List.map_cons, List.map_nil, List.cons_append, List.nil_append, List.append_nil, List.length_cons, List.length_nil, List.replicate_succ, List.replicate_zero, Bool.not_true, Bool.not_false, Bool.false_eq_true, decide_true, decide_false, Nat.reduceAdd, Nat.reduceSub, Nat.reduceEqDiff, Nat.reduceLT, Nat.reduceLeDiff, ↓reduceIte, Int.reduceLT, Int.reduceLE, Int.reduceAdd, Int.reduceSub, Int.reduceMul, Int.reduceNeg, Int.reduceToNat, Int.reduceMod, Int.reduceEq, Int.reducePow, Nat.reducePow, decide_eq_true_eq, decide_eq_false_iff_not, eq_self, ne_eq, not_true_eq_false, not_false_eq_true, and_true, true_and, and_false, false_and, and_self, or_true, true_or, or_false, false_or, isT_tt, isT_ss, ca, cb, hy, Bool.true_or, Bool.false_or]
      refine whole_ok.imp fun r e => ?_
      subst e
      first | rfl | simp only [OX_some, OX_map, OX_fzf, OX_eV, OX_eK, OX_e1, OX_e2, OX_e3, OX_tb, OX_tru, OX_ite, OX_tand, OX_tor, OX_tnot, OX_eand, OX_eor, OX_enot, OX_eif, OX_a0, OX_aC, OX_etup, OX_elst, OX_eC, OX_eF, OX_eM, OX_sNil, OX_sBk, OX_sCt, OX_sRetN, OX_sq, OX_sIf, OX_sRet, OX_sX, OX_sV, OX_sO, OX_sP, OX_sU, OX_tgn, OX_tgt, OX_sSt, OX_eMM, OX_append, OX_eIs, OX_sFor, OX_sWh, OX_eLc, OX_iR1, OX_iR2, OX_iL, OX_iT, OX_oN, OX_oS, OX_eSl, OX_pE0, OX_pE, OX_eDk, OX_eGet2, OX_eDn, OX_eD0, OX_iI, OX_iB, OX_neg, OX_dEq, OX_dNe, OX_dIs, OX_dIsNot, OX_dIn, OX_dNotIn, OX_inL, OX_inT, OX_catT, OX_catL, OX_ixT, OX_ixL, OX_ixS, OX_slT, OX_slL, OX_lenL, OX_lenT, OX_lenS, OX_max2, OX_min2, OX_intI, OX_intB, OX_tupL, OX_tupT, OX_listL, OX_listT, OX_all, OX_any, OX_strT, OX_truB, OX_truI, OX_truL, OX_truT, OX_truN, OX_rtR_s, OX_rtM_s, frz_v, frz_n, frz_s, toD_lst, toD_dic, toD_dk, dr_v, dr_n, dr_s, ownD_own, vals_nil, vals_v, drs_nil, drs_c, svR_v, svR_own, svR_al, boolR_b, argM_s, ownM_own, slotR_s, ownL_own, valR_v, newR_n, two_2, intD_i, int1_i, int2_i, listD_l, tupD_t, eqD_ii, eqD_ss, eqD_bb, rtR_v, rtR_n, rtM_v, rtM_n, atI_0, atI_1, atI_2, atI_3, atI_4, ixN_0, ixN_1, ixN_2, setAllE, sizeLine_eq, Option.bind_some, Option.map_some, List.getElem?_cons_zero, List.getElem?_cons_succ, List.getElem?_nil, List.set_cons_zero, List.set_cons_succ, List.map_cons, List.map_nil, List.cons_append, List.nil_append, List.append_nil, List.length_cons, List.length_nil, List.replicate_succ, List.replicate_zero, Bool.not_true, Bool.not_false, Bool.false_eq_true, decide_true, decide_false, Nat.reduceAdd, Nat.reduceSub, Nat.reduceEqDiff, Nat.reduceLT, Nat.reduceLeDiff, ↓reduceIte, Int.reduceLT, Int.reduceLE, Int.reduceAdd, Int.reduceSub, Int.reduceMul, Int.reduceNeg, Int.reduceToNat, Int.reduceMod, Int.reduceEq, Int.reducePow, Nat.reducePow, decide_eq_true_eq, decide_eq_false_iff_not, eq_self, ne_eq, not_true_eq_false, not_false_eq_true, and_true, true_and, and_false, false_and, and_self, or_true, true_or, or_false, false_or, Bool.true_and, Bool.false_or]
theorem d_21 {n : Int} {w : Str} {x : D} (W : WF w false false true 2) : OX (D_is_deed [.int n, .tuple [.str w, x]]) (fun r => r = .v (.bool (inB x 0 (n - 1)))) ∧ OX (D_L_is_deed [.int n, .tuple [.str w, x]]) fun r => r = .v (.bool (inB x 0 (n - 1))) := by
  refine ⟨OX.defF rfl ?_, OX.defF rfl ?_⟩
  · simp only [F_is_deed, OX_some, OX_map, OX_fzf, OX_eV, OX_eK, OX_e1, OX_e2, OX_e3, OX_tb, OX_tru, OX_ite, OX_tand, OX_tor, OX_tnot, OX_eand, OX_eor, OX_enot, OX_eif, OX_a0, OX_aC, OX_etup, OX_elst, OX_eC, OX_eF, OX_eM, OX_sNil, OX_sBk, OX_sCt, OX_sRetN, OX_sq, OX_sIf, OX_sRet, OX_sX, OX_sV, OX_sO, OX_sP, OX_sU, OX_tgn, OX_tgt, OX_sSt, OX_eMM, OX_append, OX_eIs, OX_sFor, OX_sWh, OX_eLc, OX_iR1, OX_iR2, OX_iL, OX_iT, OX_oN, OX_oS, OX_eSl, OX_pE0, OX_pE, OX_eDk, OX_eGet2, OX_eDn, OX_eD0, OX_iI, OX_iB, OX_neg, OX_dEq, OX_dNe, OX_dIs, OX_dIsNot, OX_dIn, OX_dNotIn, OX_inL, OX_inT, OX_catT, OX_catL, OX_ixT, OX_ixL, OX_ixS, OX_slT, OX_slL, OX_lenL, OX_lenT, OX_lenS, OX_max2, OX_min2, OX_intI, OX_intB, OX_tupL, OX_tupT, OX_listL, OX_listT, OX_all, OX_any, OX_strT, OX_truB, OX_truI, OX_truL, OX_truT, OX_truN, OX_rtR_s, OX_rtM_s, frz_v, frz_n, frz_s, toD_lst, toD_dic, toD_dk, dr_v, dr_n, dr_s, ownD_own, vals_nil, vals_v, drs_nil, drs_c, svR_v, svR_own, svR_al, boolR_b, argM_s, ownM_own, slotR_s, ownL_own, valR_v, newR_n, two_2, intD_i, int1_i, int2_i, listD_l, tupD_t, eqD_ii, eqD_ss, eqD_bb, rtR_v, rtR_n, rtM_v, rtM_n, atI_0, atI_1, atI_2, atI_3, atI_4, ixN_0, ixN_1, ixN_2, setAllE, sizeLine_eq, Option.bind_some, Option.map_some, List.getElem?_cons_zero, List.getElem?_cons_succ, List.getElem?_nil, List.set_cons_zero, List.set_cons_succ, List.map_cons, List.map_nil, List.cons_append, List.nil_append, List.append_nil, List.length_cons, List.length_nil, List.replicate_succ, List.replicate_zero, Bool.not_true, Bool.not_false, Bool.false_eq_true, decide_true, decide_false, Nat.reduceAdd, Nat.reduceSub, Nat.reduceEqDiff, Nat.reduceLT, Nat.reduceLeDiff, ↓reduceIte, Int.reduceLT, Int.reduceLE, Int.reduceAdd, Int.reduceSub, Int.reduceMul, Int.reduceNeg, Int.reduceToNat, Int.reduceMod, Int.reduceEq, Int.reducePow, Nat.reducePow, decide_eq_true_eq, decide_eq_false_iff_not, eq_self, ne_eq, not_true_eq_false, not_false_eq_true, and_true, true_and, and_false, false_and, and_self, or_true, true_or, or_false, false_or, isT_tt, isT_ss, W.t, W.a, W.m, ca, cb]
    try
      refine between_ok.imp fun r e => ?_
      subst e
      cases hb : inB x 0 (n - 1) <;> simp only [OX_some, OX_map, OX_fzf, OX_eV, OX_eK, OX_e1, OX_e2, OX_e3, OX_tb, OX_tru, OX_ite, OX_tand, OX_tor, OX_tnot, OX_eand, OX_eor, OX_enot, OX_eif, OX_a0, OX_aC, OX_etup, OX_elst, OX_eC, OX_eF, OX_eM, OX_sNil, OX_sBk, OX_sCt, OX_sRetN, OX_sq, OX_sIf, OX_sRet, OX_sX, OX_sV, OX_sO, OX_sP, OX_sU, OX_tgn, OX_tgt, OX_sSt, OX_eMM, OX_append, OX_eIs, OX_sFor, OX_sWh, OX_eLc, OX_iR1, OX_iR2, OX_iL, OX_iT, OX_oN, OX_oS, OX_eSl, OX_pE0, OX_pE, OX_eDk, OX_eGet2, OX_eDn, OX_eD0, OX_iI, OX_iB, OX_neg, OX_dEq, OX_dNe, OX_dIs, OX_dIsNot, OX_dIn, OX_dNotIn, OX_inL, OX_inT, OX_catT, OX_catL, OX_ixT, OX_ixL, OX_ixS, OX_slT, OX_slL, OX_lenL, OX_lenT, OX_lenS, OX_max2, OX_min2, OX_intI, OX_intB, OX_tupL, OX_tupT, OX_listL, OX_listT, OX_all, OX_any, OX_strT, OX_truB, OX_truI, OX_truL, OX_truT, OX_truN, OX_rtR_s, OX_rtM_s, frz_v, frz_n, frz_s, toD_lst, toD_dic, toD_dk, dr_v, dr_n, dr_s, ownD_own, vals_nil, vals_v, drs_nil, drs_c, svR_v, svR_own, svR_al, boolR_b, argM_s, ownM_own, slotR_s, ownL_own, valR_v, newR_n, two_2, intD_i, int1_i, int2_i, listD_l, tupD_t, eqD_ii, eqD_ss, eqD_bb, rtR_v, rtR_n, rtM_v, rtM_n, atI_0, atI_1, atI_2, atI_3, atI_4, ixN_0, ixN_1, ixN_2, setAllE, sizeLine_eq, Option.bind_some, Option.map_some, List.getElem?_cons_zero, List.getElem?_cons_succ, List.getElem?_nil, List.set_cons_zero, List.set_cons_succ, List.map_cons, List.map_nil, List.cons_append, List.nil_append, List.append_nil, List.length_cons, List.length_nil, List.replicate_succ, List.replicate_zero, Bool.not_true, Bool.not_false, Bool.false_eq_true, decide_true, decide_false, Nat.reduceAdd, Nat.reduceSub, Nat.reduceEqDiff, Nat.reduceLT, Nat.reduceLeDiff, ↓reduceIte, Int.reduceLT, Int.reduceLE, Int.reduceAdd, Int.reduceSub, Int.reduceMul, Int.reduceNeg, Int.reduceToNat, Int.reduceMod, Int.reduceEq, Int.reducePow, Nat.reducePow, decide_eq_true_eq, decide_eq_false_iff_not, eq_self, ne_eq, not_true_eq_false, not_false_eq_true, and_true, true_and, and_false, false_and, and_self, or_true, true_or, or_false, false_or, isT_tt, isT_ss, W.t, W.a, W.m, ca, cb, hb, Bool.true_and, Bool.false_and]
    try
      cases hy : isN y <;> simp only [OX_some, OX_map, OX_fzf, OX_eV, OX_eK, OX_e1, OX_e2, OX_e3, OX_tb, OX_tru, OX_ite, OX_tand, OX_tor, OX_tnot, OX_eand, OX_eor, OX_enot, OX_eif, OX_a0, OX_aC, OX_etup, OX_elst, OX_eC, OX_eF, OX_eM, OX_sNil, OX_sBk, OX_sCt, OX_sRetN, OX_sq, OX_sIf, OX_sRet, OX_sX, OX_sV, OX_sO, OX_sP, OX_sU, OX_tgn, OX_tgt, OX_sSt, OX_eMM, OX_append, OX_eIs, OX_sFor, OX_sWh, OX_eLc, OX_iR1, OX_iR2, OX_iL, OX_iT, OX_oN, OX_oS, OX_eSl, OX_pE0, OX_pE, OX_eDk, OX_eGet2, OX_eDn, OX_eD0, OX_iI, OX_iB, OX_neg, OX_dEq, OX_dNe, OX_dIs, OX_dIsNot, OX_dIn, OX_dNotIn, OX_inL, OX_inT, OX_catT, OX_catL, OX_ixT, OX_ixL, OX_ixS, OX_slT, OX_slL, OX_lenL, OX_lenT, OX_lenS, OX_max2, OX_min2, OX_intI, OX_intB, OX_tupL, OX_tupT, OX_listL, OX_listT, OX_all, OX_any, OX_strT, OX_truB, OX_truI, OX_truL, OX_truT, OX_truN, OX_rtR_s, OX_rtM_s, frz_v, frz_n, frz_s, toD_lst, toD_dic, toD_dk, dr_v, dr_n, dr_s, ownD_own, vals_nil, vals_v, drs_nil, drs_c, svR_v, svR_own, svR_al, boolR_b, argM_s, ownM_own, slotR_s, ownL_own, valR_v, newR_n, two_2, intD_i, int1_i, int2_i, listD_l, tupD_t, eqD_ii, eqD_ss, eqD_bb, rtR_v, rtR_n, rtM_v, rtM_n, atI_0, atI_1, atI_2, atI_3, atI_4, ixN_0, ixN_1, ixN_2, setAllE, sizeLine_eq, Option.bind_some, Option.map_some, List.getElem?_cons_zero, List.getElem?_cons_succ, List.getElem?_nil, List.set_cons_zero, List.set_cons_succ, List.map_cons, List.map_nil, List.cons_append, List.nil_append, List.append_nil, List.length_cons, List.length_nil, List.replicate_succ, List.replicate_zero, Bool.not_true, Bool.not_false, Bool.false_eq_true, decide_true, decide_false, Nat.reduceAdd, Nat.reduceSub, Nat.reduceEqDiff, Nat.reduceLT, Nat.reduceLeDiff, ↓reduceIte, Int.reduceLT, Int.reduceLE, Int.reduceAdd, Int.reduceSub, Int.reduceMul, Int.reduceNeg, Int.reduceToNat, Int.reduceMod, Int.reduceEq, Int.reducePow, Nat.reducePow, decide_eq_true_eq, decide_eq_false_iff_not, eq_self, ne_eq, not_true_eq_false, not_false_eq_true, and_true, true_and, and_false, false_and, and_self, or_true, true_or, or_false, false_or, isT_tt, isT_ss, W.t, W.a, W.m, ca, cb, hy, Bool.true_or, Bool.false_or]
      refine between_ok.imp fun r e => ?_
      subst e
      first | rfl | simp only [OX_some, OX_map, OX_fzf, OX_eV, OX_eK, OX_e1, OX_e2, OX_e3, OX_tb, OX_tru, OX_ite, OX_tand, OX_tor, OX_tnot, OX_eand, OX_eor, OX_enot, OX_eif, OX_a0, OX_aC, OX_etup, OX_elst, OX_eC, OX_eF, OX_eM, OX_sNil, OX_sBk, OX_sCt, OX_sRetN, OX_sq, OX_sIf, OX_sRet, OX_sX, OX_sV, OX_sO, OX_sP, OX_sU, OX_tgn, OX_tgt, OX_sSt, OX_eMM, OX_append, OX_eIs, OX_sFor, OX_sWh, OX_eLc, OX_iR1, OX_iR2, OX_iL, OX_iT, OX_oN, OX_oS, OX_eSl, OX_pE0, OX_pE, OX_eDk, OX_eGet2, OX_eDn, OX_eD0, OX_iI, OX_iB, OX_neg, OX_dEq, OX_dNe, OX_dIs, OX_dIsNot, OX_dIn, OX_dNotIn, OX_inL, OX_inT, OX_catT, OX_catL, OX_ixT, OX_ixL, OX_ixS, OX_slT, OX_slL, OX_lenL, OX_lenT, OX_lenS, OX_max2, OX_min2, OX_intI, OX_intB, OX_tupL, OX_tupT, OX_listL, OX_listT, OX_all, OX_any, OX_strT, OX_truB, OX_truI, OX_truL, OX_truT, OX_truN, OX_rtR_s, OX_rtM_s, frz_v, frz_n, frz_s, toD_lst, toD_dic, toD_dk, dr_v, dr_n, dr_s, ownD_own, vals_nil, vals_v, drs_nil, drs_c, svR_v, svR_own, svR_al, boolR_b, argM_s, ownM_own, slotR_s, ownL_own, valR_v, newR_n, two_2, intD_i, int1_i, int2_i, listD_l, tupD_t, eqD_ii, eqD_ss, eqD_bb, rtR_v, rtR_n, rtM_v, rtM_n, atI_0, atI_1, atI_2, atI_3, atI_4, ixN_0, ixN_1, ixN_2, setAllE, sizeLine_eq, Option.bind_some, Option.map_some, List.getElem?_cons_zero, List.getElem?_cons_succ, List.getElem?_nil, List.set_cons_zero, List.set_cons_succ, List.map_cons, List.map_nil, List.cons_append, List.nil_append, List.append_nil, List.length_cons, List.length_nil, List.replicate_succ, List.replicate_zero, Bool.not_true, Bool.not_false, Bool.false_eq_true, decide_true, decide_false, Nat.reduceAdd, Nat.reduceSub, Nat.reduceEqDiff, Nat.reduceLT, Nat.reduceLeDiff, ↓reduceIte, Int.reduceLT, Int.reduceLE, Int.reduceAdd, Int.reduceSub, Int.reduceMul, Int.reduceNeg, Int.reduceToNat, Int.reduceMod, Int.reduceEq, Int.reducePow, Nat.reducePow, decide_eq_true_eq, decide_eq_false_iff_not, eq_self, ne_eq, not_true_eq_false, not_false_eq_true, and_true, true_and, and_false, false_and, and_self, or_true, true_or, or_false, false_or, Bool.true_and, Bool.false_or]
  · simp only [F_L_is_deed, OX_some, OX_map, OX_fzf, OX_eV, OX_eK, OX_e1, OX_e2, OX_e3, OX_tb, OX_tru, OX_ite, OX_tand, OX_tor, OX_tnot, OX_eand, OX_eor, OX_enot, OX_eif, OX_a0, OX_aC, OX_etup, OX_elst, OX_eC, OX_eF, OX_eM, OX_sNil, OX_sBk, OX_sCt, OX_sRetN, OX_sq, OX_sIf, OX_sRet, OX_sX, OX_sV, OX_sO, OX_sP, OX_sU, OX_tgn, OX_tgt, OX_sSt, OX_eMM, OX_append, OX_eIs, OX_sFor, OX_sWh, OX_eLc, OX_iR1, OX_iR2, OX_iL, OX_iT, OX_oN, OX_oS, OX_eSl, OX_pE0, OX_pE, OX_eDk, OX_eGet2, OX_eDn, OX_eD0, OX_iI, OX_iB, OX_neg, OX_dEq, OX_dNe, OX_dIs, OX_dIsNot, OX_dIn, OX_dNotIn, OX_inL, OX_inT, OX_catT, OX_catL, OX_ixT, OX_ixL, OX_ixS, OX_slT, OX_slL, OX_lenL, OX_lenT, OX_lenS, OX_max2, OX_min2, OX_intI, OX_intB, OX_tupL, OX_tupT, OX_listL, OX_listT, OX_all, OX_any, OX_strT, OX_truB, OX_truI, OX_truL, OX_truT, OX_truN, OX_rtR_s, OX_rtM_s, frz_v, frz_n, frz_s, toD_lst, toD_dic, toD_dk, dr_v, dr_n, dr_s, ownD_own, vals_nil, vals_v, drs_nil, drs_c, svR_v, svR_own, svR_al, boolR_b, argM_s, ownM_own, slotR_s, ownL_own, valR_v, newR_n, two_2, intD_i, int1_i, int2_i, listD_l, tupD_t, eqD_ii, eqD_ss, eqD_bb, rtR_v, rtR_n, rtM_v, rtM_n, atI_0, atI_1, atI_2, atI_3, atI_4, ixN_0, ixN_1, ixN_2, setAllE, sizeLine_eq, Option.bind_some, Option.map_some, List.getElem?_cons_zero, List.getElem?_cons_succ, List.getElem?_nil, List.set_cons_zero, List.set_cons_succ, List.map_cons, List.map_nil, List.cons_append, List.nil_append, List.append_nil, List.length_cons, List.length_nil, List.replicate_succ, List.replicate_zero, Bool.not_true, Bool.not_false, Bool.false_eq_true, decide_true, decide_false, Nat.reduceAdd, Nat.reduceSub, Nat.reduceEqDiff, Nat.reduceLT, Nat.reduceLeDiff, ↓reduceIte, Int.reduceLT, Int.reduceLE, Int.reduceAdd, Int.reduceSub, Int.reduceMul, Int.reduceNeg, Int.reduceToNat, Int.reduceMod, Int.reduceEq, Int.reducePow, Nat.reducePow, decide_eq_true_eq, decide_eq_false_iff_not, eq_self, ne_eq, not_true_eq_false, not_false_eq_true, and_true, true_and, and_false, false_and, and_self, or_true, true_or, or_false, false_or, isT_tt, isT_ss, edk7, sizes_td, get2_ok, W.z, ca, cb]
    try
      refine whole_ok.imp fun r e => ?_
      subst e
      cases hb : inB x 0 (n - 1) <;> simp only [OX_some, OX_map, OX_fzf, OX_eV, OX_eK, OX_e1, OX_e2, OX_e3, OX_tb, OX_tru, OX_ite, OX_tand, OX_tor, OX_tnot, OX_eand, OX_eor, OX_enot, OX_eif, OX_a0, OX_aC, OX_etup, OX_elst, OX_eC, OX_eF, OX_eM, OX_sNil, OX_sBk, OX_sCt, OX_sRetN, OX_sq, OX_sIf, OX_sRet, OX_sX, OX_sV, OX_sO, OX_sP, OX_sU, OX_tgn, OX_tgt, OX_sSt, OX_eMM, OX_append, OX_eIs, OX_sFor, OX_sWh, OX_eLc, OX_iR1, OX_iR2, OX_iL, OX_iT, OX_oN, OX_oS, OX_eSl, OX_pE0, OX_pE, OX_eDk, OX_eGet2, OX_eDn, OX_eD0, OX_iI, OX_iB, OX_neg, OX_dEq, OX_dNe, OX_dIs, OX_dIsNot, OX_dIn, OX_dNotIn, OX_inL, OX_inT, OX_catT, OX_catL, OX_ixT, OX_ixL, OX_ixS, OX_slT, OX_slL, OX_lenL, OX_lenT, OX_lenS, OX_max2, OX_min2, OX_intI, OX_intB, OX_tupL, OX_tupT, OX_listL, OX_listT, OX_all, OX_any, OX_strT, OX_truB, OX_truI, OX_truL, OX_truT, OX_truN, OX_rtR_s, OX_rtM_s, frz_v, frz_n, frz_s, toD_lst, toD_dic, toD_dk, dr_v, dr_n, dr_s, ownD_own, vals_nil, vals_v, drs_nil, drs_c, svR_v, svR_own, svR_al, boolR_b, argM_s, ownM_own, slotR_s, ownL_own, valR_v, newR_n, two_2, intD_i, int1_i, int2_i, listD_l, tupD_t, eqD_ii, eqD_ss, eqD_bb, rtR_v, rtR_n, rtM_v, rtM_n, atI_0, atI_1, atI_2, atI_3, atI_4, ixN_0, ixN_1, ixN_2, setAllE, sizeLine_eq, Option.bind_some, Option.map_some, List.getElem?_cons_zero, List.getElem?_cons_succ, List.getElem?_nil, List.set_cons_zero, List.set_cons_succ, List.map_cons, List.map_nil, List.cons_append, List.nil_append, List.append_nil, List.length_cons, List.length_nil, List.replicate_succ, List.replicate_zero, Bool.not_true, Bool.not_false, Bool.false_eq_true, decide_true, decide_false, Nat.reduceAdd, Nat.reduceSub, Nat.reduceEqDiff, Nat.reduceLT, Nat.reduceLeDiff, ↓reduceIte, Int.reduceLT, Int.reduceLE, Int.reduceAdd, Int.reduceSub, Int.reduceMul, Int.reduceNeg, Int.reduceToNat, Int.reduceMod, Int.reduceEq, Int.reducePow, Nat.reducePow, decide_eq_true_eq, decide_eq_false_iff_not, eq_self, ne_eq, not_true_eq_false, not_false_eq_true, and_true, true_and, and_false, false_and, and_self, or_true, true_or, or_false, false_or, isT_tt, isT_ss, ca, cb, hb, Bool.true_and, Bool.false_and]
    try
      cases hy : isN y <;> simp only [OX_some, OX_map, OX_fzf, OX_eV, OX_eK, OX_e1, OX_e2, OX_e3, OX_tb, OX_tru, OX_ite, OX_tand, OX_tor, OX_tnot, OX_eand, OX_eor, OX_enot, OX_eif, OX_a0, OX_aC, OX_etup, OX_elst, OX_eC, OX_eF, OX_eM, OX_sNil, OX_sBk, OX_sCt, OX_sRetN, OX_sq, OX_sIf, OX_sRet, OX_sX, OX_sV, OX_sO, OX_sP, OX_sU, OX_tgn, OX_tgt, OX_sSt, OX_eMM, OX_append, OX_eIs, OX_sFor, OX_sWh, OX_eLc, OX_iR1, OX_iR2, OX_iL, OX_iT, OX_oN, OX_oS, OX_eSl, OX_pE0, OX_pE, OX_eDk, OX_eGet2, OX_eDn, OX_eD0, OX_iI, OX_iB, OX_neg, OX_dEq, OX_dNe, OX_dIs, OX_dIsNot, OX_dIn, OX_dNotIn, OX_inL, OX_inT, OX_catT, OX_catL, OX_ixT, OX_ixL, OX_ixS, OX_slT, OX_slL, OX_lenL, OX_lenT, OX_lenS, OX_max2, OX_min2, OX_intI, OX_intB, OX_tupL, OX_tupT, OX_listL, OX_listT, OX_all, OX_any, OX_strT, OX_truB, OX_truI, OX_truL, OX_truT, OX_truN, OX_rtR_s, OX_rtM_s, frz_v, frz_n, frz_s, toD_lst, toD_dic, toD_dk, dr_v, dr_n, dr_s, ownD_own, vals_nil, vals_v, drs_nil, drs_c, svR_v, svR_own, svR_al, boolR_b, argM_s, ownM_own, slotR_s, ownL_own, valR_v, newR_n, two_2, intD_i, int1_i, int2_i, listD_l, tupD_t, eqD_ii, eqD_ss, eqD_bb, rtR_v, rtR_n, rtM_v, rtM_n, atI_0, atI_1, atI_2, atI_3, atI_4, ixN_0, ixN_1, ixN_2, setAllE, sizeLine_eq, Option.bind_some, Option.map_some, List.getElem?_cons_zero, List.getElem?_cons_succ, List.getElem?_nil, List.set_cons_zero, List.set_cons_succ, List.map_cons, List.map_nil, List.cons_append, List.nil_append, List.append_nil, List.length_cons, List.length_nil, List.replicate_succ, List.replicate_zero, Bool.not_true, Bool.not_false, Bool.false_eq_true, decide_true, decide_false, Nat.reduceAdd, Nat.reduceSub, Nat.reduceEqDiff, Nat.reduceLT, Nat.reduceLeDiff, ↓reduceIte, Int.reduceLT, Int.reduceLE, Int.reduceAdd, Int.reduceSub, Int.reduceMul, Int.reduceNeg, Int.reduceToNat, Int.reduceMod, Int.reduceEq, Int.reducePow, Nat.reducePow, decide_eq_true_eq, decide_eq_false_iff_not, eq_self, ne_eq, not_true_eq_false, not_false_eq_true, and_true, true_and, and_false, false_and, and_self, or_true, true_or, or_false, false_or, isT_tt, isT_ss, ca, cb, hy, Bool.true_or, Bool.false_or]
      refine whole_ok.imp fun r e => ?_
      subst e
      first | rfl | simp only [OX_some, OX_map, OX_fzf, OX_eV, OX_eK, OX_e1, OX_e2, OX_e3, OX_tb, OX_tru, OX_ite, OX_tand, OX_tor, OX_tnot, OX_eand, OX_eor, OX_enot, OX_eif, OX_a0, OX_aC, OX_etup, OX_elst, OX_eC, OX_eF, OX_eM, OX_sNil, OX_sBk, OX_sCt, OX_sRetN, OX_sq, OX_sIf, OX_sRet, OX_sX, OX_sV, OX_sO, OX_sP, OX_sU, OX_tgn, OX_tgt, OX_sSt, OX_eMM, OX_append, OX_eIs, OX_sFor, OX_sWh, OX_eLc, OX_iR1, OX_iR2, OX_iL, OX_iT, OX_oN, OX_oS, OX_eSl, OX_pE0, OX_pE, OX_eDk, OX_eGet2, OX_eDn, OX_eD0, OX_iI, OX_iB, OX_neg, OX_dEq, OX_dNe, OX_dIs, OX_dIsNot, OX_dIn, OX_dNotIn, OX_inL, OX_inT, OX_catT, OX_catL, OX_ixT, OX_ixL, OX_ixS, OX_slT, OX_slL, OX_lenL, OX_lenT, OX_lenS, OX_max2, OX_min2, OX_intI, OX_intB, OX_tupL, OX_tupT, OX_listL, OX_listT, OX_all, OX_any, OX_strT, OX_truB, OX_truI, OX_truL, OX_truT, OX_truN, OX_rtR_s, OX_rtM_s, frz_v, frz_n, frz_s, toD_lst, toD_dic, toD_dk, dr_v, dr_n, dr_s, ownD_own, vals_nil, vals_v, drs_nil, drs_c, svR_v, svR_own, svR_al, boolR_b, argM_s, ownM_own, slotR_s, ownL_own, valR_v, newR_n, two_2, intD_i, int1_i, int2_i, listD_l, tupD_t, eqD_ii, eqD_ss, eqD_bb, rtR_v, rtR_n, rtM_v, rtM_n, atI_0, atI_1, atI_2, atI_3, atI_4, ixN_0, ixN_1, ixN_2, setAllE, sizeLine_eq, Option.bind_some, Option.map_some, List.getElem?_cons_zero, List.getElem?_cons_succ, List.getElem?_nil, List.set_cons_zero, List.set_cons_succ, List.map_cons, List.map_nil, List.cons_append, List.nil_append, List.append_nil, List.length_cons, List.length_nil, List.replicate_succ, List.replicate_zero, Bool.not_true, Bool.not_false, Bool.false_eq_true, decide_true, decide_false, Nat.reduceAdd, Nat.reduceSub, Nat.reduceEqDiff, Nat.reduceLT, Nat.reduceLeDiff, ↓reduceIte, Int.reduceLT, Int.reduceLE, Int.reduceAdd, Int.reduceSub, Int.reduceMul, Int.reduceNeg, Int.reduceToNat, Int.reduceMod, Int.reduceEq, Int.reducePow, Nat.reducePow, decide_eq_true_eq, decide_eq_false_iff_not, eq_self, ne_eq, not_true_eq_false, not_false_eq_true, and_true, true_and, and_false, false_and, and_self, or_true, true_or, or_false, false_or, Bool.true_and, Bool.false_or]
theorem d_22 {n : Int} {w : Str} {x y : D} (W : WF w false false true 2) : OX (D_is_deed [.int n, .tuple [.str w, x, y]]) (fun r => r = .v (.bool (false))) ∧ OX (D_L_is_deed [.int n, .tuple [.str w, x, y]]) fun r => r = .v (.bool (false)) := by
  refine ⟨OX.defF rfl ?_, OX.defF rfl ?_⟩
  · simp only [F_is_deed, OX_some, OX_map, OX_fzf, OX_eV, OX_eK, OX_e1, OX_e2, OX_e3, OX_tb, OX_tru, OX_ite, OX_tand, OX_tor, OX_tnot, OX_eand, OX_eor, OX_enot, OX_eif, OX_a0, OX_aC, OX_etup, OX_elst, OX_eC, OX_eF, OX_eM, OX_sNil, OX_sBk, OX_sCt, OX_sRetN, OX_sq, OX_sIf, OX_sRet, OX_sX, OX_sV, OX_sO, OX_sP, OX_sU, OX_tgn, OX_tgt, OX_sSt, OX_eMM, OX_append, OX_eIs, OX_sFor, OX_sWh, OX_eLc, OX_iR1, OX_iR2, OX_iL, OX_iT, OX_oN, OX_oS, OX_eSl, OX_pE0, OX_pE, OX_eDk, OX_eGet2, OX_eDn, OX_eD0, OX_iI, OX_iB, OX_neg, OX_dEq, OX_dNe, OX_dIs, OX_dIsNot, OX_dIn, OX_dNotIn, OX_inL, OX_inT, OX_catT, OX_catL, OX_ixT, OX_ixL, OX_ixS, OX_slT, OX_slL, OX_lenL, OX_lenT, OX_lenS, OX_max2, OX_min2, OX_intI, OX_intB, OX_tupL, OX_tupT, OX_listL, OX_listT, OX_all, OX_any, OX_strT, OX_truB, OX_truI, OX_truL, OX_truT, OX_truN, OX_rtR_s, OX_rtM_s, frz_v, frz_n, frz_s, toD_lst, toD_dic, toD_dk, dr_v, dr_n, dr_s, ownD_own, vals_nil, vals_v, drs_nil, drs_c, svR_v, svR_own, svR_al, boolR_b, argM_s, ownM_own, slotR_s, ownL_own, valR_v, newR_n, two_2, intD_i, int1_i, int2_i, listD_l, tupD_t, eqD_ii, eqD_ss, eqD_bb, rtR_v, rtR_n, rtM_v, rtM_n, atI_0, atI_1, atI_2, atI_3, atI_4, ixN_0, ixN_1, ixN_2, setAllE, sizeLine_eq, Option.bind_some, Option.map_some, List.getElem?_cons_zero, List.getElem?_cons_succ, List.getElem?_nil, List.set_cons_zero, List.set_cons_succ, List.map_cons, List.map_nil, List.cons_append, List.nil_append, List.append_nil, List.length_cons, List.length_nil, List.replicate_succ, List.replicate_zero, Bool.not_true, Bool.not_false, Bool.false_eq_true, decide_true, decide_false, Nat.reduceAdd, Nat.reduceSub, Nat.reduceEqDiff, Nat.reduceLT, Nat.reduceLeDiff, ↓reduceIte, Int.reduceLT, Int.reduceLE, Int.reduceAdd, Int.reduceSub, Int.reduceMul, Int.reduceNeg, Int.reduceToNat, Int.reduceMod, Int.reduceEq, Int.reducePow, Nat.reducePow, decide_eq_true_eq, decide_eq_false_iff_not, eq_self, ne_eq, not_true_eq_false, not_false_eq_true, and_true, true_and, and_false, false_and, and_self, or_true, true_or, or_false, false_or, isT_tt, isT_ss, W.t, W.a, W.m, ca, cb]
    try
      refine between_ok.imp fun r e => ?_
      subst e
      cases hb : inB x 0 (n - 1) <;> simp only [OX_some, OX_map, OX_fzf, OX_eV, OX_eK, OX_e1, OX_e2, OX_e3, OX_tb, OX_tru, OX_ite, OX_tand, OX_tor, OX_tnot, OX_eand, OX_eor, OX_enot, OX_eif, OX_a0, OX_aC, OX_etup, OX_elst, OX_eC, OX_eF, OX_eM, OX_sNil, OX_sBk, OX_sCt, OX_sRetN, OX_sq, OX_sIf, OX_sRet, OX_sX, OX_sV, OX_sO, OX_sP, OX_sU, OX_tgn, OX_tgt, OX_sSt, OX_eMM, OX_append, OX_eIs, OX_sFor, OX_sWh, OX_eLc, OX_iR1, OX_iR2, OX_iL, OX_iT, OX_oN, OX_oS, OX_eSl, OX_pE0, OX_pE, OX_eDk, OX_eGet2, OX_eDn, OX_eD0, OX_iI, OX_iB, OX_neg, OX_dEq, OX_dNe, OX_dIs, OX_dIsNot, OX_dIn, OX_dNotIn, OX_inL, OX_inT, OX_catT, OX_catL, OX_ixT, OX_ixL, OX_ixS, OX_slT, OX_slL, OX_lenL, OX_lenT, OX_lenS, OX_max2, OX_min2, OX_intI, OX_intB, OX_tupL, OX_tupT, OX_listL, OX_listT, OX_all, OX_any, OX_strT, OX_truB, OX_truI, OX_truL, OX_truT, OX_truN, OX_rtR_s, OX_rtM_s, frz_v, frz_n, frz_s, toD_lst, toD_dic, toD_dk, dr_v, dr_n, dr_s, ownD_own, vals_nil, vals_v, drs_nil, drs_c, svR_v, svR_own, svR_al, boolR_b, argM_s, ownM_own, slotR_s, ownL_own, valR_v, newR_n, two_2, intD_i, int1_i, int2_i, listD_l, tupD_t, eqD_ii, eqD_ss, eqD_bb, rtR_v, rtR_n, rtM_v, rtM_n, atI_0, atI_1, atI_2, atI_3, atI_4, ixN_0, ixN_1, ixN_2, setAllE, sizeLine_eq, Option.bind_some, Option.map_some, List.getElem?_cons_zero, List.getElem?_cons_succ, List.getElem?_nil, List.set_cons_zero, List.set_cons_succ, List.map_cons, List.map_nil, List.cons_append, List.nil_append, List.append_nil, List.length_cons, List.length_nil, List.replicate_succ, List.replicate_zero, Bool.not_true, Bool.not_false, Bool.false_eq_true, decide_true, decide_false, Nat.reduceAdd, Nat.reduceSub, Nat.reduceEqDiff, Nat.reduceLT, Nat.reduceLeDiff, ↓reduceIte, Int.reduceLT, Int.reduceLE, Int.reduceAdd, Int.reduceSub, Int.reduceMul, Int.reduceNeg, Int.reduceToNat, Int.reduceMod, Int.reduceEq, Int.reducePow, Nat.reducePow, decide_eq_true_eq, decide_eq_false_iff_not, eq_self, ne_eq, not_true_eq_false, not_false_eq_true, and_true, true_and, and_false, false_and, and_self, or_true, true_or, or_false, false_or, isT_tt, isT_ss, W.t, W.a, W.m, ca, cb, hb, Bool.true_and, Bool.false_and]
    try
      cases hy : isN y <;> simp only [OX_some, OX_map, OX_fzf, OX_eV, OX_eK, OX_e1, OX_e2, OX_e3, OX_tb, OX_tru, OX_ite, OX_tand, OX_tor, OX_tnot, OX_eand, OX_eor, OX_enot, OX_eif, OX_a0, OX_aC, OX_etup, OX_elst, OX_eC, OX_eF, OX_eM, OX_sNil, OX_sBk, OX_sCt, OX_sRetN, OX_sq, OX_sIf, OX_sRet, OX_sX, OX_sV, OX_sO, OX_sP, OX_sU, OX_tgn, OX_tgt, OX_sSt, OX_eMM, OX_append, OX_eIs, OX_sFor, OX_sWh, OX_eLc, OX_iR1, OX_iR2, OX_iL, OX_iT, OX_oN, OX_oS, OX_eSl, OX_pE0, OX_pE, OX_eDk, OX_eGet2, OX_eDn, OX_eD0, OX_iI, OX_iB, OX_neg, OX_dEq, OX_dNe, OX_dIs, OX_dIsNot, OX_dIn, OX_dNotIn, OX_inL, OX_inT, OX_catT, OX_catL, OX_ixT, OX_ixL, OX_ixS, OX_slT, OX_slL, OX_lenL, OX_lenT, OX_lenS, OX_max2, OX_min2, OX_intI, OX_intB, OX_tupL, OX_tupT, OX_listL, OX_listT, OX_all, OX_any, OX_strT, OX_truB, OX_truI, OX_truL, OX_truT, OX_truN, OX_rtR_s, OX_rtM_s, frz_v, frz_n, frz_s, toD_lst, toD_dic, toD_dk, dr_v, dr_n, dr_s, ownD_own, vals_nil, vals_v, drs_nil, drs_c, svR_v, svR_own, svR_al, boolR_b, argM_s, ownM_own, slotR_s, ownL_own, valR_v, newR_n, two_2, intD_i, int1_i, int2_i, listD_l, tupD_t, eqD_ii, eqD_ss, eqD_bb, rtR_v, rtR_n, rtM_v, rtM_n, atI_0, atI_1, atI_2, atI_3, atI_4, ixN_0, ixN_1, ixN_2, setAllE, sizeLine_eq, Option.bind_some, Option.map_some, List.getElem?_cons_zero, List.getElem?_cons_succ, List.getElem?_nil, List.set_cons_zero, List.set_cons_succ, List.map_cons, List.map_nil, List.cons_append, List.nil_append, List.append_nil, List.length_cons, List.length_nil, List.replicate_succ, List.replicate_zero, Bool.not_true, Bool.not_false, Bool.false_eq_true, decide_true, decide_false, Nat.reduceAdd, Nat.reduceSub, Nat.reduceEqDiff, Nat.reduceLT, Nat.reduceLeDiff, ↓reduceIte, Int.reduceLT, Int.reduceLE, Int.reduceAdd, Int.reduceSub, Int.reduceMul, Int.reduceNeg, Int.reduceToNat, Int.reduceMod, Int.reduceEq, Int.reducePow, Nat.reducePow, decide_eq_true_eq, decide_eq_false_iff_not, eq_self, ne_eq, not_true_eq_false, not_false_eq_true, and_true, true_and, and_false, false_and, and_self, or_true, true_or, or_false, false_or, isT_tt, isT_ss, W.t, W.a, W.m, ca, cb, hy, Bool.true_or, Bool.false_or]
      refine between_ok.imp fun r e => ?_
      subst e
      first | rfl | simp only [OX_some, OX_map, OX_fzf, OX_eV, OX_eK, OX_e1, OX_e2, OX_e3, OX_tb, OX_tru, OX_ite, OX_tand, OX_tor, OX_tnot, OX_eand, OX_eor, OX_enot, OX_eif, OX_a0, OX_aC, OX_etup, OX_elst, OX_eC, OX_eF, OX_eM, OX_sNil, OX_sBk, OX_sCt, OX_sRetN, OX_sq, OX_sIf, OX_sRet, OX_sX, OX_sV, OX_sO, OX_sP, OX_sU, OX_tgn, OX_tgt, OX_sSt, OX_eMM, OX_append, OX_eIs, OX_sFor, OX_sWh, OX_eLc, OX_iR1, OX_iR2, OX_iL, OX_iT, OX_oN, OX_oS, OX_eSl, OX_pE0, OX_pE, OX_eDk, OX_eGet2, OX_eDn, OX_eD0, OX_iI, OX_iB, OX_neg, OX_dEq, OX_dNe, OX_dIs, OX_dIsNot, OX_dIn, OX_dNotIn, OX_inL, OX_inT, OX_catT, OX_catL, OX_ixT, OX_ixL, OX_ixS, OX_slT, OX_slL, OX_lenL, OX_lenT, OX_lenS, OX_max2, OX_min2, OX_intI, OX_intB, OX_tupL, OX_tupT, OX_listL, OX_listT, OX_all, OX_any, OX_strT, OX_truB, OX_truI, OX_truL, OX_truT, OX_truN, OX_rtR_s, OX_rtM_s, frz_v, frz_n, frz_s, toD_lst, toD_dic, toD_dk, dr_v, dr_n, dr_s, ownD_own, vals_nil, vals_v, drs_nil, drs_c, svR_v, svR_own, svR_al, boolR_b, argM_s, ownM_own, slotR_s, ownL_own, valR_v, newR_n, two_2, intD_i, int1_i, int2_i, listD_l, tupD_t, eqD_ii, eqD_ss, eqD_bb, rtR_v, rtR_n, rtM_v, rtM_n, atI_0, atI_1, atI_2, atI_3, atI_4, ixN_0, ixN_1, ixN_2, setAllE, sizeLine_eq, Option.bind_some, Option.map_some, List.getElem?_cons_zero, List.getElem?_cons_succ, List.getElem?_nil, List.set_cons_zero, List.set_cons_succ, List.map_cons, List.map_nil, List.cons_append, List.nil_append, List.append_nil, List.length_cons, List.length_nil, List.replicate_succ, List.replicate_zero, Bool.not_true, Bool.not_false, Bool.false_eq_true, decide_true, decide_false, Nat.reduceAdd, Nat.reduceSub, Nat.reduceEqDiff, Nat.reduceLT, Nat.reduceLeDiff, ↓reduceIte, Int.reduceLT, Int.reduceLE, Int.reduceAdd, Int.reduceSub, Int.reduceMul, Int.reduceNeg, Int.reduceToNat, Int.reduceMod, Int.reduceEq, Int.reducePow, Nat.reducePow, decide_eq_true_eq, decide_eq_false_iff_not, eq_self, ne_eq, not_true_eq_false, not_false_eq_true, and_true, true_and, and_false, false_and, and_self, or_true, true_or, or_false, false_or, Bool.true_and, Bool.false_or]
  · simp only [F_L_is_deed, OX_some, OX_map, OX_fzf, OX_eV, OX_eK, OX_e1, OX_e2, OX_e3, OX_tb, OX_tru, OX_ite, OX_tand, OX_tor, OX_tnot, OX_eand, OX_eor, OX_enot, OX_eif, OX_a0, OX_aC, OX_etup, OX_elst, OX_eC, OX_eF, OX_eM, OX_sNil, OX_sBk, OX_sCt, OX_sRetN, OX_sq, OX_sIf, OX_sRet, OX_sX, OX_sV, OX_sO, OX_sP, OX_sU, OX_tgn, OX_tgt, OX_sSt, OX_eMM, OX_append, OX_eIs, OX_sFor, OX_sWh, OX_eLc, OX_iR1, OX_iR2, OX_iL, OX_iT, OX_oN, OX_oS, OX_eSl, OX_pE0, OX_pE, OX_eDk, OX_eGet2, OX_eDn, OX_eD0, OX_iI, OX_iB, OX_neg, OX_dEq, OX_dNe, OX_dIs, OX_dIsNot, OX_dIn, OX_dNotIn, OX_inL, OX_inT, OX_catT, OX_catL, OX_ixT, OX_ixL, OX_ixS, OX_slT, OX_slL, OX_lenL, OX_lenT, OX_lenS, OX_max2, OX_min2, OX_intI, OX_intB, OX_tupL, OX_tupT, OX_listL, OX_listT, OX_all, OX_any, OX_strT, OX_truB, OX_truI, OX_truL, OX_truT, OX_truN, OX_rtR_s, OX_rtM_s, frz_v, frz_n, frz_s, toD_lst, toD_dic, toD_dk, dr_v, dr_n, dr_s, ownD_own, vals_nil, vals_v, drs_nil, drs_c, svR_v, svR_own, svR_al, boolR_b, argM_s, ownM_own, slotR_s, ownL_own, valR_v, newR_n, two_2, intD_i, int1_i, int2_i, listD_l, tupD_t, eqD_ii, eqD_ss, eqD_bb, rtR_v, rtR_n, rtM_v, rtM_n, atI_0, atI_1, atI_2, atI_3, atI_4, ixN_0, ixN_1, ixN_2, setAllE, sizeLine_eq, Option.bind_some, Option.map_some, List.getElem?_cons_zero, List.getElem?_cons_succ, List.getElem?_nil, List.set_cons_zero, List.set_cons_succ, List.map_cons, List.map_nil, List.cons_append, List.nil_append, List.append_nil, List.length_cons, List.length_nil, List.replicate_succ, List.replicate_zero, Bool.not_true, Bool.not_false, Bool.false_eq_true, decide_true, decide_false, Nat.reduceAdd, Nat.reduceSub, Nat.reduceEqDiff, Nat.reduceLT, Nat.reduceLeDiff, ↓reduceIte, Int.reduceLT, Int.reduceLE, Int.reduceAdd, Int.reduceSub, Int.reduceMul, Int.reduceNeg, Int.reduceToNat, Int.reduceMod, Int.reduceEq, Int.reducePow, Nat.reducePow, decide_eq_true_eq, decide_eq_false_iff_not, eq_self, ne_eq, not_true_eq_false, not_false_eq_true, and_true, true_and, and_false, false_and, and_self, or_true, true_or, or_false, false_or, isT_tt, isT_ss, edk7, sizes_td, get2_ok, W.z, ca, cb]
    try
      refine whole_ok.imp fun r e => ?_
      subst e
      cases hb : inB x 0 (n - 1) <;> simp only [OX_some, OX_map, OX_fzf, OX_eV, OX_eK, OX_e1, OX_e2, OX_e3, OX_tb, OX_tru, OX_ite, OX_tand, OX_tor, OX_tnot, OX_eand, OX_eor, OX_enot, OX_eif, OX_a0, OX_aC, OX_etup, OX_elst, OX_eC, OX_eF, OX_eM, OX_sNil, OX_sBk, OX_sCt, OX_sRetN, OX_sq, OX_sIf, OX_sRet, OX_sX, OX_sV, OX_sO, OX_sP, OX_sU, OX_tgn, OX_tgt, OX_sSt, OX_eMM, OX_append, OX_eIs, OX_sFor, OX_sWh, OX_eLc, OX_iR1, OX_iR2, OX_iL, OX_iT, OX_oN, OX_oS, OX_eSl, OX_pE0, OX_pE, OX_eDk, OX_eGet2, OX_eDn, OX_eD0, OX_iI, OX_iB, OX_neg, OX_dEq, OX_dNe, OX_dIs, OX_dIsNot, OX_dIn, OX_dNotIn, OX_inL, OX_inT, OX_catT, OX_catL, OX_ixT, OX_ixL, OX_ixS, OX_slT, OX_slL, OX_lenL, OX_lenT, OX_lenS, OX_max2, OX_min2, OX_intI, OX_intB, OX_tupL, OX_tupT, OX_listL, OX_listT, OX_all, OX_any, OX_strT, OX_truB, OX_truI, OX_truL, OX_truT, OX_truN, OX_rtR_s, OX_rtM_s, frz_v, frz_n, frz_s, toD_lst, toD_dic, toD_dk, dr_v, dr_n, dr_s, ownD_own, vals_nil, vals_v, drs_nil, drs_c, svR_v, svR_own, svR_al, boolR_b, argM_s, ownM_own, slotR_s, ownL_own, valR_v, newR_n, two_2, intD_i, int1_i, int2_i, listD_l, tupD_t, eqD_ii, eqD_ss, eqD_bb, rtR_v, rtR_n, rtM_v, rtM_n, atI_0, atI_1, atI_2, atI_3, atI_4, ixN_0, ixN_1, ixN_2, setAllE, sizeLine_eq, Option.bind_some, Option.map_some, List.getElem?_cons_zero, List.getElem?_cons_succ, List.getElem?_nil, List.set_cons_zero, List.set_cons_succ, List.map_cons, List.map_nil, List.cons_append, List.nil_append, List.append_nil, List.length_cons, List.length_nil, List.replicate_succ, List.replicate_zero, Bool.not_true, Bool.not_false, Bool.false_eq_true, decide_true, decide_false, Nat.reduceAdd, Nat.reduceSub, Nat.reduceEqDiff, Nat.reduceLT, Nat.reduceLeDiff, ↓reduceIte, Int.reduceLT, Int.reduceLE, Int.reduceAdd, Int.reduceSub, Int.reduceMul, Int.reduceNeg, Int.reduceToNat, Int.reduceMod, Int.reduceEq, Int.reducePow, Nat.reducePow, decide_eq_true_eq, decide_eq_false_iff_not, eq_self, ne_eq, not_true_eq_false, not_false_eq_true, and_true, true_and, and_false, false_and, and_self, or_true, true_or, or_false, false_or, isT_tt, isT_ss, ca, cb, hb, Bool.true_and, Bool.false_and]
    try
      cases hy : isN y <;> simp only [OX_some, OX_map, OX_fzf, OX_eV, OX_eK, OX_e1, OX_e2, OX_e3, OX_tb, OX_tru, OX_ite, OX_tand, OX_tor, OX_tnot, OX_eand, OX_eor, OX_enot, OX_eif, OX_a0, OX_aC, OX_etup, OX_elst, OX_eC, OX_eF, OX_eM, OX_sNil, OX_sBk, OX_sCt, OX_sRetN, OX_sq, OX_sIf, OX_sRet, OX_sX, OX_sV, OX_sO, OX_sP, OX_sU, OX_tgn, OX_tgt, OX_sSt, OX_eMM, OX_append, OX_eIs, OX_sFor, OX_sWh, OX_eLc, OX_iR1, OX_iR2, OX_iL, OX_iT, OX_oN, OX_oS, OX_eSl, OX_pE0, OX_pE, OX_eDk, OX_eGet2, OX_eDn, OX_eD0, OX_iI, OX_iB, OX_neg, OX_dEq, OX_dNe, OX_dIs, OX_dIsNot, OX_dIn, OX_dNotIn, OX_inL, OX_inT, OX_catT, OX_catL, OX_ixT, OX_ixL, OX_ixS, OX_slT, OX_slL, OX_lenL, OX_lenT, OX_lenS, OX_max2, OX_min2, OX_intI, OX_intB, OX_tupL, OX_tupT, OX_listL, OX_listT, OX_all, OX_any, OX_strT, OX_truB, OX_truI, OX_truL, OX_truT, OX_truN, OX_rtR_s, OX_rtM_s, frz_v, frz_n, frz_s, toD_lst, toD_dic, toD_dk, dr_v, dr_n, dr_s, ownD_own, vals_nil, vals_v, drs_nil, drs_c, svR_v, svR_own, svR_al, boolR_b, argM_s, ownM_own, slotR_s, ownL_own, valR_v, newR_n, two_2, intD_i, int1_i, int2_i, listD_l, tupD_t, eqD_ii, eqD_ss, eqD_bb, rtR_v, rtR_n, rtM_v, rtM_n, atI_0, atI_1, atI_2, atI_3, atI_4, ixN_0, ixN_1, ixN_2, setAllE, sizeLine_eq, Option.bind_some, Option.map_some, List.getElem?_cons_zero, List.getElem?_cons_succ, List.getElem?_nil, List.set_cons_zero, List.set_cons_succ, List.map_cons, List.map_nil, List.cons_append, List.nil_append, List.append_nil, List.length_cons, List.length_nil, List.replicate_succ, List.replicate_zero, Bool.not_true, Bool.not_false, Bool.false_eq_true, decide_true, decide_false, Nat.reduceAdd, Nat.reduceSub, Nat.reduceEqDiff, Nat.reduceLT, Nat.reduceLeDiff, ↓reduceIte, Int.reduceLT, Int.reduceLE, Int.reduceAdd, Int.reduceSub, Int.reduceMul, Int.reduceNeg, Int.reduceToNat, Int.reduceMod, Int.reduceEq, Int.reducePow, Nat.reducePow, decide_eq_true_eq, decide_eq_false_iff_not, eq_self, ne_eq, not_true_eq_false, not_false_eq_true, and_true, true_and, and_false, false_and, and_self, or_true, true_or, or_false, false_or, isT_tt, isT_ss, ca, cb, hy, Bool.true_or, Bool.false_or]
      refine whole_ok.imp fun r e => ?_
      subst e
      first | rfl | simp only [OX_some, OX_map, OX_fzf, OX_eV, OX_eK, OX_e1, OX_e2, OX_e3, OX_tb, OX_tru, OX_ite, OX_tand, OX_tor, OX_tnot, OX_eand, OX_eor, OX_enot, OX_eif, OX_a0, OX_aC, OX_etup, OX_elst, OX_eC, OX_eF, OX_eM, OX_sNil, OX_sBk, OX_sCt, OX_sRetN, OX_sq, OX_sIf, OX_sRet, OX_sX, OX_sV, OX_sO, OX_sP, OX_sU, OX_tgn, OX_tgt, OX_sSt, OX_eMM, OX_append, OX_eIs, OX_sFor, OX_sWh, OX_eLc, OX_iR1, OX_iR2, OX_iL, OX_iT, OX_oN, OX_oS, OX_eSl, OX_pE0, OX_pE, OX_eDk, OX_eGet2, OX_eDn, OX_eD0, OX_iI, OX_iB, OX_neg, OX_dEq, OX_dNe, OX_dIs, OX_dIsNot, OX_dIn, OX_dNotIn, OX_inL, OX_inT, OX_catT, OX_catL, OX_ixT, OX_ixL, OX_ixS, OX_slT, OX_slL, OX_lenL, OX_lenT, OX_lenS, OX_max2, OX_min2, OX_intI, OX_intB, OX_tupL, OX_tupT, OX_listL, OX_listT, OX_all, OX_any, OX_strT, OX_truB, OX_truI, OX_truL, OX_truT, OX_truN, OX_rtR_s, OX_rtM_s, frz_v, frz_n, frz_s, toD_lst, toD_dic, toD_dk, dr_v, dr_n, dr_s, ownD_own, vals_nil, vals_v, drs_nil, drs_c, svR_v, svR_own, svR_al, boolR_b, argM_s, ownM_own, slotR_s, ownL_own, valR_v, newR_n, two_2, intD_i, int1_i, int2_i, listD_l, tupD_t, eqD_ii, eqD_ss, eqD_bb, rtR_v, rtR_n, rtM_v, rtM_n, atI_0, atI_1, atI_2, atI_3, atI_4, ixN_0, ixN_1, ixN_2, setAllE, sizeLine_eq, Option.bind_some, Option.map_some, List.getElem?_cons_zero, List.getElem?_cons_succ, List.getElem?_nil, List.set_cons_zero, List.set_cons_succ, List.map_cons, List.map_nil, List.cons_append, List.nil_append, List.append_nil, List.length_cons, List.length_nil, List.replicate_succ, List.replicate_zero, Bool.not_true, Bool.not_false, Bool.false_eq_true, decide_true, decide_false, Nat.reduceAdd, Nat.reduceSub, Nat.reduceEqDiff, Nat.reduceLT, Nat.reduceLeDiff, ↓reduceIte, Int.reduceLT, Int.reduceLE, Int.reduceAdd, Int.reduceSub, Int.reduceMul, Int.reduceNeg, Int.reduceToNat, Int.reduceMod, Int.reduceEq, Int.reducePow, Nat.reducePow, decide_eq_true_eq, decide_eq_false_iff_not, eq_self, ne_eq, not_true_eq_false, not_false_eq_true, and_true, true_and, and_false, false_and, and_self, or_true, true_or, or_false, false_or, Bool.true_and, Bool.false_or]
theorem d_23 {n : Int} {w : Str} {x y z : D} {r : List D} (W : WF w false false true 2) : OX (D_is_deed [.int n, .tuple (.str w :: x :: y :: z :: r)]) (fun r => r = .v (.bool (false))) ∧ OX (D_L_is_deed [.int n, .tuple (.str w :: x :: y :: z :: r)]) fun r => r = .v (.bool (false)) := by
  refine ⟨OX.defF rfl ?_, OX.defF rfl ?_⟩
  · simp only [F_is_deed, OX_some, OX_map, OX_fzf, OX_eV, OX_eK, OX_e1, OX_e2, OX_e3, OX_tb, OX_tru, OX_ite, OX_tand, OX_tor, OX_tnot, OX_eand, OX_eor, OX_enot, OX_eif, OX_a0, OX_aC, OX_etup, OX_elst, OX_eC, OX_eF, OX_eM, OX_sNil, OX_sBk, OX_sCt, OX_sRetN, OX_sq, OX_sIf, OX_sRet, OX_sX, OX_sV, OX_sO, OX_sP, OX_sU, OX_tgn, OX_tgt, OX_sSt, OX_eMM, OX_append, OX_eIs, OX_sFor, OX_sWh, OX_eLc, OX_iR1, OX_iR2, OX_iL, OX_iT, OX_oN, OX_oS, OX_eSl, OX_pE0, OX_pE, OX_eDk, OX_eGet2, OX_eDn, OX_eD0, OX_iI, OX_iB, OX_neg, OX_dEq, OX_dNe, OX_dIs, OX_dIsNot, OX_dIn, OX_dNotIn, OX_inL, OX_inT, OX_catT, OX_catL, OX_ixT, OX_ixL, OX_ixS, OX_slT, OX_slL, OX_lenL, OX_lenT, OX_lenS, OX_max2, OX_min2, OX_intI, OX_intB, OX_tupL, OX_tupT, OX_listL, OX_listT, OX_all, OX_any, OX_strT, OX_truB, OX_truI, OX_truL, OX_truT, OX_truN, OX_rtR_s, OX_rtM_s, frz_v, frz_n, frz_s, toD_lst, toD_dic, toD_dk, dr_v, dr_n, dr_s, ownD_own, vals_nil, vals_v, drs_nil, drs_c, svR_v, svR_own, svR_al, boolR_b, argM_s, ownM_own, slotR_s, ownL_own, valR_v, newR_n, two_2, intD_i, int1_i, int2_i, listD_l, tupD_t, eqD_ii, eqD_ss, eqD_bb, rtR_v, rtR_n, rtM_v, rtM_n, atI_0, atI_1, atI_2, atI_3, atI_4, ixN_0, ixN_1, ixN_2, setAllE, sizeLine_eq, Option.bind_some, Option.map_some, List.getElem?_cons_zero, List.getElem?_cons_succ, List.getElem?_nil, List.set_cons_zero, List.set_cons_succ, List.map_cons, List.map_nil, List.cons_append, List.nil_append, List.append_nil, List.length_cons, List.length_nil, List.replicate_succ, List.replicate_zero, Bool.not_true, Bool.not_false, Bool.false_eq_true, decide_true, decide_false, Nat.reduceAdd, Nat.reduceSub, Nat.reduceEqDiff, Nat.reduceLT, Nat.reduceLeDiff, ↓reduceIte, Int.reduceLT, Int.reduceLE, Int.reduceAdd, Int.reduceSub, Int.reduceMul, Int.reduceNeg, Int.reduceToNat, Int.reduceMod, Int.reduceEq, Int.reducePow, Nat.reducePow, decide_eq_true_eq, decide_eq_false_iff_not, eq_self, ne_eq, not_true_eq_false, not_false_eq_true, and_true, true_and, and_false, false_and, and_self, or_true, true_or, or_false, false_or, isT_tt, isT_ss, W.t, W.a, W.m, ca, cb]
    try
      refine between_ok.imp fun r e => ?_
      subst e
      cases hb : inB x 0 (n - 1) <;> simp only [OX_some, OX_map, OX_fzf, OX_eV, OX_eK, OX_e1, OX_e2, OX_e3, OX_tb, OX_tru, OX_ite, OX_tand, OX_tor, OX_tnot, OX_eand, OX_eor, OX_enot, OX_eif, OX_a0, OX_aC, OX_etup, OX_elst, OX_eC, OX_eF, OX_eM, OX_sNil, OX_sBk, OX_sCt, OX_sRetN, OX_sq, OX_sIf, OX_sRet, OX_sX, OX_sV, OX_sO, OX_sP, OX_sU, OX_tgn, OX_tgt, OX_sSt, OX_eMM, OX_append, OX_eIs, OX_sFor, OX_sWh, OX_eLc, OX_iR1, OX_iR2, OX_iL, OX_iT, OX_oN, OX_oS, OX_eSl, OX_pE0, OX_pE, OX_eDk, OX_eGet2, OX_eDn, OX_eD0, OX_iI, OX_iB, OX_neg, OX_dEq, OX_dNe, OX_dIs, OX_dIsNot, OX_dIn, OX_dNotIn, OX_inL, OX_inT, OX_catT, OX_catL, OX_ixT, OX_ixL, OX_ixS, OX_slT, OX_slL, OX_lenL, OX_lenT, OX_lenS, OX_max2, OX_min2, OX_intI, OX_intB, OX_tupL, OX_tupT, OX_listL, OX_listT, OX_all, OX_any, OX_strT, OX_truB, OX_truI, OX_truL, OX_truT, OX_truN, OX_rtR_s, OX_rtM_s, frz_v, frz_n, frz_s, toD_lst, toD_dic, toD_dk, dr_v, dr_n, dr_s, ownD_own, vals_nil, vals_v, drs_nil, drs_c, svR_v, svR_own, svR_al, boolR_b, argM_s, ownM_own, slotR_s, ownL_own, valR_v, newR_n, two_2, intD_i, int1_i, int2_i, listD_l, tupD_t, eqD_ii, eqD_ss, eqD_bb, rtR_v, rtR_n, rtM_v, rtM_n, atI_0, atI_1, atI_2, atI_3, atI_4, ixN_0, ixN_1, ixN_2, setAllE, sizeLine_eq, Option.bind_some, Option.map_some, List.getElem?_cons_zero, List.getElem?_cons_succ, List.getElem?_nil, List.set_cons_zero, List.set_cons_succ, List.map_cons, List.map_nil, List.cons_append, List.nil_append, List.append_nil, List.length_cons, List.length_nil, List.replicate_succ, List.replicate_zero, Bool.not_true, Bool.not_false, Bool.false_eq_true, decide_true, decide_false, Nat.reduceAdd, Nat.reduceSub, Nat.reduceEqDiff, Nat.reduceLT, Nat.reduceLeDiff, ↓reduceIte, Int.reduceLT, Int.reduceLE, Int.reduceAdd, Int.reduceSub, Int.reduceMul, Int.reduceNeg, Int.reduceToNat, Int.reduceMod, Int.reduceEq, Int.reducePow, Nat.reducePow, decide_eq_true_eq, decide_eq_false_iff_not, eq_self, ne_eq, not_true_eq_false, not_false_eq_true, and_true, true_and, and_false, false_and, and_self, or_true, true_or, or_false, false_or, isT_tt, isT_ss, W.t, W.a, W.m, ca, cb, hb, Bool.true_and, Bool.false_and]
    try
      cases hy : isN y <;> simp only [OX_some, OX_map, OX_fzf, OX_eV, OX_eK, OX_e1, OX_e2, OX_e3, OX_tb, OX_tru, OX_ite, OX_tand, OX_tor, OX_tnot, OX_eand, OX_eor, OX_enot, OX_eif, OX_a0, OX_aC, OX_etup, OX_elst, OX_eC, OX_eF, OX_eM, OX_sNil, OX_sBk, OX_sCt, OX_sRetN, OX_sq, OX_sIf, OX_sRet, OX_sX, OX_sV, OX_sO, OX_sP, OX_sU, OX_tgn, OX_tgt, OX_sSt, OX_eMM, OX_append, OX_eIs, OX_sFor, OX_sWh, OX_eLc, OX_iR1, OX_iR2, OX_iL, OX_iT, OX_oN, OX_oS, OX_eSl, OX_pE0, OX_pE, OX_eDk, OX_eGet2, OX_eDn, OX_eD0, OX_iI, OX_iB, OX_neg, OX_dEq, OX_dNe, OX_dIs, OX_dIsNot, OX_dIn, OX_dNotIn, OX_inL, OX_inT, OX_catT, OX_catL, OX_ixT, OX_ixL, OX_ixS, OX_slT, OX_slL, OX_lenL, OX_lenT, OX_lenS, OX_max2, OX_min2, OX_intI, OX_intB, OX_tupL, OX_tupT, OX_listL, OX_listT, OX_all, OX_any, OX_strT, OX_truB, OX_truI, OX_truL, OX_truT, OX_truN, OX_rtR_s, OX_rtM_s, frz_v, frz_n, frz_s, toD_lst, toD_dic, toD_dk, dr_v, dr_n, dr_s, ownD_own, vals_nil, vals_v, drs_nil, drs_c, svR_v, svR_own, svR_al, boolR_b, argM_s, ownM_own, slotR_s, ownL_own, valR_v, newR_n, two_2, intD_i, int1_i, int2_i, listD_l, tupD_t, eqD_ii, eqD_ss, eqD_bb, rtR_v, rtR_n, rtM_v, rtM_n, atI_0, atI_1, atI_2, atI_3, atI_4, ixN_0, ixN_1, ixN_2, setAllE, sizeLine_eq, Option.bind_some, Option.map_some, List.getElem?_cons_zero, List.getElem?_cons_succ, List.getElem?_nil, List.set_cons_zero, List.set_cons_succ, List.map_cons, List.map_nil, List.cons_append, List.nil_append, List.append_nil, List.length_cons, List.length_nil, List.replicate_succ, List.replicate_zero, Bool.not_true, Bool.not_false, Bool.false_eq_true, decide_true, decide_false, Nat.reduceAdd, Nat.reduceSub, Nat.reduceEqDiff, Nat.reduceLT, Nat.reduceLeDiff, ↓reduceIte, Int.reduceLT, Int.reduceLE, Int.reduceAdd, Int.reduceSub, Int.reduceMul, Int.reduceNeg, Int.reduceToNat, Int.reduceMod, Int.reduceEq, Int.reducePow, Nat.reducePow, decide_eq_true_eq, decide_eq_false_iff_not, eq_self, ne_eq, not_true_eq_false, not_false_eq_true, and_true, true_and, and_false, false_and, and_self, or_true, true_or, or_false, false_or, isT_tt, isT_ss, W.t, W.a, W.m, ca, cb, hy, Bool.true_or, Bool.false_or]
      refine between_ok.imp fun r e => ?_
      subst e
      first | rfl | simp only [OX_some, OX_map, OX_fzf, OX_eV, OX_eK, OX_e1, OX_e2, OX_e3, OX_tb, OX_tru, OX_ite, OX_tand, OX_tor, OX_tnot, OX_eand, OX_eor, OX_enot, OX_eif, OX_a0, OX_aC, OX_etup, OX_elst, OX_eC, OX_eF, OX_eM, OX_sNil, OX_sBk, OX_sCt, OX_sRetN, OX_sq, OX_sIf, OX_sRet, OX_sX, OX_sV, OX_sO, OX_sP, OX_sU, OX_tgn, OX_tgt, OX_sSt, OX_eMM, OX_append, OX_eIs, OX_sFor, OX_sWh, OX_eLc, OX_iR1, OX_iR2, OX_iL, OX_iT, OX_oN, OX_oS, OX_eSl, OX_pE0, OX_pE, OX_eDk, OX_eGet2, OX_eDn, OX_eD0, OX_iI, OX_iB, OX_neg, OX_dEq, OX_dNe, OX_dIs, OX_dIsNot, OX_dIn, OX_dNotIn, OX_inL, OX_inT, OX_catT, OX_catL, OX_ixT, OX_ixL, OX_ixS, OX_slT, OX_slL, OX_lenL, OX_lenT, OX_lenS, OX_max2, OX_min2, OX_intI, OX_intB, OX_tupL, OX_tupT, OX_listL, OX_listT, OX_all, OX_any, OX_strT, OX_truB, OX_truI, OX_truL, OX_truT, OX_truN, OX_rtR_s, OX_rtM_s, frz_v, frz_n, frz_s, toD_lst, toD_dic, toD_dk, dr_v, dr_n, dr_s, ownD_own, vals_nil, vals_v, drs_nil, drs_c, svR_v, svR_own, svR_al, boolR_b, argM_s, ownM_own, slotR_s, ownL_own, valR_v, newR_n, two_2, intD_i, int1_i, int2_i, listD_l, tupD_t, eqD_ii, eqD_ss, eqD_bb, rtR_v, rtR_n, rtM_v, rtM_n, atI_0, atI_1, atI_2, atI_3, atI_4, ixN_0, ixN_1, ixN_2, setAllE, sizeLine_eq, Option.bind_some, Option.map_some, List.getElem?_cons_zero, List.getElem?_cons_succ, List.getElem?_nil, List.set_cons_zero, List.set_cons_succ, List.map_cons, List.map_nil, List.cons_append, List.nil_append, List.append_nil, List.length_cons, List.length_nil, List.replicate_succ, List.replicate_zero, Bool.not_true, Bool.not_false, Bool.false_eq_true, decide_true, decide_false, Nat.reduceAdd, Nat.reduceSub, Nat.reduceEqDiff, Nat.reduceLT, Nat.reduceLeDiff, ↓reduceIte, Int.reduceLT, Int.reduceLE, Int.reduceAdd, Int.reduceSub, Int.reduceMul, Int.reduceNeg, Int.reduceToNat, Int.reduceMod, Int.reduceEq, Int.reducePow, Nat.reducePow, decide_eq_true_eq, decide_eq_false_iff_not, eq_self, ne_eq, not_true_eq_false, not_false_eq_true, and_true, true_and, and_false, false_and, and_self, or_true, true_or, or_false, false_or, Bool.true_and, Bool.false_or]
  · simp only [F_L_is_deed, OX_some, OX_map, OX_fzf, OX_eV, OX_eK, OX_e1, OX_e2, OX_e3, OX_tb, OX_tru, OX_ite, OX_tand, OX_tor, OX_tnot, OX_eand, OX_eor, OX_enot, OX_eif, OX_a0, OX_aC, OX_etup, OX_elst, OX_eC, OX_eF, OX_eM, OX_sNil, OX_sBk, OX_sCt, OX_sRetN, OX_sq, OX_sIf, OX_sRet, OX_sX, OX_sV, OX_sO, OX_sP, OX_sU, OX_tgn, OX_tgt, OX_sSt, OX_eMM, OX_append, OX_eIs, OX_sFor, OX_sWh, OX_eLc, OX_iR1, OX_iR2, OX_iL, OX_iT, OX_oN, OX_oS, OX_eSl, OX_pE0, OX_pE, OX_eDk, OX_eGet2, OX_eDn, OX_eD0, OX_iI, OX_iB, OX_neg, OX_dEq, OX_dNe, OX_dIs, OX_dIsNot, OX_dIn, OX_dNotIn, OX_inL, OX_inT, OX_catT, OX_catL, OX_ixT, OX_ixL, OX_ixS, OX_slT, OX_slL, OX_lenL, OX_lenT, OX_lenS, OX_max2, OX_min2, OX_intI, OX_intB, OX_tupL, OX_tupT, OX_listL, OX_listT, OX_all, OX_any, OX_strT, OX_truB, OX_truI, OX_truL, OX_truT, OX_truN, OX_rtR_s, OX_rtM_s, frz_v, frz_n, frz_s, toD_lst, toD_dic, toD_dk, dr_v, dr_n, dr_s, ownD_own, vals_nil, vals_v, drs_nil, drs_c, svR_v, svR_own, svR_al, boolR_b, argM_s, ownM_own, slotR_s, ownL_own, valR_v, newR_n, two_2, intD_i, int1_i, int2_i, listD_l, tupD_t, eqD_ii, eqD_ss, eqD_bb, rtR_v, rtR_n, rtM_v, rtM_n, atI_0, atI_1, atI_2, atI_3, atI_4, ixN_0, ixN_1, ixN_2, setAllE, sizeLine_eq, Option.bind_some, Option.map_some, List.getElem?_cons_zero, List.getElem?_cons_succ, List.getElem?_nil, List.set_cons_zero, List.set_cons_succ, List.map_cons, List.map_nil, List.cons_append, List.nil_append, List.append_nil, List.length_cons, List.length_nil, List.replicate_succ, List.replicate_zero, Bool.not_true, Bool.not_false, Bool.false_eq_true, decide_true, decide_false, Nat.reduceAdd, Nat.reduceSub, Nat.reduceEqDiff, Nat.reduceLT, Nat.reduceLeDiff, ↓reduceIte, Int.reduceLT, Int.reduceLE, Int.reduceAdd, Int.reduceSub, Int.reduceMul, Int.reduceNeg, Int.reduceToNat, Int.reduceMod, Int.reduceEq, Int.reducePow, Nat.reducePow, decide_eq_true_eq, decide_eq_false_iff_not, eq_self, ne_eq, not_true_eq_false, not_false_eq_true, and_true, true_and, and_false, false_and, and_self, or_true, true_or, or_false, false_or, isT_tt, isT_ss, edk7, sizes_td, get2_ok, W.z, ca, cb]
    try
      refine whole_ok.imp fun r e => ?_
      subst e
      cases hb : inB x 0 (n - 1) <;> simp only [OX_some, OX_map, OX_fzf, OX_eV, OX_eK, OX_e1, OX_e2, OX_e3, OX_tb, OX_tru, OX_ite, OX_tand, OX_tor, OX_tnot, OX_eand, OX_eor, OX_enot, OX_eif, OX_a0, OX_aC, OX_etup, OX_elst, OX_eC, OX_eF, OX_eM, OX_sNil, OX_sBk, OX_sCt, OX_sRetN, OX_sq, OX_sIf, OX_sRet, OX_sX, OX_sV, OX_sO, OX_sP, OX_sU, OX_tgn, OX_tgt, OX_sSt, OX_eMM, OX_append, OX_eIs, OX_sFor, OX_sWh, OX_eLc, OX_iR1, OX_iR2, OX_iL, OX_iT, OX_oN, OX_oS, OX_eSl, OX_pE0, OX_pE, OX_eDk, OX_eGet2, OX_eDn, OX_eD0, OX_iI, OX_iB, OX_neg, OX_dEq, OX_dNe, OX_dIs, OX_dIsNot, OX_dIn, OX_dNotIn, OX_inL, OX_inT, OX_catT, OX_catL, OX_ixT, OX_ixL, OX_ixS, OX_slT, OX_slL, OX_lenL, OX_lenT, OX_lenS, OX_max2, OX_min2, OX_intI, OX_intB, OX_tupL, OX_tupT, OX_listL, OX_listT, OX_all, OX_any, OX_strT, OX_truB, OX_truI, OX_truL, OX_truT, OX_truN, OX_rtR_s, OX_rtM_s, frz_v, frz_n, frz_s, toD_lst, toD_dic, toD_dk, dr_v, dr_n, dr_s, ownD_own, vals_nil, vals_v, drs_nil, drs_c, svR_v, svR_own, svR_al, boolR_b, argM_s, ownM_own, slotR_s, ownL_own, valR_v, newR_n, two_2, intD_i, int1_i, int2_i, listD_l, tupD_t, eqD_ii, eqD_ss, eqD_bb, rtR_v, rtR_n, rtM_v, rtM_n, atI_0, atI_1, atI_2, atI_3, atI_4, ixN_0, ixN_1, ixN_2, setAllE, sizeLine_eq, Option.bind_some, Option.map_some, List.getElem?_cons_zero, List.getElem?_cons_succ, List.getElem?_nil, List.set_cons_zero, List.set_cons_succ, List.map_cons, List.map_nil, List.cons_append, List.nil_append, List.append_nil, List.length_cons, List.length_nil, List.replicate_succ, List.replicate_zero, Bool.not_true, Bool.not_false, Bool.false_eq_true, decide_true, decide_false, Nat.reduceAdd, Nat.reduceSub, Nat.reduceEqDiff, Nat.reduceLT, Nat.reduceLeDiff, ↓reduceIte, Int.reduceLT, Int.reduceLE, Int.reduceAdd, Int.reduceSub, Int.reduceMul, Int.reduceNeg, Int.reduceToNat, Int.reduceMod, Int.reduceEq, Int.reducePow, Nat.reducePow, decide_eq_true_eq, decide_eq_false_iff_not, eq_self, ne_eq, not_true_eq_false, not_false_eq_true, and_true, true_and, and_false, false_and, and_self, or_true, true_or, or_false, false_or, isT_tt, isT_ss, ca, cb, hb, Bool.true_and, Bool.false_and]
    try
      cases hy : isN y <;> simp only [OX_some, OX_map, OX_fzf, OX_eV, OX_eK, OX_e1, OX_e2, OX_e3, OX_tb, OX_tru, OX_ite, OX_tand, OX_tor, OX_tnot, OX_eand, OX_eor, OX_enot, OX_eif, OX_a0, OX_aC, OX_etup, OX_elst, OX_eC, OX_eF, OX_eM, OX_sNil, OX_sBk, OX_sCt, OX_sRetN, OX_sq, OX_sIf, OX_sRet, OX_sX, OX_sV, OX_sO, OX_sP, OX_sU, OX_tgn, OX_tgt, OX_sSt, OX_eMM, OX_append, OX_eIs, OX_sFor, OX_sWh, OX_eLc, OX_iR1, OX_iR2, OX_iL, OX_iT, OX_oN, OX_oS, OX_eSl, OX_pE0, OX_pE, OX_eDk, OX_eGet2, OX_eDn, OX_eD0, OX_iI, OX_iB, OX_neg, OX_dEq, OX_dNe, OX_dIs, OX_dIsNot, OX_dIn, OX_dNotIn, OX_inL, OX_inT, OX_catT, OX_catL, OX_ixT, OX_ixL, OX_ixS, OX_slT, OX_slL, OX_lenL, OX_lenT, OX_lenS, OX_max2, OX_min2, OX_intI, OX_intB, OX_tupL, OX_tupT, OX_listL, OX_listT, OX_all, OX_any, OX_strT, OX_truB, OX_truI, OX_truL, OX_truT, OX_truN, OX_rtR_s, OX_rtM_s, frz_v, frz_n, frz_s, toD_lst, toD_dic, toD_dk, dr_v, dr_n, dr_s, ownD_own, vals_nil, vals_v, drs_nil, drs_c, svR_v, svR_own, svR_al, boolR_b, argM_s, ownM_own, slotR_s, ownL_own, valR_v, newR_n, two_2, intD_i, int1_i, int2_i, listD_l, tupD_t, eqD_ii, eqD_ss, eqD_bb, rtR_v, rtR_n, rtM_v, rtM_n, atI_0, atI_1, atI_2, atI_3, atI_4, ixN_0, ixN_1, ixN_2, setAllE, sizeLine_eq, Option.bind_some, Option.map_some, List.getElem?_cons_zero, List.getElem?_cons_succ, List.getElem?_nil, List.set_cons_zero, List.set_cons_succ, List.map_cons, List.map_nil, List.cons_append, List.nil_append, List.append_nil, List.length_cons, List.length_nil, List.replicate_succ, List.replicate_zero, Bool.not_true, Bool.not_false, Bool.false_eq_true, decide_true, decide_false, Nat.reduceAdd, Nat.reduceSub, Nat.reduceEqDiff, Nat.reduceLT, Nat.reduceLeDiff, ↓reduceIte, Int.reduceLT, Int.reduceLE, Int.reduceAdd, Int.reduceSub, Int.reduceMul, Int.reduceNeg, Int.reduceToNat, Int.reduceMod, Int.reduceEq, Int.reducePow, Nat.reducePow, decide_eq_true_eq, decide_eq_false_iff_not, eq_self, ne_eq, not_true_eq_false, not_false_eq_true, and_true, true_and, and_false, false_and, and_self, or_true, true_or, or_false, false_or, isT_tt, isT_ss, ca, cb, hy, Bool.true_or, Bool.false_or]
      refine whole_ok.imp fun r e => ?_
      subst e
      first | rfl | simp only [OX_some, OX_map, OX_fzf, OX_eV, OX_eK, OX_e1, OX_e2, OX_e3, OX_tb, OX_tru, OX_ite, OX_tand, OX_tor, OX_tnot, OX_eand, OX_eor, OX_enot, OX_eif, OX_a0, OX_aC, OX_etup, OX_elst, OX_eC, OX_eF, OX_eM, OX_sNil, OX_sBk, OX_sCt, OX_sRetN, OX_sq, OX_sIf, OX_sRet, OX_sX, OX_sV, OX_sO, OX_sP, OX_sU, OX_tgn, OX_tgt, OX_sSt, OX_eMM, OX_append, OX_eIs, OX_sFor, OX_sWh, OX_eLc, OX_iR1, OX_iR2, OX_iL, OX_iT, OX_oN, OX_oS, OX_eSl, OX_pE0, OX_pE, OX_eDk, OX_eGet2, OX_eDn, OX_eD0, OX_iI, OX_iB, OX_neg, OX_dEq, OX_dNe, OX_dIs, OX_dIsNot, OX_dIn, OX_dNotIn, OX_inL, OX_inT, OX_catT, OX_catL, OX_ixT, OX_ixL, OX_ixS, OX_slT, OX_slL, OX_lenL, OX_lenT, OX_lenS, OX_max2, OX_min2, OX_intI, OX_intB, OX_tupL, OX_tupT, OX_listL, OX_listT, OX_all, OX_any, OX_strT, OX_truB, OX_truI, OX_truL, OX_truT, OX_truN, OX_rtR_s, OX_rtM_s, frz_v, frz_n, frz_s, toD_lst, toD_dic, toD_dk, dr_v, dr_n, dr_s, ownD_own, vals_nil, vals_v, drs_nil, drs_c, svR_v, svR_own, svR_al, boolR_b, argM_s, ownM_own, slotR_s, ownL_own, valR_v, newR_n, two_2, intD_i, int1_i, int2_i, listD_l, tupD_t, eqD_ii, eqD_ss, eqD_bb, rtR_v, rtR_n, rtM_v, rtM_n, atI_0, atI_1, atI_2, atI_3, atI_4, ixN_0, ixN_1, ixN_2, setAllE, sizeLine_eq, Option.bind_some, Option.map_some, List.getElem?_cons_zero, List.getElem?_cons_succ, List.getElem?_nil, List.set_cons_zero, List.set_cons_succ, List.map_cons, List.map_nil, List.cons_append, List.nil_append, List.append_nil, List.length_cons, List.length_nil, List.replicate_succ, List.replicate_zero, Bool.not_true, Bool.not_false, Bool.false_eq_true, decide_true, decide_false, Nat.reduceAdd, Nat.reduceSub, Nat.reduceEqDiff, Nat.reduceLT, Nat.reduceLeDiff, ↓reduceIte, Int.reduceLT, Int.reduceLE, Int.reduceAdd, Int.reduceSub, Int.reduceMul, Int.reduceNeg, Int.reduceToNat, Int.reduceMod, Int.reduceEq, Int.reducePow, Nat.reducePow, decide_eq_true_eq, decide_eq_false_iff_not, eq_self, ne_eq, not_true_eq_false, not_false_eq_true, and_true, true_and, and_false, false_and, and_self, or_true, true_or, or_false, false_or, Bool.true_and, Bool.false_or]
theorem d_30 {n : Int} {w : Str} (W : WF w false false false 0) : OX (D_is_deed [.int n, .tuple [.str w]]) (fun r => r = .v (.bool (false))) ∧ OX (D_L_is_deed [.int n, .tuple [.str w]]) fun r => r = .v (.bool (false)) := by
  refine ⟨OX.defF rfl ?_, OX.defF rfl ?_⟩
  · simp only [F_is_deed, OX_some, OX_map, OX_fzf, OX_eV, OX_eK, OX_e1, OX_e2, OX_e3, OX_tb, OX_tru, OX_ite, OX_tand, OX_tor, OX_tnot, OX_eand, OX_eor, OX_enot, OX_eif, OX_a0, OX_aC, OX_etup, OX_elst, OX_eC, OX_eF, OX_eM, OX_sNil, OX_sBk, OX_sCt, OX_sRetN, OX_sq, OX_sIf, OX_sRet, OX_sX, OX_sV, OX_sO, OX_sP, OX_sU, OX_tgn, OX_tgt, OX_sSt, OX_eMM, OX_append, OX_eIs, OX_sFor, OX_sWh, OX_eLc, OX_iR1, OX_iR2, OX_iL, OX_iT, OX_oN, OX_oS, OX_eSl, OX_pE0, OX_pE, OX_eDk, OX_eGet2, OX_eDn, OX_eD0, OX_iI, OX_iB, OX_neg, OX_dEq, OX_dNe, OX_dIs, OX_dIsNot, OX_dIn, OX_dNotIn, OX_inL, OX_inT, OX_catT, OX_catL, OX_ixT, OX_ixL, OX_ixS, OX_slT, OX_slL, OX_lenL, OX_lenT, OX_lenS, OX_max2, OX_min2, OX_intI, OX_intB, OX_tupL, OX_tupT, OX_listL, OX_listT, OX_all, OX_any, OX_strT, OX_truB, OX_truI, OX_truL, OX_truT, OX_truN, OX_rtR_s, OX_rtM_s, frz_v, frz_n, frz_s, toD_lst, toD_dic, toD_dk, dr_v, dr_n, dr_s, ownD_own, vals_nil, vals_v, drs_nil, drs_c, svR_v, svR_own, svR_al, boolR_b, argM_s, ownM_own, slotR_s, ownL_own, valR_v, newR_n, two_2, intD_i, int1_i, int2_i, listD_l, tupD_t, eqD_ii, eqD_ss, eqD_bb, rtR_v, rtR_n, rtM_v, rtM_n, atI_0, atI_1, atI_2, atI_3, atI_4, ixN_0, ixN_1, ixN_2, setAllE, sizeLine_eq, Option.bind_some, Option.map_some, List.getElem?_cons_zero, List.getElem?_cons_succ, List.getElem?_nil, List.set_cons_zero, List.set_cons_succ, List.map_cons, List.map_nil, List.cons_append, List.nil_append, List.append_nil, List.length_cons, List.length_nil, List.replicate_succ, List.replicate_zero, Bool.not_true, Bool.not_false, Bool.false_eq_true, decide_true, decide_false, Nat.reduceAdd, Nat.reduceSub, Nat.reduceEqDiff, Nat.reduceLT, Nat.reduceLeDiff, ↓reduceIte, Int.reduceLT, Int.reduceLE, Int.reduceAdd, Int.reduceSub, Int.reduceMul, Int.reduceNeg, Int.reduceToNat, Int.reduceMod, Int.reduceEq, Int.reducePow, Nat.reducePow, decide_eq_true_eq, decide_eq_false_iff_not, eq_self, ne_eq, not_true_eq_false, not_false_eq_true, and_true, true_and, and_false, false_and, and_self, or_true, true_or, or_false, false_or, isT_tt, isT_ss, W.t, W.a, W.m, ca, cb]
    try
      refine between_ok.imp fun r e => ?_
      subst e
      cases hb : inB x 0 (n - 1) <;> simp only [OX_some, OX_map, OX_fzf, OX_eV, OX_eK, OX_e1, OX_e2, OX_e3, OX_tb, OX_tru, OX_ite, OX_tand, OX_tor, OX_tnot, OX_eand, OX_eor, OX_enot, OX_eif, OX_a0, OX_aC, OX_etup, OX_elst, OX_eC, OX_eF, OX_eM, OX_sNil, OX_sBk, OX_sCt, OX_sRetN, OX_sq, OX_sIf, OX_sRet, OX_sX, OX_sV, OX_sO, OX_sP, OX_sU, OX_tgn, OX_tgt, OX_sSt, OX_eMM, OX_append, OX_eIs, OX_sFor, OX_sWh, OX_eLc, OX_iR1, OX_iR2, OX_iL, OX_iT, OX_oN, OX_oS, OX_eSl, OX_pE0, OX_pE, OX_eDk, OX_eGet2, OX_eDn, OX_eD0, OX_iI, OX_iB, OX_neg, OX_dEq, OX_dNe, OX_dIs, OX_dIsNot, OX_dIn, OX_dNotIn, OX_inL, OX_inT, OX_catT, OX_catL, OX_ixT, OX_ixL, OX_ixS, OX_slT, OX_slL, OX_lenL, OX_lenT, OX_lenS, OX_max2, OX_min2, OX_intI, OX_intB, OX_tupL, OX_tupT, OX_listL, OX_listT, OX_all, OX_any, OX_strT, OX_truB, OX_truI, OX_truL, OX_truT, OX_truN, OX_rtR_s, OX_rtM_s, frz_v, frz_n, frz_s, toD_lst, toD_dic, toD_dk, dr_v, dr_n, dr_s, ownD_own, vals_nil, vals_v, drs_nil, drs_c, svR_v, svR_own, svR_al, boolR_b, argM_s, ownM_own, slotR_s, ownL_own, valR_v, newR_n, two_2, intD_i, int1_i, int2_i, listD_l, tupD_t, eqD_ii, eqD_ss, eqD_bb, rtR_v, rtR_n, rtM_v, rtM_n, atI_0, atI_1, atI_2, atI_3, atI_4, ixN_0, ixN_1, ixN_2, setAllE, sizeLine_eq, Option.bind_some, Option.map_some, List.getElem?_cons_zero, List.getElem?_cons_succ, List.getElem?_nil, List.set_cons_zero, List.set_cons_succ, List.map_cons, List.map_nil, List.cons_append, List.nil_append, List.append_nil, List.length_cons, List.length_nil, List.replicate_succ, List.replicate_zero, Bool.not_true, Bool.not_false, Bool.false_eq_true, decide_true, decide_false, Nat.reduceAdd, Nat.reduceSub, Nat.reduceEqDiff, Nat.reduceLT, Nat.reduceLeDiff, ↓reduceIte, Int.reduceLT, Int.reduceLE, Int.reduceAdd, Int.reduceSub, Int.reduceMul, Int.reduceNeg, Int.reduceToNat, Int.reduceMod, Int.reduceEq, Int.reducePow, Nat.reducePow, decide_eq_true_eq, decide_eq_false_iff_not, eq_self, ne_eq, not_true_eq_false, not_false_eq_true, and_true, true_and, and_false, false_and, and_self, or_true, true_or, or_false, false_or, isT_tt, isT_ss, W.t, W.a, W.m, ca, cb, hb, Bool.true_and, Bool.false_and]
    try
      cases hy : isN y <;> simp only [OX_some, OX_map, OX_fzf, OX_eV, OX_eK, OX_e1, OX_e2, OX_e3, OX_tb, OX_tru, OX_ite, OX_tand, OX_tor, OX_tnot, OX_eand, OX_eor, OX_enot, OX_eif, OX_a0, OX_aC, OX_etup, OX_elst, OX_eC, OX_eF, OX_eM, OX_sNil, OX_sBk, OX_sCt, OX_sRetN, OX_sq, OX_sIf, OX_sRet, OX_sX, OX_sV, OX_sO, OX_sP, OX_sU, OX_tgn, OX_tgt, OX_sSt, OX_eMM, OX_append, OX_eIs, OX_sFor, OX_sWh, OX_eLc, OX_iR1, OX_iR2, OX_iL, OX_iT, OX_oN, OX_oS, OX_eSl, OX_pE0, OX_pE, OX_eDk, OX_eGet2, OX_eDn, OX_eD0, OX_iI, OX_iB, OX_neg, OX_dEq, OX_dNe, OX_dIs, OX_dIsNot, OX_dIn, OX_dNotIn, OX_inL, OX_inT, OX_catT, OX_catL, OX_ixT, OX_ixL, OX_ixS, OX_slT, OX_slL, OX_lenL, OX_lenT, OX_lenS, OX_max2, OX_min2, OX_intI, OX_intB, OX_tupL, OX_tupT, OX_listL, OX_listT, OX_all, OX_any, OX_strT, OX_truB, OX_truI, OX_truL, OX_truT, OX_truN, OX_rtR_s, OX_rtM_s, frz_v, frz_n, frz_s, toD_lst, toD_dic, toD_dk, dr_v, dr_n, dr_s, ownD_own, vals_nil, vals_v, drs_nil, drs_c, svR_v, svR_own, svR_al, boolR_b, argM_s, ownM_own, slotR_s, ownL_own, valR_v, newR_n, two_2, intD_i, int1_i, int2_i, listD_l, tupD_t, eqD_ii, eqD_ss, eqD_bb, rtR_v, rtR_n, rtM_v, rtM_n, atI_0, atI_1, atI_2, atI_3, atI_4, ixN_0, ixN_1, ixN_2, setAllE, sizeLine_eq, Option.bind_some, Option.map_some, List.getElem?_cons_zero, List.getElem?_cons_succ, List.getElem?_nil, List.set_cons_zero, List.set_cons_succ, List.map_cons, List.map_nil, List.cons_append, List.nil_append, List.append_nil, List.length_cons, List.length_nil, List.replicate_succ, List.replicate_zero, Bool.not_true, Bool.not_false, Bool.false_eq_true, decide_true, decide_false, Nat.reduceAdd, Nat.reduceSub, Nat.reduceEqDiff, Nat.reduceLT, Nat.reduceLeDiff, ↓reduceIte, Int.reduceLT, Int.reduceLE, Int.reduceAdd, Int.reduceSub, Int.reduceMul, Int.reduceNeg, Int.reduceToNat, Int.reduceMod, Int.reduceEq, Int.reducePow, Nat.reducePow, decide_eq_true_eq, decide_eq_false_iff_not, eq_self, ne_eq, not_true_eq_false, not_false_eq_true, and_true, true_and, and_false, false_and, and_self, or_true, true_or, or_false, false_or, isT_tt, isT_ss, W.t, W.a, W.m, ca, cb, hy, Bool.true_or, Bool.false_or]
      refine between_ok.imp fun r e => ?_
      subst e
      first | rfl | simp only [OX_some, OX_map, OX_fzf, OX_eV, OX_eK, OX_e1, OX_e2, OX_e3, OX_tb, OX_tru, OX_ite, OX_tand, OX_tor, OX_tnot, OX_eand, OX_eor, OX_enot, OX_eif, OX_a0, OX_aC, OX_etup, OX_elst, OX_eC, OX_eF, OX_eM, OX_sNil, OX_sBk, OX_sCt, OX_sRetN, OX_sq, OX_sIf, OX_sRet, OX_sX, OX_sV, OX_sO, OX_sP, OX_sU, OX_tgn, OX_tgt, OX_sSt, OX_eMM, OX_append, OX_eIs, OX_sFor, OX_sWh, OX_eLc, OX_iR1, OX_iR2, OX_iL, OX_iT, OX_oN, OX_oS, OX_eSl, OX_pE0, OX_pE, OX_eDk, OX_eGet2, OX_eDn, OX_eD0, OX_iI, OX_iB, OX_neg, OX_dEq, OX_dNe, OX_dIs, OX_dIsNot, OX_dIn, OX_dNotIn, OX_inL, OX_inT, OX_catT, OX_catL, OX_ixT, OX_ixL, OX_ixS, OX_slT, OX_slL, OX_lenL, OX_lenT, OX_lenS, OX_max2, OX_min2, OX_intI, OX_intB, OX_tupL, OX_tupT, OX_listL, OX_listT, OX_all, OX_any, OX_strT, OX_truB, OX_truI, OX_truL, OX_truT, OX_truN, OX_rtR_s, OX_rtM_s, frz_v, frz_n, frz_s, toD_lst, toD_dic, toD_dk, dr_v, dr_n, dr_s, ownD_own, vals_nil, vals_v, drs_nil, drs_c, svR_v, svR_own, svR_al, boolR_b, argM_s, ownM_own, slotR_s, ownL_own, valR_v, newR_n, two_2, intD_i, int1_i, int2_i, listD_l, tupD_t, eqD_ii, eqD_ss, eqD_bb, rtR_v, rtR_n, rtM_v, rtM_n, atI_0, atI_1, atI_2, atI_3, atI_4, ixN_0, ixN_1, ixN_2, setAllE, sizeLine_eq, Option.bind_some, Option.map_some, List.getElem?_cons_zero, List.getElem?_cons_succ, List.getElem?_nil, List.set_cons_zero, List.set_cons_succ, List.map_cons, List.map_nil, List.cons_append, List.nil_append, List.append_nil, List.length_cons, List.length_nil, List.replicate_succ, List.replicate_zero, Bool.not_true, Bool.not_false, Bool.false_eq_true, decide_true, decide_false, Nat.reduceAdd, Nat.reduceSub, Nat.reduceEqDiff, Nat.reduceLT, Nat.reduceLeDiff, ↓reduceIte, Int.reduceLT, Int.reduceLE, Int.reduceAdd, Int.reduceSub, Int.reduceMul, Int.reduceNeg, Int.reduceToNat, Int.reduceMod, Int.reduceEq, Int.reducePow, Nat.reducePow, decide_eq_true_eq, decide_eq_false_iff_not, eq_self, ne_eq, not_true_eq_false, not_false_eq_true, and_true, true_and, and_false, false_and, and_self, or_true, true_or, or_false, false_or, Bool.true_and, Bool.false_or]
  · simp only [F_L_is_deed, OX_some, OX_map, OX_fzf, OX_eV, OX_eK, OX_e1, OX_e2, OX_e3, OX_tb, OX_tru, OX_ite, OX_tand, OX_tor, OX_tnot, OX_eand, OX_eor, OX_enot, OX_eif, OX_a0, OX_aC, OX_etup, OX_elst, OX_eC, OX_eF, OX_eM, OX_sNil, OX_sBk, OX_sCt, OX_sRetN, OX_sq, OX_sIf, OX_sRet, OX_sX, OX_sV, OX_sO, OX_sP, OX_sU, OX_tgn, OX_tgt, OX_sSt, OX_eMM, OX_append, OX_eIs, OX_sFor, OX_sWh, OX_eLc, OX_iR1, OX_iR2, OX_iL, OX_iT, OX_oN, OX_oS, OX_eSl, OX_pE0, OX_pE, OX_eDk, OX_eGet2, OX_eDn, OX_eD0, OX_iI, OX_iB, OX_neg, OX_dEq, OX_dNe, OX_dIs, OX_dIsNot, OX_dIn, OX_dNotIn, OX_inL, OX_inT, OX_catT, OX_catL, OX_ixT, OX_ixL, OX_ixS, OX_slT, OX_slL, OX_lenL, OX_lenT, OX_lenS, OX_max2, OX_min2, OX_intI, OX_intB, OX_tupL, OX_tupT, OX_listL, OX_listT, OX_all, OX_any, OX_strT, OX_truB, OX_truI, OX_truL, OX_truT, OX_truN, OX_rtR_s, OX_rtM_s, frz_v, frz_n, frz_s, toD_lst, toD_dic, toD_dk, dr_v, dr_n, dr_s, ownD_own, vals_nil, vals_v, drs_nil, drs_c, svR_v, svR_own, svR_al, boolR_b, argM_s, ownM_own, slotR_s, ownL_own, valR_v, newR_n, two_2, intD_i, int1_i, int2_i, listD_l, tupD_t, eqD_ii, eqD_ss, eqD_bb, rtR_v, rtR_n, rtM_v, rtM_n, atI_0, atI_1, atI_2, atI_3, atI_4, ixN_0, ixN_1, ixN_2, setAllE, sizeLine_eq, Option.bind_some, Option.map_some, List.getElem?_cons_zero, List.getElem?_cons_succ, List.getElem?_nil, List.set_cons_zero, List.set_cons_succ, List.map_cons, List.map_nil, List.cons_append, List.nil_append, List.append_nil, List.length_cons, List.length_nil, List.replicate_succ, List.replicate_zero, Bool.not_true, Bool.not_false, Bool.false_eq_true, decide_true, decide_false, Nat.reduceAdd, Nat.reduceSub, Nat.reduceEqDiff, Nat.reduceLT, Nat.reduceLeDiff, ↓reduceIte, Int.reduceLT, Int.reduceLE, Int.reduceAdd, Int.reduceSub, Int.reduceMul, Int.reduceNeg, Int.reduceToNat, Int.reduceMod, Int.reduceEq, Int.reducePow, Nat.reducePow, decide_eq_true_eq, decide_eq_false_iff_not, eq_self, ne_eq, not_true_eq_false, not_false_eq_true, and_true, true_and, and_false, false_and, and_self, or_true, true_or, or_false, false_or, isT_tt, isT_ss, edk7, sizes_td, get2_ok, W.z, ca, cb]
    try
      refine whole_ok.imp fun r e => ?_
      subst e
      cases hb : inB x 0 (n - 1) <;> simp only [OX_some, OX_map, OX_fzf, OX_eV, OX_eK, OX_e1, OX_e2, OX_e3, OX_tb, OX_tru, OX_ite, OX_tand, OX_tor, OX_tnot, OX_eand, OX_eor, OX_enot, OX_eif, OX_a0, OX_aC, OX_etup, OX_elst, OX_eC, OX_eF, OX_eM, OX_sNil, OX_sBk, OX_sCt, OX_sRetN, OX_sq, OX_sIf, OX_sRet, OX_sX, OX_sV, OX_sO, OX_sP, OX_sU, OX_tgn, OX_tgt, OX_sSt, OX_eMM, OX_append, OX_eIs, OX_sFor, OX_sWh, OX_eLc, OX_iR1, OX_iR2, OX_iL, OX_iT, OX_oN, OX_oS, OX_eSl, OX_pE0, OX_pE, OX_eDk, OX_eGet2, OX_eDn, OX_eD0, OX_iI, OX_iB, OX_neg, OX_dEq, OX_dNe, OX_dIs, OX_dIsNot, OX_dIn, OX_dNotIn, OX_inL, OX_inT, OX_catT, OX_catL, OX_ixT, OX_ixL, OX_ixS, OX_slT, OX_slL, OX_lenL, OX_lenT, OX_lenS, OX_max2, OX_min2, OX_intI, OX_intB, OX_tupL, OX_tupT, OX_listL, OX_listT, OX_all, OX_any, OX_strT, OX_truB, OX_truI, OX_truL, OX_truT, OX_truN, OX_rtR_s, OX_rtM_s, frz_v, frz_n, frz_s, toD_lst, toD_dic, toD_dk, dr_v, dr_n, dr_s, ownD_own, vals_nil, vals_v, drs_nil, drs_c, svR_v, svR_own, svR_al, boolR_b, argM_s, ownM_own, slotR_s, ownL_own, valR_v, newR_n, two_2, intD_i, int1_i, int2_i, listD_l, tupD_t, eqD_ii, eqD_ss, eqD_bb, rtR_v, rtR_n, rtM_v, rtM_n, atI_0, atI_1, atI_2, atI_3, atI_4, ixN_0, ixN_1, ixN_2, setAllE, sizeLine_eq, Option.bind_some, Option.map_some, List.getElem?_cons_zero, List.getElem?_cons_succ, List.getElem?_nil, List.set_cons_zero, List.set_cons_succ, List.map_cons, List.map_nil, List.cons_append, List.nil_append, List.append_nil, List.length_cons, List.length_nil, List.replicate_succ, List.replicate_zero, Bool.not_true, Bool.not_false, Bool.false_eq_true, decide_true, decide_false, Nat.reduceAdd, Nat.reduceSub, Nat.reduceEqDiff, Nat.reduceLT, Nat.reduceLeDiff, ↓reduceIte, Int.reduceLT, Int.reduceLE, Int.reduceAdd, Int.reduceSub, Int.reduceMul, Int.reduceNeg, Int.reduceToNat, Int.reduceMod, Int.reduceEq, Int.reducePow, Nat.reducePow, decide_eq_true_eq, decide_eq_false_iff_not, eq_self, ne_eq, not_true_eq_false, not_false_eq_true, and_true, true_and, and_false, false_and, and_self, or_true, true_or, or_false, false_or, isT_tt, isT_ss, ca, cb, hb, Bool.true_and, Bool.false_and]
    try
      cases hy : isN y <;> simp only [OX_some, OX_map, OX_fzf, OX_eV, OX_eK, OX_e1, OX_e2, OX_e3, OX_tb, OX_tru, OX_ite, OX_tand, OX_tor, OX_tnot, OX_eand, OX_eor, OX_enot, OX_eif, OX_a0, OX_aC, OX_etup, OX_elst, OX_eC, OX_eF, OX_eM, OX_sNil, OX_sBk, OX_sCt, OX_sRetN, OX_sq, OX_sIf, OX_sRet, OX_sX, OX_sV, OX_sO, OX_sP, OX_sU, OX_tgn, OX_tgt, OX_sSt, OX_eMM, OX_append, OX_eIs, OX_sFor, OX_sWh, OX_eLc, OX_iR1, OX_iR2, OX_iL, OX_iT, OX_oN, OX_oS, OX_eSl, OX_pE0, OX_pE, OX_eDk, OX_eGet2, OX_eDn, OX_eD0, OX_iI, OX_iB, OX_neg, OX_dEq, OX_dNe, OX_dIs, OX_dIsNot, OX_dIn, OX_dNotIn, OX_inL, OX_inT, OX_catT, OX_catL, OX_ixT, OX_ixL, OX_ixS, OX_slT, OX_slL, OX_lenL, OX_lenT, OX_lenS, OX_max2, OX_min2, OX_intI, OX_intB, OX_tupL, OX_tupT, OX_listL, OX_listT, OX_all, OX_any, OX_strT, OX_truB, OX_truI, OX_truL, OX_truT, OX_truN, OX_rtR_s, OX_rtM_s, frz_v, frz_n, frz_s, toD_lst, toD_dic, toD_dk, dr_v, dr_n, dr_s, ownD_own, vals_nil, vals_v, drs_nil, drs_c, svR_v, svR_own, svR_al, boolR_b, argM_s, ownM_own, slotR_s, ownL_own, valR_v, newR_n, two_2, intD_i, int1_i, int2_i, listD_l, tupD_t, eqD_ii, eqD_ss, eqD_bb, rtR_v, rtR_n, rtM_v, rtM_n, atI_0, atI_1, atI_2, atI_3, atI_4, ixN_0, ixN_1, ixN_2, setAllE, sizeLine_eq, Option.bind_some, Option.map_some, List.getElem?_cons_zero, List.getElem?_cons_succ, List.getElem?_nil, List.set_cons_zero, List.set_cons_succ, List.map_cons, List.map_nil, List.cons_append, List.nil_append, List.append_nil, List.length_cons, List.length_nil, List.replicate_succ, List.replicate_zero, Bool.not_true, Bool.not_false, Bool.false_eq_true, decide_true, decide_false, Nat.reduceAdd, Nat.reduceSub, Nat.reduceEqDiff, Nat.reduceLT, Nat.reduceLeDiff, ↓reduceIte, Int.reduceLT, Int.reduceLE, Int.reduceAdd, Int.reduceSub, Int.reduceMul, Int.reduceNeg, Int.reduceToNat, Int.reduceMod, Int.reduceEq, Int.reducePow, Nat.reducePow, decide_eq_true_eq, decide_eq_false_iff_not, eq_self, ne_eq, not_true_eq_false, not_false_eq_true, and_true, true_and, and_false, false_and, and_self, or_true, true_or, or_false, false_or, isT_tt, isT_ss, ca, cb, hy, Bool.true_or, Bool.false_or]
      refine whole_ok.imp fun r e => ?_
      subst e
      first | rfl | simp only [OX_some, OX_map, OX_fzf, OX_eV, OX_eK, OX_e1, OX_e2, OX_e3, OX_tb, OX_tru, OX_ite, OX_tand, OX_tor, OX_tnot, OX_eand, OX_eor, OX_enot, OX_eif, OX_a0, OX_aC, OX_etup, OX_elst, OX_eC, OX_eF, OX_eM, OX_sNil, OX_sBk, OX_sCt, OX_sRetN, OX_sq, OX_sIf, OX_sRet, OX_sX, OX_sV, OX_sO, OX_sP, OX_sU, OX_tgn, OX_tgt, OX_sSt, OX_eMM, OX_append, OX_eIs, OX_sFor, OX_sWh, OX_eLc, OX_iR1, OX_iR2, OX_iL, OX_iT, OX_oN, OX_oS, OX_eSl, OX_pE0, OX_pE, OX_eDk, OX_eGet2, OX_eDn, OX_eD0, OX_iI, OX_iB, OX_neg, OX_dEq, OX_dNe, OX_dIs, OX_dIsNot, OX_dIn, OX_dNotIn, OX_inL, OX_inT, OX_catT, OX_catL, OX_ixT, OX_ixL, OX_ixS, OX_slT, OX_slL, OX_lenL, OX_lenT, OX_lenS, OX_max2, OX_min2, OX_intI, OX_intB, OX_tupL, OX_tupT, OX_listL, OX_listT, OX_all, OX_any, OX_strT, OX_truB, OX_truI, OX_truL, OX_truT, OX_truN, OX_rtR_s, OX_rtM_s, frz_v, frz_n, frz_s, toD_lst, toD_dic, toD_dk, dr_v, dr_n, dr_s, ownD_own, vals_nil, vals_v, drs_nil, drs_c, svR_v, svR_own, svR_al, boolR_b, argM_s, ownM_own, slotR_s, ownL_own, valR_v, newR_n, two_2, intD_i, int1_i, int2_i, listD_l, tupD_t, eqD_ii, eqD_ss, eqD_bb, rtR_v, rtR_n, rtM_v, rtM_n, atI_0, atI_1, atI_2, atI_3, atI_4, ixN_0, ixN_1, ixN_2, setAllE, sizeLine_eq, Option.bind_some, Option.map_some, List.getElem?_cons_zero, List.getElem?_cons_succ, List.getElem?_nil, List.set_cons_zero, List.set_cons_succ, List.map_cons, List.map_nil, List.cons_append, List.nil_append, List.append_nil, List.length_cons, List.length_nil, List.replicate_succ, List.replicate_zero, Bool.not_true, Bool.not_false, Bool.false_eq_true, decide_true, decide_false, Nat.reduceAdd, Nat.reduceSub, Nat.reduceEqDiff, Nat.reduceLT, Nat.reduceLeDiff, ↓reduceIte, Int.reduceLT, Int.reduceLE, Int.reduceAdd, Int.reduceSub, Int.reduceMul, Int.reduceNeg, Int.reduceToNat, Int.reduceMod, Int.reduceEq, Int.reducePow, Nat.reducePow, decide_eq_true_eq, decide_eq_false_iff_not, eq_self, ne_eq, not_true_eq_false, not_false_eq_true, and_true, true_and, and_false, false_and, and_self, or_true, true_or, or_false, false_or, Bool.true_and, Bool.false_or]
theorem d_31 {n : Int} {w : Str} {x : D} (W : WF w false false false 0) : OX (D_is_deed [.int n, .tuple [.str w, x]]) (fun r => r = .v (.bool (false))) ∧ OX (D_L_is_deed [.int n, .tuple [.str w, x]]) fun r => r = .v (.bool (false)) := by
  refine ⟨OX.defF rfl ?_, OX.defF rfl ?_⟩
  · simp only [F_is_deed, OX_some, OX_map, OX_fzf, OX_eV, OX_eK, OX_e1, OX_e2, OX_e3, OX_tb, OX_tru, OX_ite, OX_tand, OX_tor, OX_tnot, OX_eand, OX_eor, OX_enot, OX_eif, OX_a0, OX_aC, OX_etup, OX_elst, OX_eC, OX_eF, OX_eM, OX_sNil, OX_sBk, OX_sCt, OX_sRetN, OX_sq, OX_sIf, OX_sRet, OX_sX, OX_sV, OX_sO, OX_sP, OX_sU, OX_tgn, OX_tgt, OX_sSt, OX_eMM, OX_append, OX_eIs, OX_sFor, OX_sWh, OX_eLc, OX_iR1, OX_iR2, OX_iL, OX_iT, OX_oN, OX_oS, OX_eSl, OX_pE0, OX_pE, OX_eDk, OX_eGet2, OX_eDn, OX_eD0, OX_iI, OX_iB, OX_neg, OX_dEq, OX_dNe, OX_dIs, OX_dIsNot, OX_dIn, OX_dNotIn, OX_inL, OX_inT, OX_catT, OX_catL, OX_ixT, OX_ixL, OX_ixS, OX_slT, OX_slL, OX_lenL, OX_lenT, OX_lenS, OX_max2, OX_min2, OX_intI, OX_intB, OX_tupL, OX_tupT, OX_listL, OX_listT, OX_all, OX_any, OX_strT, OX_truB, OX_truI, OX_truL, OX_truT, OX_truN, OX_rtR_s, OX_rtM_s, frz_v, frz_n, frz_s, toD_lst, toD_dic, toD_dk, dr_v, dr_n, dr_s, ownD_own, vals_nil, vals_v, drs_nil, drs_c, svR_v, svR_own, svR_al, boolR_b, argM_s, ownM_own, slotR_s, ownL_own, valR_v, newR_n, two_2, intD_i, int1_i, int2_i, listD_l, tupD_t, eqD_ii, eqD_ss, eqD_bb, rtR_v, rtR_n, rtM_v, rtM_n, atI_0, atI_1, atI_2, atI_3, atI_4, ixN_0, ixN_1, ixN_2, setAllE, sizeLine_eq, Option.bind_some, Option.map_some, List.getElem?_cons_zero, List.getElem?_cons_succ, List.getElem?_nil, List.set_cons_zero, List.set_cons_succ, List.map_cons, List.map_nil, List.cons_append, List.nil_append, List.append_nil, List.length_cons, List.length_nil, List.replicate_succ, List.replicate_zero, Bool.not_true, Bool.not_false, Bool.false_eq_true, decide_true, decide_false, Nat.reduceAdd, Nat.reduceSub, Nat.reduceEqDiff, Nat.reduceLT, Nat.reduceLeDiff, ↓reduceIte, Int.reduceLT, Int.reduceLE, Int.reduceAdd, Int.reduceSub, Int.reduceMul, Int.reduceNeg, Int.reduceToNat, Int.reduceMod, Int.reduceEq, Int.reducePow, Nat.reducePow, decide_eq_true_eq, decide_eq_false_iff_not, eq_self, ne_eq, not_true_eq_false, not_false_eq_true, and_true, true_and, and_false, false_and, and_self, or_true, true_or, or_false, false_or, isT_tt, isT_ss, W.t, W.a, W.m, ca, cb]
    try
      refine between_ok.imp fun r e => ?_
      subst e
      cases hb : inB x 0 (n - 1) <;> simp only [OX_some, OX_map, OX_fzf, OX_eV, OX_eK, OX_e1, OX_e2, OX_e3, OX_tb, OX_tru, OX_ite, OX_tand, OX_tor, OX_tnot, OX_eand, OX_eor, OX_enot, OX_eif, OX_a0, OX_aC, OX_etup, OX_elst, OX_eC, OX_eF, OX_eM, OX_sNil, OX_sBk, OX_sCt, OX_sRetN, OX_sq, OX_sIf, OX_sRet, OX_sX, OX_sV, OX_sO, OX_sP, OX_sU, OX_tgn, OX_tgt, OX_sSt, OX_eMM, OX_append, OX_eIs, OX_sFor, OX_sWh, OX_eLc, OX_iR1, OX_iR2, OX_iL, OX_iT, OX_oN, OX_oS, OX_eSl, OX_pE0, OX_pE, OX_eDk, OX_eGet2, OX_eDn, OX_eD0, OX_iI, OX_iB, OX_neg, OX_dEq, OX_dNe, OX_dIs, OX_dIsNot, OX_dIn, OX_dNotIn, OX_inL, OX_inT, OX_catT, OX_catL, OX_ixT, OX_ixL, OX_ixS, OX_slT, OX_slL, OX_lenL, OX_lenT, OX_lenS, OX_max2, OX_min2, OX_intI, OX_intB, OX_tupL, OX_tupT, OX_listL, OX_listT, OX_all, OX_any, OX_strT, OX_truB, OX_truI, OX_truL, OX_truT, OX_truN, OX_rtR_s, OX_rtM_s, frz_v, frz_n, frz_s, toD_lst, toD_dic, toD_dk, dr_v, dr_n, dr_s, ownD_own, vals_nil, vals_v, drs_nil, drs_c, svR_v, svR_own, svR_al, boolR_b, argM_s, ownM_own, slotR_s, ownL_own, valR_v, newR_n, two_2, intD_i, int1_i, int2_i, listD_l, tupD_t, eqD_ii, eqD_ss, eqD_bb, rtR_v, rtR_n, rtM_v, rtM_n, atI_0, atI_1, atI_2, atI_3, atI_4, ixN_0, ixN_1, ixN_2, setAllE, sizeLine_eq, Option.bind_some, Option.map_some, List.getElem?_cons_zero, List.getElem?_cons_succ, List.getElem?_nil, List.set_cons_zero, List.set_cons_succ, List.map_cons, List.map_nil, List.cons_append, List.nil_append, List.append_nil, List.length_cons, List.length_nil, List.replicate_succ, List.replicate_zero, Bool.not_true, Bool.not_false, Bool.false_eq_true, decide_true, decide_false, Nat.reduceAdd, Nat.reduceSub, Nat.reduceEqDiff, Nat.reduceLT, Nat.reduceLeDiff, ↓reduceIte, Int.reduceLT, Int.reduceLE, Int.reduceAdd, Int.reduceSub, Int.reduceMul, Int.reduceNeg, Int.reduceToNat, Int.reduceMod, Int.reduceEq, Int.reducePow, Nat.reducePow, decide_eq_true_eq, decide_eq_false_iff_not, eq_self, ne_eq, not_true_eq_false, not_false_eq_true, and_true, true_and, and_false, false_and, and_self, or_true, true_or, or_false, false_or, isT_tt, isT_ss, W.t, W.a, W.m, ca, cb, hb, Bool.true_and, Bool.false_and]
    try
      cases hy : isN y <;> simp only [OX_some, OX_map, OX_fzf, OX_eV, OX_eK, OX_e1, OX_e2, OX_e3, OX_tb, OX_tru, OX_ite, OX_tand, OX_tor, OX_tnot, OX_eand, OX_eor, OX_enot, OX_eif, OX_a0, OX_aC, OX_etup, OX_elst, OX_eC, OX_eF, OX_eM, OX_sNil, OX_sBk, OX_sCt, OX_sRetN, OX_sq, OX_sIf, OX_sRet, OX_sX, OX_sV, OX_sO, OX_sP, OX_sU, OX_tgn, OX_tgt, OX_sSt, OX_eMM, OX_append, OX_eIs, OX_sFor, OX_sWh, OX_eLc, OX_iR1, OX_iR2, OX_iL, OX_iT, OX_oN, OX_oS, OX_eSl, OX_pE0, OX_pE, OX_eDk, OX_eGet2, OX_eDn, OX_eD0, OX_iI, OX_iB, OX_neg, OX_dEq, OX_dNe, OX_dIs, OX_dIsNot, OX_dIn, OX_dNotIn, OX_inL, OX_inT, OX_catT, OX_catL, OX_ixT, OX_ixL, OX_ixS, OX_slT, OX_slL, OX_lenL, OX_lenT, OX_lenS, OX_max2, OX_min2, OX_intI, OX_intB, OX_tupL, OX_tupT, OX_listL, OX_listT, OX_all, OX_any, OX_strT, OX_truB, OX_truI, OX_truL, OX_truT, OX_truN, OX_rtR_s, OX_rtM_s, frz_v, frz_n, frz_s, toD_lst, toD_dic, toD_dk, dr_v, dr_n, dr_s, ownD_own, vals_nil, vals_v, drs_nil, drs_c, svR_v, svR_own, svR_al, boolR_b, argM_s, ownM_own, slotR_s, ownL_own, valR_v, newR_n, two_2, intD_i, int1_i, int2_i, listD_l, tupD_t, eqD_ii, eqD_ss, eqD_bb, rtR_v, rtR_n, rtM_v, rtM_n, atI_0, atI_1, atI_2, atI_3, atI_4, ixN_0, ixN_1, ixN_2, setAllE, sizeLine_eq, Option.bind_some, Option.map_some, List.getElem?_cons_zero, List.getElem?_cons_succ, List.getElem?_nil, List.set_cons_zero, List.set_cons_succ, List.map_cons, List.map_nil, List.cons_append, List.nil_append, List.append_nil, List.length_cons, List.length_nil, List.replicate_succ, List.replicate_zero, Bool.not_true, Bool.not_false, Bool.false_eq_true, decide_true, decide_false, Nat.reduceAdd, Nat.reduceSub, Nat.reduceEqDiff, Nat.reduceLT, Nat.reduceLeDiff, ↓reduceIte, Int.reduceLT, Int.reduceLE, Int.reduceAdd, Int.reduceSub, Int.reduceMul, Int.reduceNeg, Int.reduceToNat, Int.reduceMod, Int.reduceEq, Int.reducePow, Nat.reducePow, decide_eq_true_eq, decide_eq_false_iff_not, eq_self, ne_eq, not_true_eq_false, not_false_eq_true, and_true, true_and, and_false, false_and, and_self, or_true, true_or, or_false, false_or, isT_tt, isT_ss, W.t, W.a, W.m, ca, cb, hy, Bool.true_or, Bool.false_or]
      refine between_ok.imp fun r e => ?_
      subst e
      first | rfl | simp only [OX_some, OX_map, OX_fzf, OX_eV, OX_eK, OX_e1, OX_e2, OX_e3, OX_tb, OX_tru, OX_ite, OX_tand, OX_tor, OX_tnot, OX_eand, OX_eor, OX_enot, OX_eif, OX_a0, OX_aC, OX_etup, OX_elst, OX_eC, OX_eF, OX_eM, OX_sNil, OX_sBk, OX_sCt, OX_sRetN, OX_sq, OX_sIf, OX_sRet, OX_sX, OX_sV, OX_sO, OX_sP, OX_sU, OX_tgn, OX_tgt, OX_sSt, OX_eMM, OX_append, OX_eIs, OX_sFor, OX_sWh, OX_eLc, OX_iR1, OX_iR2, OX_iL, OX_iT, OX_oN, OX_oS, OX_eSl, OX_pE0, OX_pE, OX_eDk, OX_eGet2, OX_eDn, OX_eD0, OX_iI, OX_iB, OX_neg, OX_dEq, OX_dNe, OX_dIs, OX_dIsNot, OX_dIn, OX_dNotIn, OX_inL, OX_inT, OX_catT, OX_catL, OX_ixT, OX_ixL, OX_ixS, OX_slT, OX_slL, OX_lenL, OX_lenT, OX_lenS, OX_max2, OX_min2, OX_intI, OX_intB, OX_tupL, OX_tupT, OX_listL, OX_listT, OX_all, OX_any, OX_strT, OX_truB, OX_truI, OX_truL, OX_truT, OX_truN, OX_rtR_s, OX_rtM_s, frz_v, frz_n, frz_s, toD_lst, toD_dic, toD_dk, dr_v, dr_n, dr_s, ownD_own, vals_nil, vals_v, drs_nil, drs_c, svR_v, svR_own, svR_al, boolR_b, argM_s, ownM_own, slotR_s, ownL_own, valR_v, newR_n, two_2, intD_i, int1_i, int2_i, listD_l, tupD_t, eqD_ii, eqD_ss, eqD_bb, rtR_v, rtR_n, rtM_v, rtM_n, atI_0, atI_1, atI_2, atI_3, atI_4, ixN_0, ixN_1, ixN_2, setAllE, sizeLine_eq, Option.bind_some, Option.map_some, List.getElem?_cons_zero, List.getElem?_cons_succ, List.getElem?_nil, List.set_cons_zero, List.set_cons_succ, List.map_cons, List.map_nil, List.cons_append, List.nil_append, List.append_nil, List.length_cons, List.length_nil, List.replicate_succ, List.replicate_zero, Bool.not_true, Bool.not_false, Bool.false_eq_true, decide_true, decide_false, Nat.reduceAdd, Nat.reduceSub, Nat.reduceEqDiff, Nat.reduceLT, Nat.reduceLeDiff, ↓reduceIte, Int.reduceLT, Int.reduceLE, Int.reduceAdd, Int.reduceSub, Int.reduceMul, Int.reduceNeg, Int.reduceToNat, Int.reduceMod, Int.reduceEq, Int.reducePow, Nat.reducePow, decide_eq_true_eq, decide_eq_false_iff_not, eq_self, ne_eq, not_true_eq_false, not_false_eq_true, and_true, true_and, and_false, false_and, and_self, or_true, true_or, or_false, false_or, Bool.true_and, Bool.false_or]
  · simp only [F_L_is_deed, OX_some, OX_map, OX_fzf, OX_eV, OX_eK, OX_e1, OX_e2, OX_e3, OX_tb, OX_tru, OX_ite, OX_tand, OX_tor, OX_tnot, OX_eand, OX_eor, OX_enot, OX_eif, OX_a0, OX_aC, OX_etup, OX_elst, OX_eC, OX_eF, OX_eM, OX_sNil, OX_sBk, OX_sCt, OX_sRetN, OX_sq, OX_sIf, OX_sRet, OX_sX, OX_sV, OX_sO, OX_sP, OX_sU, OX_tgn, OX_tgt, OX_sSt, OX_eMM, OX_append, OX_eIs, OX_sFor, OX_sWh, OX_eLc, OX_iR1, OX_iR2, OX_iL, OX_iT, OX_oN, OX_oS, OX_eSl, OX_pE0, OX_pE, OX_eDk, OX_eGet2, OX_eDn, OX_eD0, OX_iI, OX_iB, OX_neg, OX_dEq, OX_dNe, OX_dIs, OX_dIsNot, OX_dIn, OX_dNotIn, OX_inL, OX_inT, OX_catT, OX_catL, OX_ixT, OX_ixL, OX_ixS, OX_slT, OX_slL, OX_lenL, OX_lenT, OX_lenS, OX_max2, OX_min2, OX_intI, OX_intB, OX_tupL, OX_tupT, OX_listL, OX_listT, OX_all, OX_any, OX_strT, OX_truB, OX_truI, OX_truL, OX_truT, OX_truN, OX_rtR_s, OX_rtM_s, frz_v, frz_n, frz_s, toD_lst, toD_dic, toD_dk, dr_v, dr_n, dr_s, ownD_own, vals_nil, vals_v, drs_nil, drs_c, svR_v, svR_own, svR_al, boolR_b, argM_s, ownM_own, slotR_s, ownL_own, valR_v, newR_n, two_2, intD_i, int1_i, int2_i, listD_l, tupD_t, eqD_ii, eqD_ss, eqD_bb, rtR_v, rtR_n, rtM_v, rtM_n, atI_0, atI_1, atI_2, atI_3, atI_4, ixN_0, ixN_1, ixN_2, setAllE, sizeLine_eq, Option.bind_some, Option.map_some, List.getElem?_cons_zero, List.getElem?_cons_succ, List.getElem?_nil, List.set_cons_zero, List.set_cons_succ, List.map_cons, List.map_nil, List.cons_append, List.nil_append, List.append_nil, List.length_cons, List.length_nil, List.replicate_succ, List.replicate_zero, Bool.not_true, Bool.not_false, Bool.false_eq_true, decide_true, decide_false, Nat.reduceAdd, Nat.reduceSub, Nat.reduceEqDiff, Nat.reduceLT, Nat.reduceLeDiff, ↓reduceIte, Int.reduceLT, Int.reduceLE, Int.reduceAdd, Int.reduceSub, Int.reduceMul, Int.reduceNeg, Int.reduceToNat, Int.reduceMod, Int.reduceEq, Int.reducePow, Nat.reducePow, decide_eq_true_eq, decide_eq_false_iff_not, eq_self, ne_eq, not_true_eq_false, not_false_eq_true, and_true, true_and, and_false, false_and, and_self, or_true, true_or, or_false, false_or, isT_tt, isT_ss, edk7, sizes_td, get2_ok, W.z, ca, cb]
    try
      refine whole_ok.imp fun r e => ?_
      subst e
      cases hb : inB x 0 (n - 1) <;> simp only [OX_some, OX_map, OX_fzf, OX_eV, OX_eK, OX_e1, OX_e2, OX_e3, OX_tb, OX_tru, OX_ite, OX_tand, OX_tor, OX_tnot, OX_eand, OX_eor, OX_enot, OX_eif, OX_a0, OX_aC, OX_etup, OX_elst, OX_eC, OX_eF, OX_eM, OX_sNil, OX_sBk, OX_sCt, OX_sRetN, OX_sq, OX_sIf, OX_sRet, OX_sX, OX_sV, OX_sO, OX_sP, OX_sU, OX_tgn, OX_tgt, OX_sSt, OX_eMM, OX_append, OX_eIs, OX_sFor, OX_sWh, OX_eLc, OX_iR1, OX_iR2, OX_iL, OX_iT, OX_oN, OX_oS, OX_eSl, OX_pE0, OX_pE, OX_eDk, OX_eGet2, OX_eDn, OX_eD0, OX_iI, OX_iB, OX_neg, OX_dEq, OX_dNe, OX_dIs, OX_dIsNot, OX_dIn, OX_dNotIn, OX_inL, OX_inT, OX_catT, OX_catL, OX_ixT, OX_ixL, OX_ixS, OX_slT, OX_slL, OX_lenL, OX_lenT, OX_lenS, OX_max2, OX_min2, OX_intI, OX_intB, OX_tupL, OX_tupT, OX_listL, OX_listT, OX_all, OX_any, OX_strT, OX_truB, OX_truI, OX_truL, OX_truT, OX_truN, OX_rtR_s, OX_rtM_s, frz_v, frz_n, frz_s, toD_lst, toD_dic, toD_dk, dr_v, dr_n, dr_s, ownD_own, vals_nil, vals_v, drs_nil, drs_c, svR_v, svR_own, svR_al, boolR_b, argM_s, ownM_own, slotR_s, ownL_own, valR_v, newR_n, two_2, intD_i, int1_i, int2_i, listD_l, tupD_t, eqD_ii, eqD_ss, eqD_bb, rtR_v, rtR_n, rtM_v, rtM_n, atI_0, atI_1, atI_2, atI_3, atI_4, ixN_0, ixN_1, ixN_2, setAllE, sizeLine_eq, Option.bind_some, Option.map_some, List.getElem?_cons_zero, List.getElem?_cons_succ, List.getElem?_nil, List.set_cons_zero, List.set_cons_succ, List.map_cons, List.map_nil, List.cons_append, List.nil_append, List.append_nil, List.length_cons, List.length_nil, List.replicate_succ, List.replicate_zero, Bool.not_true, Bool.not_false, Bool.false_eq_true, decide_true, decide_false, Nat.reduceAdd, Nat.reduceSub, Nat.reduceEqDiff, Nat.reduceLT, Nat.reduceLeDiff, ↓reduceIte, Int.reduceLT, Int.reduceLE, Int.reduceAdd, Int.reduceSub, Int.reduceMul, Int.reduceNeg, Int.reduceToNat, Int.reduceMod, Int.reduceEq, Int.reducePow, Nat.reducePow, decide_eq_true_eq, decide_eq_false_iff_not, eq_self, ne_eq, not_true_eq_false, not_false_eq_true, and_true, true_and, and_false, false_and, and_self, or_true, true_or, or_false, false_or, isT_tt, isT_ss, ca, cb, hb, Bool.true_and, Bool.false_and]
    try
      cases hy : isN y <;> simp only [OX_some, OX_map, OX_fzf, OX_eV, OX_eK, OX_e1, OX_e2, OX_e3, OX_tb, OX_tru, OX_ite, OX_tand, OX_tor, OX_tnot, OX_eand, OX_eor, OX_enot, OX_eif, OX_a0, OX_aC, OX_etup, OX_elst, OX_eC, OX_eF, OX_eM, OX_sNil, OX_sBk, OX_sCt, OX_sRetN, OX_sq, OX_sIf, OX_sRet, OX_sX, OX_sV, OX_sO, OX_sP, OX_sU, OX_tgn, OX_tgt, OX_sSt, OX_eMM, OX_append, OX_eIs, OX_sFor, OX_sWh, OX_eLc, OX_iR1, OX_iR2, OX_iL, OX_iT, OX_oN, OX_oS, OX_eSl, OX_pE0, OX_pE, OX_eDk, OX_eGet2, OX_eDn, OX_eD0, OX_iI, OX_iB, OX_neg, OX_dEq, OX_dNe, OX_dIs, OX_dIsNot, OX_dIn, OX_dNotIn, OX_inL, OX_inT, OX_catT, OX_catL, OX_ixT, OX_ixL, OX_ixS, OX_slT, OX_slL, OX_lenL, OX_lenT, OX_lenS, OX_max2, OX_min2, OX_intI, OX_intB, OX_tupL, OX_tupT, OX_listL, OX_listT, OX_all, OX_any, OX_strT, OX_truB, OX_truI, OX_truL, OX_truT, OX_truN, OX_rtR_s, OX_rtM_s, frz_v, frz_n, frz_s, toD_lst, toD_dic, toD_dk, dr_v, dr_n, dr_s, ownD_own, vals_nil, vals_v, drs_nil, drs_c, svR_v, svR_own, svR_al, boolR_b, argM_s, ownM_own, slotR_s, ownL_own, valR_v, newR_n, two_2, intD_i, int1_i, int2_i, listD_l, tupD_t, eqD_ii, eqD_ss, eqD_bb, rtR_v, rtR_n, rtM_v, rtM_n, atI_0, atI_1, atI_2, atI_3, atI_4, ixN_0, ixN_1, ixN_2, setAllE, sizeLine_eq, Option.bind_some, Option.map_some, List.getElem?_cons_zero, List.getElem?_cons_succ, List.getElem?_nil, List.set_cons_zero, List.set_cons_succ, List.map_cons, List.map_nil, List.cons_append, List.nil_append, List.append_nil, List.length_cons, List.length_nil, List.replicate_succ, List.replicate_zero, Bool.not_true, Bool.not_false, Bool.false_eq_true, decide_true, decide_false, Nat.reduceAdd, Nat.reduceSub, Nat.reduceEqDiff, Nat.reduceLT, Nat.reduceLeDiff, ↓reduceIte, Int.reduceLT, Int.reduceLE, Int.reduceAdd, Int.reduceSub, Int.reduceMul, Int.reduceNeg, Int.reduceToNat, Int.reduceMod, Int.reduceEq, Int.reducePow, Nat.reducePow, decide_eq_true_eq, decide_eq_false_iff_not, eq_self, ne_eq, not_true_eq_false, not_false_eq_true, and_true, true_and, and_false, false_and, and_self, or_true, true_or, or_false, false_or, isT_tt, isT_ss, ca, cb, hy, Bool.true_or, Bool.false_or]
      refine whole_ok.imp fun r e => ?_
      subst e
      first | rfl | simp only [OX_some, OX_map, OX_fzf, OX_eV, OX_eK, OX_e1, OX_e2, OX_e3, OX_tb, OX_tru, OX_ite, OX_tand, OX_tor, OX_tnot, OX_eand, OX_eor, OX_enot, OX_eif, OX_a0, OX_aC, OX_etup, OX_elst, OX_eC, OX_eF, OX_eM, OX_sNil, OX_sBk, OX_sCt, OX_sRetN, OX_sq, OX_sIf, OX_sRet, OX_sX, OX_sV, OX_sO, OX_sP, OX_sU, OX_tgn, OX_tgt, OX_sSt, OX_eMM, OX_append, OX_eIs, OX_sFor, OX_sWh, OX_eLc, OX_iR1, OX_iR2, OX_iL, OX_iT, OX_oN, OX_oS, OX_eSl, OX_pE0, OX_pE, OX_eDk, OX_eGet2, OX_eDn, OX_eD0, OX_iI, OX_iB, OX_neg, OX_dEq, OX_dNe, OX_dIs, OX_dIsNot, OX_dIn, OX_dNotIn, OX_inL, OX_inT, OX_catT, OX_catL, OX_ixT, OX_ixL, OX_ixS, OX_slT, OX_slL, OX_lenL, OX_lenT, OX_lenS, OX_max2, OX_min2, OX_intI, OX_intB, OX_tupL, OX_tupT, OX_listL, OX_listT, OX_all, OX_any, OX_strT, OX_truB, OX_truI, OX_truL, OX_truT, OX_truN, OX_rtR_s, OX_rtM_s, frz_v, frz_n, frz_s, toD_lst, toD_dic, toD_dk, dr_v, dr_n, dr_s, ownD_own, vals_nil, vals_v, drs_nil, drs_c, svR_v, svR_own, svR_al, boolR_b, argM_s, ownM_own, slotR_s, ownL_own, valR_v, newR_n, two_2, intD_i, int1_i, int2_i, listD_l, tupD_t, eqD_ii, eqD_ss, eqD_bb, rtR_v, rtR_n, rtM_v, rtM_n, atI_0, atI_1, atI_2, atI_3, atI_4, ixN_0, ixN_1, ixN_2, setAllE, sizeLine_eq, Option.bind_some, Option.map_some, List.getElem?_cons_zero, List.getElem?_cons_succ, List.getElem?_nil, List.set_cons_zero, List.set_cons_succ, List.map_cons, List.map_nil, List.cons_append, List.nil_append, List.append_nil, List.length_cons, List.length_nil, List.replicate_succ, List.replicate_zero, Bool.not_true, Bool.not_false, Bool.false_eq_true, decide_true, decide_false, Nat.reduceAdd, Nat.reduceSub, Nat.reduceEqDiff, Nat.reduceLT, Nat.reduceLeDiff, ↓reduceIte, Int.reduceLT, Int.reduceLE, Int.reduceAdd, Int.reduceSub, Int.reduceMul, Int.reduceNeg, Int.reduceToNat, Int.reduceMod, Int.reduceEq, Int.reducePow, Nat.reducePow, decide_eq_true_eq, decide_eq_false_iff_not, eq_self, ne_eq, not_true_eq_false, not_false_eq_true, and_true, true_and, and_false, false_and, and_self, or_true, true_or, or_false, false_or, Bool.true_and, Bool.false_or]
theorem d_32 {n : Int} {w : Str} {x y : D} (W : WF w false false false 0) : OX (D_is_deed [.int n, .tuple [.str w, x, y]]) (fun r => r = .v (.bool (false))) ∧ OX (D_L_is_deed [.int n, .tuple [.str w, x, y]]) fun r => r = .v (.bool (false)) := by
  refine ⟨OX.defF rfl ?_, OX.defF rfl ?_⟩
  · simp only [F_is_deed, OX_some, OX_map, OX_fzf, OX_eV, OX_eK, OX_e1, OX_e2, OX_e3, OX_tb, OX_tru, OX_ite, OX_tand, OX_tor, OX_tnot, OX_eand, OX_eor, OX_enot, OX_eif, OX_a0, OX_aC, OX_etup, OX_elst, OX_eC, OX_eF, OX_eM, OX_sNil, OX_sBk, OX_sCt, OX_sRetN, OX_sq, OX_sIf, OX_sRet, OX_sX, OX_sV, OX_sO, OX_sP, OX_sU, OX_tgn, OX_tgt, OX_sSt, OX_eMM, OX_append, OX_eIs, OX_sFor, OX_sWh, OX_eLc, OX_iR1, OX_iR2, OX_iL, OX_iT, OX_oN, OX_oS, OX_eSl, OX_pE0, OX_pE, OX_eDk, OX_eGet2, OX_eDn, OX_eD0, OX_iI, OX_iB, OX_neg, OX_dEq, OX_dNe, OX_dIs, OX_dIsNot, OX_dIn, OX_dNotIn, OX_inL, OX_inT, OX_catT, OX_catL, OX_ixT, OX_ixL, OX_ixS, OX_slT, OX_slL, OX_lenL, OX_lenT, OX_lenS, OX_max2, OX_min2, OX_intI, OX_intB, OX_tupL, OX_tupT, OX_listL, OX_listT, OX_all, OX_any, OX_strT, OX_truB, OX_truI, OX_truL, OX_truT, OX_truN, OX_rtR_s, OX_rtM_s, frz_v, frz_n, frz_s, toD_lst, toD_dic, toD_dk, dr_v, dr_n, dr_s, ownD_own, vals_nil, vals_v, drs_nil, drs_c, svR_v, svR_own, svR_al, boolR_b, argM_s, ownM_own, slotR_s, ownL_own, valR_v, newR_n, two_2, intD_i, int1_i, int2_i, listD_l, tupD_t, eqD_ii, eqD_ss, eqD_bb, rtR_v, rtR_n, rtM_v, rtM_n, atI_0, atI_1, atI_2, atI_3, atI_4, ixN_0, ixN_1, ixN_2, setAllE, sizeLine_eq, Option.bind_some, Option.map_some, List.getElem?_cons_zero, List.getElem?_cons_succ, List.getElem?_nil, List.set_cons_zero, List.set_cons_succ, List.map_cons, List.map_nil, List.cons_append, List.nil_append, List.append_nil, List.length_cons, List.length_nil, List.replicate_succ, List.replicate_zero, Bool.not_true, Bool.not_false, Bool.false_eq_true, decide_true, decide_false, Nat.reduceAdd, Nat.reduceSub, Nat.reduceEqDiff, Nat.reduceLT, Nat.reduceLeDiff, ↓reduceIte, Int.reduceLT, Int.reduceLE, Int.reduceAdd, Int.reduceSub, Int.reduceMul, Int.reduceNeg, Int.reduceToNat, Int.reduceMod, Int.reduceEq, Int.reducePow, Nat.reducePow, decide_eq_true_eq, decide_eq_false_iff_not, eq_self, ne_eq, not_true_eq_false, not_false_eq_true, and_true, true_and, and_false, false_and, and_self, or_true, true_or, or_false, false_or, isT_tt, isT_ss, W.t, W.a, W.m, ca, cb]
    try
      refine between_ok.imp fun r e => ?_
      subst e
      cases hb : inB x 0 (n - 1) <;> simp only [OX_some, OX_map, OX_fzf, OX_eV, OX_eK, OX_e1, OX_e2, OX_e3, OX_tb, OX_tru, OX_ite, OX_tand, OX_tor, OX_tnot, OX_eand, OX_eor, OX_enot, OX_eif, OX_a0, OX_aC, OX_etup, OX_elst, OX_eC, OX_eF, OX_eM, OX_sNil, OX_sBk, OX_sCt, OX_sRetN, OX_sq, OX_sIf, OX_sRet, OX_sX, OX_sV, OX_sO, OX_sP, OX_sU, OX_tgn, OX_tgt, OX_sSt, OX_eMM, OX_append, OX_eIs, OX_sFor, OX_sWh, OX_eLc, OX_iR1, OX_iR2, OX_iL, OX_iT, OX_oN, OX_oS, OX_eSl, OX_pE0, OX_pE, OX_eDk, OX_eGet2, OX_eDn, OX_eD0, OX_iI, OX_iB, OX_neg, OX_dEq, OX_dNe, OX_dIs, OX_dIsNot, OX_dIn, OX_dNotIn, OX_inL, OX_inT, OX_catT, OX_catL, OX_ixT, OX_ixL, OX_ixS, OX_slT, OX_slL, OX_lenL, OX_lenT, OX_lenS, OX_max2, OX_min2, OX_intI, OX_intB, OX_tupL, OX_tupT, OX_listL, OX_listT, OX_all, OX_any, OX_strT, OX_truB, OX_truI, OX_truL, OX_truT, OX_truN, OX_rtR_s, OX_rtM_s, frz_v, frz_n, frz_s, toD_lst, toD_dic, toD_dk, dr_v, dr_n, dr_s, ownD_own, vals_nil, vals_v, drs_nil, drs_c, svR_v, svR_own, svR_al, boolR_b, argM_s, ownM_own, slotR_s, ownL_own, valR_v, newR_n, two_2, intD_i, int1_i, int2_i, listD_l, tupD_t, eqD_ii, eqD_ss, eqD_bb, rtR_v, rtR_n, rtM_v, rtM_n, atI_0, atI_1, atI_2, atI_3, atI_4, ixN_0, ixN_1, ixN_2, setAllE, sizeLine_eq, Option.bind_some, Option.map_some, List.getElem?_cons_zero, List.getElem?_cons_succ, List.getElem?_nil, List.set_cons_zero, List.set_cons_succ, List.map_cons, List.map_nil, List.cons_append, List.nil_append, List.append_nil, List.length_cons, List.length_nil, List.replicate_succ, List.replicate_zero, Bool.not_true, Bool.not_false, Bool.false_eq_true, decide_true, decide_false, Nat.reduceAdd, Nat.reduceSub, Nat.reduceEqDiff, Nat.reduceLT, Nat.reduceLeDiff, ↓reduceIte, Int.reduceLT, Int.reduceLE, Int.reduceAdd, Int.reduceSub, Int.reduceMul, Int.reduceNeg, Int.reduceToNat, Int.reduceMod, Int.reduceEq, Int.reducePow, Nat.reducePow, decide_eq_true_eq, decide_eq_false_iff_not, eq_self, ne_eq, not_true_eq_false, not_false_eq_true, and_true, true_and, and_false, false_and, and_self, or_true, true_or, or_false, false_or, isT_tt, isT_ss, W.t, W.a, W.m, ca, cb, hb, Bool.true_and, Bool.false_and]
    try
      cases hy : isN y <;> simp only [OX_some, OX_map, OX_fzf, OX_eV, OX_eK, OX_e1, OX_e2, OX_e3, OX_tb, OX_tru, OX_ite, OX_tand, OX_tor, OX_tnot, OX_eand, OX_eor, OX_enot, OX_eif, OX_a0, OX_aC, OX_etup, OX_elst, OX_eC, OX_eF, OX_eM, OX_sNil, OX_sBk, OX_sCt, OX_sRetN, OX_sq, OX_sIf, OX_sRet, OX_sX, OX_sV, OX_sO, OX_sP, OX_sU, OX_tgn, OX_tgt, OX_sSt, OX_eMM, OX_append, OX_eIs, OX_sFor, OX_sWh, OX_eLc, OX_iR1, OX_iR2, OX_iL, OX_iT, OX_oN, OX_oS, OX_eSl, OX_pE0, OX_pE, OX_eDk, OX_eGet2, OX_eDn, OX_eD0, OX_iI, OX_iB, OX_neg, OX_dEq, OX_dNe, OX_dIs, OX_dIsNot, OX_dIn, OX_dNotIn, OX_inL, OX_inT, OX_catT, OX_catL, OX_ixT, OX_ixL, OX_ixS, OX_slT, OX_slL, OX_lenL, OX_lenT, OX_lenS, OX_max2, OX_min2, OX_intI, OX_intB, OX_tupL, OX_tupT, OX_listL, OX_listT, OX_all, OX_any, OX_strT, OX_truB, OX_truI, OX_truL, OX_truT, OX_truN, OX_rtR_s, OX_rtM_s, frz_v, frz_n, frz_s, toD_lst, toD_dic, toD_dk, dr_v, dr_n, dr_s, ownD_own, vals_nil, vals_v, drs_nil, drs_c, svR_v, svR_own, svR_al, boolR_b, argM_s, ownM_own, slotR_s, ownL_own, valR_v, newR_n, two_2, intD_i, int1_i, int2_i, listD_l, tupD_t, eqD_ii, eqD_ss, eqD_bb, rtR_v, rtR_n, rtM_v, rtM_n, atI_0, atI_1, atI_2, atI_3, atI_4, ixN_0, ixN_1, ixN_2, setAllE, sizeLine_eq, Option.bind_some, Option.map_some, List.getElem?_cons_zero, List.getElem?_cons_succ, List.getElem?_nil, List.set_cons_zero, List.set_cons_succ, List.map_cons, List.map_nil, List.cons_append, List.nil_append, List.append_nil, List.length_cons, List.length_nil, List.replicate_succ, List.replicate_zero, Bool.not_true, Bool.not_false, Bool.false_eq_true, decide_true, decide_false, Nat.reduceAdd, Nat.reduceSub, Nat.reduceEqDiff, Nat.reduceLT, Nat.reduceLeDiff, ↓reduceIte, Int.reduceLT, Int.reduceLE, Int.reduceAdd, Int.reduceSub, Int.reduceMul, Int.reduceNeg, Int.reduceToNat, Int.reduceMod, Int.reduceEq, Int.reducePow, Nat.reducePow, decide_eq_true_eq, decide_eq_false_iff_not, eq_self, ne_eq, not_true_eq_false, not_false_eq_true, and_true, true_and, and_false, false_and, and_self, or_true, true_or, or_false, false_or, isT_tt, isT_ss, W.t, W.a, W.m, ca, cb, hy, Bool.true_or, Bool.false_or]
      refine between_ok.imp fun r e => ?_
      subst e
      first | rfl | simp only [OX_some, OX_map, OX_fzf, OX_eV, OX_eK, OX_e1, OX_e2, OX_e3, OX_tb, OX_tru, OX_ite, OX_tand, OX_tor, OX_tnot, OX_eand, OX_eor, OX_enot, OX_eif, OX_a0, OX_aC, OX_etup, OX_elst, OX_eC, OX_eF, OX_eM, OX_sNil, OX_sBk, OX_sCt, OX_sRetN, OX_sq, OX_sIf, OX_sRet, OX_sX, OX_sV, OX_sO, OX_sP, OX_sU, OX_tgn, OX_tgt, OX_sSt, OX_eMM, OX_append, OX_eIs, OX_sFor, OX_sWh, OX_eLc, OX_iR1, OX_iR2, OX_iL, OX_iT, OX_oN, OX_oS, OX_eSl, OX_pE0, OX_pE, OX_eDk, OX_eGet2, OX_eDn, OX_eD0, OX_iI, OX_iB, OX_neg, OX_dEq, OX_dNe, OX_dIs, OX_dIsNot, OX_dIn, OX_dNotIn, OX_inL, OX_inT, OX_catT, OX_catL, OX_ixT, OX_ixL, OX_ixS, OX_slT, OX_slL, OX_lenL, OX_lenT, OX_lenS, OX_max2, OX_min2, OX_intI, OX_intB, OX_tupL, OX_tupT, OX_listL, OX_listT, OX_all, OX_any, OX_strT, OX_truB, OX_truI, OX_truL, OX_truT, OX_truN, OX_rtR_s, OX_rtM_s, frz_v, frz_n, frz_s, toD_lst, toD_dic, toD_dk, dr_v, dr_n, dr_s, ownD_own, vals_nil, vals_v, drs_nil, drs_c, svR_v, svR_own, svR_al, boolR_b, argM_s, ownM_own, slotR_s, ownL_own, valR_v, newR_n, two_2, intD_i, int1_i, int2_i, listD_l, tupD_t, eqD_ii, eqD_ss, eqD_bb, rtR_v, rtR_n, rtM_v, rtM_n, atI_0, atI_1, atI_2, atI_3, atI_4, ixN_0, ixN_1, ixN_2, setAllE, sizeLine_eq, Option.bind_some, Option.map_some, List.getElem?_cons_zero, List.getElem?_cons_succ, List.getElem?_nil, List.set_cons_zero, List.set_cons_succ, List.map_cons, List.map_nil, List.cons_append, List.nil_append, List.append_nil, List.length_cons, List.length_nil, List.replicate_succ, List.replicate_zero, Bool.not_true, Bool.not_false, Bool.false_eq_true, decide_true, decide_false, Nat.reduceAdd, Nat.reduceSub, Nat.reduceEqDiff, Nat.reduceLT, Nat.reduceLeDiff, ↓reduceIte, Int.reduceLT, Int.reduceLE, Int.reduceAdd, Int.reduceSub, Int.reduceMul, Int.reduceNeg, Int.reduceToNat, Int.reduceMod, Int.reduceEq, Int.reducePow, Nat.reducePow, decide_eq_true_eq, decide_eq_false_iff_not, eq_self, ne_eq, not_true_eq_false, not_false_eq_true, and_true, true_and, and_false, false_and, and_self, or_true, true_or, or_false, false_or, Bool.true_and, Bool.false_or]
  · simp only [F_L_is_deed, OX_some, OX_map, OX_fzf, OX_eV, OX_eK, OX_e1, OX_e2, OX_e3, OX_tb, OX_tru, OX_ite, OX_tand, OX_tor, OX_tnot, OX_eand, OX_eor, OX_enot, OX_eif, OX_a0, OX_aC, OX_etup, OX_elst, OX_eC, OX_eF, OX_eM, OX_sNil, OX_sBk, OX_sCt, OX_sRetN, OX_sq, OX_sIf, OX_sRet, OX_sX, OX_sV, OX_sO, OX_sP, OX_sU, OX_tgn, OX_tgt, OX_sSt, OX_eMM, OX_append, OX_eIs, OX_sFor, OX_sWh, OX_eLc, OX_iR1, OX_iR2, OX_iL, OX_iT, OX_oN, OX_oS, OX_eSl, OX_pE0, OX_pE, OX_eDk, OX_eGet2, OX_eDn, OX_eD0, OX_iI, OX_iB, OX_neg, OX_dEq, OX_dNe, OX_dIs, OX_dIsNot, OX_dIn, OX_dNotIn, OX_inL, OX_inT, OX_catT, OX_catL, OX_ixT, OX_ixL, OX_ixS, OX_slT, OX_slL, OX_lenL, OX_lenT, OX_lenS, OX_max2, OX_min2, OX_intI, OX_intB, OX_tupL, OX_tupT, OX_listL, OX_listT, OX_all, OX_any, OX_strT, OX_truB, OX_truI, OX_truL, OX_truT, OX_truN, OX_rtR_s, OX_rtM_s, frz_v, frz_n, frz_s, toD_lst, toD_dic, toD_dk, dr_v, dr_n, dr_s, ownD_own, vals_nil, vals_v, drs_nil, drs_c, svR_v, svR_own, svR_al, boolR_b, argM_s, ownM_own, slotR_s, ownL_own, valR_v, newR_n, two_2, intD_i, int1_i, int2_i, listD_l, tupD_t, eqD_ii, eqD_ss, eqD_bb, rtR_v, rtR_n, rtM_v, rtM_n, atI_0, atI_1, atI_2, atI_3, atI_4, ixN_0, ixN_1, ixN_2, setAllE, sizeLine_eq, Option.bind_some, Option.map_some, List.getElem?_cons_zero, List.getElem?_cons_succ, List.getElem?_nil, List.set_cons_zero, List.set_cons_succ, List.map_cons, List.map_nil, List.cons_append, List.nil_append, List.append_nil, List.length_cons, List.length_nil, List.replicate_succ, List.replicate_zero, Bool.not_true, Bool.not_false, Bool.false_eq_true, decide_true, decide_false, Nat.reduceAdd, Nat.reduceSub, Nat.reduceEqDiff, Nat.reduceLT, Nat.reduceLeDiff, ↓reduceIte, Int.reduceLT, Int.reduceLE, Int.reduceAdd, Int.reduceSub, Int.reduceMul, Int.reduceNeg, Int.reduceToNat, Int.reduceMod, Int.reduceEq, Int.reducePow, Nat.reducePow, decide_eq_true_eq, decide_eq_false_iff_not, eq_self, ne_eq, not_true_eq_false, not_false_eq_true, and_true, true_and, and_false, false_and, and_self, or_true, true_or, or_false, false_or, isT_tt, isT_ss, edk7, sizes_td, get2_ok, W.z, ca, cb]
    try
      refine whole_ok.imp fun r e => ?_
      subst e
      cases hb : inB x 0 (n - 1) <;> simp only [OX_some, OX_map, OX_fzf, OX_eV, OX_eK, OX_e1, OX_e2, OX_e3, OX_tb, OX_tru, OX_ite, OX_tand, OX_tor, OX_tnot, OX_eand, OX_eor, OX_enot, OX_eif, OX_a0, OX_aC, OX_etup, OX_elst, OX_eC, OX_eF, OX_eM, OX_sNil, OX_sBk, OX_sCt, OX_sRetN, OX_sq, OX_sIf, OX_sRet, OX_sX, OX_sV, OX_sO, OX_sP, OX_sU, OX_tgn, OX_tgt, OX_sSt, OX_eMM, OX_append, OX_eIs, OX_sFor, OX_sWh, OX_eLc, OX_iR1, OX_iR2, OX_iL, OX_iT, OX_oN, OX_oS, OX_eSl, OX_pE0, OX_pE, OX_eDk, OX_eGet2, OX_eDn, OX_eD0, OX_iI, OX_iB, OX_neg, OX_dEq, OX_dNe, OX_dIs, OX_dIsNot, OX_dIn, OX_dNotIn, OX_inL, OX_inT, OX_catT, OX_catL, OX_ixT, OX_ixL, OX_ixS, OX_slT, OX_slL, OX_lenL, OX_lenT, OX_lenS, OX_max2, OX_min2, OX_intI, OX_intB, OX_tupL, OX_tupT, OX_listL, OX_listT, OX_all, OX_any, OX_strT, OX_truB, OX_truI, OX_truL, OX_truT, OX_truN, OX_rtR_s, OX_rtM_s, frz_v, frz_n, frz_s, toD_lst, toD_dic, toD_dk, dr_v, dr_n, dr_s, ownD_own, vals_nil, vals_v, drs_nil, drs_c, svR_v, svR_own, svR_al, boolR_b, argM_s, ownM_own, slotR_s, ownL_own, valR_v, newR_n, two_2, intD_i, int1_i, int2_i, listD_l, tupD_t, eqD_ii, eqD_ss, eqD_bb, rtR_v, rtR_n, rtM_v, rtM_n, atI_0, atI_1, atI_2, atI_3, atI_4, ixN_0, ixN_1, ixN_2, setAllE, sizeLine_eq, Option.bind_some, Option.map_some, List.getElem?_cons_zero, List.getElem?_cons_succ, List.getElem?_nil, List.set_cons_zero, List.set_cons_succ, List.map_cons, List.map_nil, List.cons_append, List.nil_append, List.append_nil, List.length_cons, List.length_nil, List.replicate_succ, List.replicate_zero, Bool.not_true, Bool.not_false, Bool.false_eq_true, decide_true, decide_false, Nat.reduceAdd, Nat.reduceSub, Nat.reduceEqDiff, Nat.reduceLT, Nat.reduceLeDiff, ↓reduceIte, Int.reduceLT, Int.reduceLE, Int.reduceAdd, Int.reduceSub, Int.reduceMul, Int.reduceNeg, Int.reduceToNat, Int.reduceMod, Int.reduceEq, Int.reducePow, Nat.reducePow, decide_eq_true_eq, decide_eq_false_iff_not, eq_self, ne_eq, not_true_eq_false, not_false_eq_true, and_true, true_and, and_false, false_and, and_self, or_true, true_or, or_false, false_or, isT_tt, isT_ss, ca, cb, hb, Bool.true_and, Bool.false_and]
    try
      cases hy : isN y <;> simp only [OX_some, OX_map, OX_fzf, OX_eV, OX_eK, OX_e1, OX_e2, OX_e3, OX_tb, OX_tru, OX_ite, OX_tand, OX_tor, OX_tnot, OX_eand, OX_eor, OX_enot, OX_eif, OX_a0, OX_aC, OX_etup, OX_elst, OX_eC, OX_eF, OX_eM, OX_sNil, OX_sBk, OX_sCt, OX_sRetN, OX_sq, OX_sIf, OX_sRet, OX_sX, OX_sV, OX_sO, OX_sP, OX_sU, OX_tgn, OX_tgt, OX_sSt, OX_eMM, OX_append, OX_eIs, OX_sFor, OX_sWh, OX_eLc, OX_iR1, OX_iR2, OX_iL, OX_iT, OX_oN, OX_oS, OX_eSl, OX_pE0, OX_pE, OX_eDk, OX_eGet2, OX_eDn, OX_eD0, OX_iI, OX_iB, OX_neg, OX_dEq, OX_dNe, OX_dIs, OX_dIsNot, OX_dIn, OX_dNotIn, OX_inL, OX_inT, OX_catT, OX_catL, OX_ixT, OX_ixL, OX_ixS, OX_slT, OX_slL, OX_lenL, OX_lenT, OX_lenS, OX_max2, OX_min2, OX_intI, OX_intB, OX_tupL, OX_tupT, OX_listL, OX_listT, OX_all, OX_any, OX_strT, OX_truB, OX_truI, OX_truL, OX_truT, OX_truN, OX_rtR_s, OX_rtM_s, frz_v, frz_n, frz_s, toD_lst, toD_dic, toD_dk, dr_v, dr_n, dr_s, ownD_own, vals_nil, vals_v, drs_nil, drs_c, svR_v, svR_own, svR_al, boolR_b, argM_s, ownM_own, slotR_s, ownL_own, valR_v, newR_n, two_2, intD_i, int1_i, int2_i, listD_l, tupD_t, eqD_ii, eqD_ss, eqD_bb, rtR_v, rtR_n, rtM_v, rtM_n, atI_0, atI_1, atI_2, atI_3, atI_4, ixN_0, ixN_1, ixN_2, setAllE, sizeLine_eq, Option.bind_some, Option.map_some, List.getElem?_cons_zero, List.getElem?_cons_succ, List.getElem?_nil, List.set_cons_zero, List.set_cons_succ, List.map_cons, List.map_nil, List.cons_append, List.nil_append, List.append_nil, List.length_cons, List.length_nil, List.replicate_succ, List.replicate_zero, Bool.not_true, Bool.not_false, Bool.false_eq_true, decide_true, decide_false, Nat.reduceAdd, Nat.reduceSub, Nat.reduceEqDiff, Nat.reduceLT, Nat.reduceLeDiff, ↓reduceIte, Int.reduceLT, Int.reduceLE, Int.reduceAdd, Int.reduceSub, Int.reduceMul, Int.reduceNeg, Int.reduceToNat, Int.reduceMod, Int.reduceEq, Int.reducePow, Nat.reducePow, decide_eq_true_eq, decide_eq_false_iff_not, eq_self, ne_eq, not_true_eq_false, not_false_eq_true, and_true, true_and, and_false, false_and, and_self, or_true, true_or, or_false, false_or, isT_tt, isT_ss, ca, cb, hy, Bool.true_or, Bool.false_or]
      refine whole_ok.imp fun r e => ?_
      subst e
      first | rfl | simp only [OX_some, OX_map, OX_fzf, OX_eV, OX_eK, OX_e1, OX_e2, OX_e3, OX_tb, OX_tru, OX_ite, OX_tand, OX_tor, OX_tnot, OX_eand, OX_eor, OX_enot, OX_eif, OX_a0, OX_aC, OX_etup, OX_elst, OX_eC, OX_eF, OX_eM, OX_sNil, OX_sBk, OX_sCt, OX_sRetN, OX_sq, OX_sIf, OX_sRet, OX_sX, OX_sV, OX_sO, OX_sP, OX_sU, OX_tgn, OX_tgt, OX_sSt, OX_eMM, OX_append, OX_eIs, OX_sFor, OX_sWh, OX_eLc, OX_iR1, OX_iR2, OX_iL, OX_iT, OX_oN, OX_oS, OX_eSl, OX_pE0, OX_pE, OX_eDk, OX_eGet2, OX_eDn, OX_eD0, OX_iI, OX_iB, OX_neg, OX_dEq, OX_dNe, OX_dIs, OX_dIsNot, OX_dIn, OX_dNotIn, OX_inL, OX_inT, OX_catT, OX_catL, OX_ixT, OX_ixL, OX_ixS, OX_slT, OX_slL, OX_lenL, OX_lenT, OX_lenS, OX_max2, OX_min2, OX_intI, OX_intB, OX_tupL, OX_tupT, OX_listL, OX_listT, OX_all, OX_any, OX_strT, OX_truB, OX_truI, OX_truL, OX_truT, OX_truN, OX_rtR_s, OX_rtM_s, frz_v, frz_n, frz_s, toD_lst, toD_dic, toD_dk, dr_v, dr_n, dr_s, ownD_own, vals_nil, vals_v, drs_nil, drs_c, svR_v, svR_own, svR_al, boolR_b, argM_s, ownM_own, slotR_s, ownL_own, valR_v, newR_n, two_2, intD_i, int1_i, int2_i, listD_l, tupD_t, eqD_ii, eqD_ss, eqD_bb, rtR_v, rtR_n, rtM_v, rtM_n, atI_0, atI_1, atI_2, atI_3, atI_4, ixN_0, ixN_1, ixN_2, setAllE, sizeLine_eq, Option.bind_some, Option.map_some, List.getElem?_cons_zero, List.getElem?_cons_succ, List.getElem?_nil, List.set_cons_zero, List.set_cons_succ, List.map_cons, List.map_nil, List.cons_append, List.nil_append, List.append_nil, List.length_cons, List.length_nil, List.replicate_succ, List.replicate_zero, Bool.not_true, Bool.not_false, Bool.false_eq_true, decide_true, decide_false, Nat.reduceAdd, Nat.reduceSub, Nat.reduceEqDiff, Nat.reduceLT, Nat.reduceLeDiff, ↓reduceIte, Int.reduceLT, Int.reduceLE, Int.reduceAdd, Int.reduceSub, Int.reduceMul, Int.reduceNeg, Int.reduceToNat, Int.reduceMod, Int.reduceEq, Int.reducePow, Nat.reducePow, decide_eq_true_eq, decide_eq_false_iff_not, eq_self, ne_eq, not_true_eq_false, not_false_eq_true, and_true, true_and, and_false, false_and, and_self, or_true, true_or, or_false, false_or, Bool.true_and, Bool.false_or]
theorem d_33 {n : Int} {w : Str} {x y z : D} {r : List D} (W : WF w false false false 0) : OX (D_is_deed [.int n, .tuple (.str w :: x :: y :: z :: r)]) (fun r => r = .v (.bool (false))) ∧ OX (D_L_is_deed [.int n, .tuple (.str w :: x :: y :: z :: r)]) fun r => r = .v (.bool (false)) := by
  refine ⟨OX.defF rfl ?_, OX.defF rfl ?_⟩
  · simp only [F_is_deed, OX_some, OX_map, OX_fzf, OX_eV, OX_eK, OX_e1, OX_e2, OX_e3, OX_tb, OX_tru, OX_ite, OX_tand, OX_tor, OX_tnot, OX_eand, OX_eor, OX_enot, OX_eif, OX_a0, OX_aC, OX_etup, OX_elst, OX_eC, OX_eF, OX_eM, OX_sNil, OX_sBk, OX_sCt, OX_sRetN, OX_sq, OX_sIf, OX_sRet, OX_sX, OX_sV, OX_sO, OX_sP, OX_sU, OX_tgn, OX_tgt, OX_sSt, OX_eMM, OX_append, OX_eIs, OX_sFor, OX_sWh, OX_eLc, OX_iR1, OX_iR2, OX_iL, OX_iT, OX_oN, OX_oS, OX_eSl, OX_pE0, OX_pE, OX_eDk, OX_eGet2, OX_eDn, OX_eD0, OX_iI, OX_iB, OX_neg, OX_dEq, OX_dNe, OX_dIs, OX_dIsNot, OX_dIn, OX_dNotIn, OX_inL, OX_inT, OX_catT, OX_catL, OX_ixT, OX_ixL, OX_ixS, OX_slT, OX_slL, OX_lenL, OX_lenT, OX_lenS, OX_max2, OX_min2, OX_intI, OX_intB, OX_tupL, OX_tupT, OX_listL, OX_listT, OX_all, OX_any, OX_strT, OX_truB, OX_truI, OX_truL, OX_truT, OX_truN, OX_rtR_s, OX_rtM_s, frz_v, frz_n, frz_s, toD_lst, toD_dic, toD_dk, dr_v, dr_n, dr_s, ownD_own, vals_nil, vals_v, drs_nil, drs_c, svR_v, svR_own, svR_al, boolR_b, argM_s, ownM_own, slotR_s, ownL_own, valR_v, newR_n, two_2, intD_i, int1_i, int2_i, listD_l, tupD_t, eqD_ii, eqD_ss, eqD_bb, rtR_v, rtR_n, rtM_v, rtM_n, atI_0, atI_1, atI_2, atI_3, atI_4, ixN_0, ixN_1, ixN_2, setAllE, sizeLine_eq, Option.bind_some, Option.map_some, List.getElem?_cons_zero, List.getElem?_cons_succ, List.getElem?_nil, List.set_cons_zero, List.set_cons_succ, List.map_cons, List.map_nil, List.cons_append, List.nil_append, List.append_nil, List.length_cons, List.length_nil, List.replicate_succ, List.replicate_zero, Bool.not_true, Bool.not_false, Bool.false_eq_true, decide_true, decide_false, Nat.reduceAdd, Nat.reduceSub, Nat.reduceEqDiff, Nat.reduceLT, Nat.reduceLeDiff, ↓reduceIte, Int.reduceLT, Int.reduceLE, Int.reduceAdd, Int.reduceSub, Int.reduceMul, Int.reduceNeg, Int.reduceToNat, Int.reduceMod, Int.reduceEq, Int.reducePow, Nat.reducePow, decide_eq_true_eq, decide_eq_false_iff_not, eq_self, ne_eq, not_true_eq_false, not_false_eq_true, and_true, true_and, and_false, false_and, and_self, or_true, true_or, or_false, false_or, isT_tt, isT_ss, W.t, W.a, W.m, ca, cb]
    try
      refine between_ok.imp fun r e => ?_
      subst e
      cases hb : inB x 0 (n - 1) <;> simp only [OX_some, OX_map, OX_fzf, OX_eV, OX_eK, OX_e1, OX_e2, OX_e3, OX_tb, OX_tru, OX_ite, OX_tand, OX_tor, OX_tnot, OX_eand, OX_eor, OX_enot, OX_eif, OX_a0, OX_aC, OX_etup, OX_elst, OX_eC, OX_eF, OX_eM, OX_sNil, OX_sBk, OX_sCt, OX_sRetN, OX_sq, OX_sIf, OX_sRet, OX_sX, OX_sV, OX_sO, OX_sP, OX_sU, OX_tgn, OX_tgt, OX_sSt, OX_eMM, OX_append, OX_eIs, OX_sFor, OX_sWh, OX_eLc, OX_iR1, OX_iR2, OX_iL, OX_iT, OX_oN, OX_oS, OX_eSl, OX_pE0, OX_pE, OX_eDk, OX_eGet2, OX_eDn, OX_eD0, OX_iI, OX_iB, OX_neg, OX_dEq, OX_dNe, OX_dIs, OX_dIsNot, OX_dIn, OX_dNotIn, OX_inL, OX_inT, OX_catT, OX_catL, OX_ixT, OX_ixL, OX_ixS, OX_slT, OX_slL, OX_lenL, OX_lenT, OX_lenS, OX_max2, OX_min2, OX_intI, OX_intB, OX_tupL, OX_tupT, OX_listL, OX_listT, OX_all, OX_any, OX_strT, OX_truB, OX_truI, OX_truL, OX_truT, OX_truN, OX_rtR_s, OX_rtM_s, frz_v, frz_n, frz_s, toD_lst, toD_dic, toD_dk, dr_v, dr_n, dr_s, ownD_own, vals_nil, vals_v, drs_nil, drs_c, svR_v, svR_own, svR_al, boolR_b, argM_s, ownM_own, slotR_s, ownL_own, valR_v, newR_n, two_2, intD_i, int1_i, int2_i, listD_l, tupD_t, eqD_ii, eqD_ss, eqD_bb, rtR_v, rtR_n, rtM_v, rtM_n, atI_0, atI_1, atI_2, atI_3, atI_4, ixN_0, ixN_1, ixN_2, setAllE, sizeLine_eq, Option.bind_some, Option.map_some, List.getElem?_cons_zero, List.getElem?_cons_succ, List.getElem?_nil, List.set_cons_zero, List.set_cons_succ, List.map_cons, List.map_nil, List.cons_append, List.nil_append, List.append_nil, List.length_cons, List.length_nil, List.replicate_succ, List.replicate_zero, Bool.not_true, Bool.not_false, Bool.false_eq_true, decide_true, decide_false, Nat.reduceAdd, Nat.reduceSub, Nat.reduceEqDiff, Nat.reduceLT, Nat.reduceLeDiff, ↓reduceIte, Int.reduceLT, Int.reduceLE, Int.reduceAdd, Int.reduceSub, Int.reduceMul, Int.reduceNeg, Int.reduceToNat, Int.reduceMod, Int.reduceEq, Int.reducePow, Nat.reducePow, decide_eq_true_eq, decide_eq_false_iff_not, eq_self, ne_eq, not_true_eq_false, not_false_eq_true, and_true, true_and, and_false, false_and, and_self, or_true, true_or, or_false, false_or, isT_tt, isT_ss, W.t, W.a, W.m, ca, cb, hb, Bool.true_and, Bool.false_and]
    try
      cases hy : isN y <;> simp only [OX_some, OX_map, OX_fzf, OX_eV, OX_eK, OX_e1, OX_e2, OX_e3, OX_tb, OX_tru, OX_ite, OX_tand, OX_tor, OX_tnot, OX_eand, OX_eor, OX_enot, OX_eif, OX_a0, OX_aC, OX_etup, OX_elst, OX_eC, OX_eF, OX_eM, OX_sNil, OX_sBk, OX_sCt, OX_sRetN, OX_sq, OX_sIf, OX_sRet, OX_sX, OX_sV, OX_sO, OX_sP, OX_sU, OX_tgn, OX_tgt, OX_sSt, OX_eMM, OX_append, OX_eIs, OX_sFor, OX_sWh, OX_eLc, OX_iR1, OX_iR2, OX_iL, OX_iT, OX_oN, OX_oS, OX_eSl, OX_pE0, OX_pE, OX_eDk, OX_eGet2, OX_eDn, OX_eD0, OX_iI, OX_iB, OX_neg, OX_dEq, OX_dNe, OX_dIs, OX_dIsNot, OX_dIn, OX_dNotIn, OX_inL, OX_inT, OX_catT, OX_catL, OX_ixT, OX_ixL, OX_ixS, OX_slT, OX_slL, OX_lenL, OX_lenT, OX_lenS, OX_max2, OX_min2, OX_intI, OX_intB, OX_tupL, OX_tupT, OX_listL, OX_listT, OX_all, OX_any, OX_strT, OX_truB, OX_truI, OX_truL, OX_truT, OX_truN, OX_rtR_s, OX_rtM_s, frz_v, frz_n, frz_s, toD_lst, toD_dic, toD_dk, dr_v, dr_n, dr_s, ownD_own, vals_nil, vals_v, drs_nil, drs_c, svR_v, svR_own, svR_al, boolR_b, argM_s, ownM_own, slotR_s, ownL_own, valR_v, newR_n, two_2, intD_i, int1_i, int2_i, listD_l, tupD_t, eqD_ii, eqD_ss, eqD_bb, rtR_v, rtR_n, rtM_v, rtM_n, atI_0, atI_1, atI_2, atI_3, atI_4, ixN_0, ixN_1, ixN_2, setAllE, sizeLine_eq, Option.bind_some, Option.map_some, List.getElem?_cons_zero, List.getElem?_cons_succ, List.getElem?_nil, List.set_cons_zero, List.set_cons_succ, List.map_cons, List.map_nil, List.cons_append, List.nil_append, List.append_nil, List.length_cons, List.length_nil, List.replicate_succ, List.replicate_zero, Bool.not_true, Bool.not_false, Bool.false_eq_true, decide_true, decide_false, Nat.reduceAdd, Nat.reduceSub, Nat.reduceEqDiff, Nat.reduceLT, Nat.reduceLeDiff, ↓reduceIte, Int.reduceLT, Int.reduceLE, Int.reduceAdd, Int.reduceSub, Int.reduceMul, Int.reduceNeg, Int.reduceToNat, Int.reduceMod, Int.reduceEq, Int.reducePow, Nat.reducePow, decide_eq_true_eq, decide_eq_false_iff_not, eq_self, ne_eq, not_true_eq_false, not_false_eq_true, and_true, true_and, and_false, false_and, and_self, or_true, true_or, or_false, false_or, isT_tt, isT_ss, W.t, W.a, W.m, ca, cb, hy, Bool.true_or, Bool.false_or]
      refine between_ok.imp fun r e => ?_
      subst e
      first | rfl | simp only [OX_some, OX_map, OX_fzf, OX_eV, OX_eK, OX_e1, OX_e2, OX_e3, OX_tb, OX_tru, OX_ite, OX_tand, OX_tor, OX_tnot, OX_eand, OX_eor, OX_enot, OX_eif, OX_a0, OX_aC, OX_etup, OX_elst, OX_eC, OX_eF, OX_eM, OX_sNil, OX_sBk, OX_sCt, OX_sRetN, OX_sq, OX_sIf, OX_sRet, OX_sX, OX_sV, OX_sO, OX_sP, OX_sU, OX_tgn, OX_tgt, OX_sSt, OX_eMM, OX_append, OX_eIs, OX_sFor, OX_sWh, OX_eLc, OX_iR1, OX_iR2, OX_iL, OX_iT, OX_oN, OX_oS, OX_eSl, OX_pE0, OX_pE, OX_eDk, OX_eGet2, OX_eDn, OX_eD0, OX_iI, OX_iB, OX_neg, OX_dEq, OX_dNe, OX_dIs, OX_dIsNot, OX_dIn, OX_dNotIn, OX_inL, OX_inT, OX_catT, OX_catL, OX_ixT, OX_ixL, OX_ixS, OX_slT, OX_slL, OX_lenL, OX_lenT, OX_lenS, OX_max2, OX_min2, OX_intI, OX_intB, OX_tupL, OX_tupT, OX_listL, OX_listT, OX_all, OX_any, OX_strT, OX_truB, OX_truI, OX_truL, OX_truT, OX_truN, OX_rtR_s, OX_rtM_s, frz_v, frz_n, frz_s, toD_lst, toD_dic, toD_dk, dr_v, dr_n, dr_s, ownD_own, vals_nil, vals_v, drs_nil, drs_c, svR_v, svR_own, svR_al, boolR_b, argM_s, ownM_own, slotR_s, ownL_own, valR_v, newR_n, two_2, intD_i, int1_i, int2_i, listD_l, tupD_t, eqD_ii, eqD_ss, eqD_bb, rtR_v, rtR_n, rtM_v, rtM_n, atI_0, atI_1, atI_2, atI_3, atI_4, ixN_0, ixN_1, ixN_2, setAllE, sizeLine_eq, Option.bind_some, Option.map_some, List.getElem?_cons_zero, List.getElem?_cons_succ, List.getElem?_nil, List.set_cons_zero, List.set_cons_succ, List.map_cons, List.map_nil, List.cons_append, List.nil_append, List.append_nil, List.length_cons, List.length_nil, List.replicate_succ, List.replicate_zero, Bool.not_true, Bool.not_false, Bool.false_eq_true, decide_true, decide_false, Nat.reduceAdd, Nat.reduceSub, Nat.reduceEqDiff, Nat.reduceLT, Nat.reduceLeDiff, ↓reduceIte, Int.reduceLT, Int.reduceLE, Int.reduceAdd, Int.reduceSub, Int.reduceMul, Int.reduceNeg, Int.reduceToNat, Int.reduceMod, Int.reduceEq, Int.reducePow, Nat.reducePow, decide_eq_true_eq, decide_eq_false_iff_not, eq_self, ne_eq, not_true_eq_false, not_false_eq_true, and_true, true_and, and_false, false_and, and_self, or_true, true_or, or_false, false_or, Bool.true_and, Bool.false_or]
  · simp only [F_L_is_deed, OX_some, OX_map, OX_fzf, OX_eV, OX_eK, OX_e1, OX_e2, OX_e3, OX_tb, OX_tru, OX_ite, OX_tand, OX_tor, OX_tnot, OX_eand, OX_eor, OX_enot, OX_eif, OX_a0, OX_aC, OX_etup, OX_elst, OX_eC, OX_eF, OX_eM, OX_sNil, OX_sBk, OX_sCt, OX_sRetN, OX_sq, OX_sIf, OX_sRet, OX_sX, OX_sV, OX_sO, OX_sP, OX_sU, OX_tgn, OX_tgt, OX_sSt, OX_eMM, OX_append, OX_eIs, OX_sFor, OX_sWh, OX_eLc, OX_iR1, OX_iR2, OX_iL, OX_iT, OX_oN, OX_oS, OX_eSl, OX_pE0, OX_pE, OX_eDk, OX_eGet2, OX_eDn, OX_eD0, OX_iI, OX_iB, OX_neg, OX_dEq, OX_dNe, OX_dIs, OX_dIsNot, OX_dIn, OX_dNotIn, OX_inL, OX_inT, OX_catT, OX_catL, OX_ixT, OX_ixL, OX_ixS, OX_slT, OX_slL, OX_lenL, OX_lenT, OX_lenS, OX_max2, OX_min2, OX_intI, OX_intB, OX_tupL, OX_tupT, OX_listL, OX_listT, OX_all, OX_any, OX_strT, OX_truB, OX_truI, OX_truL, OX_truT, OX_truN, OX_rtR_s, OX_rtM_s, frz_v, frz_n, frz_s, toD_lst, toD_dic, toD_dk, dr_v, dr_n, dr_s, ownD_own, vals_nil, vals_v, drs_nil, drs_c, svR_v, svR_own, svR_al, boolR_b, argM_s, ownM_own, slotR_s, ownL_own, valR_v, newR_n, two_2, intD_i, int1_i, int2_i, listD_l, tupD_t, eqD_ii, eqD_ss, eqD_bb, rtR_v, rtR_n, rtM_v, rtM_n, atI_0, atI_1, atI_2, atI_3, atI_4, ixN_0, ixN_1, ixN_2, setAllE, sizeLine_eq, Option.bind_some, Option.map_some, List.getElem?_cons_zero, List.getElem?_cons_succ, List.getElem?_nil, List.set_cons_zero, List.set_cons_succ, List.map_cons, List.map_nil, List.cons_append, List.nil_append, List.append_nil, List.length_cons, List.length_nil, List.replicate_succ, List.replicate_zero, Bool.not_true, Bool.not_false, Bool.false_eq_true, decide_true, decide_false, Nat.reduceAdd, Nat.reduceSub, Nat.reduceEqDiff, Nat.reduceLT, Nat.reduceLeDiff, ↓reduceIte, Int.reduceLT, Int.reduceLE, Int.reduceAdd, Int.reduceSub, Int.reduceMul, Int.reduceNeg, Int.reduceToNat, Int.reduceMod, Int.reduceEq, Int.reducePow, Nat.reducePow, decide_eq_true_eq, decide_eq_false_iff_not, eq_self, ne_eq, not_true_eq_false, not_false_eq_true, and_true, true_and, and_false, false_and, and_self, or_true, true_or, or_false, false_or, isT_tt, isT_ss, edk7, sizes_td, get2_ok, W.z, ca, cb]
    try
      refine whole_ok.imp fun r e => ?_
      subst e
      cases hb : inB x 0 (n - 1) <;> simp only [OX_some, OX_map, OX_fzf, OX_eV, OX_eK, OX_e1, OX_e2, OX_e3, OX_tb, OX_tru, OX_ite, OX_tand, OX_tor, OX_tnot, OX_eand, OX_eor, OX_enot, OX_eif, OX_a0, OX_aC, OX_etup, OX_elst, OX_eC, OX_eF, OX_eM, OX_sNil, OX_sBk, OX_sCt, OX_sRetN, OX_sq, OX_sIf, OX_sRet, OX_sX, OX_sV, OX_sO, OX_sP, OX_sU, OX_tgn, OX_tgt, OX_sSt, OX_eMM, OX_append, OX_eIs, OX_sFor, OX_sWh, OX_eLc, OX_iR1, OX_iR2, OX_iL, OX_iT, OX_oN, OX_oS, OX_eSl, OX_pE0, OX_pE, OX_eDk, OX_eGet2, OX_eDn, OX_eD0, OX_iI, OX_iB, OX_neg, OX_dEq, OX_dNe, OX_dIs, OX_dIsNot, OX_dIn, OX_dNotIn, OX_inL, OX_inT, OX_catT, OX_catL, OX_ixT, OX_ixL, OX_ixS, OX_slT, OX_slL, OX_lenL, OX_lenT, OX_lenS, OX_max2, OX_min2, OX_intI, OX_intB, OX_tupL, OX_tupT, OX_listL, OX_listT, OX_all, OX_any, OX_strT, OX_truB, OX_truI, OX_truL, OX_truT, OX_truN, OX_rtR_s, OX_rtM_s, frz_v, frz_n, frz_s, toD_lst, toD_dic, toD_dk, dr_v, dr_n, dr_s, ownD_own, vals_nil, vals_v, drs_nil, drs_c, svR_v, svR_own, svR_al, boolR_b, argM_s, ownM_own, slotR_s, ownL_own, valR_v, newR_n, two_2, intD_i, int1_i, int2_i, listD_l, tupD_t, eqD_ii, eqD_ss, eqD_bb, rtR_v, rtR_n, rtM_v, rtM_n, atI_0, atI_1, atI_2, atI_3, atI_4, ixN_0, ixN_1, ixN_2, setAllE, sizeLine_eq, Option.bind_some, Option.map_some, List.getElem?_cons_zero, List.getElem?_cons_succ, List.getElem?_nil, List.set_cons_zero, List.set_cons_succ, List.map_cons, List.map_nil, List.cons_append, List.nil_append, List.append_nil, List.length_cons, List.length_nil, List.replicate_succ, List.replicate_zero, Bool.not_true, Bool.not_false, Bool.false_eq_true, decide_true, decide_false, Nat.reduceAdd, Nat.reduceSub, Nat.reduceEqDiff, Nat.reduceLT, Nat.reduceLeDiff, ↓reduceIte, Int.reduceLT, Int.reduceLE, Int.reduceAdd, Int.reduceSub, Int.reduceMul, Int.reduceNeg, Int.reduceToNat, Int.reduceMod, Int.reduceEq, Int.reducePow, Nat.reducePow, decide_eq_true_eq, decide_eq_false_iff_not, eq_self, ne_eq, not_true_eq_false, not_false_eq_true, and_true, true_and, and_false, false_and, and_self, or_true, true_or, or_false, false_or, isT_tt, isT_ss, ca, cb, hb, Bool.true_and, Bool.false_and]
    try
      cases hy : isN y <;> simp only [OX_some, OX_map, OX_fzf, OX_eV, OX_eK, OX_e1, OX_e2, OX_e3, OX_tb, OX_tru, OX_ite, OX_tand, OX_tor, OX_tnot, OX_eand, OX_eor, OX_enot, OX_eif, OX_a0, OX_aC, OX_etup, OX_elst, OX_eC, OX_eF, OX_eM, OX_sNil, OX_sBk, OX_sCt, OX_sRetN, OX_sq, OX_sIf, OX_sRet, OX_sX, OX_sV, OX_sO, OX_sP, OX_sU, OX_tgn, OX_tgt, OX_sSt, OX_eMM, OX_append, OX_eIs, OX_sFor, OX_sWh, OX_eLc, OX_iR1, OX_iR2, OX_iL, OX_iT, OX_oN, OX_oS, OX_eSl, OX_pE0, OX_pE, OX_eDk, OX_eGet2, OX_eDn, OX_eD0, OX_iI, OX_iB, OX_neg, OX_dEq, OX_dNe, OX_dIs, OX_dIsNot, OX_dIn, OX_dNotIn, OX_inL, OX_inT, OX_catT, OX_catL, OX_ixT, OX_ixL, OX_ixS, OX_slT, OX_slL, OX_lenL, OX_lenT, OX_lenS, OX_max2, OX_min2, OX_intI, OX_intB, OX_tupL, OX_tupT, OX_listL, OX_listT, OX_all, OX_any, OX_strT, OX_truB, OX_truI, OX_truL, OX_truT, OX_truN, OX_rtR_s, OX_rtM_s, frz_v, frz_n, frz_s, toD_lst, toD_dic, toD_dk, dr_v, dr_n, dr_s, ownD_own, vals_nil, vals_v, drs_nil, drs_c, svR_v, svR_own, svR_al, boolR_b, argM_s, ownM_own, slotR_s, ownL_own, valR_v, newR_n, two_2, intD_i, int1_i, int2_i, listD_l, tupD_t, eqD_ii, eqD_ss, eqD_bb, rtR_v, rtR_n, rtM_v, rtM_n, atI_0, atI_1, atI_2, atI_3, atI_4, ixN_0, ixN_1, ixN_2, setAllE, sizeLine_eq, Option.bind_some, Option.map_some, List.getElem?_cons_zero, List.getElem?_cons_succ, List.getElem?_nil, List.set_cons_zero, List.set_cons_succ, List.map_cons, List.map_nil, List.cons_append, List.nil_append, List.append_nil, List.length_cons, List.length_nil, List.replicate_succ, List.replicate_zero, Bool.not_true, Bool.not_false, Bool.false_eq_true, decide_true, decide_false, Nat.reduceAdd, Nat.reduceSub, Nat.reduceEqDiff, Nat.reduceLT, Nat.reduceLeDiff, ↓reduceIte, Int.reduceLT, Int.reduceLE, Int.reduceAdd, Int.reduceSub, Int.reduceMul, Int.reduceNeg, Int.reduceToNat, Int.reduceMod, Int.reduceEq, Int.reducePow, Nat.reducePow, decide_eq_true_eq, decide_eq_false_iff_not, eq_self, ne_eq, not_true_eq_false, not_false_eq_true, and_true, true_and, and_false, false_and, and_self, or_true, true_or, or_false, false_or, isT_tt, isT_ss, ca, cb, hy, Bool.true_or, Bool.false_or]
      refine whole_ok.imp fun r e => ?_
      subst e
      first | rfl | simp only [OX_some, OX_map, OX_fzf, OX_eV, OX_eK, OX_e1, OX_e2, OX_e3, OX_tb, OX_tru, OX_ite, OX_tand, OX_tor, OX_tnot, OX_eand, OX_eor, OX_enot, OX_eif, OX_a0, OX_aC, OX_etup, OX_elst, OX_eC, OX_eF, OX_eM, OX_sNil, OX_sBk, OX_sCt, OX_sRetN, OX_sq, OX_sIf, OX_sRet, OX_sX, OX_sV, OX_sO, OX_sP, OX_sU, OX_tgn, OX_tgt, OX_sSt, OX_eMM, OX_append, OX_eIs, OX_sFor, OX_sWh, OX_eLc, OX_iR1, OX_iR2, OX_iL, OX_iT, OX_oN, OX_oS, OX_eSl, OX_pE0, OX_pE, OX_eDk, OX_eGet2, OX_eDn, OX_eD0, OX_iI, OX_iB, OX_neg, OX_dEq, OX_dNe, OX_dIs, OX_dIsNot, OX_dIn, OX_dNotIn, OX_inL, OX_inT, OX_catT, OX_catL, OX_ixT, OX_ixL, OX_ixS, OX_slT, OX_slL, OX_lenL, OX_lenT, OX_lenS, OX_max2, OX_min2, OX_intI, OX_intB, OX_tupL, OX_tupT, OX_listL, OX_listT, OX_all, OX_any, OX_strT, OX_truB, OX_truI, OX_truL, OX_truT, OX_truN, OX_rtR_s, OX_rtM_s, frz_v, frz_n, frz_s, toD_lst, toD_dic, toD_dk, dr_v, dr_n, dr_s, ownD_own, vals_nil, vals_v, drs_nil, drs_c, svR_v, svR_own, svR_al, boolR_b, argM_s, ownM_own, slotR_s, ownL_own, valR_v, newR_n, two_2, intD_i, int1_i, int2_i, listD_l, tupD_t, eqD_ii, eqD_ss, eqD_bb, rtR_v, rtR_n, rtM_v, rtM_n, atI_0, atI_1, atI_2, atI_3, atI_4, ixN_0, ixN_1, ixN_2, setAllE, sizeLine_eq, Option.bind_some, Option.map_some, List.getElem?_cons_zero, List.getElem?_cons_succ, List.getElem?_nil, List.set_cons_zero, List.set_cons_succ, List.map_cons, List.map_nil, List.cons_append, List.nil_append, List.append_nil, List.length_cons, List.length_nil, List.replicate_succ, List.replicate_zero, Bool.not_true, Bool.not_false, Bool.false_eq_true, decide_true, decide_false, Nat.reduceAdd, Nat.reduceSub, Nat.reduceEqDiff, Nat.reduceLT, Nat.reduceLeDiff, ↓reduceIte, Int.reduceLT, Int.reduceLE, Int.reduceAdd, Int.reduceSub, Int.reduceMul, Int.reduceNeg, Int.reduceToNat, Int.reduceMod, Int.reduceEq, Int.reducePow, Nat.reducePow, decide_eq_true_eq, decide_eq_false_iff_not, eq_self, ne_eq, not_true_eq_false, not_false_eq_true, and_true, true_and, and_false, false_and, and_self, or_true, true_or, or_false, false_or, Bool.true_and, Bool.false_or]
theorem same {n : Int} {t : D} (h : Nice t) : ∃ b, OX (D_is_deed [.int n, t]) (fun r => r = .v (.bool b)) ∧ OX (D_L_is_deed [.int n, t]) fun r => r = .v (.bool b) := by
  rcases tup_or (t := t) with ⟨ds, rfl⟩ | ht
  · cases ds with
    | nil =>
      refine ⟨false, OX.defF rfl ?_, OX.defF rfl ?_⟩
      · simp only [F_is_deed, OX_some, OX_map, OX_fzf, OX_eV, OX_eK, OX_e1, OX_e2, OX_e3, OX_tb, OX_tru, OX_ite, OX_tand, OX_tor, OX_tnot, OX_eand, OX_eor, OX_enot, OX_eif, OX_a0, OX_aC, OX_etup, OX_elst, OX_eC, OX_eF, OX_eM, OX_sNil, OX_sBk, OX_sCt, OX_sRetN, OX_sq, OX_sIf, OX_sRet, OX_sX, OX_sV, OX_sO, OX_sP, OX_sU, OX_tgn, OX_tgt, OX_sSt, OX_eMM, OX_append, OX_eIs, OX_sFor, OX_sWh, OX_eLc, OX_iR1, OX_iR2, OX_iL, OX_iT, OX_oN, OX_oS, OX_eSl, OX_pE0, OX_pE, OX_eDk, OX_eGet2, OX_eDn, OX_eD0, OX_iI, OX_iB, OX_neg, OX_dEq, OX_dNe, OX_dIs, OX_dIsNot, OX_dIn, OX_dNotIn, OX_inL, OX_inT, OX_catT, OX_catL, OX_ixT, OX_ixL, OX_ixS, OX_slT, OX_slL, OX_lenL, OX_lenT, OX_lenS, OX_max2, OX_min2, OX_intI, OX_intB, OX_tupL, OX_tupT, OX_listL, OX_listT, OX_all, OX_any, OX_strT, OX_truB, OX_truI, OX_truL, OX_truT, OX_truN, OX_rtR_s, OX_rtM_s, frz_v, frz_n, frz_s, toD_lst, toD_dic, toD_dk, dr_v, dr_n, dr_s, ownD_own, vals_nil, vals_v, drs_nil, drs_c, svR_v, svR_own, svR_al, boolR_b, argM_s, ownM_own, slotR_s, ownL_own, valR_v, newR_n, two_2, intD_i, int1_i, int2_i, listD_l, tupD_t, eqD_ii, eqD_ss, eqD_bb, rtR_v, rtR_n, rtM_v, rtM_n, atI_0, atI_1, atI_2, atI_3, atI_4, ixN_0, ixN_1, ixN_2, setAllE, sizeLine_eq, Option.bind_some, Option.map_some, List.getElem?_cons_zero, List.getElem?_cons_succ, List.getElem?_nil, List.set_cons_zero, List.set_cons_succ, List.map_cons, List.map_nil, List.cons_append, List.nil_append, List.append_nil, List.length_cons, List.length_nil, List.replicate_succ, List.replicate_zero, Bool.not_true, Bool.not_false, Bool.false_eq_true, decide_true, decide_false, Nat.reduceAdd, Nat.reduceSub, Nat.reduceEqDiff, Nat.reduceLT, Nat.reduceLeDiff, ↓reduceIte, Int.reduceLT, Int.reduceLE, Int.reduceAdd, Int.reduceSub, Int.reduceMul, Int.reduceNeg, Int.reduceToNat, Int.reduceMod, Int.reduceEq, Int.reducePow, Nat.reducePow, decide_eq_true_eq, decide_eq_false_iff_not, eq_self, ne_eq, not_true_eq_false, not_false_eq_true, and_true, true_and, and_false, false_and, and_self, or_true, true_or, or_false, false_or, isT_tt, Int.natCast_zero]
      · simp only [F_L_is_deed, OX_some, OX_map, OX_fzf, OX_eV, OX_eK, OX_e1, OX_e2, OX_e3, OX_tb, OX_tru, OX_ite, OX_tand, OX_tor, OX_tnot, OX_eand, OX_eor, OX_enot, OX_eif, OX_a0, OX_aC, OX_etup, OX_elst, OX_eC, OX_eF, OX_eM, OX_sNil, OX_sBk, OX_sCt, OX_sRetN, OX_sq, OX_sIf, OX_sRet, OX_sX, OX_sV, OX_sO, OX_sP, OX_sU, OX_tgn, OX_tgt, OX_sSt, OX_eMM, OX_append, OX_eIs, OX_sFor, OX_sWh, OX_eLc, OX_iR1, OX_iR2, OX_iL, OX_iT, OX_oN, OX_oS, OX_eSl, OX_pE0, OX_pE, OX_eDk, OX_eGet2, OX_eDn, OX_eD0, OX_iI, OX_iB, OX_neg, OX_dEq, OX_dNe, OX_dIs, OX_dIsNot, OX_dIn, OX_dNotIn, OX_inL, OX_inT, OX_catT, OX_catL, OX_ixT, OX_ixL, OX_ixS, OX_slT, OX_slL, OX_lenL, OX_lenT, OX_lenS, OX_max2, OX_min2, OX_intI, OX_intB, OX_tupL, OX_tupT, OX_listL, OX_listT, OX_all, OX_any, OX_strT, OX_truB, OX_truI, OX_truL, OX_truT, OX_truN, OX_rtR_s, OX_rtM_s, frz_v, frz_n, frz_s, toD_lst, toD_dic, toD_dk, dr_v, dr_n, dr_s, ownD_own, vals_nil, vals_v, drs_nil, drs_c, svR_v, svR_own, svR_al, boolR_b, argM_s, ownM_own, slotR_s, ownL_own, valR_v, newR_n, two_2, intD_i, int1_i, int2_i, listD_l, tupD_t, eqD_ii, eqD_ss, eqD_bb, rtR_v, rtR_n, rtM_v, rtM_n, atI_0, atI_1, atI_2, atI_3, atI_4, ixN_0, ixN_1, ixN_2, setAllE, sizeLine_eq, Option.bind_some, Option.map_some, List.getElem?_cons_zero, List.getElem?_cons_succ, List.getElem?_nil, List.set_cons_zero, List.set_cons_succ, List.map_cons, List.map_nil, List.cons_append, List.nil_append, List.append_nil, List.length_cons, List.length_nil, List.replicate_succ, List.replicate_zero, Bool.not_true, Bool.not_false, Bool.false_eq_true, decide_true, decide_false, Nat.reduceAdd, Nat.reduceSub, Nat.reduceEqDiff, Nat.reduceLT, Nat.reduceLeDiff, ↓reduceIte, Int.reduceLT, Int.reduceLE, Int.reduceAdd, Int.reduceSub, Int.reduceMul, Int.reduceNeg, Int.reduceToNat, Int.reduceMod, Int.reduceEq, Int.reducePow, Nat.reducePow, decide_eq_true_eq, decide_eq_false_iff_not, eq_self, ne_eq, not_true_eq_false, not_false_eq_true, and_true, true_and, and_false, false_and, and_self, or_true, true_or, or_false, false_or, isT_tt, Int.natCast_zero]
    | cons d ds =>
      by_cases hd : isT "str" d = true
      · obtain ⟨w, rfl, ho⟩ := h d ds rfl hd
        match ds with
        | [] => rcases words w ho with W | W | W | W <;> first | exact ⟨_, d_00 W⟩ | exact ⟨_, d_10 W⟩ | exact ⟨_, d_20 W⟩ | exact ⟨_, d_30 W⟩
        | [x] => rcases words w ho with W | W | W | W <;> first | exact ⟨_, d_01 W⟩ | exact ⟨_, d_11 W⟩ | exact ⟨_, d_21 W⟩ | exact ⟨_, d_31 W⟩
        | [x, y] => rcases words w ho with W | W | W | W <;> first | exact ⟨_, d_02 W⟩ | exact ⟨_, d_12 W⟩ | exact ⟨_, d_22 W⟩ | exact ⟨_, d_32 W⟩
        | x :: y :: z :: r => rcases words w ho with W | W | W | W <;> first | exact ⟨_, d_03 W⟩ | exact ⟨_, d_13 W⟩ | exact ⟨_, d_23 W⟩ | exact ⟨_, d_33 W⟩
      · refine ⟨false, OX.defF rfl ?_, OX.defF rfl ?_⟩
        · simp only [F_is_deed, OX_some, OX_map, OX_fzf, OX_eV, OX_eK, OX_e1, OX_e2, OX_e3, OX_tb, OX_tru, OX_ite, OX_tand, OX_tor, OX_tnot, OX_eand, OX_eor, OX_enot, OX_eif, OX_a0, OX_aC, OX_etup, OX_elst, OX_eC, OX_eF, OX_eM, OX_sNil, OX_sBk, OX_sCt, OX_sRetN, OX_sq, OX_sIf, OX_sRet, OX_sX, OX_sV, OX_sO, OX_sP, OX_sU, OX_tgn, OX_tgt, OX_sSt, OX_eMM, OX_append, OX_eIs, OX_sFor, OX_sWh, OX_eLc, OX_iR1, OX_iR2, OX_iL, OX_iT, OX_oN, OX_oS, OX_eSl, OX_pE0, OX_pE, OX_eDk, OX_eGet2, OX_eDn, OX_eD0, OX_iI, OX_iB, OX_neg, OX_dEq, OX_dNe, OX_dIs, OX_dIsNot, OX_dIn, OX_dNotIn, OX_inL, OX_inT, OX_catT, OX_catL, OX_ixT, OX_ixL, OX_ixS, OX_slT, OX_slL, OX_lenL, OX_lenT, OX_lenS, OX_max2, OX_min2, OX_intI, OX_intB, OX_tupL, OX_tupT, OX_listL, OX_listT, OX_all, OX_any, OX_strT, OX_truB, OX_truI, OX_truL, OX_truT, OX_truN, OX_rtR_s, OX_rtM_s, frz_v, frz_n, frz_s, toD_lst, toD_dic, toD_dk, dr_v, dr_n, dr_s, ownD_own, vals_nil, vals_v, drs_nil, drs_c, svR_v, svR_own, svR_al, boolR_b, argM_s, ownM_own, slotR_s, ownL_own, valR_v, newR_n, two_2, intD_i, int1_i, int2_i, listD_l, tupD_t, eqD_ii, eqD_ss, eqD_bb, rtR_v, rtR_n, rtM_v, rtM_n, atI_0, atI_1, atI_2, atI_3, atI_4, ixN_0, ixN_1, ixN_2, setAllE, sizeLine_eq, Option.bind_some, Option.map_some, List.getElem?_cons_zero, List.getElem?_cons_succ, List.getElem?_nil, List.set_cons_zero, List.set_cons_succ, List.map_cons, List.map_nil, List.cons_append, List.nil_append, List.append_nil, List.length_cons, List.length_nil, List.replicate_succ, List.replicate_zero, Bool.not_true, Bool.not_false, Bool.false_eq_true, decide_true, decide_false, Nat.reduceAdd, Nat.reduceSub, Nat.reduceEqDiff, Nat.reduceLT, Nat.reduceLeDiff, ↓reduceIte, Int.reduceLT, Int.reduceLE, Int.reduceAdd, Int.reduceSub, Int.reduceMul, Int.reduceNeg, Int.reduceToNat, Int.reduceMod, Int.reduceEq, Int.reducePow, Nat.reducePow, decide_eq_true_eq, decide_eq_false_iff_not, eq_self, ne_eq, not_true_eq_false, not_false_eq_true, and_true, true_and, and_false, false_and, and_self, or_true, true_or, or_false, false_or, isT_tt, hd, cc]
        · simp only [F_L_is_deed, OX_some, OX_map, OX_fzf, OX_eV, OX_eK, OX_e1, OX_e2, OX_e3, OX_tb, OX_tru, OX_ite, OX_tand, OX_tor, OX_tnot, OX_eand, OX_eor, OX_enot, OX_eif, OX_a0, OX_aC, OX_etup, OX_elst, OX_eC, OX_eF, OX_eM, OX_sNil, OX_sBk, OX_sCt, OX_sRetN, OX_sq, OX_sIf, OX_sRet, OX_sX, OX_sV, OX_sO, OX_sP, OX_sU, OX_tgn, OX_tgt, OX_sSt, OX_eMM, OX_append, OX_eIs, OX_sFor, OX_sWh, OX_eLc, OX_iR1, OX_iR2, OX_iL, OX_iT, OX_oN, OX_oS, OX_eSl, OX_pE0, OX_pE, OX_eDk, OX_eGet2, OX_eDn, OX_eD0, OX_iI, OX_iB, OX_neg, OX_dEq, OX_dNe, OX_dIs, OX_dIsNot, OX_dIn, OX_dNotIn, OX_inL, OX_inT, OX_catT, OX_catL, OX_ixT, OX_ixL, OX_ixS, OX_slT, OX_slL, OX_lenL, OX_lenT, OX_lenS, OX_max2, OX_min2, OX_intI, OX_intB, OX_tupL, OX_tupT, OX_listL, OX_listT, OX_all, OX_any, OX_strT, OX_truB, OX_truI, OX_truL, OX_truT, OX_truN, OX_rtR_s, OX_rtM_s, frz_v, frz_n, frz_s, toD_lst, toD_dic, toD_dk, dr_v, dr_n, dr_s, ownD_own, vals_nil, vals_v, drs_nil, drs_c, svR_v, svR_own, svR_al, boolR_b, argM_s, ownM_own, slotR_s, ownL_own, valR_v, newR_n, two_2, intD_i, int1_i, int2_i, listD_l, tupD_t, eqD_ii, eqD_ss, eqD_bb, rtR_v, rtR_n, rtM_v, rtM_n, atI_0, atI_1, atI_2, atI_3, atI_4, ixN_0, ixN_1, ixN_2, setAllE, sizeLine_eq, Option.bind_some, Option.map_some, List.getElem?_cons_zero, List.getElem?_cons_succ, List.getElem?_nil, List.set_cons_zero, List.set_cons_succ, List.map_cons, List.map_nil, List.cons_append, List.nil_append, List.append_nil, List.length_cons, List.length_nil, List.replicate_succ, List.replicate_zero, Bool.not_true, Bool.not_false, Bool.false_eq_true, decide_true, decide_false, Nat.reduceAdd, Nat.reduceSub, Nat.reduceEqDiff, Nat.reduceLT, Nat.reduceLeDiff, ↓reduceIte, Int.reduceLT, Int.reduceLE, Int.reduceAdd, Int.reduceSub, Int.reduceMul, Int.reduceNeg, Int.reduceToNat, Int.reduceMod, Int.reduceEq, Int.reducePow, Nat.reducePow, decide_eq_true_eq, decide_eq_false_iff_not, eq_self, ne_eq, not_true_eq_false, not_false_eq_true, and_true, true_and, and_false, false_and, and_self, or_true, true_or, or_false, false_or, isT_tt, hd, cc]
  · refine ⟨false, OX.defF rfl ?_, OX.defF rfl ?_⟩
    · simp only [F_is_deed, OX_some, OX_map, OX_fzf, OX_eV, OX_eK, OX_e1, OX_e2, OX_e3, OX_tb, OX_tru, OX_ite, OX_tand, OX_tor, OX_tnot, OX_eand, OX_eor, OX_enot, OX_eif, OX_a0, OX_aC, OX_etup, OX_elst, OX_eC, OX_eF, OX_eM, OX_sNil, OX_sBk, OX_sCt, OX_sRetN, OX_sq, OX_sIf, OX_sRet, OX_sX, OX_sV, OX_sO, OX_sP, OX_sU, OX_tgn, OX_tgt, OX_sSt, OX_eMM, OX_append, OX_eIs, OX_sFor, OX_sWh, OX_eLc, OX_iR1, OX_iR2, OX_iL, OX_iT, OX_oN, OX_oS, OX_eSl, OX_pE0, OX_pE, OX_eDk, OX_eGet2, OX_eDn, OX_eD0, OX_iI, OX_iB, OX_neg, OX_dEq, OX_dNe, OX_dIs, OX_dIsNot, OX_dIn, OX_dNotIn, OX_inL, OX_inT, OX_catT, OX_catL, OX_ixT, OX_ixL, OX_ixS, OX_slT, OX_slL, OX_lenL, OX_lenT, OX_lenS, OX_max2, OX_min2, OX_intI, OX_intB, OX_tupL, OX_tupT, OX_listL, OX_listT, OX_all, OX_any, OX_strT, OX_truB, OX_truI, OX_truL, OX_truT, OX_truN, OX_rtR_s, OX_rtM_s, frz_v, frz_n, frz_s, toD_lst, toD_dic, toD_dk, dr_v, dr_n, dr_s, ownD_own, vals_nil, vals_v, drs_nil, drs_c, svR_v, svR_own, svR_al, boolR_b, argM_s, ownM_own, slotR_s, ownL_own, valR_v, newR_n, two_2, intD_i, int1_i, int2_i, listD_l, tupD_t, eqD_ii, eqD_ss, eqD_bb, rtR_v, rtR_n, rtM_v, rtM_n, atI_0, atI_1, atI_2, atI_3, atI_4, ixN_0, ixN_1, ixN_2, setAllE, sizeLine_eq, Option.bind_some, Option.map_some, List.getElem?_cons_zero, List.getElem?_cons_succ, List.getElem?_nil, List.set_cons_zero, List.set_cons_succ, List.map_cons, List.map_nil, List.cons_append, List.nil_append, List.append_nil, List.length_cons, List.length_nil, List.replicate_succ, List.replicate_zero, Bool.not_true, Bool.not_false, Bool.false_eq_true, decide_true, decide_false, Nat.reduceAdd, Nat.reduceSub, Nat.reduceEqDiff, Nat.reduceLT, Nat.reduceLeDiff, ↓reduceIte, Int.reduceLT, Int.reduceLE, Int.reduceAdd, Int.reduceSub, Int.reduceMul, Int.reduceNeg, Int.reduceToNat, Int.reduceMod, Int.reduceEq, Int.reducePow, Nat.reducePow, decide_eq_true_eq, decide_eq_false_iff_not, eq_self, ne_eq, not_true_eq_false, not_false_eq_true, and_true, true_and, and_false, false_and, and_self, or_true, true_or, or_false, false_or, ht]
    · simp only [F_L_is_deed, OX_some, OX_map, OX_fzf, OX_eV, OX_eK, OX_e1, OX_e2, OX_e3, OX_tb, OX_tru, OX_ite, OX_tand, OX_tor, OX_tnot, OX_eand, OX_eor, OX_enot, OX_eif, OX_a0, OX_aC, OX_etup, OX_elst, OX_eC, OX_eF, OX_eM, OX_sNil, OX_sBk, OX_sCt, OX_sRetN, OX_sq, OX_sIf, OX_sRet, OX_sX, OX_sV, OX_sO, OX_sP, OX_sU, OX_tgn, OX_tgt, OX_sSt, OX_eMM, OX_append, OX_eIs, OX_sFor, OX_sWh, OX_eLc, OX_iR1, OX_iR2, OX_iL, OX_iT, OX_oN, OX_oS, OX_eSl, OX_pE0, OX_pE, OX_eDk, OX_eGet2, OX_eDn, OX_eD0, OX_iI, OX_iB, OX_neg, OX_dEq, OX_dNe, OX_dIs, OX_dIsNot, OX_dIn, OX_dNotIn, OX_inL, OX_inT, OX_catT, OX_catL, OX_ixT, OX_ixL, OX_ixS, OX_slT, OX_slL, OX_lenL, OX_lenT, OX_lenS, OX_max2, OX_min2, OX_intI, OX_intB, OX_tupL, OX_tupT, OX_listL, OX_listT, OX_all, OX_any, OX_strT, OX_truB, OX_truI, OX_truL, OX_truT, OX_truN, OX_rtR_s, OX_rtM_s, frz_v, frz_n, frz_s, toD_lst, toD_dic, toD_dk, dr_v, dr_n, dr_s, ownD_own, vals_nil, vals_v, drs_nil, drs_c, svR_v, svR_own, svR_al, boolR_b, argM_s, ownM_own, slotR_s, ownL_own, valR_v, newR_n, two_2, intD_i, int1_i, int2_i, listD_l, tupD_t, eqD_ii, eqD_ss, eqD_bb, rtR_v, rtR_n, rtM_v, rtM_n, atI_0, atI_1, atI_2, atI_3, atI_4, ixN_0, ixN_1, ixN_2, setAllE, sizeLine_eq, Option.bind_some, Option.map_some, List.getElem?_cons_zero, List.getElem?_cons_succ, List.getElem?_nil, List.set_cons_zero, List.set_cons_succ, List.map_cons, List.map_nil, List.cons_append, List.nil_append, List.append_nil, List.length_cons, List.length_nil, List.replicate_succ, List.replicate_zero, Bool.not_true, Bool.not_false, Bool.false_eq_true, decide_true, decide_false, Nat.reduceAdd, Nat.reduceSub, Nat.reduceEqDiff, Nat.reduceLT, Nat.reduceLeDiff, ↓reduceIte, Int.reduceLT, Int.reduceLE, Int.reduceAdd, Int.reduceSub, Int.reduceMul, Int.reduceNeg, Int.reduceToNat, Int.reduceMod, Int.reduceEq, Int.reducePow, Nat.reducePow, decide_eq_true_eq, decide_eq_false_iff_not, eq_self, ne_eq, not_true_eq_false, not_false_eq_true, and_true, true_and, and_false, false_and, and_self, or_true, true_or, or_false, false_or, ht]
end Z

set_option Elab.async false
set_option linter.all false
set_option maxRecDepth 100000
set_option maxHeartbeats 1000000
namespace Z
open PySem L2
theorem rangeD_mem {lo hi : Int} {d : D} (h : d ∈ rangeD lo hi) : ∃ k : Int, d = .int k ∧ lo ≤ k ∧ k < hi := by
  obtain ⟨k, hk, rfl⟩ := List.mem_map.mp h
  have := List.mem_range.mp hk
  exact ⟨_, rfl, by omega, by omega⟩
theorem rangeD_len {lo hi : Int} : (rangeD lo hi).length = (hi - lo).toNat := by simp [rangeD]
theorem nested_ok {t : List D} {j : Int} (h : Nice (.tuple t)) (h0 : 0 ≤ j) (h1 : j < 100) : OX (D_L_nested [.tuple t, .int j]) fun r => ∃ t, r = .v (.tuple t) ∧ Nice (.tuple t) := by
  refine OX.defF rfl ?_
  simp only [F_L_nested, OX_some, OX_map, OX_fzf, OX_eV, OX_eK, OX_e1, OX_e2, OX_e3, OX_tb, OX_tru, OX_ite, OX_tand, OX_tor, OX_tnot, OX_eand, OX_eor, OX_enot, OX_eif, OX_a0, OX_aC, OX_etup, OX_elst, OX_eC, OX_eF, OX_eM, OX_sNil, OX_sBk, OX_sCt, OX_sRetN, OX_sq, OX_sIf, OX_sRet, OX_sX, OX_sV, OX_sO, OX_sP, OX_sU, OX_tgn, OX_tgt, OX_sSt, OX_eMM, OX_append, OX_eIs, OX_sFor, OX_sWh, OX_eLc, OX_iR1, OX_iR2, OX_iL, OX_iT, OX_oN, OX_oS, OX_eSl, OX_pE0, OX_pE, OX_eDk, OX_eGet2, OX_eDn, OX_eD0, OX_iI, OX_iB, OX_neg, OX_dEq, OX_dNe, OX_dIs, OX_dIsNot, OX_dIn, OX_dNotIn, OX_inL, OX_inT, OX_catT, OX_catL, OX_ixT, OX_ixL, OX_ixS, OX_slT, OX_slL, OX_lenL, OX_lenT, OX_lenS, OX_max2, OX_min2, OX_intI, OX_intB, OX_tupL, OX_tupT, OX_listL, OX_listT, OX_all, OX_any, OX_strT, OX_truB, OX_truI, OX_truL, OX_truT, OX_truN, OX_rtR_s, OX_rtM_s, frz_v, frz_n, frz_s, toD_lst, toD_dic, toD_dk, dr_v, dr_n, dr_s, ownD_own, vals_nil, vals_v, drs_nil, drs_c, svR_v, svR_own, svR_al, boolR_b, argM_s, ownM_own, slotR_s, ownL_own, valR_v, newR_n, two_2, intD_i, int1_i, int2_i, listD_l, tupD_t, eqD_ii, eqD_ss, eqD_bb, rtR_v, rtR_n, rtM_v, rtM_n, atI_0, atI_1, atI_2, atI_3, atI_4, ixN_0, ixN_1, ixN_2, setAllE, sizeLine_eq, Option.bind_some, Option.map_some, List.getElem?_cons_zero, List.getElem?_cons_succ, List.getElem?_nil, List.set_cons_zero, List.set_cons_succ, List.map_cons, List.map_nil, List.cons_append, List.nil_append, List.append_nil, List.length_cons, List.length_nil, List.replicate_succ, List.replicate_zero, Bool.not_true, Bool.not_false, Bool.false_eq_true, decide_true, decide_false, Nat.reduceAdd, Nat.reduceSub, Nat.reduceEqDiff, Nat.reduceLT, Nat.reduceLeDiff, ↓reduceIte, Int.reduceLT, Int.reduceLE, Int.reduceAdd, Int.reduceSub, Int.reduceMul, Int.reduceNeg, Int.reduceToNat, Int.reduceMod, Int.reduceEq, Int.reducePow, Nat.reducePow, decide_eq_true_eq, decide_eq_false_iff_not, eq_self, ne_eq, not_true_eq_false, not_false_eq_true, and_true, true_and, and_false, false_and, and_self, or_true, true_or, or_false, false_or]
  refine ⟨by omega, ?_⟩
  refine OX.forL (fun _ ρ => ∃ t x1 x2, ρ = [.v (.tuple t), x1, x2] ∧ Nice (.tuple t)) ?_ ?_ ⟨t, _, _, rfl, h⟩
  · rintro d ds ρ ⟨t, x1, x2, rfl, ht⟩
    simp only [OX_some, OX_map, OX_fzf, OX_eV, OX_eK, OX_e1, OX_e2, OX_e3, OX_tb, OX_tru, OX_ite, OX_tand, OX_tor, OX_tnot, OX_eand, OX_eor, OX_enot, OX_eif, OX_a0, OX_aC, OX_etup, OX_elst, OX_eC, OX_eF, OX_eM, OX_sNil, OX_sBk, OX_sCt, OX_sRetN, OX_sq, OX_sIf, OX_sRet, OX_sX, OX_sV, OX_sO, OX_sP, OX_sU, OX_tgn, OX_tgt, OX_sSt, OX_eMM, OX_append, OX_eIs, OX_sFor, OX_sWh, OX_eLc, OX_iR1, OX_iR2, OX_iL, OX_iT, OX_oN, OX_oS, OX_eSl, OX_pE0, OX_pE, OX_eDk, OX_eGet2, OX_eDn, OX_eD0, OX_iI, OX_iB, OX_neg, OX_dEq, OX_dNe, OX_dIs, OX_dIsNot, OX_dIn, OX_dNotIn, OX_inL, OX_inT, OX_catT, OX_catL, OX_ixT, OX_ixL, OX_ixS, OX_slT, OX_slL, OX_lenL, OX_lenT, OX_lenS, OX_max2, OX_min2, OX_intI, OX_intB, OX_tupL, OX_tupT, OX_listL, OX_listT, OX_all, OX_any, OX_strT, OX_truB, OX_truI, OX_truL, OX_truT, OX_truN, OX_rtR_s, OX_rtM_s, frz_v, frz_n, frz_s, toD_lst, toD_dic, toD_dk, dr_v, dr_n, dr_s, ownD_own, vals_nil, vals_v, drs_nil, drs_c, svR_v, svR_own, svR_al, boolR_b, argM_s, ownM_own, slotR_s, ownL_own, valR_v, newR_n, two_2, intD_i, int1_i, int2_i, listD_l, tupD_t, eqD_ii, eqD_ss, eqD_bb, rtR_v, rtR_n, rtM_v, rtM_n, atI_0, atI_1, atI_2, atI_3, atI_4, ixN_0, ixN_1, ixN_2, setAllE, sizeLine_eq, Option.bind_some, Option.map_some, List.getElem?_cons_zero, List.getElem?_cons_succ, List.getElem?_nil, List.set_cons_zero, List.set_cons_succ, List.map_cons, List.map_nil, List.cons_append, List.nil_append, List.append_nil, List.length_cons, List.length_nil, List.replicate_succ, List.replicate_zero, Bool.not_true, Bool.not_false, Bool.false_eq_true, decide_true, decide_false, Nat.reduceAdd, Nat.reduceSub, Nat.reduceEqDiff, Nat.reduceLT, Nat.reduceLeDiff, ↓reduceIte, Int.reduceLT, Int.reduceLE, Int.reduceAdd, Int.reduceSub, Int.reduceMul, Int.reduceNeg, Int.reduceToNat, Int.reduceMod, Int.reduceEq, Int.reducePow, Nat.reducePow, decide_eq_true_eq, decide_eq_false_iff_not, eq_self, ne_eq, not_true_eq_false, not_false_eq_true, and_true, true_and, and_false, false_and, and_self, or_true, true_or, or_false, false_or]
    exact ⟨_, _, _, rfl, Nice.t (PO.no rfl)⟩
  · rintro ρ ⟨t, x1, x2, rfl, ht⟩
    simp only [OX_some, OX_map, OX_fzf, OX_eV, OX_eK, OX_e1, OX_e2, OX_e3, OX_tb, OX_tru, OX_ite, OX_tand, OX_tor, OX_tnot, OX_eand, OX_eor, OX_enot, OX_eif, OX_a0, OX_aC, OX_etup, OX_elst, OX_eC, OX_eF, OX_eM, OX_sNil, OX_sBk, OX_sCt, OX_sRetN, OX_sq, OX_sIf, OX_sRet, OX_sX, OX_sV, OX_sO, OX_sP, OX_sU, OX_tgn, OX_tgt, OX_sSt, OX_eMM, OX_append, OX_eIs, OX_sFor, OX_sWh, OX_eLc, OX_iR1, OX_iR2, OX_iL, OX_iT, OX_oN, OX_oS, OX_eSl, OX_pE0, OX_pE, OX_eDk, OX_eGet2, OX_eDn, OX_eD0, OX_iI, OX_iB, OX_neg, OX_dEq, OX_dNe, OX_dIs, OX_dIsNot, OX_dIn, OX_dNotIn, OX_inL, OX_inT, OX_catT, OX_catL, OX_ixT, OX_ixL, OX_ixS, OX_slT, OX_slL, OX_lenL, OX_lenT, OX_lenS, OX_max2, OX_min2, OX_intI, OX_intB, OX_tupL, OX_tupT, OX_listL, OX_listT, OX_all, OX_any, OX_strT, OX_truB, OX_truI, OX_truL, OX_truT, OX_truN, OX_rtR_s, OX_rtM_s, frz_v, frz_n, frz_s, toD_lst, toD_dic, toD_dk, dr_v, dr_n, dr_s, ownD_own, vals_nil, vals_v, drs_nil, drs_c, svR_v, svR_own, svR_al, boolR_b, argM_s, ownM_own, slotR_s, ownL_own, valR_v, newR_n, two_2, intD_i, int1_i, int2_i, listD_l, tupD_t, eqD_ii, eqD_ss, eqD_bb, rtR_v, rtR_n, rtM_v, rtM_n, atI_0, atI_1, atI_2, atI_3, atI_4, ixN_0, ixN_1, ixN_2, setAllE, sizeLine_eq, Option.bind_some, Option.map_some, List.getElem?_cons_zero, List.getElem?_cons_succ, List.getElem?_nil, List.set_cons_zero, List.set_cons_succ, List.map_cons, List.map_nil, List.cons_append, List.nil_append, List.append_nil, List.length_cons, List.length_nil, List.replicate_succ, List.replicate_zero, Bool.not_true, Bool.not_false, Bool.false_eq_true, decide_true, decide_false, Nat.reduceAdd, Nat.reduceSub, Nat.reduceEqDiff, Nat.reduceLT, Nat.reduceLeDiff, ↓reduceIte, Int.reduceLT, Int.reduceLE, Int.reduceAdd, Int.reduceSub, Int.reduceMul, Int.reduceNeg, Int.reduceToNat, Int.reduceMod, Int.reduceEq, Int.reducePow, Nat.reducePow, decide_eq_true_eq, decide_eq_false_iff_not, eq_self, ne_eq, not_true_eq_false, not_false_eq_true, and_true, true_and, and_false, false_and, and_self, or_true, true_or, or_false, false_or]
    exact ⟨t, rfl, ht⟩
theorem tyes_ok {ρ : En} : tyes ρ = some (true, ρ) := rfl
theorem isT_bb {k : Bool} : isT "bool" (.bool k) = true := rfl
theorem law_ok {ns : List Int} : OX (D_law [scrD ns]) fun r => r = .v (.bool true) := by
  refine OX.defF rfl ?_
  simp only [F_law, scrD, OX_some, OX_map, OX_fzf, OX_eV, OX_eK, OX_e1, OX_e2, OX_e3, OX_tb, OX_tru, OX_ite, OX_tand, OX_tor, OX_tnot, OX_eand, OX_eor, OX_enot, OX_eif, OX_a0, OX_aC, OX_etup, OX_elst, OX_eC, OX_eF, OX_eM, OX_sNil, OX_sBk, OX_sCt, OX_sRetN, OX_sq, OX_sIf, OX_sRet, OX_sX, OX_sV, OX_sO, OX_sP, OX_sU, OX_tgn, OX_tgt, OX_sSt, OX_eMM, OX_append, OX_eIs, OX_sFor, OX_sWh, OX_eLc, OX_iR1, OX_iR2, OX_iL, OX_iT, OX_oN, OX_oS, OX_eSl, OX_pE0, OX_pE, OX_eDk, OX_eGet2, OX_eDn, OX_eD0, OX_iI, OX_iB, OX_neg, OX_dEq, OX_dNe, OX_dIs, OX_dIsNot, OX_dIn, OX_dNotIn, OX_inL, OX_inT, OX_catT, OX_catL, OX_ixT, OX_ixL, OX_ixS, OX_slT, OX_slL, OX_lenL, OX_lenT, OX_lenS, OX_max2, OX_min2, OX_intI, OX_intB, OX_tupL, OX_tupT, OX_listL, OX_listT, OX_all, OX_any, OX_strT, OX_truB, OX_truI, OX_truL, OX_truT, OX_truN, OX_rtR_s, OX_rtM_s, frz_v, frz_n, frz_s, toD_lst, toD_dic, toD_dk, dr_v, dr_n, dr_s, ownD_own, vals_nil, vals_v, drs_nil, drs_c, svR_v, svR_own, svR_al, boolR_b, argM_s, ownM_own, slotR_s, ownL_own, valR_v, newR_n, two_2, intD_i, int1_i, int2_i, listD_l, tupD_t, eqD_ii, eqD_ss, eqD_bb, rtR_v, rtR_n, rtM_v, rtM_n, atI_0, atI_1, atI_2, atI_3, atI_4, ixN_0, ixN_1, ixN_2, setAllE, sizeLine_eq, Option.bind_some, Option.map_some, List.getElem?_cons_zero, List.getElem?_cons_succ, List.getElem?_nil, List.set_cons_zero, List.set_cons_succ, List.map_cons, List.map_nil, List.cons_append, List.nil_append, List.append_nil, List.length_cons, List.length_nil, List.replicate_succ, List.replicate_zero, Bool.not_true, Bool.not_false, Bool.false_eq_true, decide_true, decide_false, Nat.reduceAdd, Nat.reduceSub, Nat.reduceEqDiff, Nat.reduceLT, Nat.reduceLeDiff, ↓reduceIte, Int.reduceLT, Int.reduceLE, Int.reduceAdd, Int.reduceSub, Int.reduceMul, Int.reduceNeg, Int.reduceToNat, Int.reduceMod, Int.reduceEq, Int.reducePow, Nat.reducePow, decide_eq_true_eq, decide_eq_false_iff_not, eq_self, ne_eq, not_true_eq_false, not_false_eq_true, and_true, true_and, and_false, false_and, and_self, or_true, true_or, or_false, false_or]
  refine ⟨by (repeat' split) <;> omega, ?_⟩
  refine OX.forL (fun ds ρ => (∀ d ∈ ds, ∃ k : Int, d = .int k ∧ 0 ≤ k ∧ k < 2 ^ 62) ∧ ∃ x1 x2 x3 x4 x5 x6 x7 x8 x9, ρ = [.v (scrD ns), x1, x2, x3, x4, x5, x6, x7, x8, x9]) ?_ ?_ ⟨fun d h => ?_, _, _, _, _, _, _, _, _, _, rfl⟩
  rotate_left
  · rintro ρ ⟨_, x1, x2, x3, x4, x5, x6, x7, x8, x9, rfl⟩
    simp only [OX_some, OX_map, OX_fzf, OX_eV, OX_eK, OX_e1, OX_e2, OX_e3, OX_tb, OX_tru, OX_ite, OX_tand, OX_tor, OX_tnot, OX_eand, OX_eor, OX_enot, OX_eif, OX_a0, OX_aC, OX_etup, OX_elst, OX_eC, OX_eF, OX_eM, OX_sNil, OX_sBk, OX_sCt, OX_sRetN, OX_sq, OX_sIf, OX_sRet, OX_sX, OX_sV, OX_sO, OX_sP, OX_sU, OX_tgn, OX_tgt, OX_sSt, OX_eMM, OX_append, OX_eIs, OX_sFor, OX_sWh, OX_eLc, OX_iR1, OX_iR2, OX_iL, OX_iT, OX_oN, OX_oS, OX_eSl, OX_pE0, OX_pE, OX_eDk, OX_eGet2, OX_eDn, OX_eD0, OX_iI, OX_iB, OX_neg, OX_dEq, OX_dNe, OX_dIs, OX_dIsNot, OX_dIn, OX_dNotIn, OX_inL, OX_inT, OX_catT, OX_catL, OX_ixT, OX_ixL, OX_ixS, OX_slT, OX_slL, OX_lenL, OX_lenT, OX_lenS, OX_max2, OX_min2, OX_intI, OX_intB, OX_tupL, OX_tupT, OX_listL, OX_listT, OX_all, OX_any, OX_strT, OX_truB, OX_truI, OX_truL, OX_truT, OX_truN, OX_rtR_s, OX_rtM_s, frz_v, frz_n, frz_s, toD_lst, toD_dic, toD_dk, dr_v, dr_n, dr_s, ownD_own, vals_nil, vals_v, drs_nil, drs_c, svR_v, svR_own, svR_al, boolR_b, argM_s, ownM_own, slotR_s, ownL_own, valR_v, newR_n, two_2, intD_i, int1_i, int2_i, listD_l, tupD_t, eqD_ii, eqD_ss, eqD_bb, rtR_v, rtR_n, rtM_v, rtM_n, atI_0, atI_1, atI_2, atI_3, atI_4, ixN_0, ixN_1, ixN_2, setAllE, sizeLine_eq, Option.bind_some, Option.map_some, List.getElem?_cons_zero, List.getElem?_cons_succ, List.getElem?_nil, List.set_cons_zero, List.set_cons_succ, List.map_cons, List.map_nil, List.cons_append, List.nil_append, List.append_nil, List.length_cons, List.length_nil, List.replicate_succ, List.replicate_zero, Bool.not_true, Bool.not_false, Bool.false_eq_true, decide_true, decide_false, Nat.reduceAdd, Nat.reduceSub, Nat.reduceEqDiff, Nat.reduceLT, Nat.reduceLeDiff, ↓reduceIte, Int.reduceLT, Int.reduceLE, Int.reduceAdd, Int.reduceSub, Int.reduceMul, Int.reduceNeg, Int.reduceToNat, Int.reduceMod, Int.reduceEq, Int.reducePow, Nat.reducePow, decide_eq_true_eq, decide_eq_false_iff_not, eq_self, ne_eq, not_true_eq_false, not_false_eq_true, and_true, true_and, and_false, false_and, and_self, or_true, true_or, or_false, false_or]
  · obtain ⟨k, rfl, h0, h1⟩ := rangeD_mem h
    refine ⟨k, rfl, h0, Int.lt_trans h1 ?_⟩
    (repeat' split) <;> omega
  rintro d ds ρ ⟨hds, x1, x2, x3, x4, x5, x6, x7, x8, x9, rfl⟩
  obtain ⟨k, rfl, hk0, hk1⟩ := hds d List.mem_cons_self
  have hds' := fun d h => hds d (List.mem_cons_of_mem _ h)
  simp only [OX_some, OX_map, OX_fzf, OX_eV, OX_eK, OX_e1, OX_e2, OX_e3, OX_tb, OX_tru, OX_ite, OX_tand, OX_tor, OX_tnot, OX_eand, OX_eor, OX_enot, OX_eif, OX_a0, OX_aC, OX_etup, OX_elst, OX_eC, OX_eF, OX_eM, OX_sNil, OX_sBk, OX_sCt, OX_sRetN, OX_sq, OX_sIf, OX_sRet, OX_sX, OX_sV, OX_sO, OX_sP, OX_sU, OX_tgn, OX_tgt, OX_sSt, OX_eMM, OX_append, OX_eIs, OX_sFor, OX_sWh, OX_eLc, OX_iR1, OX_iR2, OX_iL, OX_iT, OX_oN, OX_oS, OX_eSl, OX_pE0, OX_pE, OX_eDk, OX_eGet2, OX_eDn, OX_eD0, OX_iI, OX_iB, OX_neg, OX_dEq, OX_dNe, OX_dIs, OX_dIsNot, OX_dIn, OX_dNotIn, OX_inL, OX_inT, OX_catT, OX_catL, OX_ixT, OX_ixL, OX_ixS, OX_slT, OX_slL, OX_lenL, OX_lenT, OX_lenS, OX_max2, OX_min2, OX_intI, OX_intB, OX_tupL, OX_tupT, OX_listL, OX_listT, OX_all, OX_any, OX_strT, OX_truB, OX_truI, OX_truL, OX_truT, OX_truN, OX_rtR_s, OX_rtM_s, frz_v, frz_n, frz_s, toD_lst, toD_dic, toD_dk, dr_v, dr_n, dr_s, ownD_own, vals_nil, vals_v, drs_nil, drs_c, svR_v, svR_own, svR_al, boolR_b, argM_s, ownM_own, slotR_s, ownL_own, valR_v, newR_n, two_2, intD_i, int1_i, int2_i, listD_l, tupD_t, eqD_ii, eqD_ss, eqD_bb, rtR_v, rtR_n, rtM_v, rtM_n, atI_0, atI_1, atI_2, atI_3, atI_4, ixN_0, ixN_1, ixN_2, setAllE, sizeLine_eq, Option.bind_some, Option.map_some, List.getElem?_cons_zero, List.getElem?_cons_succ, List.getElem?_nil, List.set_cons_zero, List.set_cons_succ, List.map_cons, List.map_nil, List.cons_append, List.nil_append, List.append_nil, List.length_cons, List.length_nil, List.replicate_succ, List.replicate_zero, Bool.not_true, Bool.not_false, Bool.false_eq_true, decide_true, decide_false, Nat.reduceAdd, Nat.reduceSub, Nat.reduceEqDiff, Nat.reduceLT, Nat.reduceLeDiff, ↓reduceIte, Int.reduceLT, Int.reduceLE, Int.reduceAdd, Int.reduceSub, Int.reduceMul, Int.reduceNeg, Int.reduceToNat, Int.reduceMod, Int.reduceEq, Int.reducePow, Nat.reducePow, decide_eq_true_eq, decide_eq_false_iff_not, eq_self, ne_eq, not_true_eq_false, not_false_eq_true, and_true, true_and, and_false, false_and, and_self, or_true, true_or, or_false, false_or]
  refine (left_ok hk0 hk1).imp ?_
  rintro _ ⟨m0, rfl, L0⟩
  simp only [OX_some, OX_map, OX_fzf, OX_eV, OX_eK, OX_e1, OX_e2, OX_e3, OX_tb, OX_tru, OX_ite, OX_tand, OX_tor, OX_tnot, OX_eand, OX_eor, OX_enot, OX_eif, OX_a0, OX_aC, OX_etup, OX_elst, OX_eC, OX_eF, OX_eM, OX_sNil, OX_sBk, OX_sCt, OX_sRetN, OX_sq, OX_sIf, OX_sRet, OX_sX, OX_sV, OX_sO, OX_sP, OX_sU, OX_tgn, OX_tgt, OX_sSt, OX_eMM, OX_append, OX_eIs, OX_sFor, OX_sWh, OX_eLc, OX_iR1, OX_iR2, OX_iL, OX_iT, OX_oN, OX_oS, OX_eSl, OX_pE0, OX_pE, OX_eDk, OX_eGet2, OX_eDn, OX_eD0, OX_iI, OX_iB, OX_neg, OX_dEq, OX_dNe, OX_dIs, OX_dIsNot, OX_dIn, OX_dNotIn, OX_inL, OX_inT, OX_catT, OX_catL, OX_ixT, OX_ixL, OX_ixS, OX_slT, OX_slL, OX_lenL, OX_lenT, OX_lenS, OX_max2, OX_min2, OX_intI, OX_intB, OX_tupL, OX_tupT, OX_listL, OX_listT, OX_all, OX_any, OX_strT, OX_truB, OX_truI, OX_truL, OX_truT, OX_truN, OX_rtR_s, OX_rtM_s, frz_v, frz_n, frz_s, toD_lst, toD_dic, toD_dk, dr_v, dr_n, dr_s, ownD_own, vals_nil, vals_v, drs_nil, drs_c, svR_v, svR_own, svR_al, boolR_b, argM_s, ownM_own, slotR_s, ownL_own, valR_v, newR_n, two_2, intD_i, int1_i, int2_i, listD_l, tupD_t, eqD_ii, eqD_ss, eqD_bb, rtR_v, rtR_n, rtM_v, rtM_n, atI_0, atI_1, atI_2, atI_3, atI_4, ixN_0, ixN_1, ixN_2, setAllE, sizeLine_eq, Option.bind_some, Option.map_some, List.getElem?_cons_zero, List.getElem?_cons_succ, List.getElem?_nil, List.set_cons_zero, List.set_cons_succ, List.map_cons, List.map_nil, List.cons_append, List.nil_append, List.append_nil, List.length_cons, List.length_nil, List.replicate_succ, List.replicate_zero, Bool.not_true, Bool.not_false, Bool.false_eq_true, decide_true, decide_false, Nat.reduceAdd, Nat.reduceSub, Nat.reduceEqDiff, Nat.reduceLT, Nat.reduceLeDiff, ↓reduceIte, Int.reduceLT, Int.reduceLE, Int.reduceAdd, Int.reduceSub, Int.reduceMul, Int.reduceNeg, Int.reduceToNat, Int.reduceMod, Int.reduceEq, Int.reducePow, Nat.reducePow, decide_eq_true_eq, decide_eq_false_iff_not, eq_self, ne_eq, not_true_eq_false, not_false_eq_true, and_true, true_and, and_false, false_and, and_self, or_true, true_or, or_false, false_or]
  refine (pick_ok L0 (by decide) (by decide)).imp ?_
  rintro ⟨_, m1⟩ ⟨g, rfl, hg0, hg1, L1⟩
  simp only [OX_some, OX_map, OX_fzf, OX_eV, OX_eK, OX_e1, OX_e2, OX_e3, OX_tb, OX_tru, OX_ite, OX_tand, OX_tor, OX_tnot, OX_eand, OX_eor, OX_enot, OX_eif, OX_a0, OX_aC, OX_etup, OX_elst, OX_eC, OX_eF, OX_eM, OX_sNil, OX_sBk, OX_sCt, OX_sRetN, OX_sq, OX_sIf, OX_sRet, OX_sX, OX_sV, OX_sO, OX_sP, OX_sU, OX_tgn, OX_tgt, OX_sSt, OX_eMM, OX_append, OX_eIs, OX_sFor, OX_sWh, OX_eLc, OX_iR1, OX_iR2, OX_iL, OX_iT, OX_oN, OX_oS, OX_eSl, OX_pE0, OX_pE, OX_eDk, OX_eGet2, OX_eDn, OX_eD0, OX_iI, OX_iB, OX_neg, OX_dEq, OX_dNe, OX_dIs, OX_dIsNot, OX_dIn, OX_dNotIn, OX_inL, OX_inT, OX_catT, OX_catL, OX_ixT, OX_ixL, OX_ixS, OX_slT, OX_slL, OX_lenL, OX_lenT, OX_lenS, OX_max2, OX_min2, OX_intI, OX_intB, OX_tupL, OX_tupT, OX_listL, OX_listT, OX_all, OX_any, OX_strT, OX_truB, OX_truI, OX_truL, OX_truT, OX_truN, OX_rtR_s, OX_rtM_s, frz_v, frz_n, frz_s, toD_lst, toD_dic, toD_dk, dr_v, dr_n, dr_s, ownD_own, vals_nil, vals_v, drs_nil, drs_c, svR_v, svR_own, svR_al, boolR_b, argM_s, ownM_own, slotR_s, ownL_own, valR_v, newR_n, two_2, intD_i, int1_i, int2_i, listD_l, tupD_t, eqD_ii, eqD_ss, eqD_bb, rtR_v, rtR_n, rtM_v, rtM_n, atI_0, atI_1, atI_2, atI_3, atI_4, ixN_0, ixN_1, ixN_2, setAllE, sizeLine_eq, Option.bind_some, Option.map_some, List.getElem?_cons_zero, List.getElem?_cons_succ, List.getElem?_nil, List.set_cons_zero, List.set_cons_succ, List.map_cons, List.map_nil, List.cons_append, List.nil_append, List.append_nil, List.length_cons, List.length_nil, List.replicate_succ, List.replicate_zero, Bool.not_true, Bool.not_false, Bool.false_eq_true, decide_true, decide_false, Nat.reduceAdd, Nat.reduceSub, Nat.reduceEqDiff, Nat.reduceLT, Nat.reduceLeDiff, ↓reduceIte, Int.reduceLT, Int.reduceLE, Int.reduceAdd, Int.reduceSub, Int.reduceMul, Int.reduceNeg, Int.reduceToNat, Int.reduceMod, Int.reduceEq, Int.reducePow, Nat.reducePow, decide_eq_true_eq, decide_eq_false_iff_not, eq_self, ne_eq, not_true_eq_false, not_false_eq_true, and_true, true_and, and_false, false_and, and_self, or_true, true_or, or_false, false_or, wipeE]
  refine OX.lcL (fun ds acc ρ => (∀ d ∈ ds, ∃ k : Int, d = .int k ∧ 0 ≤ k ∧ k < 100) ∧ (∀ a ∈ acc, Nice a) ∧ acc.length + ds.length ≤ 2 ∧ ∃ x9, ρ = [.v (scrD ns), .v (.int k), .own m1, .v (.int (1 + g)), .v (.list [.none, .bool true, .int 0, .str "", .str "tick", .str "read", .tuple [], .list [], .dict [], .tuple [.str "tick"], .list [.str "tick"], .tuple [.tuple [.str "tick"]], .tuple [.none, .int 0], .tuple [.int 0, .str "up"]]), x5, x6, x7, x8, x9]) ?_ ?_ ⟨?_, ?_, by decide, _, rfl⟩
  · rintro d es acc ρ ⟨h1, h2, h3, x9, rfl⟩
    obtain ⟨j, rfl, j0, j1⟩ := h1 d List.mem_cons_self
    have hal : acc.length < 16777216 := by
      rw [List.length_cons] at h3
      omega
    simp only [OX_some, OX_map, OX_fzf, OX_eV, OX_eK, OX_e1, OX_e2, OX_e3, OX_tb, OX_tru, OX_ite, OX_tand, OX_tor, OX_tnot, OX_eand, OX_eor, OX_enot, OX_eif, OX_a0, OX_aC, OX_etup, OX_elst, OX_eC, OX_eF, OX_eM, OX_sNil, OX_sBk, OX_sCt, OX_sRetN, OX_sq, OX_sIf, OX_sRet, OX_sX, OX_sV, OX_sO, OX_sP, OX_sU, OX_tgn, OX_tgt, OX_sSt, OX_eMM, OX_append, OX_eIs, OX_sFor, OX_sWh, OX_eLc, OX_iR1, OX_iR2, OX_iL, OX_iT, OX_oN, OX_oS, OX_eSl, OX_pE0, OX_pE, OX_eDk, OX_eGet2, OX_eDn, OX_eD0, OX_iI, OX_iB, OX_neg, OX_dEq, OX_dNe, OX_dIs, OX_dIsNot, OX_dIn, OX_dNotIn, OX_inL, OX_inT, OX_catT, OX_catL, OX_ixT, OX_ixL, OX_ixS, OX_slT, OX_slL, OX_lenL, OX_lenT, OX_lenS, OX_max2, OX_min2, OX_intI, OX_intB, OX_tupL, OX_tupT, OX_listL, OX_listT, OX_all, OX_any, OX_strT, OX_truB, OX_truI, OX_truL, OX_truT, OX_truN, OX_rtR_s, OX_rtM_s, frz_v, frz_n, frz_s, toD_lst, toD_dic, toD_dk, dr_v, dr_n, dr_s, ownD_own, vals_nil, vals_v, drs_nil, drs_c, svR_v, svR_own, svR_al, boolR_b, argM_s, ownM_own, slotR_s, ownL_own, valR_v, newR_n, two_2, intD_i, int1_i, int2_i, listD_l, tupD_t, eqD_ii, eqD_ss, eqD_bb, rtR_v, rtR_n, rtM_v, rtM_n, atI_0, atI_1, atI_2, atI_3, atI_4, ixN_0, ixN_1, ixN_2, setAllE, sizeLine_eq, Option.bind_some, Option.map_some, List.getElem?_cons_zero, List.getElem?_cons_succ, List.getElem?_nil, List.set_cons_zero, List.set_cons_succ, List.map_cons, List.map_nil, List.cons_append, List.nil_append, List.append_nil, List.length_cons, List.length_nil, List.replicate_succ, List.replicate_zero, Bool.not_true, Bool.not_false, Bool.false_eq_true, decide_true, decide_false, Nat.reduceAdd, Nat.reduceSub, Nat.reduceEqDiff, Nat.reduceLT, Nat.reduceLeDiff, ↓reduceIte, Int.reduceLT, Int.reduceLE, Int.reduceAdd, Int.reduceSub, Int.reduceMul, Int.reduceNeg, Int.reduceToNat, Int.reduceMod, Int.reduceEq, Int.reducePow, Nat.reducePow, decide_eq_true_eq, decide_eq_false_iff_not, eq_self, ne_eq, not_true_eq_false, not_false_eq_true, and_true, true_and, and_false, false_and, and_self, or_true, true_or, or_false, false_or, tyes_ok]
    refine (nested_ok (Nice.t (PO.str (by decide +kernel))) j0 j1).imp ?_
    rintro _ ⟨t, rfl, ht⟩
    simp only [OX_some, OX_map, OX_fzf, OX_eV, OX_eK, OX_e1, OX_e2, OX_e3, OX_tb, OX_tru, OX_ite, OX_tand, OX_tor, OX_tnot, OX_eand, OX_eor, OX_enot, OX_eif, OX_a0, OX_aC, OX_etup, OX_elst, OX_eC, OX_eF, OX_eM, OX_sNil, OX_sBk, OX_sCt, OX_sRetN, OX_sq, OX_sIf, OX_sRet, OX_sX, OX_sV, OX_sO, OX_sP, OX_sU, OX_tgn, OX_tgt, OX_sSt, OX_eMM, OX_append, OX_eIs, OX_sFor, OX_sWh, OX_eLc, OX_iR1, OX_iR2, OX_iL, OX_iT, OX_oN, OX_oS, OX_eSl, OX_pE0, OX_pE, OX_eDk, OX_eGet2, OX_eDn, OX_eD0, OX_iI, OX_iB, OX_neg, OX_dEq, OX_dNe, OX_dIs, OX_dIsNot, OX_dIn, OX_dNotIn, OX_inL, OX_inT, OX_catT, OX_catL, OX_ixT, OX_ixL, OX_ixS, OX_slT, OX_slL, OX_lenL, OX_lenT, OX_lenS, OX_max2, OX_min2, OX_intI, OX_intB, OX_tupL, OX_tupT, OX_listL, OX_listT, OX_all, OX_any, OX_strT, OX_truB, OX_truI, OX_truL, OX_truT, OX_truN, OX_rtR_s, OX_rtM_s, frz_v, frz_n, frz_s, toD_lst, toD_dic, toD_dk, dr_v, dr_n, dr_s, ownD_own, vals_nil, vals_v, drs_nil, drs_c, svR_v, svR_own, svR_al, boolR_b, argM_s, ownM_own, slotR_s, ownL_own, valR_v, newR_n, two_2, intD_i, int1_i, int2_i, listD_l, tupD_t, eqD_ii, eqD_ss, eqD_bb, rtR_v, rtR_n, rtM_v, rtM_n, atI_0, atI_1, atI_2, atI_3, atI_4, ixN_0, ixN_1, ixN_2, setAllE, sizeLine_eq, Option.bind_some, Option.map_some, List.getElem?_cons_zero, List.getElem?_cons_succ, List.getElem?_nil, List.set_cons_zero, List.set_cons_succ, List.map_cons, List.map_nil, List.cons_append, List.nil_append, List.append_nil, List.length_cons, List.length_nil, List.replicate_succ, List.replicate_zero, Bool.not_true, Bool.not_false, Bool.false_eq_true, decide_true, decide_false, Nat.reduceAdd, Nat.reduceSub, Nat.reduceEqDiff, Nat.reduceLT, Nat.reduceLeDiff, ↓reduceIte, Int.reduceLT, Int.reduceLE, Int.reduceAdd, Int.reduceSub, Int.reduceMul, Int.reduceNeg, Int.reduceToNat, Int.reduceMod, Int.reduceEq, Int.reducePow, Nat.reducePow, decide_eq_true_eq, decide_eq_false_iff_not, eq_self, ne_eq, not_true_eq_false, not_false_eq_true, and_true, true_and, and_false, false_and, and_self, or_true, true_or, or_false, false_or, wipeE]
    refine ⟨_, rfl, hal, fun d h => h1 d (List.mem_cons_of_mem _ h), fun a ha => ?_, ?_, _, rfl⟩
    · rcases List.mem_append.mp ha with ha | ha
      · exact h2 a ha
      · rw [List.mem_singleton.mp ha]; exact ht
    · rw [List.length_append, List.length_singleton]
      rw [List.length_cons] at h3
      omega
  · rintro acc ρ ⟨_, h2, h3, x9, rfl⟩
    have hal : 14 + acc.length ≤ 16777216 := by
      rw [List.length_nil] at h3
      omega
    have hL : ∀ t ∈ ([.none, .bool true, .int 0, .str "", .str "tick", .str "read", .tuple [], .list [], .dict [], .tuple [.str "tick"], .list [.str "tick"], .tuple [.tuple [.str "tick"]], .tuple [.none, .int 0], .tuple [.int 0, .str "up"]] ++ acc : List D), Nice t := by
      intro t ht
      rcases List.mem_append.mp ht with ht | ht
      · simp only [List.mem_cons, List.not_mem_nil, or_false] at ht
        rcases ht with rfl | rfl | rfl | rfl | rfl | rfl | rfl | rfl | rfl | rfl | rfl | rfl | rfl | rfl <;> first | exact Nice.t (PO.str (by decide +kernel)) | exact Nice.t PO.int | exact Nice.t (PO.no rfl) | exact Nice.n fun _ _ h => nomatch h
      · exact h2 t ht
    have hl : ([.none, .bool true, .int 0, .str "", .str "tick", .str "read", .tuple [], .list [], .dict [], .tuple [.str "tick"], .list [.str "tick"], .tuple [.tuple [.str "tick"]], .tuple [.none, .int 0], .tuple [.int 0, .str "up"]] ++ acc : List D).length ≤ 16 := by
      simp only [List.length_append, List.length_cons, List.length_nil] at h3 ⊢
      omega
    generalize hE : ([.none, .bool true, .int 0, .str "", .str "tick", .str "read", .tuple [], .list [], .dict [], .tuple [.str "tick"], .list [.str "tick"], .tuple [.tuple [.str "tick"]], .tuple [.none, .int 0], .tuple [.int 0, .str "up"]] ++ acc : List D) = L at hL hl
    simp only [List.cons_append, List.nil_append] at hE
    simp only [OX_some, OX_map, OX_fzf, OX_eV, OX_eK, OX_e1, OX_e2, OX_e3, OX_tb, OX_tru, OX_ite, OX_tand, OX_tor, OX_tnot, OX_eand, OX_eor, OX_enot, OX_eif, OX_a0, OX_aC, OX_etup, OX_elst, OX_eC, OX_eF, OX_eM, OX_sNil, OX_sBk, OX_sCt, OX_sRetN, OX_sq, OX_sIf, OX_sRet, OX_sX, OX_sV, OX_sO, OX_sP, OX_sU, OX_tgn, OX_tgt, OX_sSt, OX_eMM, OX_append, OX_eIs, OX_sFor, OX_sWh, OX_eLc, OX_iR1, OX_iR2, OX_iL, OX_iT, OX_oN, OX_oS, OX_eSl, OX_pE0, OX_pE, OX_eDk, OX_eGet2, OX_eDn, OX_eD0, OX_iI, OX_iB, OX_neg, OX_dEq, OX_dNe, OX_dIs, OX_dIsNot, OX_dIn, OX_dNotIn, OX_inL, OX_inT, OX_catT, OX_catL, OX_ixT, OX_ixL, OX_ixS, OX_slT, OX_slL, OX_lenL, OX_lenT, OX_lenS, OX_max2, OX_min2, OX_intI, OX_intB, OX_tupL, OX_tupT, OX_listL, OX_listT, OX_all, OX_any, OX_strT, OX_truB, OX_truI, OX_truL, OX_truT, OX_truN, OX_rtR_s, OX_rtM_s, frz_v, frz_n, frz_s, toD_lst, toD_dic, toD_dk, dr_v, dr_n, dr_s, ownD_own, vals_nil, vals_v, drs_nil, drs_c, svR_v, svR_own, svR_al, boolR_b, argM_s, ownM_own, slotR_s, ownL_own, valR_v, newR_n, two_2, intD_i, int1_i, int2_i, listD_l, tupD_t, eqD_ii, eqD_ss, eqD_bb, rtR_v, rtR_n, rtM_v, rtM_n, atI_0, atI_1, atI_2, atI_3, atI_4, ixN_0, ixN_1, ixN_2, setAllE, sizeLine_eq, Option.bind_some, Option.map_some, List.getElem?_cons_zero, List.getElem?_cons_succ, List.getElem?_nil, List.set_cons_zero, List.set_cons_succ, List.map_cons, List.map_nil, List.cons_append, List.nil_append, List.append_nil, List.length_cons, List.length_nil, List.replicate_succ, List.replicate_zero, Bool.not_true, Bool.not_false, Bool.false_eq_true, decide_true, decide_false, Nat.reduceAdd, Nat.reduceSub, Nat.reduceEqDiff, Nat.reduceLT, Nat.reduceLeDiff, ↓reduceIte, Int.reduceLT, Int.reduceLE, Int.reduceAdd, Int.reduceSub, Int.reduceMul, Int.reduceNeg, Int.reduceToNat, Int.reduceMod, Int.reduceEq, Int.reducePow, Nat.reducePow, decide_eq_true_eq, decide_eq_false_iff_not, eq_self, ne_eq, not_true_eq_false, not_false_eq_true, and_true, true_and, and_false, false_and, and_self, or_true, true_or, or_false, false_or, hal, hE]
    refine OX.forL (fun ds ρ => ∃ x1 m L x5 x6 x7 x8 x9, ρ = [.v (scrD ns), x1, .own m, .v (.int (1 + g)), .v (.list L), x5, x6, x7, x8, x9] ∧ Left m ∧ (∀ t ∈ L, Nice t) ∧ L.length + 3 * ds.length ≤ 100) ?_ ?_ ⟨_, _, L, _, _, _, _, _, rfl, L1, hL, by rw [rangeD_len]; omega⟩
    · rintro d es ρ ⟨x1, m, L, x5, x6, x7, x8, x9, rfl, Lm, hL, hl⟩
      rw [List.length_cons] at hl
      have q1 : L.length + 3 ≤ 16777216 := by omega
      have e1 : 0 < 1 + g := by omega
      have e2' : 1 + g ≤ 9 := by omega
      simp only [OX_some, OX_map, OX_fzf, OX_eV, OX_eK, OX_e1, OX_e2, OX_e3, OX_tb, OX_tru, OX_ite, OX_tand, OX_tor, OX_tnot, OX_eand, OX_eor, OX_enot, OX_eif, OX_a0, OX_aC, OX_etup, OX_elst, OX_eC, OX_eF, OX_eM, OX_sNil, OX_sBk, OX_sCt, OX_sRetN, OX_sq, OX_sIf, OX_sRet, OX_sX, OX_sV, OX_sO, OX_sP, OX_sU, OX_tgn, OX_tgt, OX_sSt, OX_eMM, OX_append, OX_eIs, OX_sFor, OX_sWh, OX_eLc, OX_iR1, OX_iR2, OX_iL, OX_iT, OX_oN, OX_oS, OX_eSl, OX_pE0, OX_pE, OX_eDk, OX_eGet2, OX_eDn, OX_eD0, OX_iI, OX_iB, OX_neg, OX_dEq, OX_dNe, OX_dIs, OX_dIsNot, OX_dIn, OX_dNotIn, OX_inL, OX_inT, OX_catT, OX_catL, OX_ixT, OX_ixL, OX_ixS, OX_slT, OX_slL, OX_lenL, OX_lenT, OX_lenS, OX_max2, OX_min2, OX_intI, OX_intB, OX_tupL, OX_tupT, OX_listL, OX_listT, OX_all, OX_any, OX_strT, OX_truB, OX_truI, OX_truL, OX_truT, OX_truN, OX_rtR_s, OX_rtM_s, frz_v, frz_n, frz_s, toD_lst, toD_dic, toD_dk, dr_v, dr_n, dr_s, ownD_own, vals_nil, vals_v, drs_nil, drs_c, svR_v, svR_own, svR_al, boolR_b, argM_s, ownM_own, slotR_s, ownL_own, valR_v, newR_n, two_2, intD_i, int1_i, int2_i, listD_l, tupD_t, eqD_ii, eqD_ss, eqD_bb, rtR_v, rtR_n, rtM_v, rtM_n, atI_0, atI_1, atI_2, atI_3, atI_4, ixN_0, ixN_1, ixN_2, setAllE, sizeLine_eq, Option.bind_some, Option.map_some, List.getElem?_cons_zero, List.getElem?_cons_succ, List.getElem?_nil, List.set_cons_zero, List.set_cons_succ, List.map_cons, List.map_nil, List.cons_append, List.nil_append, List.append_nil, List.length_cons, List.length_nil, List.replicate_succ, List.replicate_zero, Bool.not_true, Bool.not_false, Bool.false_eq_true, decide_true, decide_false, Nat.reduceAdd, Nat.reduceSub, Nat.reduceEqDiff, Nat.reduceLT, Nat.reduceLeDiff, ↓reduceIte, Int.reduceLT, Int.reduceLE, Int.reduceAdd, Int.reduceSub, Int.reduceMul, Int.reduceNeg, Int.reduceToNat, Int.reduceMod, Int.reduceEq, Int.reducePow, Nat.reducePow, decide_eq_true_eq, decide_eq_false_iff_not, eq_self, ne_eq, not_true_eq_false, not_false_eq_true, and_true, true_and, and_false, false_and, and_self, or_true, true_or, or_false, false_or]
      refine (deed_ok Lm e1 e2').imp ?_
      rintro ⟨_, m2⟩ ⟨dd, rfl, hd, L2⟩
      simp only [OX_some, OX_map, OX_fzf, OX_eV, OX_eK, OX_e1, OX_e2, OX_e3, OX_tb, OX_tru, OX_ite, OX_tand, OX_tor, OX_tnot, OX_eand, OX_eor, OX_enot, OX_eif, OX_a0, OX_aC, OX_etup, OX_elst, OX_eC, OX_eF, OX_eM, OX_sNil, OX_sBk, OX_sCt, OX_sRetN, OX_sq, OX_sIf, OX_sRet, OX_sX, OX_sV, OX_sO, OX_sP, OX_sU, OX_tgn, OX_tgt, OX_sSt, OX_eMM, OX_append, OX_eIs, OX_sFor, OX_sWh, OX_eLc, OX_iR1, OX_iR2, OX_iL, OX_iT, OX_oN, OX_oS, OX_eSl, OX_pE0, OX_pE, OX_eDk, OX_eGet2, OX_eDn, OX_eD0, OX_iI, OX_iB, OX_neg, OX_dEq, OX_dNe, OX_dIs, OX_dIsNot, OX_dIn, OX_dNotIn, OX_inL, OX_inT, OX_catT, OX_catL, OX_ixT, OX_ixL, OX_ixS, OX_slT, OX_slL, OX_lenL, OX_lenT, OX_lenS, OX_max2, OX_min2, OX_intI, OX_intB, OX_tupL, OX_tupT, OX_listL, OX_listT, OX_all, OX_any, OX_strT, OX_truB, OX_truI, OX_truL, OX_truT, OX_truN, OX_rtR_s, OX_rtM_s, frz_v, frz_n, frz_s, toD_lst, toD_dic, toD_dk, dr_v, dr_n, dr_s, ownD_own, vals_nil, vals_v, drs_nil, drs_c, svR_v, svR_own, svR_al, boolR_b, argM_s, ownM_own, slotR_s, ownL_own, valR_v, newR_n, two_2, intD_i, int1_i, int2_i, listD_l, tupD_t, eqD_ii, eqD_ss, eqD_bb, rtR_v, rtR_n, rtM_v, rtM_n, atI_0, atI_1, atI_2, atI_3, atI_4, ixN_0, ixN_1, ixN_2, setAllE, sizeLine_eq, Option.bind_some, Option.map_some, List.getElem?_cons_zero, List.getElem?_cons_succ, List.getElem?_nil, List.set_cons_zero, List.set_cons_succ, List.map_cons, List.map_nil, List.cons_append, List.nil_append, List.append_nil, List.length_cons, List.length_nil, List.replicate_succ, List.replicate_zero, Bool.not_true, Bool.not_false, Bool.false_eq_true, decide_true, decide_false, Nat.reduceAdd, Nat.reduceSub, Nat.reduceEqDiff, Nat.reduceLT, Nat.reduceLeDiff, ↓reduceIte, Int.reduceLT, Int.reduceLE, Int.reduceAdd, Int.reduceSub, Int.reduceMul, Int.reduceNeg, Int.reduceToNat, Int.reduceMod, Int.reduceEq, Int.reducePow, Nat.reducePow, decide_eq_true_eq, decide_eq_false_iff_not, eq_self, ne_eq, not_true_eq_false, not_false_eq_true, and_true, true_and, and_false, false_and, and_self, or_true, true_or, or_false, false_or]
      refine (bent_ok L2 hd).imp ?_
      rintro ⟨_, m3⟩ ⟨t1, rfl, ht1, L3⟩
      simp only [OX_some, OX_map, OX_fzf, OX_eV, OX_eK, OX_e1, OX_e2, OX_e3, OX_tb, OX_tru, OX_ite, OX_tand, OX_tor, OX_tnot, OX_eand, OX_eor, OX_enot, OX_eif, OX_a0, OX_aC, OX_etup, OX_elst, OX_eC, OX_eF, OX_eM, OX_sNil, OX_sBk, OX_sCt, OX_sRetN, OX_sq, OX_sIf, OX_sRet, OX_sX, OX_sV, OX_sO, OX_sP, OX_sU, OX_tgn, OX_tgt, OX_sSt, OX_eMM, OX_append, OX_eIs, OX_sFor, OX_sWh, OX_eLc, OX_iR1, OX_iR2, OX_iL, OX_iT, OX_oN, OX_oS, OX_eSl, OX_pE0, OX_pE, OX_eDk, OX_eGet2, OX_eDn, OX_eD0, OX_iI, OX_iB, OX_neg, OX_dEq, OX_dNe, OX_dIs, OX_dIsNot, OX_dIn, OX_dNotIn, OX_inL, OX_inT, OX_catT, OX_catL, OX_ixT, OX_ixL, OX_ixS, OX_slT, OX_slL, OX_lenL, OX_lenT, OX_lenS, OX_max2, OX_min2, OX_intI, OX_intB, OX_tupL, OX_tupT, OX_listL, OX_listT, OX_all, OX_any, OX_strT, OX_truB, OX_truI, OX_truL, OX_truT, OX_truN, OX_rtR_s, OX_rtM_s, frz_v, frz_n, frz_s, toD_lst, toD_dic, toD_dk, dr_v, dr_n, dr_s, ownD_own, vals_nil, vals_v, drs_nil, drs_c, svR_v, svR_own, svR_al, boolR_b, argM_s, ownM_own, slotR_s, ownL_own, valR_v, newR_n, two_2, intD_i, int1_i, int2_i, listD_l, tupD_t, eqD_ii, eqD_ss, eqD_bb, rtR_v, rtR_n, rtM_v, rtM_n, atI_0, atI_1, atI_2, atI_3, atI_4, ixN_0, ixN_1, ixN_2, setAllE, sizeLine_eq, Option.bind_some, Option.map_some, List.getElem?_cons_zero, List.getElem?_cons_succ, List.getElem?_nil, List.set_cons_zero, List.set_cons_succ, List.map_cons, List.map_nil, List.cons_append, List.nil_append, List.append_nil, List.length_cons, List.length_nil, List.replicate_succ, List.replicate_zero, Bool.not_true, Bool.not_false, Bool.false_eq_true, decide_true, decide_false, Nat.reduceAdd, Nat.reduceSub, Nat.reduceEqDiff, Nat.reduceLT, Nat.reduceLeDiff, ↓reduceIte, Int.reduceLT, Int.reduceLE, Int.reduceAdd, Int.reduceSub, Int.reduceMul, Int.reduceNeg, Int.reduceToNat, Int.reduceMod, Int.reduceEq, Int.reducePow, Nat.reducePow, decide_eq_true_eq, decide_eq_false_iff_not, eq_self, ne_eq, not_true_eq_false, not_false_eq_true, and_true, true_and, and_false, false_and, and_self, or_true, true_or, or_false, false_or]
      refine (deed_ok L3 (by decide) (by decide)).imp ?_
      rintro ⟨_, m4⟩ ⟨dd2, rfl, hd2, L4⟩
      simp only [OX_some, OX_map, OX_fzf, OX_eV, OX_eK, OX_e1, OX_e2, OX_e3, OX_tb, OX_tru, OX_ite, OX_tand, OX_tor, OX_tnot, OX_eand, OX_eor, OX_enot, OX_eif, OX_a0, OX_aC, OX_etup, OX_elst, OX_eC, OX_eF, OX_eM, OX_sNil, OX_sBk, OX_sCt, OX_sRetN, OX_sq, OX_sIf, OX_sRet, OX_sX, OX_sV, OX_sO, OX_sP, OX_sU, OX_tgn, OX_tgt, OX_sSt, OX_eMM, OX_append, OX_eIs, OX_sFor, OX_sWh, OX_eLc, OX_iR1, OX_iR2, OX_iL, OX_iT, OX_oN, OX_oS, OX_eSl, OX_pE0, OX_pE, OX_eDk, OX_eGet2, OX_eDn, OX_eD0, OX_iI, OX_iB, OX_neg, OX_dEq, OX_dNe, OX_dIs, OX_dIsNot, OX_dIn, OX_dNotIn, OX_inL, OX_inT, OX_catT, OX_catL, OX_ixT, OX_ixL, OX_ixS, OX_slT, OX_slL, OX_lenL, OX_lenT, OX_lenS, OX_max2, OX_min2, OX_intI, OX_intB, OX_tupL, OX_tupT, OX_listL, OX_listT, OX_all, OX_any, OX_strT, OX_truB, OX_truI, OX_truL, OX_truT, OX_truN, OX_rtR_s, OX_rtM_s, frz_v, frz_n, frz_s, toD_lst, toD_dic, toD_dk, dr_v, dr_n, dr_s, ownD_own, vals_nil, vals_v, drs_nil, drs_c, svR_v, svR_own, svR_al, boolR_b, argM_s, ownM_own, slotR_s, ownL_own, valR_v, newR_n, two_2, intD_i, int1_i, int2_i, listD_l, tupD_t, eqD_ii, eqD_ss, eqD_bb, rtR_v, rtR_n, rtM_v, rtM_n, atI_0, atI_1, atI_2, atI_3, atI_4, ixN_0, ixN_1, ixN_2, setAllE, sizeLine_eq, Option.bind_some, Option.map_some, List.getElem?_cons_zero, List.getElem?_cons_succ, List.getElem?_nil, List.set_cons_zero, List.set_cons_succ, List.map_cons, List.map_nil, List.cons_append, List.nil_append, List.append_nil, List.length_cons, List.length_nil, List.replicate_succ, List.replicate_zero, Bool.not_true, Bool.not_false, Bool.false_eq_true, decide_true, decide_false, Nat.reduceAdd, Nat.reduceSub, Nat.reduceEqDiff, Nat.reduceLT, Nat.reduceLeDiff, ↓reduceIte, Int.reduceLT, Int.reduceLE, Int.reduceAdd, Int.reduceSub, Int.reduceMul, Int.reduceNeg, Int.reduceToNat, Int.reduceMod, Int.reduceEq, Int.reducePow, Nat.reducePow, decide_eq_true_eq, decide_eq_false_iff_not, eq_self, ne_eq, not_true_eq_false, not_false_eq_true, and_true, true_and, and_false, false_and, and_self, or_true, true_or, or_false, false_or]
      refine (bent_ok L4 hd2).imp ?_
      rintro ⟨_, m5⟩ ⟨t2, rfl, ht2, L5⟩
      simp only [OX_some, OX_map, OX_fzf, OX_eV, OX_eK, OX_e1, OX_e2, OX_e3, OX_tb, OX_tru, OX_ite, OX_tand, OX_tor, OX_tnot, OX_eand, OX_eor, OX_enot, OX_eif, OX_a0, OX_aC, OX_etup, OX_elst, OX_eC, OX_eF, OX_eM, OX_sNil, OX_sBk, OX_sCt, OX_sRetN, OX_sq, OX_sIf, OX_sRet, OX_sX, OX_sV, OX_sO, OX_sP, OX_sU, OX_tgn, OX_tgt, OX_sSt, OX_eMM, OX_append, OX_eIs, OX_sFor, OX_sWh, OX_eLc, OX_iR1, OX_iR2, OX_iL, OX_iT, OX_oN, OX_oS, OX_eSl, OX_pE0, OX_pE, OX_eDk, OX_eGet2, OX_eDn, OX_eD0, OX_iI, OX_iB, OX_neg, OX_dEq, OX_dNe, OX_dIs, OX_dIsNot, OX_dIn, OX_dNotIn, OX_inL, OX_inT, OX_catT, OX_catL, OX_ixT, OX_ixL, OX_ixS, OX_slT, OX_slL, OX_lenL, OX_lenT, OX_lenS, OX_max2, OX_min2, OX_intI, OX_intB, OX_tupL, OX_tupT, OX_listL, OX_listT, OX_all, OX_any, OX_strT, OX_truB, OX_truI, OX_truL, OX_truT, OX_truN, OX_rtR_s, OX_rtM_s, frz_v, frz_n, frz_s, toD_lst, toD_dic, toD_dk, dr_v, dr_n, dr_s, ownD_own, vals_nil, vals_v, drs_nil, drs_c, svR_v, svR_own, svR_al, boolR_b, argM_s, ownM_own, slotR_s, ownL_own, valR_v, newR_n, two_2, intD_i, int1_i, int2_i, listD_l, tupD_t, eqD_ii, eqD_ss, eqD_bb, rtR_v, rtR_n, rtM_v, rtM_n, atI_0, atI_1, atI_2, atI_3, atI_4, ixN_0, ixN_1, ixN_2, setAllE, sizeLine_eq, Option.bind_some, Option.map_some, List.getElem?_cons_zero, List.getElem?_cons_succ, List.getElem?_nil, List.set_cons_zero, List.set_cons_succ, List.map_cons, List.map_nil, List.cons_append, List.nil_append, List.append_nil, List.length_cons, List.length_nil, List.replicate_succ, List.replicate_zero, Bool.not_true, Bool.not_false, Bool.false_eq_true, decide_true, decide_false, Nat.reduceAdd, Nat.reduceSub, Nat.reduceEqDiff, Nat.reduceLT, Nat.reduceLeDiff, ↓reduceIte, Int.reduceLT, Int.reduceLE, Int.reduceAdd, Int.reduceSub, Int.reduceMul, Int.reduceNeg, Int.reduceToNat, Int.reduceMod, Int.reduceEq, Int.reducePow, Nat.reducePow, decide_eq_true_eq, decide_eq_false_iff_not, eq_self, ne_eq, not_true_eq_false, not_false_eq_true, and_true, true_and, and_false, false_and, and_self, or_true, true_or, or_false, false_or, q1]
      refine ⟨_, _, _, _, _, _, _, _, rfl, L5, fun t ht => ?_, by rw [List.length_append]; simp only [List.length_cons, List.length_nil]; omega⟩
      rcases List.mem_append.mp ht with ht | ht
      · exact hL t ht
      · simp only [List.mem_cons, List.not_mem_nil, or_false] at ht
        rcases ht with rfl | rfl | rfl
        · cases hd with
          | one o => exact Nice.t (PO.str o)
          | two o => exact Nice.t (PO.str o)
          | three o => exact Nice.t (PO.str o)
        · exact ht1
        · exact ht2
    · rintro ρ ⟨x1, m, L, x5, x6, x7, x8, x9, rfl, Lm, hL, _⟩
      simp only [OX_some, OX_map, OX_fzf, OX_eV, OX_eK, OX_e1, OX_e2, OX_e3, OX_tb, OX_tru, OX_ite, OX_tand, OX_tor, OX_tnot, OX_eand, OX_eor, OX_enot, OX_eif, OX_a0, OX_aC, OX_etup, OX_elst, OX_eC, OX_eF, OX_eM, OX_sNil, OX_sBk, OX_sCt, OX_sRetN, OX_sq, OX_sIf, OX_sRet, OX_sX, OX_sV, OX_sO, OX_sP, OX_sU, OX_tgn, OX_tgt, OX_sSt, OX_eMM, OX_append, OX_eIs, OX_sFor, OX_sWh, OX_eLc, OX_iR1, OX_iR2, OX_iL, OX_iT, OX_oN, OX_oS, OX_eSl, OX_pE0, OX_pE, OX_eDk, OX_eGet2, OX_eDn, OX_eD0, OX_iI, OX_iB, OX_neg, OX_dEq, OX_dNe, OX_dIs, OX_dIsNot, OX_dIn, OX_dNotIn, OX_inL, OX_inT, OX_catT, OX_catL, OX_ixT, OX_ixL, OX_ixS, OX_slT, OX_slL, OX_lenL, OX_lenT, OX_lenS, OX_max2, OX_min2, OX_intI, OX_intB, OX_tupL, OX_tupT, OX_listL, OX_listT, OX_all, OX_any, OX_strT, OX_truB, OX_truI, OX_truL, OX_truT, OX_truN, OX_rtR_s, OX_rtM_s, frz_v, frz_n, frz_s, toD_lst, toD_dic, toD_dk, dr_v, dr_n, dr_s, ownD_own, vals_nil, vals_v, drs_nil, drs_c, svR_v, svR_own, svR_al, boolR_b, argM_s, ownM_own, slotR_s, ownL_own, valR_v, newR_n, two_2, intD_i, int1_i, int2_i, listD_l, tupD_t, eqD_ii, eqD_ss, eqD_bb, rtR_v, rtR_n, rtM_v, rtM_n, atI_0, atI_1, atI_2, atI_3, atI_4, ixN_0, ixN_1, ixN_2, setAllE, sizeLine_eq, Option.bind_some, Option.map_some, List.getElem?_cons_zero, List.getElem?_cons_succ, List.getElem?_nil, List.set_cons_zero, List.set_cons_succ, List.map_cons, List.map_nil, List.cons_append, List.nil_append, List.append_nil, List.length_cons, List.length_nil, List.replicate_succ, List.replicate_zero, Bool.not_true, Bool.not_false, Bool.false_eq_true, decide_true, decide_false, Nat.reduceAdd, Nat.reduceSub, Nat.reduceEqDiff, Nat.reduceLT, Nat.reduceLeDiff, ↓reduceIte, Int.reduceLT, Int.reduceLE, Int.reduceAdd, Int.reduceSub, Int.reduceMul, Int.reduceNeg, Int.reduceToNat, Int.reduceMod, Int.reduceEq, Int.reducePow, Nat.reducePow, decide_eq_true_eq, decide_eq_false_iff_not, eq_self, ne_eq, not_true_eq_false, not_false_eq_true, and_true, true_and, and_false, false_and, and_self, or_true, true_or, or_false, false_or]
      refine OX.forL (fun ds ρ => (∀ t ∈ ds, Nice t) ∧ ∃ x1 x2 x4 x5 x6 x7 x8 x9, ρ = [.v (scrD ns), x1, x2, .v (.int (1 + g)), x4, x5, x6, x7, x8, x9]) ?_ ?_ ⟨hL, _, _, _, _, _, _, _, _, rfl⟩
      · rintro d es ρ ⟨hn, x1, x2, x4, x5, x6, x7, x8, x9, rfl⟩
        obtain ⟨b, s1, s2⟩ := same (n := 1 + g) (hn d List.mem_cons_self)
        simp only [OX_some, OX_map, OX_fzf, OX_eV, OX_eK, OX_e1, OX_e2, OX_e3, OX_tb, OX_tru, OX_ite, OX_tand, OX_tor, OX_tnot, OX_eand, OX_eor, OX_enot, OX_eif, OX_a0, OX_aC, OX_etup, OX_elst, OX_eC, OX_eF, OX_eM, OX_sNil, OX_sBk, OX_sCt, OX_sRetN, OX_sq, OX_sIf, OX_sRet, OX_sX, OX_sV, OX_sO, OX_sP, OX_sU, OX_tgn, OX_tgt, OX_sSt, OX_eMM, OX_append, OX_eIs, OX_sFor, OX_sWh, OX_eLc, OX_iR1, OX_iR2, OX_iL, OX_iT, OX_oN, OX_oS, OX_eSl, OX_pE0, OX_pE, OX_eDk, OX_eGet2, OX_eDn, OX_eD0, OX_iI, OX_iB, OX_neg, OX_dEq, OX_dNe, OX_dIs, OX_dIsNot, OX_dIn, OX_dNotIn, OX_inL, OX_inT, OX_catT, OX_catL, OX_ixT, OX_ixL, OX_ixS, OX_slT, OX_slL, OX_lenL, OX_lenT, OX_lenS, OX_max2, OX_min2, OX_intI, OX_intB, OX_tupL, OX_tupT, OX_listL, OX_listT, OX_all, OX_any, OX_strT, OX_truB, OX_truI, OX_truL, OX_truT, OX_truN, OX_rtR_s, OX_rtM_s, frz_v, frz_n, frz_s, toD_lst, toD_dic, toD_dk, dr_v, dr_n, dr_s, ownD_own, vals_nil, vals_v, drs_nil, drs_c, svR_v, svR_own, svR_al, boolR_b, argM_s, ownM_own, slotR_s, ownL_own, valR_v, newR_n, two_2, intD_i, int1_i, int2_i, listD_l, tupD_t, eqD_ii, eqD_ss, eqD_bb, rtR_v, rtR_n, rtM_v, rtM_n, atI_0, atI_1, atI_2, atI_3, atI_4, ixN_0, ixN_1, ixN_2, setAllE, sizeLine_eq, Option.bind_some, Option.map_some, List.getElem?_cons_zero, List.getElem?_cons_succ, List.getElem?_nil, List.set_cons_zero, List.set_cons_succ, List.map_cons, List.map_nil, List.cons_append, List.nil_append, List.append_nil, List.length_cons, List.length_nil, List.replicate_succ, List.replicate_zero, Bool.not_true, Bool.not_false, Bool.false_eq_true, decide_true, decide_false, Nat.reduceAdd, Nat.reduceSub, Nat.reduceEqDiff, Nat.reduceLT, Nat.reduceLeDiff, ↓reduceIte, Int.reduceLT, Int.reduceLE, Int.reduceAdd, Int.reduceSub, Int.reduceMul, Int.reduceNeg, Int.reduceToNat, Int.reduceMod, Int.reduceEq, Int.reducePow, Nat.reducePow, decide_eq_true_eq, decide_eq_false_iff_not, eq_self, ne_eq, not_true_eq_false, not_false_eq_true, and_true, true_and, and_false, false_and, and_self, or_true, true_or, or_false, false_or]
        refine s1.imp ?_
        rintro _ rfl
        simp only [OX_some, OX_map, OX_fzf, OX_eV, OX_eK, OX_e1, OX_e2, OX_e3, OX_tb, OX_tru, OX_ite, OX_tand, OX_tor, OX_tnot, OX_eand, OX_eor, OX_enot, OX_eif, OX_a0, OX_aC, OX_etup, OX_elst, OX_eC, OX_eF, OX_eM, OX_sNil, OX_sBk, OX_sCt, OX_sRetN, OX_sq, OX_sIf, OX_sRet, OX_sX, OX_sV, OX_sO, OX_sP, OX_sU, OX_tgn, OX_tgt, OX_sSt, OX_eMM, OX_append, OX_eIs, OX_sFor, OX_sWh, OX_eLc, OX_iR1, OX_iR2, OX_iL, OX_iT, OX_oN, OX_oS, OX_eSl, OX_pE0, OX_pE, OX_eDk, OX_eGet2, OX_eDn, OX_eD0, OX_iI, OX_iB, OX_neg, OX_dEq, OX_dNe, OX_dIs, OX_dIsNot, OX_dIn, OX_dNotIn, OX_inL, OX_inT, OX_catT, OX_catL, OX_ixT, OX_ixL, OX_ixS, OX_slT, OX_slL, OX_lenL, OX_lenT, OX_lenS, OX_max2, OX_min2, OX_intI, OX_intB, OX_tupL, OX_tupT, OX_listL, OX_listT, OX_all, OX_any, OX_strT, OX_truB, OX_truI, OX_truL, OX_truT, OX_truN, OX_rtR_s, OX_rtM_s, frz_v, frz_n, frz_s, toD_lst, toD_dic, toD_dk, dr_v, dr_n, dr_s, ownD_own, vals_nil, vals_v, drs_nil, drs_c, svR_v, svR_own, svR_al, boolR_b, argM_s, ownM_own, slotR_s, ownL_own, valR_v, newR_n, two_2, intD_i, int1_i, int2_i, listD_l, tupD_t, eqD_ii, eqD_ss, eqD_bb, rtR_v, rtR_n, rtM_v, rtM_n, atI_0, atI_1, atI_2, atI_3, atI_4, ixN_0, ixN_1, ixN_2, setAllE, sizeLine_eq, Option.bind_some, Option.map_some, List.getElem?_cons_zero, List.getElem?_cons_succ, List.getElem?_nil, List.set_cons_zero, List.set_cons_succ, List.map_cons, List.map_nil, List.cons_append, List.nil_append, List.append_nil, List.length_cons, List.length_nil, List.replicate_succ, List.replicate_zero, Bool.not_true, Bool.not_false, Bool.false_eq_true, decide_true, decide_false, Nat.reduceAdd, Nat.reduceSub, Nat.reduceEqDiff, Nat.reduceLT, Nat.reduceLeDiff, ↓reduceIte, Int.reduceLT, Int.reduceLE, Int.reduceAdd, Int.reduceSub, Int.reduceMul, Int.reduceNeg, Int.reduceToNat, Int.reduceMod, Int.reduceEq, Int.reducePow, Nat.reducePow, decide_eq_true_eq, decide_eq_false_iff_not, eq_self, ne_eq, not_true_eq_false, not_false_eq_true, and_true, true_and, and_false, false_and, and_self, or_true, true_or, or_false, false_or, isT_bb]
        refine s2.imp ?_
        rintro _ rfl
        simp only [OX_some, OX_map, OX_fzf, OX_eV, OX_eK, OX_e1, OX_e2, OX_e3, OX_tb, OX_tru, OX_ite, OX_tand, OX_tor, OX_tnot, OX_eand, OX_eor, OX_enot, OX_eif, OX_a0, OX_aC, OX_etup, OX_elst, OX_eC, OX_eF, OX_eM, OX_sNil, OX_sBk, OX_sCt, OX_sRetN, OX_sq, OX_sIf, OX_sRet, OX_sX, OX_sV, OX_sO, OX_sP, OX_sU, OX_tgn, OX_tgt, OX_sSt, OX_eMM, OX_append, OX_eIs, OX_sFor, OX_sWh, OX_eLc, OX_iR1, OX_iR2, OX_iL, OX_iT, OX_oN, OX_oS, OX_eSl, OX_pE0, OX_pE, OX_eDk, OX_eGet2, OX_eDn, OX_eD0, OX_iI, OX_iB, OX_neg, OX_dEq, OX_dNe, OX_dIs, OX_dIsNot, OX_dIn, OX_dNotIn, OX_inL, OX_inT, OX_catT, OX_catL, OX_ixT, OX_ixL, OX_ixS, OX_slT, OX_slL, OX_lenL, OX_lenT, OX_lenS, OX_max2, OX_min2, OX_intI, OX_intB, OX_tupL, OX_tupT, OX_listL, OX_listT, OX_all, OX_any, OX_strT, OX_truB, OX_truI, OX_truL, OX_truT, OX_truN, OX_rtR_s, OX_rtM_s, frz_v, frz_n, frz_s, toD_lst, toD_dic, toD_dk, dr_v, dr_n, dr_s, ownD_own, vals_nil, vals_v, drs_nil, drs_c, svR_v, svR_own, svR_al, boolR_b, argM_s, ownM_own, slotR_s, ownL_own, valR_v, newR_n, two_2, intD_i, int1_i, int2_i, listD_l, tupD_t, eqD_ii, eqD_ss, eqD_bb, rtR_v, rtR_n, rtM_v, rtM_n, atI_0, atI_1, atI_2, atI_3, atI_4, ixN_0, ixN_1, ixN_2, setAllE, sizeLine_eq, Option.bind_some, Option.map_some, List.getElem?_cons_zero, List.getElem?_cons_succ, List.getElem?_nil, List.set_cons_zero, List.set_cons_succ, List.map_cons, List.map_nil, List.cons_append, List.nil_append, List.append_nil, List.length_cons, List.length_nil, List.replicate_succ, List.replicate_zero, Bool.not_true, Bool.not_false, Bool.false_eq_true, decide_true, decide_false, Nat.reduceAdd, Nat.reduceSub, Nat.reduceEqDiff, Nat.reduceLT, Nat.reduceLeDiff, ↓reduceIte, Int.reduceLT, Int.reduceLE, Int.reduceAdd, Int.reduceSub, Int.reduceMul, Int.reduceNeg, Int.reduceToNat, Int.reduceMod, Int.reduceEq, Int.reducePow, Nat.reducePow, decide_eq_true_eq, decide_eq_false_iff_not, eq_self, ne_eq, not_true_eq_false, not_false_eq_true, and_true, true_and, and_false, false_and, and_self, or_true, true_or, or_false, false_or]
        exact ⟨fun t h => hn t (List.mem_cons_of_mem _ h), _, _, _, _, _, _, _, _, rfl⟩
      · rintro ρ ⟨_, x1, x2, x4, x5, x6, x7, x8, x9, rfl⟩
        simp only [OX_some, OX_map, OX_fzf, OX_eV, OX_eK, OX_e1, OX_e2, OX_e3, OX_tb, OX_tru, OX_ite, OX_tand, OX_tor, OX_tnot, OX_eand, OX_eor, OX_enot, OX_eif, OX_a0, OX_aC, OX_etup, OX_elst, OX_eC, OX_eF, OX_eM, OX_sNil, OX_sBk, OX_sCt, OX_sRetN, OX_sq, OX_sIf, OX_sRet, OX_sX, OX_sV, OX_sO, OX_sP, OX_sU, OX_tgn, OX_tgt, OX_sSt, OX_eMM, OX_append, OX_eIs, OX_sFor, OX_sWh, OX_eLc, OX_iR1, OX_iR2, OX_iL, OX_iT, OX_oN, OX_oS, OX_eSl, OX_pE0, OX_pE, OX_eDk, OX_eGet2, OX_eDn, OX_eD0, OX_iI, OX_iB, OX_neg, OX_dEq, OX_dNe, OX_dIs, OX_dIsNot, OX_dIn, OX_dNotIn, OX_inL, OX_inT, OX_catT, OX_catL, OX_ixT, OX_ixL, OX_ixS, OX_slT, OX_slL, OX_lenL, OX_lenT, OX_lenS, OX_max2, OX_min2, OX_intI, OX_intB, OX_tupL, OX_tupT, OX_listL, OX_listT, OX_all, OX_any, OX_strT, OX_truB, OX_truI, OX_truL, OX_truT, OX_truN, OX_rtR_s, OX_rtM_s, frz_v, frz_n, frz_s, toD_lst, toD_dic, toD_dk, dr_v, dr_n, dr_s, ownD_own, vals_nil, vals_v, drs_nil, drs_c, svR_v, svR_own, svR_al, boolR_b, argM_s, ownM_own, slotR_s, ownL_own, valR_v, newR_n, two_2, intD_i, int1_i, int2_i, listD_l, tupD_t, eqD_ii, eqD_ss, eqD_bb, rtR_v, rtR_n, rtM_v, rtM_n, atI_0, atI_1, atI_2, atI_3, atI_4, ixN_0, ixN_1, ixN_2, setAllE, sizeLine_eq, Option.bind_some, Option.map_some, List.getElem?_cons_zero, List.getElem?_cons_succ, List.getElem?_nil, List.set_cons_zero, List.set_cons_succ, List.map_cons, List.map_nil, List.cons_append, List.nil_append, List.append_nil, List.length_cons, List.length_nil, List.replicate_succ, List.replicate_zero, Bool.not_true, Bool.not_false, Bool.false_eq_true, decide_true, decide_false, Nat.reduceAdd, Nat.reduceSub, Nat.reduceEqDiff, Nat.reduceLT, Nat.reduceLeDiff, ↓reduceIte, Int.reduceLT, Int.reduceLE, Int.reduceAdd, Int.reduceSub, Int.reduceMul, Int.reduceNeg, Int.reduceToNat, Int.reduceMod, Int.reduceEq, Int.reducePow, Nat.reducePow, decide_eq_true_eq, decide_eq_false_iff_not, eq_self, ne_eq, not_true_eq_false, not_false_eq_true, and_true, true_and, and_false, false_and, and_self, or_true, true_or, or_false, false_or]
        exact ⟨hds', _, _, _, _, _, _, _, _, _, rfl⟩
  · intro d h
    simp only [List.mem_cons, List.not_mem_nil, or_false] at h
    rcases h with rfl | rfl
    · exact ⟨1, rfl, by decide, by decide⟩
    · exact ⟨59, rfl, by decide, by decide⟩
  · intro a h
    cases h
end Z

set_option Elab.async false
set_option linter.all false
set_option maxRecDepth 100000
/-! ZH: the head's facts with tables of the module told; the law's end. -/
namespace Z
open PySem PySem.Spec PyProof.Rows L2
def tupZ (K : PySem.W.Frag) (x : Str) (vs : List V) : Bool := match K.lookup (He.ga K x) with
  | some ⟨.type c, none, .seq its _, _⟩ => decide (c = "tuple") && (decide (its.size ≤ sizeLine) && He.relAll vs its.toList)
  | _ => false
theorem tupZ_rep {P : Program} {w : World} {K : PySem.W.Frag} {x : Str} {vs : List V} {ds : List D} {H : Hp} (h : tupZ K x vs = true) (r : RepA ⟨P, w, K⟩ H vs ds) : Rep ⟨P, w, K⟩ H (.ref (He.ga K x)) (.tuple ds) := by
  unfold tupZ at h
  cases q : K.lookup (He.ga K x) with
  | none =>
    rw [q] at h
    cases h
  | some o =>
    obtain ⟨oc, od, dt, osl⟩ := o
    rw [q] at h
    cases oc with
    | type c =>
      cases od with
      | none =>
        cases dt with
        | seq its n =>
          obtain ⟨h1, h2⟩ := He.ba (show (decide (c = "tuple") && (decide (its.size ≤ sizeLine) && He.relAll vs its.toList)) = true from h)
          obtain ⟨h3, h4⟩ := He.ba h2
          exact .tup (.inr ⟨_, its, n, q, congrArg Value.type (of_decide_eq_true h1), rfl, rfl, of_decide_eq_true h3, He.relAll_ok h4⟩) r
        | _ => cases h
      | some a => cases dt <;> cases h
    | _ => cases od <;> cases dt <;> cases h
abbrev AlZ : Type := He.AlD × Bool
def obsZ (n : Nat) (fa : List He.Fa) (fn : List He.DefD) (ex : PySem.W.Frag → Bool) (g : Addr → Option Obj) : AlZ := (He.obsD fa fn (He.frG g (He.asD g n)), ex (He.frG g (He.asD g n)))
def hookZ (n : Nat) (fa : List He.Fa) (fn : List He.DefD) (ex : PySem.W.Frag → Bool) : PySem.W.Hook where
  α := AlZ
  obs := fun s => obsZ n fa fn ex s.heap.get?
  val := fun _ => (He.valD fn, true)
  says := fun _ h => ∃ K : PySem.W.Frag, K.In h ∧ He.SaysD fa fn K ∧ ex K = true
  of := fun _ _ e => ⟨_, He.frG_in, congrArg (fun z : AlZ => z.1) e, congrArg (fun z : AlZ => z.2) e⟩
  keeps := fun _ _ _ ⟨K, hK, c⟩ k => ⟨K, PySem.W.Frag.In.keeps hK k, c⟩
theorem obsZ_eq {n : Nat} {fa : List He.Fa} {fn : List He.DefD} {ex : PySem.W.Frag → Bool} {g : Addr → Option Obj} {s : Shared} (h : ∀ a, g a = s.heap.get? a) : obsZ n fa fn ex g = (hookZ n fa fn ex).obs s := by
  have e : g = s.heap.get? := funext h
  rw [e] <;> rfl
theorem repA_ints {c : Ct} {H : Hp} : ∀ ns : List Int, RepA c H (ns.map V.int) (ns.map PyData.int)
  | [] => .nil
  | n :: ns => .cons (.int n) (repA_ints ns)
/-- the law's promise at a script -/
theorem spF_law {P : Program} {w : World} {K : PySem.W.Frag} {F : List D → Option R} {ns : List Int} {H : Hp} {a : Addr} {E : XK} (h : OX (F [.dict [(.none, .list (ns.map .int))]]) fun r => r = .v (.bool true)) (hS : SqL K H a (ns.map V.int)) : spF ⟨P, w, K⟩ F [.ref a] H (fun v _ => v = .bl true) E := by
  obtain ⟨r, e, rfl⟩ := h
  exact ⟨H, _, _, Ext.refl _, .cons (.scr hS (repA_ints ns)) .nil, e, fun v G' H' _ q => by cases q; rfl⟩
end Z

set_option Elab.async false
set_option linter.all false
set_option maxRecDepth 100000
set_option maxHeartbeats 4000000
namespace Z
open PySem PySem.Spec PyProof.Rows L2
def d_is_between : He.DefD := ⟨("is_between", none), "is_between", "is_between", defArgs s_is_between, defBody s_is_between, defScope s_is_between, [], []⟩
def d_is_deed : He.DefD := ⟨("is_deed", none), "is_deed", "is_deed", defArgs s_is_deed, defBody s_is_deed, defScope s_is_deed, [], []⟩
def d_L_cell_at : He.DefD := ⟨("_law_cell_at", none), "_law_cell_at", "_law_cell_at", defArgs s_L_cell_at, defBody s_L_cell_at, defScope s_L_cell_at, [], []⟩
def d_L_far : He.DefD := ⟨("_law_far", none), "_law_far", "_law_far", defArgs s_L_far, defBody s_L_far, defScope s_L_far, [], []⟩
def d_L_left : He.DefD := ⟨("_law_left", none), "_law_left", "_law_left", defArgs s_L_left, defBody s_L_left, defScope s_L_left, [], []⟩
def d_L_pick : He.DefD := ⟨("_law_pick", none), "_law_pick", "_law_pick", defArgs s_L_pick, defBody s_L_pick, defScope s_L_pick, [], []⟩
def d_L_deed : He.DefD := ⟨("_law_deed", none), "_law_deed", "_law_deed", defArgs s_L_deed, defBody s_L_deed, defScope s_L_deed, [], []⟩
def d_L_whole : He.DefD := ⟨("_law_whole", none), "_law_whole", "_law_whole", defArgs s_L_whole, defBody s_L_whole, defScope s_L_whole, [], []⟩
def d_L_is_deed : He.DefD := ⟨("_law_is_deed", none), "_law_is_deed", "_law_is_deed", defArgs s_L_is_deed, defBody s_L_is_deed, defScope s_L_is_deed, [], []⟩
def d_L_bent : He.DefD := ⟨("_law_bent", none), "_law_bent", "_law_bent", defArgs s_L_bent, defBody s_L_bent, defScope s_L_bent, [], []⟩
def d_L_nested : He.DefD := ⟨("_law_nested", none), "_law_nested", "_law_nested", defArgs s_L_nested, defBody s_L_nested, defScope s_L_nested, [], []⟩
def d_law : He.DefD := ⟨("law", none), "law", "law", defArgs s_law, defBody s_law, defScope s_law, [], []⟩
def fn : List He.DefD := [d_is_between, d_is_deed, d_L_cell_at, d_L_far, d_L_left, d_L_pick, d_L_deed, d_L_whole, d_L_is_deed, d_L_bent, d_L_nested, d_law]
def fa : List He.Fa := [.glo "is_between", .glo "is_deed", .glo "_law_cell_at", .glo "_law_far", .glo "_law_left", .glo "_law_pick", .glo "_law_deed", .glo "_law_whole", .glo "_law_is_deed", .glo "_law_bent", .glo "_law_nested", .glo "law", .free "bool", .free "int", .free "isinstance", .free "len", .free "list", .free "max", .free "min", .free "range", .free "str", .free "tuple", .int "LONGEST_LEFT" 9, .glo "ASKS", .glo "MOVES"]
def exB (K : PySem.W.Frag) : Bool := tupZ K "ASKS" [V.str "read", V.str "write"] && tupZ K "MOVES" [V.str "up", V.str "down", V.str "leave", V.str "stop"]
theorem top_of {K : PySem.W.Frag} {h : Heap} {mg : Str → Option Value} (X : K.In h) (G : h.Ns mainGlobals mg) (c : He.SaysD fa fn K) (ex : exB K = true) : ∃ T : Top K mg, T.a_law = He.ga K "law" ∧ ∀ (s : Shared) (us : List Value), us.length = 1 → BindsTo s T.fd_law ⟨us, []⟩ ([("_law_script" : Str)].zip us) := by
  obtain ⟨fd_is_between, F_is_between⟩ := c.def_ 0 (d := d_is_between) rfl
  obtain ⟨fd_is_deed, F_is_deed⟩ := c.def_ 1 (d := d_is_deed) rfl
  obtain ⟨fd_L_cell_at, F_L_cell_at⟩ := c.def_ 2 (d := d_L_cell_at) rfl
  obtain ⟨fd_L_far, F_L_far⟩ := c.def_ 3 (d := d_L_far) rfl
  obtain ⟨fd_L_left, F_L_left⟩ := c.def_ 4 (d := d_L_left) rfl
  obtain ⟨fd_L_pick, F_L_pick⟩ := c.def_ 5 (d := d_L_pick) rfl
  obtain ⟨fd_L_deed, F_L_deed⟩ := c.def_ 6 (d := d_L_deed) rfl
  obtain ⟨fd_L_whole, F_L_whole⟩ := c.def_ 7 (d := d_L_whole) rfl
  obtain ⟨fd_L_is_deed, F_L_is_deed⟩ := c.def_ 8 (d := d_L_is_deed) rfl
  obtain ⟨fd_L_bent, F_L_bent⟩ := c.def_ 9 (d := d_L_bent) rfl
  obtain ⟨fd_L_nested, F_L_nested⟩ := c.def_ 10 (d := d_L_nested) rfl
  obtain ⟨fd_law, F_law⟩ := c.def_ 11 (d := d_law) rfl
  obtain ⟨t_LONGEST_LEFT, g_LONGEST_LEFT⟩ := He.int_ok X G (c.fact 22 (f := .int "LONGEST_LEFT" 9) rfl)
  simp only [exB, Bool.and_eq_true] at ex
  obtain ⟨h_ASKS, h_MOVES⟩ := ex
  exact ⟨{ m_bool := He.free_ok X G (c.fact 12 (f := .free "bool") rfl),
             m_int := He.free_ok X G (c.fact 13 (f := .free "int") rfl),
             m_isinstance := He.free_ok X G (c.fact 14 (f := .free "isinstance") rfl),
             m_len := He.free_ok X G (c.fact 15 (f := .free "len") rfl),
             m_list := He.free_ok X G (c.fact 16 (f := .free "list") rfl),
             m_max := He.free_ok X G (c.fact 17 (f := .free "max") rfl),
             m_min := He.free_ok X G (c.fact 18 (f := .free "min") rfl),
             m_range := He.free_ok X G (c.fact 19 (f := .free "range") rfl),
             m_str := He.free_ok X G (c.fact 20 (f := .free "str") rfl),
             m_tuple := He.free_ok X G (c.fact 21 (f := .free "tuple") rfl),
             a_ASKS := He.ga K "ASKS", g_ASKS := He.glo_ok X G (c.fact 23 (f := .glo "ASKS") rfl), v_ASKS := rfl, r_ASKS := fun P w G' => tupZ_rep h_ASKS (.cons (.str _) (.cons (.str _) .nil)),
             t_LONGEST_LEFT := t_LONGEST_LEFT, g_LONGEST_LEFT := g_LONGEST_LEFT, v_LONGEST_LEFT := ⟨_, rfl⟩, r_LONGEST_LEFT := fun P w G' => Rep.int _,
             a_MOVES := He.ga K "MOVES", g_MOVES := He.glo_ok X G (c.fact 24 (f := .glo "MOVES") rfl), v_MOVES := rfl, r_MOVES := fun P w G' => tupZ_rep h_MOVES (.cons (.str _) (.cons (.str _) (.cons (.str _) (.cons (.str _) .nil)))),
             a_is_between := He.ga K "is_between", fd_is_between := fd_is_between, F_is_between := F_is_between, g_is_between := He.glo_ok X G (c.fact 0 (f := .glo "is_between") rfl), b_is_between := F_is_between.bindsN fun _ _ _ _ _ _ us hl => match us, hl with | [_, _, _], _ => rfl,
             a_is_deed := He.ga K "is_deed", fd_is_deed := fd_is_deed, F_is_deed := F_is_deed, g_is_deed := He.glo_ok X G (c.fact 1 (f := .glo "is_deed") rfl), b_is_deed := F_is_deed.bindsN fun _ _ _ _ _ _ us hl => match us, hl with | [_, _], _ => rfl,
             a_L_cell_at := He.ga K "_law_cell_at", fd_L_cell_at := fd_L_cell_at, F_L_cell_at := F_L_cell_at, g_L_cell_at := He.glo_ok X G (c.fact 2 (f := .glo "_law_cell_at") rfl), b_L_cell_at := F_L_cell_at.bindsN fun _ _ _ _ _ _ us hl => match us, hl with | [_, _], _ => rfl,
             a_L_far := He.ga K "_law_far", fd_L_far := fd_L_far, F_L_far := F_L_far, g_L_far := He.glo_ok X G (c.fact 3 (f := .glo "_law_far") rfl), b_L_far := F_L_far.bindsN fun _ _ _ _ _ _ us hl => match us, hl with | [], _ => rfl,
             a_L_left := He.ga K "_law_left", fd_L_left := fd_L_left, F_L_left := F_L_left, g_L_left := He.glo_ok X G (c.fact 4 (f := .glo "_law_left") rfl), b_L_left := F_L_left.bindsN fun _ _ _ _ _ _ us hl => match us, hl with | [_, _], _ => rfl,
             a_L_pick := He.ga K "_law_pick", fd_L_pick := fd_L_pick, F_L_pick := F_L_pick, g_L_pick := He.glo_ok X G (c.fact 5 (f := .glo "_law_pick") rfl), b_L_pick := F_L_pick.bindsN fun _ _ _ _ _ _ us hl => match us, hl with | [_, _], _ => rfl,
             a_L_deed := He.ga K "_law_deed", fd_L_deed := fd_L_deed, F_L_deed := F_L_deed, g_L_deed := He.glo_ok X G (c.fact 6 (f := .glo "_law_deed") rfl), b_L_deed := F_L_deed.bindsN fun _ _ _ _ _ _ us hl => match us, hl with | [_, _], _ => rfl,
             a_L_whole := He.ga K "_law_whole", fd_L_whole := fd_L_whole, F_L_whole := F_L_whole, g_L_whole := He.glo_ok X G (c.fact 7 (f := .glo "_law_whole") rfl), b_L_whole := F_L_whole.bindsN fun _ _ _ _ _ _ us hl => match us, hl with | [_, _, _], _ => rfl,
             a_L_is_deed := He.ga K "_law_is_deed", fd_L_is_deed := fd_L_is_deed, F_L_is_deed := F_L_is_deed, g_L_is_deed := He.glo_ok X G (c.fact 8 (f := .glo "_law_is_deed") rfl), b_L_is_deed := F_L_is_deed.bindsN fun _ _ _ _ _ _ us hl => match us, hl with | [_, _], _ => rfl,
             a_L_bent := He.ga K "_law_bent", fd_L_bent := fd_L_bent, F_L_bent := F_L_bent, g_L_bent := He.glo_ok X G (c.fact 9 (f := .glo "_law_bent") rfl), b_L_bent := F_L_bent.bindsN fun _ _ _ _ _ _ us hl => match us, hl with | [_, _, _], _ => rfl,
             a_L_nested := He.ga K "_law_nested", fd_L_nested := fd_L_nested, F_L_nested := F_L_nested, g_L_nested := He.glo_ok X G (c.fact 10 (f := .glo "_law_nested") rfl), b_L_nested := F_L_nested.bindsN fun _ _ _ _ _ _ us hl => match us, hl with | [_, _], _ => rfl,
             a_law := He.ga K "law", fd_law := fd_law, F_law := F_law, g_law := He.glo_ok X G (c.fact 11 (f := .glo "law") rfl), b_law := F_law.bindsN fun _ _ _ _ _ _ us hl => match us, hl with | [_], _ => rfl }, rfl, fun s us hl => FunD.bindsA F_law (fun _ _ _ _ _ _ us hl => match us, hl with | [_], _ => rfl) s us hl⟩
def loose_0 : List Str := ["is_between", "ASKS", "MOVES", "LONGEST_LEFT", "is_deed", "_law_cell_at", "_law_left", "_law_far", "_law_pick", "_law_deed", "_law_whole", "_law_is_deed", "_law_bent", "_law_nested"]
def loose : List Str := loose_0
abbrev RW : PySem.W.OpenRow := PySem.W.OpenLaw.row PySem.Challenge.rw_manyreaders_k11_deeds_or_none
abbrev hk : PySem.W.Hook := hookZ 4 fa fn exB
def ob (s : PySem.W.SharedT) : AlZ := obsZ 4 fa fn exB (HandSHeadRun.getT s)
theorem ob_eq (s : PySem.W.SharedT) : ob s = hk.obs s.abs := obsZ_eq (HandSHeadRun.getT_eq s)
theorem run (w : World) : HandSHeadRun.RunEq RW (PySem.W.view RW.prog [17]) hk ob 820 loose w := by
  intro os
  kernel_rfl
end Z
open PySem PySem.W PySem.Calls PyProof.Rows
theorem PySem.Challenge.cw_manyreaders_k11_deeds_or_none_holds : PySem.Challenge.rw_manyreaders_k11_deeds_or_none.Holds := by
  w_on; o_law
  refine HandSHeadRun.head_any (r := OpenLaw.row PySem.Challenge.rw_manyreaders_k11_deeds_or_none) (q := view (OpenLaw.row PySem.Challenge.rw_manyreaders_k11_deeds_or_none).prog [17]) (H := Z.hk) (ob := Z.ob) (M := 820) (loose := Z.loose) (d := HandSHeadRun.topDef (OpenLaw.row PySem.Challenge.rw_manyreaders_k11_deeds_or_none).prog 17) (kwd := []) Z.ob_eq
    (by kernel_rfl) (fun s => by kernel_rfl) Z.run (by kernel_rfl) (by kernel_rfl) (by kernel_rfl) (by rfl) (by first | assumption | decide +kernel) (by decide +kernel) ⟨rfl, rfl, rfl, rfl, rfl, by decide +kernel⟩ ?hw ?hc
  case hw => w_witness2
  case hc =>
    refine L2.walk_ofE (l := PySem.Challenge.rw_manyreaders_k11_deeds_or_none) (n := 63) (k := 3) (x := "_law_script") (CX := L2.CX0) rfl (by decide) (by kernel_rfl) ⟨rfl, by decide, by decide⟩ ?F (fun _ _ _ _ z => z)
    intro w mg fa h Y G hmg0
    obtain ⟨K, KX, c, ex⟩ := Y
    have hmg : mg ("law" : PySem.Str) = some (.ref fa) := by
      have e : (HandSHeadRun.topDef (OpenLaw.row PySem.Challenge.rw_manyreaders_k11_deeds_or_none).prog 17).name = ("law" : PySem.Str) := by kernel_rfl
      rw [← e]
      exact hmg0
    obtain ⟨T, eT, hb⟩ := Z.top_of KX G c ex
    have e : fa = T.a_law := by
      have e1 := hmg.symm.trans T.g_law
      cases e1
      rfl
    subst e
    exact ⟨K, T.fd_law, _, KX, fun s u => hb s [u] rfl, fun H a ns hl _ hS => Z.spF_law Z.law_ok hS, fun base _ _ => Z.ok_law T⟩

