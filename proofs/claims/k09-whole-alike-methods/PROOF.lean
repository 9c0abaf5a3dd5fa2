import PyProof.Rows.All
import Wide.All
import OpenK.AllK
import Wide.FinOn
import HandS.ForMost
import HandS.TupAny
import HandS.Conv
import HandS.IsInst
import HandS.Deep
import HandS.Zip
import HandS.Flow
import HandS.Style
import KE.SortData
import HandS.ExcValue
import HandS.Wide
import HandS.TupMul
import HandS.Text
import KE.KRevSl
import HandS.SetFor
import HandS.Strs
import KE.KDictPairs
import HandS.DictComp
import KE.DataMinMax
import PySem.Challenge.RW_bellstrue_k09_whole_alike_methods
set_option Elab.async false
set_option linter.all false
set_option maxRecDepth 100000
set_option maxHeartbeats 4000000
/-! New tuples whose objects are known: they have no dict of their own, so their methods may be called. -/
namespace Dl
open PySem L2 PySem.Spec PyProof.Rows
/-- the items are all whole numbers or texts: the tuple may be a key -/
def keyOne : PyData → Option Key
  | .int i => some (.inl i)
  | .str x => some (.inr x)
  | _ => none
def keyAll : List PyData → Option (List Key)
  | [] => some []
  | d :: ds => match keyOne d, keyAll ds with
    | some k, some ks => some (k :: ks)
    | _, _ => none
/-- what a tuple is told by: one that may be a key is told plainly; of any other the object is known, and has no dict of its own -/
def TObj (xs : List V) (ds : List PyData) (o : HO) : Prop := if (keyAll ds).isSome = true then o = .tup xs else ∃ ob : Obj, ob.dict = none ∧ o = .frz ob (.tup xs)
def TAt (F : Hp) (a : Addr) (xs : List V) (ds : List PyData) : Prop := ∃ o, TObj xs ds o ∧ F a = some o
theorem TObj.cases {xs : List V} {ds : List PyData} {o : HO} (h : TObj xs ds o) : o = .tup xs ∨ ∃ ob : Obj, ob.dict = none ∧ o = .frz ob (.tup xs) := by
  unfold TObj at h
  split at h
  · exact .inl h
  · exact .inr h
theorem TAt.sqT {K : PySem.W.Frag} {F : Hp} {a : Addr} {xs : List V} {ds : List PyData} (h : TAt F a xs ds) : SqT K F a xs := by
  obtain ⟨o, t, e⟩ := h
  rcases t.cases with rfl | ⟨ob, _, rfl⟩
  · exact .inl (.inl e)
  · exact .inl (.inr ⟨ob, e⟩)
theorem TAt.mono {F F' : Hp} {a : Addr} {xs : List V} {ds : List PyData} (h : TAt F a xs ds) (le : ∀ b o, F b = some o → F' b = some o) : TAt F' a xs ds := by
  obtain ⟨o, d, e⟩ := h
  exact ⟨o, d, le _ _ e⟩
theorem TAt.key {F : Hp} {a : Addr} {xs : List V} {ds : List PyData} {ks : List Key} (h : TAt F a xs ds) (k : keyAll ds = some ks) : F a = some (.tup xs) := by
  obtain ⟨o, t, e⟩ := h
  unfold TObj at t
  rw [k] at t
  have t' : o = .tup xs := by simpa using t
  rw [e, t']
/-- whatever is asked holds of each new tuple -/
def NewT (Q : VK) (H : Hp) (xs : List V) : Prop := ∃ ds : List PyData, ∀ (p : Addr) (o : HO), H p = none → TObj xs ds o → Q (.ref p) (upd H p o)
section
variable {X : Cx} {pins : List (Addr × Obj)} {σ : L2.St} {H : Hp} {s : Shared} {Q : VK} {xs : List V} {its : List Value} {n : Nat}
theorem laidT (I : Inv X pins σ H s) (r : Vals xs its) (hz : xs.length ≤ sizeLine) (q : NewT Q H xs) : EP X pins σ Q (.ref s.heap.objs.size) { s with heap := s.heap.push { cls := .type "tuple", data := .seq its.toArray n } } := by
  obtain ⟨ds, q⟩ := q
  have hn := I.hok.fresh (Nat.le_refl _)
  by_cases k : (keyAll ds).isSome = true
  · exact ⟨.ref s.heap.objs.size, _, I.laid (t' := s.toks) (o := .tup xs) (fun _ _ z => Heap.get?_push_of_some _ z) (Nat.le_refl _) ⟨hz, its, r, ⟨_, Heap.get?_push_size _ rfl, rfl, _, rfl⟩⟩, rfl, q _ _ hn (by unfold TObj; rw [if_pos k])⟩
  · exact ⟨.ref s.heap.objs.size, _, I.laid (t' := s.toks) (o := .frz { cls := .type "tuple", data := .seq its.toArray n } (.tup xs)) (fun _ _ z => Heap.get?_push_of_some _ z) (Nat.le_refl _) ⟨Heap.get?_push_size _ rfl, hz, its, r, ⟨_, Heap.get?_push_size _ rfl, rfl, _, rfl⟩⟩, rfl, q _ _ hn (by unfold TObj; rw [if_neg k]; exact ⟨_, rfl, rfl⟩)⟩
variable {es : List Expr} {t : TA} {pos : Pos}
def tTupF (t : TA) : TE := fun σ H Q => t σ H fun xs H1 => xs.length ≤ sizeLine ∧ NewT Q H1 xs
theorem pe_tupF {x1} (h : PA X es t) : PE X (.Tuple es x1 pos) (tTupF t) :=
  ⟨fun pins s σ H Q I hq => wpAny_Tuple_spliced (thn (h.run pos pins s σ H _ I hq) fun us s1 ⟨xs, H1, I1, r, z, q⟩ => ⟨by rw [← r.length]; exact z, laidT I1 r z q⟩)⟩
def rCatF (K : PySem.W.Frag) : R2 := fun x y H Q => ∃ a b xs ys, x = .ref a ∧ y = .ref b ∧ SqT K H a xs ∧ SqT K H b ys ∧ xs.length + ys.length ≤ sizeLine ∧
  (xs = [] → Q (.ref b) H) ∧ (xs ≠ [] → ys = [] → Q (.ref a) H) ∧ (xs ≠ [] → ys ≠ [] → NewT Q H (xs ++ ys))
theorem op_catF : OpR X (binaryOp .Add) (rCatF X.K) := by
  intro pins s σ H x y v u Q I rx ry h
  obtain ⟨a, b, xs, ys, rfl, rfl, ha, hb, hz, q0, q1, q2⟩ := h
  cases rx
  cases ry
  obtain ⟨its, r1, p1, _⟩ := I.tuple ha
  obtain ⟨its2, r2, p2, _⟩ := I.tuple hb
  by_cases hx : xs = []
  · subst hx
    cases r1
    exact cat_tup0 p1 p2 ⟨.ref b, H, I, rfl, q0 rfl⟩
  · exact HT.cat_tup p1 p2 (fun z => hx (r1.nil_iff.mp z)) (fun z => ⟨.ref a, H, I, rfl, q1 hx (r2.nil_iff.mp z)⟩)
      (fun z => laidT I (r1.append r2) (by rw [List.length_append]; exact hz) (q2 hx fun w => z (r2.nil_iff.mpr w))) (by rw [← r1.length, ← r2.length]; exact hz)
def rSlF (K : PySem.W.Frag) : V → Option Int → Option Int → Hp → VK → Prop := fun x lo hi H Q => ∃ a xs, x = .ref a ∧ SqT K H a xs ∧
  (HT.sIx xs.length 0 lo = 0 ∧ HT.sIx xs.length xs.length hi = xs.length → Q (.ref a) H) ∧ (¬ (HT.sIx xs.length 0 lo = 0 ∧ HT.sIx xs.length xs.length hi = xs.length) → NewT Q H (cutV xs lo hi))
theorem sl_tupF : SlR X (rSlF X.K) := by
  intro pins s σ H x v vl vu lo hi sl Q I rx hs pl pu h
  obtain ⟨a, xs, rfl, hx, q1, q2⟩ := h
  cases rx
  obtain ⟨its, r, ht, hz⟩ := I.tuple hx
  have hlen : its.toArray.size = xs.length := by rw [List.size_toArray]; exact r.length.symm
  refine ⟨"tuple", _, PyProof.Rows.slot_tuple_getitem.lookup, ht.typeIs, ?_⟩
  by_cases hw : HT.sIx xs.length 0 lo = 0 ∧ HT.sIx xs.length xs.length hi = xs.length
  · exact getItem_tuple_whole ht hs pl pu (by rw [hlen]; exact hw) ⟨.ref a, H, I, rfl, q1 hw⟩
  · refine HT.getItem_tuple_cut ht hs pl pu (by rw [hlen]; exact hw) ?_ (by rw [hlen]; exact hz)
    rw [hlen]
    exact laidT I ((r.drop (HT.sIx xs.length 0 lo)).take (HT.sIx xs.length xs.length hi - HT.sIx xs.length 0 lo)) (Nat.le_trans (cutV_length xs lo hi) hz) (q2 hw)
theorem call_tupleF : CallR X (.type "tuple") (fun xs H Q => ∃ p ys, xs = [.ref p] ∧ ((SqL X.K H p ys ∧ NewT Q H ys) ∨ (SqT X.K H p ys ∧ Q (.ref p) H))) := by
  intro pins s σ H xs us Q I r h
  obtain ⟨p, ys, rfl, h⟩ := h
  obtain ⟨u, rfl, rx⟩ := vals1 r
  cases rx
  rcases h with ⟨hq, q⟩ | ⟨hq, q⟩
  · obtain ⟨its, r', pl, hz⟩ := I.list hq
    have hlen := r'.length
    refine call_tuple_list pl.isList (fun h' kp => ?_) (by simp only [List.size_toArray] <;> omega)
    have I1 : Inv X pins σ H { s with heap := h' } := I.kept (t' := s.toks) kp
    exact laidT I1 r' hz q
  · obtain ⟨its, r', pl, hz⟩ := I.tuple hq
    exact call_tuple_same pl ⟨.ref p, H, I, rfl, q⟩
variable {e : Expr} {te : L2.St → Hp → (Int → Int → Hp → Prop) → Prop}
def tTupRgF (te : L2.St → Hp → (Int → Int → Hp → Prop) → Prop) : TE := fun σ H Q => te σ H fun a b H1 => RgOk a b ∧ NewT Q H1 (rgV a b)
theorem pe_tupRgF {p pos : Pos} (hc : X.calm = true) (hg : Gl X "tuple") (hm : X.mg "tuple" = none) (he : PRg X e te) (na : starEach [e] X.env = (false, eval e X.env) :: starEach [] X.env := by rfl) : PE X (.Call (.Name "tuple" p) [e] [] pos) (tTupRgF te) := by
  refine ⟨fun pins s σ H Q I h => ?_⟩
  refine Call_ (ld_blt I hg hm boot_tuple (PyProof.Rows.callWith_type1 (args_cons (thn (he pins s σ H _ I h) fun x s1 ⟨r, a, b, t, u, v, H1, ex, hr, I1, ok, q⟩ => args_nil ?_) na) na))
  subst ex
  obtain ⟨b1, b2, b3, b4, b5⟩ := ok
  refine call_tuple_range (n := (b - a).toNat) (I1.ok.hd hc) hr (small_one b1 b2 b3 b4) (rangeSize_nat a b) b5 fun h' tk acc hk hi => ?_
  have I2 : Inv X pins σ H1 { s1 with heap := h', toks := tk } := I1.kept hk
  have z := laidT (n := 0) I2 (vals_rg hi) (by rw [rgV_length, sizeLine_eq]; omega) q
  rw [Array.toArray_toList] at z
  exact z
end
end Dl
/-! A layer of data over the hand layer: values as plain data, the slots as cells, readings over data. -/
namespace Dl
open PySem L2

/-! ### data -/
abbrev D := PyData
/-- a thing that is held by its address alone -/
def refD (a : Addr) : D := .dict [(.none, .int (a : Int))]
def keyD : Key → D
  | .inl i => .int i
  | .inr x => .str x
def keysD (k : List Key) : D := .tuple (k.map keyD)

mutual
/-- the value v stands for the data d in the heap F -/
inductive Rp (K : PySem.W.Frag) (F : Hp) : V → D → Prop
  | non : Rp K F .non .none
  | bl (b : Bool) : Rp K F (.bl b) (.bool b)
  | int (i : Int) : Rp K F (.int i) (.int i)
  | str (x : Str) : Rp K F (.str x) (.str x)
  | lst {a : Addr} {xs : List V} {ds : List D} : F a = some (.lst xs) → RpL K F xs ds → Rp K F (.ref a) (.list ds)
  | tup {a : Addr} {xs : List V} {ds : List D} : TAt F a xs ds → RpL K F xs ds → Rp K F (.ref a) (.tuple ds)
  | obj (a : Addr) : Rp K F (.ref a) (refD a)
  | dK {a : Addr} {kvs : List (Key × V)} {ds : List D} : F a = some (.dK kvs) → RpL K F (kvs.map (·.2)) ds → Rp K F (.ref a) (.dict ((kvs.map fun p => keyD p.1).zip ds))
  | dT {a : Addr} {kvs : List (List Key × V)} {ds : List D} : F a = some (.dT kvs) → RpL K F (kvs.map (·.2)) ds → Rp K F (.ref a) (.dict ((kvs.map fun p => keysD p.1).zip ds))
inductive RpL (K : PySem.W.Frag) (F : Hp) : List V → List D → Prop
  | nil : RpL K F [] []
  | cons {v : V} {vs : List V} {d : D} {ds : List D} : Rp K F v d → RpL K F vs ds → RpL K F (v :: vs) (d :: ds)
end

/-- all that F holds, F' holds -/
abbrev Hle (F F' : Hp) : Prop := ∀ b o, F b = some o → F' b = some o
theorem Hle.refl (F : Hp) : Hle F F := fun _ _ h => h
theorem Hle.trans {F F1 F2 : Hp} (a : Hle F F1) (b : Hle F1 F2) : Hle F F2 := fun c o h => b c o (a c o h)
theorem Hle.sqT {K : PySem.W.Frag} {F F' : Hp} (h : Hle F F') {a : Addr} {xs : List V} (s : SqT K F a xs) : SqT K F' a xs := by
  rcases s with (s | ⟨o, s⟩) | s
  · exact .inl (.inl (h _ _ s))
  · exact .inl (.inr ⟨o, h _ _ s⟩)
  · exact .inr s

section
variable {K : PySem.W.Frag} {F F' : Hp}
mutual
theorem Rp.mono (h : Hle F F') : ∀ {v : V} {d : D}, Rp K F v d → Rp K F' v d
  | _, _, .non => .non
  | _, _, .bl b => .bl b
  | _, _, .int i => .int i
  | _, _, .str x => .str x
  | _, _, .lst s r => .lst (h _ _ s) (RpL.mono h r)
  | _, _, .tup s r => .tup (s.mono h) (RpL.mono h r)
  | _, _, .obj a => .obj a
  | _, _, .dK s r => .dK (h _ _ s) (RpL.mono h r)
  | _, _, .dT s r => .dT (h _ _ s) (RpL.mono h r)
theorem RpL.mono (h : Hle F F') : ∀ {vs : List V} {ds : List D}, RpL K F vs ds → RpL K F' vs ds
  | _, _, .nil => .nil
  | _, _, .cons r t => .cons (Rp.mono h r) (RpL.mono h t)
end

theorem RpL.length : ∀ {vs : List V} {ds : List D}, RpL K F vs ds → vs.length = ds.length
  | _, _, .nil => rfl
  | _, _, .cons _ t => congrArg (· + 1) t.length
theorem RpL.get : ∀ {vs : List V} {ds : List D} {i : Nat} {v : V}, RpL K F vs ds → vs[i]? = some v → ∃ d, ds[i]? = some d ∧ Rp K F v d
  | _, _, _, _, .nil, h => by simp at h
  | _, _, 0, _, .cons r _, h => by
    simp at h
    subst h
    exact ⟨_, rfl, r⟩
  | _, _, i + 1, _, .cons _ t, h => by
    obtain ⟨d, e, r⟩ := RpL.get (i := i) t (by simpa using h)
    exact ⟨d, by simpa using e, r⟩
theorem RpL.get' : ∀ {vs : List V} {ds : List D} {i : Nat} {d : D}, RpL K F vs ds → ds[i]? = some d → ∃ v, vs[i]? = some v ∧ Rp K F v d
  | _, _, _, _, .nil, h => by simp at h
  | _, _, 0, _, .cons r _, h => by
    simp at h
    subst h
    exact ⟨_, rfl, r⟩
  | _, _, i + 1, _, .cons _ t, h => by
    obtain ⟨d, e, r⟩ := RpL.get' (i := i) t (by simpa using h)
    exact ⟨d, by simpa using e, r⟩
theorem RpL.append : ∀ {vs ws : List V} {ds es : List D}, RpL K F vs ds → RpL K F ws es → RpL K F (vs ++ ws) (ds ++ es)
  | _, _, _, _, .nil, s => s
  | _, _, _, _, .cons r t, s => .cons r (RpL.append t s)
theorem RpL.one {v : V} {d : D} (r : Rp K F v d) : RpL K F [v] [d] := .cons r .nil
theorem RpL.take : ∀ {vs : List V} {ds : List D} (n : Nat), RpL K F vs ds → RpL K F (vs.take n) (ds.take n)
  | _, _, 0, _ => .nil
  | _, _, _ + 1, .nil => .nil
  | _, _, n + 1, .cons r t => .cons r (RpL.take n t)
theorem RpL.drop : ∀ {vs : List V} {ds : List D} (n : Nat), RpL K F vs ds → RpL K F (vs.drop n) (ds.drop n)
  | _, _, 0, r => r
  | _, _, _ + 1, .nil => .nil
  | _, _, n + 1, .cons _ t => RpL.drop n t
theorem RpL.set : ∀ {vs : List V} {ds : List D} {v : V} {d : D} (n : Nat), Rp K F v d → RpL K F vs ds → RpL K F (vs.set n v) (ds.set n d)
  | _, _, _, _, _, _, .nil => .nil
  | _, _, _, _, 0, q, .cons _ t => .cons q t
  | _, _, _, _, n + 1, q, .cons r t => .cons r (RpL.set n q t)
theorem RpL.reverse : ∀ {vs : List V} {ds : List D}, RpL K F vs ds → RpL K F vs.reverse ds.reverse
  | _, _, .nil => .nil
  | _, _, .cons r t => by
    rw [List.reverse_cons, List.reverse_cons]
    exact (RpL.reverse t).append (.one r)
theorem RpL.rep {vs : List V} {ds : List D} (r : RpL K F vs ds) : ∀ k : Nat, RpL K F (List.replicate k vs).flatten (List.replicate k ds).flatten
  | 0 => .nil
  | k + 1 => by
    rw [List.replicate_succ, List.replicate_succ, List.flatten_cons, List.flatten_cons]
    exact r.append (RpL.rep r k)
theorem RpL.nil_iff {vs : List V} {ds : List D} (r : RpL K F vs ds) : vs = [] ↔ ds = [] := by
  cases r <;> simp

/-! ### data that hold no dict, for the kit's own rules over data -/
mutual
theorem Rp.dp : ∀ (d : D) (v : V), Rp K F v d → d.canLay0 = true → Dp K F v d
  | .none, _, r, _ => by cases r; exact .non
  | .bool b, _, r, _ => by cases r; exact .bl b
  | .int i, _, r, _ => by cases r; exact .int i
  | .str x, _, r, _ => by cases r; exact .str x
  | .list ds, _, r, h => by
    cases r with
    | lst s t => exact .lst (SqL.of s) (RpL.dp ds _ t (by simpa [PyData.canLay0] using h))
  | .tuple ds, _, r, h => by
    cases r with
    | tup s t => exact .tup s.sqT (RpL.dp ds _ t (by simpa [PyData.canLay0] using h))
  | .dict _, _, _, h => by simp [PyData.canLay0] at h
theorem RpL.dp : ∀ (ds : List D) (vs : List V), RpL K F vs ds → PyData.canLayAll0 ds = true → DpAll K F vs ds
  | [], _, r, _ => by cases r; exact .nil
  | d :: ds, _, r, h => by
    cases r with
    | cons r t =>
      simp only [PyData.canLayAll0, Bool.and_eq_true] at h
      exact .cons (Rp.dp d _ r h.1) (RpL.dp ds _ t h.2)
end
end

/-! ### the part of a heap that nobody writes -/
open Classical in
/-- H without the addresses of P -/
noncomputable def fzP (H : Hp) (P : Addr → Prop) : Hp := fun b => if P b then none else H b
section
variable {H H' : Hp} {P P' : Addr → Prop} {b : Addr} {o : HO}
theorem fzP_some : fzP H P b = some o ↔ ¬ P b ∧ H b = some o := by
  unfold fzP
  by_cases h : P b
  · simp [h]
  · simp [h]
theorem fzP_of (h : ¬ P b) (e : H b = some o) : fzP H P b = some o := fzP_some.mpr ⟨h, e⟩
theorem fzP_mono (h : Hle H H') (hp : ∀ b o, H b = some o → P' b → P b) : Hle (fzP H P) (fzP H' P') := fun b o e => by
  obtain ⟨n, e⟩ := fzP_some.mp e
  exact fzP_of (fun z => n (hp b o e z)) (h b o e)
theorem fzP_le : Hle (fzP H P) H := fun b o e => (fzP_some.mp e).2
theorem Dp.up {K : PySem.W.Frag} {F F' : Hp} (h : Hle F F') {v : V} {d : D} (r : Rp K F v d) (l : d.canLay0 = true) : Dp K F' v d := (r.mono h).dp _ _ l
end

/-! ### what lives beside the slots: things that are changed (the pool of draws ..) -/
structure Amb where
  S : Type
  at_ : S → (Addr → Prop) → Hp → Hp → Prop
  dom : ∀ {s O F H b}, at_ s O F H → O b → ∃ o, H b = some o
  stay : ∀ {s O F F' H H'}, at_ s O F H → Hle F F' → (∀ b, O b → H' b = H b) → at_ s O F' H'

/-! ### cells -/
inductive Cell where
  /-- nothing is known -/
  | un
  /-- data that nobody writes any more -/
  | fz (d : D)
  /-- a list of the def's own, that nothing else refers to -/
  | ol (ds : List D)
  /-- such a dict, by its kinds of keys -/
  | dk (kvs : List (Key × D))
  | dt (kvs : List (List Key × D))
abbrev Rho := List Cell
def Cell.own : Cell → Prop
  | .un => False
  | .fz _ => False
  | .ol _ => True
  | .dk _ => True
  | .dt _ => True
def CellOk (K : PySem.W.Frag) (F H : Hp) (v : Option V) : Cell → Prop
  | .un => True
  | .fz d => ∃ x, v = some x ∧ Rp K F x d
  | .ol ds => ∃ p xs, v = some (.ref p) ∧ H p = some (.lst xs) ∧ RpL K F xs ds
  | .dk kvs => ∃ p kv, v = some (.ref p) ∧ H p = some (.dK kv) ∧ kv.map (·.1) = kvs.map (·.1) ∧ RpL K F (kv.map (·.2)) (kvs.map (·.2))
  | .dt kvs => ∃ p kv, v = some (.ref p) ∧ H p = some (.dT kv) ∧ kv.map (·.1) = kvs.map (·.1) ∧ RpL K F (kv.map (·.2)) (kvs.map (·.2))
/-- b is the object of a cell of the def's own -/
def OwnS (σ : St) (ρ : Rho) (b : Addr) : Prop := ∃ (i : Nat) (c : Cell), ρ[i]? = some c ∧ c.own ∧ σ[i]? = some (some (.ref b))

/-- the entry of a def: its heap, what lives beside, what the callers hold for themselves -/
structure Ent where
  H0 : Hp
  O0 : Addr → Prop
  X0 : Addr → Prop
def Px (N : Ent) (σ : St) (ρ : Rho) (O : Addr → Prop) : Addr → Prop := fun b => O b ∨ OwnS σ ρ b ∨ N.X0 b

structure Rel (A : Amb) (K : PySem.W.Frag) (N : Ent) (s : A.S) (σ : St) (H : Hp) (ρ : Rho) (O : Addr → Prop) : Prop where
  amb : A.at_ s O (fzP H (Px N σ ρ O)) H
  keep : ∀ b o, N.H0 b = some o → ¬ N.O0 b → H b = some o ∧ ¬ O b
  xd : ∀ b, N.X0 b → (∃ o, N.H0 b = some o) ∧ ¬ N.O0 b
  len : σ.length = ρ.length
  cell : ∀ (i : Nat) v c, σ[i]? = some v → ρ[i]? = some c → CellOk K (fzP H (Px N σ ρ O)) H v c
  new : ∀ b, OwnS σ ρ b → (∀ o, N.H0 b = some o → N.O0 b) ∧ ¬ O b
  inj : ∀ (i j : Nat) c c' b, ρ[i]? = some c → c.own → ρ[j]? = some c' → c'.own → σ[i]? = some (some (.ref b)) → σ[j]? = some (some (.ref b)) → i = j

theorem CellOk.own_at {K : PySem.W.Frag} {F H : Hp} {v : Option V} {c : Cell} (h : CellOk K F H v c) (o : c.own) : ∃ p ob, v = some (.ref p) ∧ H p = some ob := by
  cases c with
  | un => exact o.elim
  | fz d => exact o.elim
  | ol ds => obtain ⟨p, xs, e, h, _⟩ := h; exact ⟨p, _, e, h⟩
  | dk ds => obtain ⟨p, xs, e, h, _⟩ := h; exact ⟨p, _, e, h⟩
  | dt ds => obtain ⟨p, xs, e, h, _⟩ := h; exact ⟨p, _, e, h⟩
theorem CellOk.mono {K : PySem.W.Frag} {F F' H H' : Hp} {v : Option V} {c : Cell} (h : CellOk K F H v c) (hF : Hle F F') (hH : ∀ p, c.own → v = some (.ref p) → H' p = H p) : CellOk K F' H' v c := by
  cases c with
  | un => trivial
  | fz d => obtain ⟨x, e, r⟩ := h; exact ⟨x, e, r.mono hF⟩
  | ol ds => obtain ⟨p, xs, e, h, r⟩ := h; exact ⟨p, xs, e, (hH p trivial e).trans h, r.mono hF⟩
  | dk ds => obtain ⟨p, xs, e, h, k, r⟩ := h; exact ⟨p, xs, e, (hH p trivial e).trans h, k, r.mono hF⟩
  | dt ds => obtain ⟨p, xs, e, h, k, r⟩ := h; exact ⟨p, xs, e, (hH p trivial e).trans h, k, r.mono hF⟩

section
variable {A : Amb} {K : PySem.W.Frag} {N : Ent} {s : A.S} {σ : St} {H H' : Hp} {ρ : Rho} {O : Addr → Prop}
theorem Rel.ownD (R : Rel A K N s σ H ρ O) {b : Addr} (h : OwnS σ ρ b) : ∃ o, H b = some o := by
  obtain ⟨i, c, e, o, e'⟩ := h
  obtain ⟨p, ob, q, z⟩ := (R.cell i _ c e' e).own_at o
  cases q
  exact ⟨ob, z⟩
/-- what is excluded stands somewhere -/
theorem Rel.dom (R : Rel A K N s σ H ρ O) {b : Addr} (h : Px N σ ρ O b) : ∃ o, H b = some o := by
  rcases h with h | h | h
  · exact A.dom R.amb h
  · exact R.ownD h
  · obtain ⟨⟨o, e⟩, n⟩ := R.xd b h
    exact ⟨o, (R.keep b o e n).1⟩
theorem Rel.fzle (R : Rel A K N s σ H ρ O) (h : Same H H') : Hle (fzP H (Px N σ ρ O)) (fzP H' (Px N σ ρ O)) := fzP_mono h fun _ _ _ z => z
/-- new objects alone -/
theorem Rel.alloc (R : Rel A K N s σ H ρ O) (h : Same H H') : Rel A K N s σ H' ρ O := by
  have st : ∀ b, (∃ o, H b = some o) → H' b = H b := fun b ⟨o, e⟩ => by rw [e]; exact h b o e
  refine ⟨A.stay R.amb (R.fzle h) fun b z => st b (A.dom R.amb z), fun b o e n => ⟨h _ _ (R.keep b o e n).1, (R.keep b o e n).2⟩, R.xd, R.len, fun i v c e1 e2 => ?_, R.new, R.inj⟩
  refine (R.cell i v c e1 e2).mono (R.fzle h) fun p o e => st p ?_
  subst e
  exact R.ownD ⟨i, c, e2, o, e1⟩
/-- an address without an object is not excluded -/
theorem Rel.fresh (R : Rel A K N s σ H ρ O) {p : Addr} (h : H p = none) : ¬ Px N σ ρ O p := fun z => by
  obtain ⟨o, e⟩ := R.dom z
  rw [h] at e
  cases e
end
theorem same_upd {H : Hp} {p : Addr} {o : HO} (h : H p = none) : Same H (upd H p o) := fun b x e => by rw [upd_ne (ne_of_none e h)]; exact e

/-! ### the readings over data -/
section
variable (A : Amb)
abbrev DE := Rho → A.S → (D → A.S → Prop) → Prop
abbrev DT := Rho → A.S → (Bool → A.S → Prop) → Prop
abbrev DA := Rho → A.S → (List D → A.S → Prop) → Prop
structure DEnds where
  nx : Rho → A.S → Prop
  rt : D → A.S → Prop
  bk : Rho → A.S → Prop := fun _ _ => False
  ct : Rho → A.S → Prop := fun _ _ => False
abbrev DS := DEnds A → Rho → A.S → Prop
end

section
variable (A : Amb) (K : PySem.W.Frag) (N : Ent)
noncomputable abbrev Rel.F {A : Amb} {K : PySem.W.Frag} {N : Ent} {s : A.S} {σ : St} {H : Hp} {ρ : Rho} {O : Addr → Prop} (_ : Rel A K N s σ H ρ O) : Hp := fzP H (Px N σ ρ O)
def liftE (t : DE A) : TE := fun σ H Q => ∃ ρ s O P, Rel A K N s σ H ρ O ∧ t ρ s P ∧ ∀ d s' v H' O', P d s' → Rel A K N s' σ H' ρ O' → Hle (fzP H (Px N σ ρ O)) (fzP H' (Px N σ ρ O')) → Rp K (fzP H' (Px N σ ρ O')) v d → Q v H'
def liftT (t : DT A) : TT := fun σ H Q => ∃ ρ s O P, Rel A K N s σ H ρ O ∧ t ρ s P ∧ ∀ b s' H' O', P b s' → Rel A K N s' σ H' ρ O' → Hle (fzP H (Px N σ ρ O)) (fzP H' (Px N σ ρ O')) → Q b H'
def liftA (t : DA A) : TA := fun σ H Q => ∃ ρ s O P, Rel A K N s σ H ρ O ∧ t ρ s P ∧ ∀ ds s' vs H' O', P ds s' → Rel A K N s' σ H' ρ O' → Hle (fzP H (Px N σ ρ O)) (fzP H' (Px N σ ρ O')) → RpL K (fzP H' (Px N σ ρ O')) vs ds → Q vs H'
/-- what a def's statement wants of the state behind it; F: what was frozen ahead of it -/
structure EndsOk (F : Hp) (Dd : DEnds A) (D : Ends) : Prop where
  nx : ∀ ρ s σ H O, Rel A K N s σ H ρ O → Hle F (fzP H (Px N σ ρ O)) → Dd.nx ρ s → D.nx σ H
  rt : ∀ ρ s σ H O d v, Rel A K N s σ H ρ O → Hle F (fzP H (Px N σ ρ O)) → Rp K (fzP H (Px N σ ρ O)) v d → Dd.rt d s → D.rt v H
  bk : ∀ ρ s σ H O, Rel A K N s σ H ρ O → Hle F (fzP H (Px N σ ρ O)) → Dd.bk ρ s → D.bk σ H
  ct : ∀ ρ s σ H O, Rel A K N s σ H ρ O → Hle F (fzP H (Px N σ ρ O)) → Dd.ct ρ s → D.ct σ H
def liftS (t : DS A) : TS := fun D σ H => ∃ ρ s O Dd, Rel A K N s σ H ρ O ∧ EndsOk A K N (fzP H (Px N σ ρ O)) Dd D ∧ t Dd ρ s
variable {A K N}
theorem EndsOk.up {F F' : Hp} {Dd : DEnds A} {D : Ends} (E : EndsOk A K N F Dd D) (h : Hle F F') : EndsOk A K N F' Dd D :=
  ⟨fun ρ s σ H O R le => E.nx ρ s σ H O R (h.trans le), fun ρ s σ H O d v R le => E.rt ρ s σ H O d v R (h.trans le), fun ρ s σ H O R le => E.bk ρ s σ H O R (h.trans le), fun ρ s σ H O R le => E.ct ρ s σ H O R (h.trans le)⟩
theorem Rel.newAt {s : A.S} {σ : St} {H : Hp} {ρ : Rho} {O : Addr → Prop} (R : Rel A K N s σ H ρ O) {p : Addr} (h : H p = none) : ∀ o, N.H0 p = some o → N.O0 p := fun o e => by
  by_cases z : N.O0 p
  · exact z
  · have q := (R.keep p o e z).1
    rw [h] at q
    cases q
end

/-! ### weakening a reading -/
section
variable {X : Cx}
theorem PE.imp {e : Expr} {t t' : TE} (h : PE X e t) (i : ∀ σ H Q, t' σ H Q → t σ H Q) : PE X e t' := ⟨fun pins s σ H Q I q => h.run pins s σ H Q I (i _ _ _ q)⟩
theorem PT.imp {e : Expr} {t t' : TT} (h : PT X e t) (i : ∀ σ H Q, t' σ H Q → t σ H Q) : PT X e t' := ⟨fun pins s σ H Q I q => h.run pins s σ H Q I (i _ _ _ q)⟩
theorem PW.imp {e : Expr} {t t' : TT} (h : PW X e t) (i : ∀ σ H Q, t' σ H Q → t σ H Q) : PW X e t' := ⟨fun wh pins s σ H Q I q => h.run wh pins s σ H Q I (i _ _ _ q)⟩
theorem PA.imp {es : List Expr} {t t' : TA} (h : PA X es t) (i : ∀ σ H Q, t' σ H Q → t σ H Q) : PA X es t' := ⟨fun pos pins s σ H Q I q => h.run pos pins s σ H Q I (i _ _ _ q)⟩
theorem PS.imp {st : Stmt} {t t' : TS} (h : PS X st t) (i : ∀ D σ H, t' D σ H → t D σ H) : PS X st t' := ⟨fun pins s σ H D I q => h.run pins s σ H D I (i _ _ _ q)⟩
theorem PSs.imp {st : List Stmt} {t t' : TS} (h : PSs X st t) (i : ∀ D σ H, t' D σ H → t D σ H) : PSs X st t' := ⟨fun pins s σ H D I q => h.run pins s σ H D I (i _ _ _ q)⟩
theorem PG.imp {st : Expr} {t t' : TG} (h : PG X st t) (i : ∀ v σ H Q, t' v σ H Q → t v σ H Q) : PG X st t' := ⟨fun pins s σ H v u Q I r q => h.run pins s σ H v u Q I r (i _ _ _ _ q)⟩
end
end Dl
/-! Expressions over data. -/
namespace Dl
open PySem L2

/-! ### borrowed values: data, or the def's own list or dict, read in place -/
def Cell.data : Cell → D
  | .un => .none
  | .fz d => d
  | .ol ds => .list ds
  | .dk kvs => .dict (kvs.map fun p => (keyD p.1, p.2))
  | .dt kvs => .dict (kvs.map fun p => (keysD p.1, p.2))
def Bw (K : PySem.W.Frag) (F : Hp) (σ : St) (ρ : Rho) (v : V) (d : D) : Prop :=
  Rp K F v d ∨ ∃ (i : Nat) (c : Cell), ρ[i]? = some c ∧ c.own ∧ σ[i]? = some (some v) ∧ d = c.data
/-- .. seen in the heap -/
inductive Bh (K : PySem.W.Frag) (F H : Hp) : V → D → Prop
  | rp {v d} : Rp K F v d → Bh K F H v d
  | ol {p xs ds} : H p = some (.lst xs) → RpL K F xs ds → Bh K F H (.ref p) (.list ds)
  | dk {p kv} {kvs : List (Key × D)} : H p = some (.dK kv) → kv.map (·.1) = kvs.map (·.1) → RpL K F (kv.map (·.2)) (kvs.map (·.2)) → Bh K F H (.ref p) (.dict (kvs.map fun p => (keyD p.1, p.2)))
  | dt {p kv} {kvs : List (List Key × D)} : H p = some (.dT kv) → kv.map (·.1) = kvs.map (·.1) → RpL K F (kv.map (·.2)) (kvs.map (·.2)) → Bh K F H (.ref p) (.dict (kvs.map fun p => (keysD p.1, p.2)))

section
variable {A : Amb} {K : PySem.W.Frag} {N : Ent} {s s' : A.S} {σ : St} {H H' : Hp} {ρ : Rho} {O O' : Addr → Prop}
theorem Bw.mono {F F' : Hp} {v : V} {d : D} (b : Bw K F σ ρ v d) (h : Hle F F') : Bw K F' σ ρ v d := by
  rcases b with r | r
  · exact .inl (r.mono h)
  · exact .inr r
theorem Rel.bh (R : Rel A K N s σ H ρ O) {v : V} {d : D} (b : Bw K (fzP H (Px N σ ρ O)) σ ρ v d) : Bh K (fzP H (Px N σ ρ O)) H v d := by
  rcases b with r | ⟨i, c, e, o, e', rfl⟩
  · exact .rp r
  · have q := R.cell i _ c e' e
    cases c with
    | un => exact o.elim
    | fz _ => exact o.elim
    | ol ds => obtain ⟨p, xs, z, h, r⟩ := q; cases z; exact .ol h r
    | dk kvs => obtain ⟨p, xs, z, h, k, r⟩ := q; cases z; exact .dk h k r
    | dt kvs => obtain ⟨p, xs, z, h, k, r⟩ := q; cases z; exact .dt h k r
end
section
variable {K : PySem.W.Frag} {F H : Hp}
theorem Bh.int {v : V} {i : Int} (b : Bh K F H v (.int i)) : v = .int i := by
  cases b with
  | rp r => cases r; rfl
theorem Bh.bool {v : V} {i : Bool} (b : Bh K F H v (.bool i)) : v = .bl i := by
  cases b with
  | rp r => cases r; rfl
theorem Bh.str {v : V} {i : Str} (b : Bh K F H v (.str i)) : v = .str i := by
  cases b with
  | rp r => cases r; rfl
theorem Bh.none {v : V} (b : Bh K F H v .none) : v = .non := by
  cases b with
  | rp r => cases r; rfl
theorem Bh.tup {v : V} {ds : List D} (b : Bh K F H v (.tuple ds)) (h : Hle F H) : ∃ a xs, v = .ref a ∧ TAt F a xs ds ∧ SqT K H a xs ∧ RpL K F xs ds := by
  cases b with
  | rp r => cases r with | tup s t => exact ⟨_, _, rfl, s, (s.mono h).sqT, t⟩
theorem Bh.list {v : V} {ds : List D} (b : Bh K F H v (.list ds)) (h : Hle F H) : ∃ a xs, v = .ref a ∧ H a = some (.lst xs) ∧ RpL K F xs ds := by
  cases b with
  | rp r => cases r with | lst s t => exact ⟨_, _, rfl, h _ _ s, t⟩
  | ol s t => exact ⟨_, _, rfl, s, t⟩
theorem Bh.dp {v : V} {d : D} (b : Bh K F H v d) (h : Hle F H) (l : d.canLay0 = true) : Dp K H v d := by
  cases b with
  | rp r => exact (r.mono h).dp _ _ l
  | ol s t =>
    refine .lst (SqL.of s) ((t.mono h).dp _ _ ?_)
    simpa [PyData.canLay0] using l
  | dk s k t => simp [PyData.canLay0] at l
  | dt s k t => simp [PyData.canLay0] at l
end

section
variable (A : Amb) (K : PySem.W.Frag) (N : Ent)
def liftB (t : DE A) : TE := fun σ H Q => ∃ ρ s O P, Rel A K N s σ H ρ O ∧ t ρ s P ∧ ∀ d s' v H' O', P d s' → Rel A K N s' σ H' ρ O' → Hle (fzP H (Px N σ ρ O)) (fzP H' (Px N σ ρ O')) → Bw K (fzP H' (Px N σ ρ O')) σ ρ v d → Q v H'
end

/-! ### the readings -/
section
variable {A : Amb}
def dC (d : D) : DE A := fun _ s Q => Q d s
def dVar (i : Nat) : DE A := fun ρ s Q => match ρ[i]? with
  | some (.fz d) => Q d s
  | _ => False
/-- a name that is read in place -/
def dVarB (i : Nat) : DE A := fun ρ s Q => match ρ[i]? with
  | some (.fz d) => Q d s
  | some (.ol ds) => Q (.list ds) s
  | some (.dk kvs) => Q (Cell.data (.dk kvs)) s
  | some (.dt kvs) => Q (Cell.data (.dt kvs)) s
  | _ => False
abbrev F2 := D → D → (D → Prop) → Prop
abbrev F1 := D → (D → Prop) → Prop
abbrev FN := List D → (D → Prop) → Prop
def dOp (f : F2) (a b : DE A) : DE A := fun ρ s Q => a ρ s fun x s1 => b ρ s1 fun y s2 => f x y fun z => Q z s2
def dUn (f : F1) (a : DE A) : DE A := fun ρ s Q => a ρ s fun x s1 => f x fun z => Q z s1
def dAnd (a b : DE A) : DE A := fun ρ s Q => a ρ s fun x s1 => match x with
  | .bool true => b ρ s1 Q
  | .bool false => Q (.bool false) s1
  | _ => False
def dOr (a b : DE A) : DE A := fun ρ s Q => a ρ s fun x s1 => match x with
  | .bool true => Q (.bool true) s1
  | .bool false => b ρ s1 Q
  | _ => False
def dNot (a : DE A) : DE A := fun ρ s Q => a ρ s fun x s1 => match x with
  | .bool b => Q (.bool (!b)) s1
  | _ => False
def dIf (c : DT A) (a b : DE A) : DE A := fun ρ s Q => c ρ s fun k s1 => match k with
  | true => a ρ s1 Q
  | false => b ρ s1 Q
/-- a value that is a bool, as a test -/
def dTest (a : DE A) : DT A := fun ρ s Q => a ρ s fun x s1 => match x with
  | .bool b => Q b s1
  | _ => False
def dAndT (a b : DT A) : DT A := fun ρ s Q => a ρ s fun k s1 => match k with
  | true => b ρ s1 Q
  | false => Q false s1
def dOrT (a b : DT A) : DT A := fun ρ s Q => a ρ s fun k s1 => match k with
  | true => Q true s1
  | false => b ρ s1 Q
def dNotT (a : DT A) : DT A := fun ρ s Q => a ρ s fun k s1 => Q (!k) s1
def dNil : DA A := fun _ s Q => Q [] s
def dCons (a : DE A) (r : DA A) : DA A := fun ρ s Q => a ρ s fun x s1 => r ρ s1 fun xs s2 => Q (x :: xs) s2
def dTup (a : DA A) : DE A := fun ρ s Q => a ρ s fun xs s1 => xs.length ≤ sizeLine ∧ Q (.tuple xs) s1
def dLst (a : DA A) : DE A := fun ρ s Q => a ρ s fun xs s1 => xs.length ≤ sizeLine ∧ Q (.list xs) s1
def dFn (f : FN) (a : DA A) : DE A := fun ρ s Q => a ρ s fun xs s1 => f xs fun z => Q z s1
def dChain (f g : F2) (a b c : DE A) : DE A := fun ρ s Q => a ρ s fun x s1 => b ρ s1 fun y s2 => f x y fun z => match z with
  | .bool true => c ρ s2 fun w s3 => g y w fun z => Q z s3
  | .bool false => Q (.bool false) s2
  | _ => False
end

/-! ### what a rule by values gives over data -/
def DR2 (K : PySem.W.Frag) (r : R2) (f : F2) : Prop := ∀ (H : Hp) (P : Addr → Prop) (x y : V) (dx dy : D) (k : D → Prop) (Q : VK), (∀ b, P b → ∃ o, H b = some o) → Bh K (fzP H P) H x dx → Bh K (fzP H P) H y dy → f dx dy k →
  (∀ v H' d, Same H H' → Rp K (fzP H' P) v d → k d → Q v H') → r x y H Q
def DR1 (K : PySem.W.Frag) (r : V → Hp → VK → Prop) (f : F1) : Prop := ∀ (H : Hp) (P : Addr → Prop) (x : V) (dx : D) (k : D → Prop) (Q : VK), (∀ b, P b → ∃ o, H b = some o) → Bh K (fzP H P) H x dx → f dx k →
  (∀ v H' d, Same H H' → Rp K (fzP H' P) v d → k d → Q v H') → r x H Q
inductive BhL (K : PySem.W.Frag) (F H : Hp) : List V → List D → Prop
  | nil : BhL K F H [] []
  | cons {v vs d ds} : Bh K F H v d → BhL K F H vs ds → BhL K F H (v :: vs) (d :: ds)
def DRN (K : PySem.W.Frag) (r : List V → Hp → VK → Prop) (f : FN) : Prop := ∀ (H : Hp) (P : Addr → Prop) (xs : List V) (ds : List D) (k : D → Prop) (Q : VK), (∀ b, P b → ∃ o, H b = some o) → BhL K (fzP H P) H xs ds → f ds k →
  (∀ v H' d, Same H H' → Rp K (fzP H' P) v d → k d → Q v H') → r xs H Q

section
variable {A : Amb} {X : Cx} {N : Ent} {a b c e : Expr} {ta tb tc te : DE A} {pos : Pos} {es : List Expr}
theorem e_bw (h : PE X e (liftE A X.K N te)) : PE X e (liftB A X.K N te) := PE.imp h fun σ H Q ⟨ρ, s, O, P, R, q, k⟩ => ⟨ρ, s, O, P, R, q, fun d s' v H' O' p R' le r => k d s' v H' O' p R' le (.inl r)⟩

theorem e_c {v : V} {d : D} (h : PE X e (tC v)) (r : ∀ F, Rp X.K F v d) : PE X e (liftE A X.K N (dC d)) := PE.imp h fun σ H Q ⟨ρ, s, O, P, R, q, k⟩ => k d s v H O q R (Hle.refl _) (r _)
theorem e_int {i j pos} : PE X (.Constant (.int i) j pos) (liftE A X.K N (dC (.int i))) := e_c pe_int fun _ => .int i
theorem e_bl {i j pos} : PE X (.Constant (.bool i) j pos) (liftE A X.K N (dC (.bool i))) := e_c pe_bl fun _ => .bl i
theorem e_non {j pos} : PE X (.Constant .none j pos) (liftE A X.K N (dC .none)) := e_c pe_non fun _ => .non
theorem e_str {i j pos} : PE X (.Constant (.str i) j pos) (liftE A X.K N (dC (.str i))) := e_c pe_str fun _ => .str i

theorem Rel.slot {K : PySem.W.Frag} {s : A.S} {σ : St} {H : Hp} {ρ : Rho} {O : Addr → Prop} (R : Rel A K N s σ H ρ O) {i : Nat} {c : Cell} (e : ρ[i]? = some c) : ∃ v, σ[i]? = some v ∧ CellOk K (fzP H (Px N σ ρ O)) H v c := by
  have hi : i < σ.length := by
    rw [R.len]
    exact (List.getElem?_eq_some_iff.mp e).1
  exact ⟨σ[i], List.getElem?_eq_getElem hi, R.cell i _ c (List.getElem?_eq_getElem hi) e⟩
theorem e_varF {i : Nat} (h : PE X e (tVar i)) : PE X e (liftE A X.K N (dVar i)) := PE.imp h fun σ H Q ⟨ρ, s, O, P, R, q, k⟩ => by
  unfold dVar at q
  split at q
  · next d hd =>
    obtain ⟨v, e1, x, rfl, r⟩ := R.slot hd
    exact ⟨x, e1, k d s x H O q R (Hle.refl _) r⟩
  · exact q.elim
theorem e_var {i : Nat} (h : PE X e (tVar i)) : PE X e (liftB A X.K N (dVarB i)) := PE.imp h fun σ H Q ⟨ρ, s, O, P, R, q, k⟩ => by
  unfold dVarB at q
  split at q
  · next d hd =>
    obtain ⟨v, e1, x, rfl, r⟩ := R.slot hd
    exact ⟨x, e1, k d s x H O q R (Hle.refl _) (.inl r)⟩
  · next d hd =>
    obtain ⟨v, e1, p, xs, rfl, r⟩ := R.slot hd
    exact ⟨_, e1, k _ s _ H O q R (Hle.refl _) (.inr ⟨i, _, hd, trivial, e1, rfl⟩)⟩
  · next d hd =>
    obtain ⟨v, e1, p, xs, rfl, r⟩ := R.slot hd
    exact ⟨_, e1, k _ s _ H O q R (Hle.refl _) (.inr ⟨i, _, hd, trivial, e1, rfl⟩)⟩
  · next d hd =>
    obtain ⟨v, e1, p, xs, rfl, r⟩ := R.slot hd
    exact ⟨_, e1, k _ s _ H O q R (Hle.refl _) (.inr ⟨i, _, hd, trivial, e1, rfl⟩)⟩
  · exact q.elim

/-- two operands, then what is made of them by values -/
theorem lift2 {r : R2} {f : F2} (hR : DR2 X.K r f) : ∀ σ H Q, liftE A X.K N (dOp f ta tb) σ H Q → tOp r (liftB A X.K N ta) (liftB A X.K N tb) σ H Q := fun σ H Q ⟨ρ, s, O, P, R0, q, k⟩ =>
  ⟨ρ, s, O, _, R0, q, fun x s1 vx H1 O1 q1 R1 le1 rx => ⟨ρ, s1, O1, _, R1, q1, fun y s2 vy H2 O2 q2 R2 le2 ry =>
    hR H2 (Px N σ ρ O2) vx vy x y (fun z => P z s2) Q (fun _ z => R2.dom z) (R2.bh (rx.mono le2)) (R2.bh ry) q2 fun v H' d sm rd pd =>
      k d s2 v H' O2 pd (R2.alloc sm) (le1.trans (le2.trans (R2.fzle sm))) rd⟩⟩
theorem e_op {op : Operator} {r : R2} {f : F2} (ho : OpR X (binaryOp op) r) (hR : DR2 X.K r f) (ha : PE X a (liftB A X.K N ta)) (hb : PE X b (liftB A X.K N tb)) : PE X (.BinOp a op b pos) (liftE A X.K N (dOp f ta tb)) := PE.imp (pe_op ho ha hb) (lift2 hR)
theorem e_cmp {op : CmpOp} {r : R2} {f : F2} (ho : OpR X (compareOp op) r) (hR : DR2 X.K r f) (ha : PE X a (liftB A X.K N ta)) (hb : PE X b (liftB A X.K N tb)) (hm : behindInMarks op b = false := by first | exact nomark _ | rfl) : PE X (.Compare a [op] [b] pos) (liftE A X.K N (dOp f ta tb)) := PE.imp (pe_cmpR ho ha hb hm) (lift2 hR)
theorem e_ix {r : R2} {f : F2} (ho : IxR X r) (hR : DR2 X.K r f) (ha : PE X a (liftB A X.K N ta)) (hb : PE X b (liftB A X.K N tb)) (hs : PlainIx b := by intro _ _; rfl) : PE X (.Subscript a b pos) (liftE A X.K N (dOp f ta tb)) := PE.imp (pe_ix ho ha hb hs) (lift2 hR)
theorem lift1 {r : V → Hp → VK → Prop} {f : F1} (hR : DR1 X.K r f) : ∀ σ H Q, liftE A X.K N (dUn f ta) σ H Q → tUn r (liftB A X.K N ta) σ H Q := fun σ H Q ⟨ρ, s, O, P, R0, q, k⟩ =>
  ⟨ρ, s, O, _, R0, q, fun x s1 vx H1 O1 q1 R1 le1 rx => hR H1 (Px N σ ρ O1) vx x (fun z => P z s1) Q (fun _ z => R1.dom z) (R1.bh rx) q1 fun v H' d sm rd pd =>
      k d s1 v H' O1 pd (R1.alloc sm) (le1.trans (R1.fzle sm)) rd⟩
theorem e_un {op : UnaryOp} {r : V → Hp → VK → Prop} {f : F1} (ho : UnR X (unaryOp op) r) (hR : DR1 X.K r f) (ha : PE X a (liftB A X.K N ta)) : PE X (.UnaryOp op a pos) (liftE A X.K N (dUn f ta)) := PE.imp (pe_un ho ha) (lift1 hR)

/-! ### and, or, not, if -/
theorem Rp.bl_of {K : PySem.W.Frag} {F : Hp} {v : V} {b : Bool} (r : Rp K F v (.bool b)) : v = .bl b := by cases r; rfl
theorem e_and {rest : List Expr} (ha : PE X a (liftE A X.K N ta)) (hb : PE X (.BoolOp .And (b :: rest) pos) (liftE A X.K N tb)) : PE X (.BoolOp .And (a :: b :: rest) pos) (liftE A X.K N (dAnd ta tb)) :=
  PE.imp (pe_and ha hb) fun σ H Q ⟨ρ, s, O, P, R0, q, k⟩ => ⟨ρ, s, O, _, R0, q, fun x s1 vx H1 O1 q1 R1 le1 rx => by
    split at q1
    · cases rx.bl_of
      exact ⟨true, rfl, iteT ⟨ρ, s1, O1, P, R1, q1, fun d s' v H' O' p R' le r => k d s' v H' O' p R' (le1.trans le) r⟩⟩
    · cases rx.bl_of
      exact ⟨false, rfl, iteF (k _ s1 _ H1 O1 q1 R1 le1 (.bl false))⟩
    · exact q1.elim⟩
theorem e_or {rest : List Expr} (ha : PE X a (liftE A X.K N ta)) (hb : PE X (.BoolOp .Or (b :: rest) pos) (liftE A X.K N tb)) : PE X (.BoolOp .Or (a :: b :: rest) pos) (liftE A X.K N (dOr ta tb)) :=
  PE.imp (pe_or ha hb) fun σ H Q ⟨ρ, s, O, P, R0, q, k⟩ => ⟨ρ, s, O, _, R0, q, fun x s1 vx H1 O1 q1 R1 le1 rx => by
    split at q1
    · cases rx.bl_of
      exact ⟨true, rfl, iteT (k _ s1 _ H1 O1 q1 R1 le1 (.bl true))⟩
    · cases rx.bl_of
      exact ⟨false, rfl, iteF ⟨ρ, s1, O1, P, R1, q1, fun d s' v H' O' p R' le r => k d s' v H' O' p R' (le1.trans le) r⟩⟩
    · exact q1.elim⟩
theorem e_not (ha : PE X a (liftE A X.K N ta)) : PE X (.UnaryOp .Not a pos) (liftE A X.K N (dNot ta)) :=
  PE.imp (pe_not ha) fun σ H Q ⟨ρ, s, O, P, R0, q, k⟩ => ⟨ρ, s, O, _, R0, q, fun x s1 vx H1 O1 q1 R1 le1 rx => by
    split at q1
    · cases rx.bl_of
      exact ⟨_, rfl, k _ s1 _ H1 O1 q1 R1 le1 (.bl _)⟩
    · exact q1.elim⟩
/-! ### tests -/
theorem t_val {e : Expr} (h : PE X e (liftE A X.K N te)) (he : ∀ whole, isTrue e X.env whole = (do let v ← whole; standAt e.pos; holding [v] (truthy v)) := by intro _; rfl) : PT X e (liftT A X.K N (dTest te)) :=
  PT.imp (pt_val h he) fun σ H Q ⟨ρ, s, O, P, R0, q, k⟩ => ⟨ρ, s, O, _, R0, q, fun x s1 vx H1 O1 q1 R1 le1 rx => by
    split at q1
    · cases rx.bl_of
      exact ⟨_, rfl, k _ s1 H1 O1 q1 R1 le1⟩
    · exact q1.elim⟩
theorem t_cmp {op : CmpOp} {r : R2} {f : F2} (ho : OpR X (compareOp op) r) (hR : DR2 X.K r f) (ha : PE X a (liftB A X.K N ta)) (hb : PE X b (liftB A X.K N tb)) (hm : behindInMarks op b = false := by first | exact nomark _ | rfl) : PT X (.Compare a [op] [b] pos) (liftT A X.K N (dTest (dOp f ta tb))) :=
  PT.imp (pt_cmpR ho ha hb hm) fun σ H Q ⟨ρ, s, O, P, R0, q, k⟩ => lift2 hR σ H _ ⟨ρ, s, O, _, R0, q, fun x s1 vx H1 O1 q1 R1 le1 rx => by
    split at q1
    · cases rx.bl_of
      exact ⟨_, rfl, k _ s1 H1 O1 q1 R1 le1⟩
    · exact q1.elim⟩
variable {tA tB tC' : DT A} {rest : List Expr}
theorem w_and1 (ha : PT X a (liftT A X.K N tA)) : PW X (.BoolOp .And [a] pos) (liftT A X.K N tA) := pw_and1 ha
theorem w_or1 (ha : PT X a (liftT A X.K N tA)) : PW X (.BoolOp .Or [a] pos) (liftT A X.K N tA) := pw_or1 ha
theorem w_and (ha : PT X a (liftT A X.K N tA)) (hb : PW X (.BoolOp .And (b :: rest) pos) (liftT A X.K N tB)) : PW X (.BoolOp .And (a :: b :: rest) pos) (liftT A X.K N (dAndT tA tB)) :=
  PW.imp (pw_and ha hb) fun σ H Q ⟨ρ, s, O, P, R0, q, k⟩ => ⟨ρ, s, O, _, R0, q, fun x s1 H1 O1 q1 R1 le1 => by
    cases x with
    | true => exact iteT ⟨ρ, s1, O1, P, R1, q1, fun d s' H' O' p R' le => k d s' H' O' p R' (le1.trans le)⟩
    | false => exact iteF (k _ s1 H1 O1 q1 R1 le1)⟩
theorem w_or (ha : PT X a (liftT A X.K N tA)) (hb : PW X (.BoolOp .Or (b :: rest) pos) (liftT A X.K N tB)) : PW X (.BoolOp .Or (a :: b :: rest) pos) (liftT A X.K N (dOrT tA tB)) :=
  PW.imp (pw_or ha hb) fun σ H Q ⟨ρ, s, O, P, R0, q, k⟩ => ⟨ρ, s, O, _, R0, q, fun x s1 H1 O1 q1 R1 le1 => by
    cases x with
    | true => exact iteT (k _ s1 H1 O1 q1 R1 le1)
    | false => exact iteF ⟨ρ, s1, O1, P, R1, q1, fun d s' H' O' p R' le => k d s' H' O' p R' (le1.trans le)⟩⟩
theorem t_not (ha : PT X a (liftT A X.K N tA)) : PT X (.UnaryOp .Not a pos) (liftT A X.K N (dNotT tA)) :=
  PT.imp (pt_not ha) fun σ H Q ⟨ρ, s, O, P, R0, q, k⟩ => ⟨ρ, s, O, _, R0, q, fun x s1 H1 O1 q1 R1 le1 => k _ s1 H1 O1 q1 R1 le1⟩
theorem e_ifExp (hc : PT X c (liftT A X.K N tA)) (ha : PE X a (liftE A X.K N ta)) (hb : PE X b (liftE A X.K N tb)) : PE X (.IfExp c a b pos) (liftE A X.K N (dIf tA ta tb)) :=
  PE.imp (pe_ifExp hc ha hb) fun σ H Q ⟨ρ, s, O, P, R0, q, k⟩ => ⟨ρ, s, O, _, R0, q, fun x s1 H1 O1 q1 R1 le1 => by
    cases x with
    | true => exact iteT ⟨ρ, s1, O1, P, R1, q1, fun d s' v H' O' p R' le r => k d s' v H' O' p R' (le1.trans le) r⟩
    | false => exact iteF ⟨ρ, s1, O1, P, R1, q1, fun d s' v H' O' p R' le r => k d s' v H' O' p R' (le1.trans le) r⟩⟩
/-! ### chains lo <= x <= hi -/
theorem liftChain {r r' : R2} {f g : F2} (hR : DR2 X.K r f) (hR' : DR2 X.K r' g) : ∀ σ H Q, liftE A X.K N (dChain f g ta tb tc) σ H Q → tChain r r' (liftB A X.K N ta) (liftB A X.K N tb) (liftB A X.K N tc) σ H Q :=
  fun σ H Q ⟨ρ, s, O, P, R0, q, k⟩ => ⟨ρ, s, O, _, R0, q, fun x s1 vx H1 O1 q1 R1 le1 rx => ⟨ρ, s1, O1, _, R1, q1, fun y s2 vy H2 O2 q2 R2 le2 ry => by
    refine hR H2 (Px N σ ρ O2) vx vy x y _ _ (fun _ z => R2.dom z) (R2.bh (rx.mono le2)) (R2.bh ry) q2 fun v H' d sm rd pd => ?_
    split at pd
    · cases rd.bl_of
      refine ⟨true, rfl, ?_⟩
      first | (refine iteT ?_) | skip
      refine ⟨ρ, s2, O2, _, R2.alloc sm, pd, fun w s3 vw H3 O3 q3 R3 le3 rw' => ?_⟩
      exact hR' H3 (Px N σ ρ O3) vy vw y w (fun z => P z s3) Q (fun _ z => R3.dom z) (R3.bh (ry.mono ((R2.fzle sm).trans le3))) (R3.bh rw') q3 fun v H' d sm' rd pd =>
        k d s3 v H' O3 pd (R3.alloc sm') (le1.trans (le2.trans ((R2.fzle sm).trans (le3.trans (R3.fzle sm'))))) rd
    · cases rd.bl_of
      refine ⟨false, rfl, ?_⟩
      first | (refine iteF ?_) | skip
      exact k _ s2 _ H' O2 pd (R2.alloc sm) (le1.trans (le2.trans (R2.fzle sm))) (.bl false)
    · exact pd.elim⟩⟩
theorem e_chain {op op' : CmpOp} {r r' : R2} {f g : F2} (ho : OpR X (compareOp op) r) (ho' : OpR X (compareOp op') r') (hR : DR2 X.K r f) (hR' : DR2 X.K r' g) (ha : PE X a (liftB A X.K N ta)) (hb : PE X b (liftB A X.K N tb)) (hc : PE X c (liftB A X.K N tc))
    (hm : lastMarks [op, op'] [b, c] = false := by with_unfolding_all rfl) : PE X (.Compare a [op, op'] [b, c] pos) (liftE A X.K N (dChain f g ta tb tc)) := PE.imp (pe_chain ho ho' ha hb hc hm) (liftChain hR hR')
theorem t_chain {op op' : CmpOp} {r r' : R2} {f g : F2} (ho : OpR X (compareOp op) r) (ho' : OpR X (compareOp op') r') (hR : DR2 X.K r f) (hR' : DR2 X.K r' g) (ha : PE X a (liftB A X.K N ta)) (hb : PE X b (liftB A X.K N tb)) (hc : PE X c (liftB A X.K N tc))
    (hm : lastMarks [op, op'] [b, c] = false := by with_unfolding_all rfl) : PT X (.Compare a [op, op'] [b, c] pos) (liftT A X.K N (dTest (dChain f g ta tb tc))) :=
  PT.imp (pt_chain ho ho' ha hb hc hm) fun σ H Q ⟨ρ, s, O, P, R0, q, k⟩ => liftChain hR hR' σ H _ ⟨ρ, s, O, _, R0, q, fun x s1 vx H1 O1 q1 R1 le1 rx => by
    split at q1
    · cases rx.bl_of
      exact ⟨_, rfl, k _ s1 H1 O1 q1 R1 le1⟩
    · exact q1.elim⟩
/-! ### arguments, displays -/
variable {tL : DA A}
theorem a_nil : PA X [] (liftA A X.K N dNil) := PA.imp pa_nil fun σ H Q ⟨ρ, s, O, P, R0, q, k⟩ => k _ s _ H O q R0 (Hle.refl _) .nil
theorem a_cons (ha : PE X e (liftE A X.K N te)) (hr : PA X es (liftA A X.K N tL)) (hs : starEach (e :: es) X.env = (false, eval e X.env) :: starEach es X.env := by rfl) : PA X (e :: es) (liftA A X.K N (dCons te tL)) :=
  PA.imp (pa_cons ha hr hs) fun σ H Q ⟨ρ, s, O, P, R0, q, k⟩ => ⟨ρ, s, O, _, R0, q, fun x s1 vx H1 O1 q1 R1 le1 rx => ⟨ρ, s1, O1, _, R1, q1, fun ys s2 vys H2 O2 q2 R2 le2 rys => k _ s2 _ H2 O2 q2 R2 (le1.trans le2) (.cons (rx.mono le2) rys)⟩⟩
theorem e_tup {k} (h : PA X es (liftA A X.K N tL)) : PE X (.Tuple es k pos) (liftE A X.K N (dTup tL)) :=
  PE.imp (pe_tupF h) fun σ H Q ⟨ρ, s, O, P, R0, q, k⟩ => ⟨ρ, s, O, _, R0, q, fun x s1 vx H1 O1 ⟨q0, q1⟩ R1 le1 rx => ⟨by rw [rx.length]; exact q0, _, fun p o hp ho =>
    k _ s1 _ _ O1 q1 (R1.alloc (same_upd hp)) (le1.trans (R1.fzle (same_upd hp))) (.tup ⟨o, ho, fzP_of (R1.fresh hp) upd_same⟩ (rx.mono (R1.fzle (same_upd hp))))⟩⟩
theorem e_lst (h : PA X es (liftA A X.K N tL)) : PE X (.List es pos) (liftE A X.K N (dLst tL)) :=
  PE.imp (pe_lst h) fun σ H Q ⟨ρ, s, O, P, R0, q, k⟩ => ⟨ρ, s, O, _, R0, q, fun x s1 vx H1 O1 ⟨q0, q1⟩ R1 le1 rx => ⟨by rw [rx.length]; exact q0, fun p hp =>
    k _ s1 _ _ O1 q1 (R1.alloc (same_upd hp)) (le1.trans (R1.fzle (same_upd hp))) (.lst (fzP_of (R1.fresh hp) upd_same) (rx.mono (R1.fzle (same_upd hp))))⟩⟩
/-! ### borrowed arguments, for what is built in -/
end
section
variable (A : Amb) (K : PySem.W.Frag) (N : Ent)
inductive BwL (K : PySem.W.Frag) (F : Hp) (σ : St) (ρ : Rho) : List V → List D → Prop
  | nil : BwL K F σ ρ [] []
  | cons {v vs d ds} : Bw K F σ ρ v d → BwL K F σ ρ vs ds → BwL K F σ ρ (v :: vs) (d :: ds)
def liftAB (t : DA A) : TA := fun σ H Q => ∃ ρ s O P, Rel A K N s σ H ρ O ∧ t ρ s P ∧ ∀ ds s' vs H' O', P ds s' → Rel A K N s' σ H' ρ O' → Hle (fzP H (Px N σ ρ O)) (fzP H' (Px N σ ρ O')) → BwL K (fzP H' (Px N σ ρ O')) σ ρ vs ds → Q vs H'
end
section
variable {A : Amb} {X : Cx} {N : Ent} {a b c e : Expr} {ta tb tc te : DE A} {pos : Pos} {es : List Expr} {tL : DA A}
theorem Rel.bhL {K : PySem.W.Frag} {s : A.S} {σ : St} {H : Hp} {ρ : Rho} {O : Addr → Prop} (R : Rel A K N s σ H ρ O) : ∀ {vs : List V} {ds : List D}, BwL K (fzP H (Px N σ ρ O)) σ ρ vs ds → BhL K (fzP H (Px N σ ρ O)) H vs ds
  | _, _, .nil => .nil
  | _, _, .cons b t => .cons (R.bh b) (R.bhL t)
theorem b_nil : PA X [] (liftAB A X.K N dNil) := PA.imp pa_nil fun σ H Q ⟨ρ, s, O, P, R0, q, k⟩ => k _ s _ H O q R0 (Hle.refl _) .nil
theorem b_cons (ha : PE X e (liftB A X.K N te)) (hr : PA X es (liftAB A X.K N tL)) (hs : starEach (e :: es) X.env = (false, eval e X.env) :: starEach es X.env := by rfl) : PA X (e :: es) (liftAB A X.K N (dCons te tL)) :=
  PA.imp (pa_cons ha hr hs) fun σ H Q ⟨ρ, s, O, P, R0, q, k⟩ => ⟨ρ, s, O, _, R0, q, fun x s1 vx H1 O1 q1 R1 le1 rx => ⟨ρ, s1, O1, _, R1, q1, fun ys s2 vys H2 O2 q2 R2 le2 rys => k _ s2 _ H2 O2 q2 R2 (le1.trans le2) (.cons (rx.mono le2) rys)⟩⟩
theorem liftN {r : List V → Hp → VK → Prop} {f : FN} (hR : DRN X.K r f) : ∀ σ H Q, liftE A X.K N (dFn f tL) σ H Q → tCB r (liftAB A X.K N tL) σ H Q := fun σ H Q ⟨ρ, s, O, P, R0, q, k⟩ =>
  ⟨ρ, s, O, _, R0, q, fun x s1 vx H1 O1 q1 R1 le1 rx => hR H1 (Px N σ ρ O1) vx x (fun z => P z s1) Q (fun _ z => R1.dom z) (R1.bhL rx) q1 fun v H' d sm rd pd =>
      k d s1 v H' O1 pd (R1.alloc sm) (le1.trans (R1.fzle sm)) rd⟩
theorem e_callB {id : String} {x : Str} {p : Pos} {r : List V → Hp → VK → Prop} {f : FN} (hc : CallR X (.builtin id) r) (hR : DRN X.K r f) (hm : X.mg x = none) (hv : bootBuiltins x = some (.builtin id)) (ha : PA X (e :: es) (liftAB A X.K N tL))
    (hg : Gl X x := by rfl) (hn : x ≠ "__name__" := by decide) (hdb : (x == ("__debug__" : Str)) = false := by decide) (h1 : starEach (e :: es) X.env = (false, eval e X.env) :: starEach es X.env := by rfl) (h2 : (backTo pos (starEach es X.env)).any (·.1) = false := by rfl) :
    PE X (.Call (.Name x p) (e :: es) [] pos) (liftE A X.K N (dFn f tL)) := PE.imp (pe_callB hc hg hm hv ha hn hdb h1 h2) (liftN hR)
theorem e_callTy {T : String} {x : Str} {p : Pos} {r : List V → Hp → VK → Prop} {f : FN} (hc : CallR X (.type T) r) (hR : DRN X.K r f) (hm : X.mg x = none) (hv : bootBuiltins x = some (.type T)) (ha : PA X (e :: es) (liftAB A X.K N tL))
    (hg : Gl X x := by rfl) (hn : x ≠ "__name__" := by decide) (hdb : (x == ("__debug__" : Str)) = false := by decide) (h1 : starEach (e :: es) X.env = (false, eval e X.env) :: starEach es X.env := by rfl) (h2 : (backTo pos (starEach es X.env)).any (·.1) = false := by rfl) :
    PE X (.Call (.Name x p) (e :: es) [] pos) (liftE A X.K N (dFn f tL)) := PE.imp (pe_callTy hc hg hm hv ha hn hdb h1 h2) (liftN hR)
end
end Dl
/-! Statements over data; what is new; calls. -/
namespace Dl
open PySem L2

/-! ### how the relation goes on -/
section
variable {A : Amb} {K : PySem.W.Frag} {N : Ent} {s s' : A.S} {σ : St} {H H' : Hp} {ρ : Rho} {O O' : Addr → Prop}
theorem set_same {α : Type} : ∀ {l : List α} {i : Nat} {x : α}, l[i]? = some x → l.set i x = l
  | [], _, _, h => by simp at h
  | _ :: _, 0, _, h => by simp at h; subst h; rfl
  | a :: r, i + 1, x, h => by rw [List.set_cons_succ, set_same (by simpa using h)]
theorem set_get {α : Type} {l : List α} {i j : Nat} {x y : α} (h : (l.set i x)[j]? = some y) : (j = i ∧ y = x) ∨ (j ≠ i ∧ l[j]? = some y) := by
  by_cases e : i = j
  · subst e
    rw [List.getElem?_set] at h
    simp at h
    exact .inl ⟨rfl, h.2.symm⟩
  · rw [List.getElem?_set_ne e] at h
    exact .inr ⟨fun z => e z.symm, h⟩
/-- a cell whose content is frozen, or forgotten, or replaced by frozen data -/
theorem Rel.setFz (R : Rel A K N s σ H ρ O) {i : Nat} {v : V} {c : Cell} (nc : ¬ c.own) (r : CellOk K (fzP H (Px N σ ρ O)) H (some v) c) : Rel A K N s (σ.set i (some v)) H (ρ.set i c) O ∧ Hle (fzP H (Px N σ ρ O)) (fzP H (Px N (σ.set i (some v)) (ρ.set i c) O)) := by
  have own : ∀ b, OwnS (σ.set i (some v)) (ρ.set i c) b → ∃ (j : Nat) (c' : Cell), j ≠ i ∧ ρ[j]? = some c' ∧ c'.own ∧ σ[j]? = some (some (.ref b)) := fun b ⟨j, c', e1, o, e2⟩ => by
    rcases set_get e1 with ⟨_, rfl⟩ | ⟨n, e1⟩
    · exact (nc o).elim
    · rcases set_get e2 with ⟨z, _⟩ | ⟨_, e2⟩
      · exact (n z).elim
      · exact ⟨j, c', n, e1, o, e2⟩
  have sub : ∀ b, Px N (σ.set i (some v)) (ρ.set i c) O b → Px N σ ρ O b := fun b z => by
    rcases z with z | z | z
    · exact .inl z
    · obtain ⟨j, c', _, e1, o, e2⟩ := own b z
      exact .inr (.inl ⟨j, c', e1, o, e2⟩)
    · exact .inr (.inr z)
  have le : Hle (fzP H (Px N σ ρ O)) (fzP H (Px N (σ.set i (some v)) (ρ.set i c) O)) := fzP_mono (Hle.refl _) fun b _ _ z => sub b z
  refine ⟨⟨A.stay R.amb le fun _ _ => rfl, R.keep, R.xd, by rw [List.length_set, List.length_set]; exact R.len, fun j v' c' e1 e2 => ?_, fun b z => ?_, fun j l c1 c2 b e1 o1 e2 o2 e3 e4 => ?_⟩, le⟩
  · rcases set_get e1 with ⟨rfl, rfl⟩ | ⟨n, e1⟩
    · rcases set_get e2 with ⟨_, rfl⟩ | ⟨z, _⟩
      · exact r.mono le fun _ _ _ => rfl
      · exact (z rfl).elim
    · rcases set_get e2 with ⟨z, _⟩ | ⟨_, e2⟩
      · exact (n z).elim
      · exact (R.cell j v' c' e1 e2).mono le fun _ _ _ => rfl
  · obtain ⟨j, c', _, e1, o, e2⟩ := own b z
    exact R.new b ⟨j, c', e1, o, e2⟩
  · rcases set_get e1 with ⟨_, rfl⟩ | ⟨n1, e1⟩
    · exact (nc o1).elim
    · rcases set_get e2 with ⟨_, rfl⟩ | ⟨n2, e2⟩
      · exact (nc o2).elim
      · rcases set_get e3 with ⟨z, _⟩ | ⟨_, e3⟩
        · exact (n1 z).elim
        · rcases set_get e4 with ⟨z, _⟩ | ⟨_, e4⟩
          · exact (n2 z).elim
          · exact R.inj j l c1 c2 b e1 o1 e2 o2 e3 e4
/-- the own dict or list of a cell as what it is -/
theorem zip_map {κ : Type} (f : κ → D) : ∀ (kv : List (κ × V)) (kvs : List (κ × D)), kv.map (·.1) = kvs.map (·.1) → (kv.map fun p => f p.1).zip (kvs.map (·.2)) = kvs.map fun p => (f p.1, p.2)
  | [], [], _ => rfl
  | [], _ :: _, h => by simp at h
  | _ :: _, [], h => by simp at h
  | (k, v) :: kv, (k', d) :: kvs, h => by
    simp only [List.map_cons, List.cons.injEq] at h
    obtain ⟨h1, h2⟩ := h
    simp only [List.map_cons, List.zip_cons_cons, zip_map f kv kvs h2, h1]
/-- what an object of a cell of the def's own looks like -/
inductive Holds (K : PySem.W.Frag) (F : Hp) : HO → Cell → Prop
  | ol {xs ds} : RpL K F xs ds → Holds K F (.lst xs) (.ol ds)
  | dk {kv kvs} : kv.map (·.1) = kvs.map (·.1) → RpL K F (kv.map (·.2)) (kvs.map (·.2)) → Holds K F (.dK kv) (.dk kvs)
  | dt {kv kvs} : kv.map (·.1) = kvs.map (·.1) → RpL K F (kv.map (·.2)) (kvs.map (·.2)) → Holds K F (.dT kv) (.dt kvs)
theorem Holds.mono {F F' : Hp} {o : HO} {c : Cell} (h : Holds K F o c) (le : Hle F F') : Holds K F' o c := by
  cases h with
  | ol r => exact .ol (r.mono le)
  | dk k r => exact .dk k (r.mono le)
  | dt k r => exact .dt k (r.mono le)
theorem Holds.own {F : Hp} {o : HO} {c : Cell} (h : Holds K F o c) : c.own := by cases h <;> trivial
theorem Holds.cell {F H : Hp} {o : HO} {c : Cell} {p : Addr} (h : Holds K F o c) (e : H p = some o) : CellOk K F H (some (.ref p)) c := by
  cases h with
  | ol r => exact ⟨p, _, rfl, e, r⟩
  | dk k r => exact ⟨p, _, rfl, e, k, r⟩
  | dt k r => exact ⟨p, _, rfl, e, k, r⟩
theorem Holds.rp {F : Hp} {o : HO} {c : Cell} {p : Addr} (h : Holds K F o c) (e : F p = some o) : Rp K F (.ref p) c.data := by
  cases h with
  | ol r => exact .lst e r
  | dk k r =>
    have q := Rp.dK e r
    rw [zip_map keyD _ _ k] at q
    exact q
  | dt k r =>
    have q := Rp.dT e r
    rw [zip_map keysD _ _ k] at q
    exact q
theorem CellOk.holds {F H : Hp} {v : Option V} {c : Cell} (h : CellOk K F H v c) (o : c.own) : ∃ p ob, v = some (.ref p) ∧ H p = some ob ∧ Holds K F ob c := by
  cases c with
  | un => exact o.elim
  | fz _ => exact o.elim
  | ol ds => obtain ⟨p, xs, e, h, r⟩ := h; exact ⟨p, _, e, h, .ol r⟩
  | dk ds => obtain ⟨p, xs, e, h, k, r⟩ := h; exact ⟨p, _, e, h, .dk k r⟩
  | dt ds => obtain ⟨p, xs, e, h, k, r⟩ := h; exact ⟨p, _, e, h, .dt k r⟩
/-- a new object becomes the def's own -/
theorem Rel.setNew (R : Rel A K N s σ H ρ O) {i : Nat} {p : Addr} {ob : HO} {c : Cell} (hp : H p = none) (h : Holds K (fzP H (Px N σ ρ O)) ob c) : Rel A K N s (σ.set i (some (.ref p))) (upd H p ob) (ρ.set i c) O ∧ Hle (fzP H (Px N σ ρ O)) (fzP (upd H p ob) (Px N (σ.set i (some (.ref p))) (ρ.set i c) O)) := by
  have own : ∀ b, OwnS (σ.set i (some (.ref p))) (ρ.set i c) b → b = p ∨ ∃ (j : Nat) (c' : Cell), j ≠ i ∧ ρ[j]? = some c' ∧ c'.own ∧ σ[j]? = some (some (.ref b)) := fun b ⟨j, c', e1, o, e2⟩ => by
    rcases set_get e2 with ⟨_, z⟩ | ⟨n, e2⟩
    · cases z; exact .inl rfl
    · rcases set_get e1 with ⟨z, _⟩ | ⟨_, e1⟩
      · exact (n z).elim
      · exact .inr ⟨j, c', n, e1, o, e2⟩
  have np : ¬ Px N σ ρ O p := R.fresh hp
  have ne : ∀ b, Px N σ ρ O b → b ≠ p := fun b z e => np (e ▸ z)
  have le : Hle (fzP H (Px N σ ρ O)) (fzP (upd H p ob) (Px N (σ.set i (some (.ref p))) (ρ.set i c) O)) := fun b o e => by
    obtain ⟨n, e⟩ := fzP_some.mp e
    have nb : b ≠ p := ne_of_none e hp
    refine fzP_of (fun z => ?_) (by rw [upd_ne nb]; exact e)
    rcases z with z | z | z
    · exact n (.inl z)
    · rcases own b z with z | ⟨j, c', _, e1, o, e2⟩
      · exact nb z
      · exact n (.inr (.inl ⟨j, c', e1, o, e2⟩))
    · exact n (.inr (.inr z))
  refine ⟨⟨A.stay R.amb le fun b z => upd_ne (ne b (.inl z)), fun b o e n => ?_, R.xd, by rw [List.length_set, List.length_set]; exact R.len, fun j v' c' e1 e2 => ?_, fun b z => ?_, fun j l c1 c2 b e1 o1 e2 o2 e3 e4 => ?_⟩, le⟩
  · have q := R.keep b o e n
    rw [upd_ne (ne_of_none q.1 hp)]
    exact q
  · rcases set_get e1 with ⟨rfl, rfl⟩ | ⟨n, e1⟩
    · rcases set_get e2 with ⟨_, rfl⟩ | ⟨z, _⟩
      · exact (h.mono le).cell upd_same
      · exact (z rfl).elim
    · rcases set_get e2 with ⟨z, _⟩ | ⟨_, e2⟩
      · exact (n z).elim
      · exact (R.cell j v' c' e1 e2).mono le fun q o e => by
          subst e
          exact upd_ne (ne q (.inr (.inl ⟨j, c', e2, o, e1⟩)))
  · rcases own b z with rfl | ⟨j, c', _, e1, o, e2⟩
    · exact ⟨R.newAt hp, fun z => np (.inl z)⟩
    · exact R.new b ⟨j, c', e1, o, e2⟩
  · have back : ∀ (j : Nat) (c' : Cell), (ρ.set i c)[j]? = some c' → c'.own → (σ.set i (some (.ref p)))[j]? = some (some (.ref b)) → (j = i ∧ b = p) ∨ (j ≠ i ∧ ρ[j]? = some c' ∧ σ[j]? = some (some (.ref b)) ∧ b ≠ p) := fun j c' e1 o e2 => by
      rcases set_get e2 with ⟨q, z⟩ | ⟨n, e2⟩
      · cases z; exact .inl ⟨q, rfl⟩
      · rcases set_get e1 with ⟨z, _⟩ | ⟨_, e1⟩
        · exact (n z).elim
        · exact .inr ⟨n, e1, e2, ne b (.inr (.inl ⟨j, c', e1, o, e2⟩))⟩
    rcases back j c1 e1 o1 e3 with ⟨q1, z1⟩ | ⟨n1, a1, b1, z1⟩
    · rcases back l c2 e2 o2 e4 with ⟨q2, _⟩ | ⟨_, _, _, z2⟩
      · rw [q1, q2]
      · exact (z2 z1).elim
    · rcases back l c2 e2 o2 e4 with ⟨_, z2⟩ | ⟨_, a2, b2, _⟩
      · exact (z1 z2).elim
      · exact R.inj j l c1 c2 b a1 o1 a2 o2 b1 b2
/-- the def's own object is written -/
theorem Rel.write (R : Rel A K N s σ H ρ O) {i : Nat} {p : Addr} {ob : HO} {c c' : Cell} (e : ρ[i]? = some c) (o : c.own) (ev : σ[i]? = some (some (.ref p))) (h : Holds K (fzP H (Px N σ ρ O)) ob c') : Rel A K N s σ (upd H p ob) (ρ.set i c') O ∧ Hle (fzP H (Px N σ ρ O)) (fzP (upd H p ob) (Px N σ (ρ.set i c') O)) := by
  have me : OwnS σ ρ p := ⟨i, c, e, o, ev⟩
  have hi : i < ρ.length := (List.getElem?_eq_some_iff.mp e).1
  have own : ∀ b, OwnS σ (ρ.set i c') b ↔ OwnS σ ρ b := fun b => ⟨fun ⟨j, d, e1, o1, e2⟩ => by
    rcases set_get e1 with ⟨rfl, rfl⟩ | ⟨n, e1⟩
    · rw [ev] at e2; cases e2; exact me
    · exact ⟨j, d, e1, o1, e2⟩, fun ⟨j, d, e1, o1, e2⟩ => by
    by_cases q : i = j
    · subst q
      exact ⟨i, c', by rw [List.getElem?_set_self hi], h.own, e2⟩
    · exact ⟨j, d, by rw [List.getElem?_set_ne q]; exact e1, o1, e2⟩⟩
  have px : ∀ b, Px N σ (ρ.set i c') O b ↔ Px N σ ρ O b := fun b => by
    unfold Px
    rw [own b]
  have le : Hle (fzP H (Px N σ ρ O)) (fzP (upd H p ob) (Px N σ (ρ.set i c') O)) := fun b o' e' => by
    obtain ⟨n, e'⟩ := fzP_some.mp e'
    have nb : b ≠ p := fun z => n (z ▸ .inr (.inl me))
    exact fzP_of (fun z => n ((px b).mp z)) (by rw [upd_ne nb]; exact e')
  obtain ⟨hn0, hnO⟩ := R.new p me
  refine ⟨⟨A.stay R.amb le fun b z => upd_ne fun q => hnO (q ▸ z), fun b o' e' n => ?_, R.xd, by rw [List.length_set]; exact R.len, fun j v' d e1 e2 => ?_, fun b z => R.new b ((own b).mp z), fun j l c1 c2 b e1 o1 e2 o2 e3 e4 => ?_⟩, le⟩
  · have q := R.keep b o' e' n
    have nb : b ≠ p := fun z => n (z ▸ hn0 o' (z ▸ e'))
    rw [upd_ne nb]
    exact q
  · rcases set_get e2 with ⟨rfl, rfl⟩ | ⟨n, e2⟩
    · rw [ev] at e1; cases e1
      exact (h.mono le).cell upd_same
    · refine (R.cell j v' d e1 e2).mono le fun q od z => upd_ne fun w => ?_
      subst z
      subst w
      exact n (R.inj j i d c q e2 od e o e1 ev)
  · obtain ⟨d1, f1, g1⟩ : ∃ d, ρ[j]? = some d ∧ d.own := by
      rcases set_get e1 with ⟨rfl, _⟩ | ⟨_, e1⟩
      · exact ⟨c, e, o⟩
      · exact ⟨c1, e1, o1⟩
    obtain ⟨d2, f2, g2⟩ : ∃ d, ρ[l]? = some d ∧ d.own := by
      rcases set_get e2 with ⟨rfl, _⟩ | ⟨_, e2⟩
      · exact ⟨c, e, o⟩
      · exact ⟨c2, e2, o2⟩
    exact R.inj j l d1 d2 b f1 g1 f2 g2 e3 e4
end

/-! ### statements -/
section
variable {A : Amb}
def dNx : DS A := fun D ρ s => D.nx ρ s
def dSeq (t u : DS A) : DS A := fun D ρ s => t ⟨fun ρ s => u D ρ s, D.rt, D.bk, D.ct⟩ ρ s
def dRet (t : DE A) : DS A := fun D ρ s => t ρ s D.rt
def dRetN : DS A := fun D _ s => D.rt .none s
def dBrk : DS A := fun D ρ s => D.bk ρ s
def dCnt : DS A := fun D ρ s => D.ct ρ s
def dDrop (t : DE A) : DS A := fun D ρ s => t ρ s fun _ s' => D.nx ρ s'
def dIfS (c : DT A) (t u : DS A) : DS A := fun D ρ s => c ρ s fun b s' => match b with
  | true => t D ρ s'
  | false => u D ρ s'
/-- targets -/
abbrev DG (A : Amb) := D → Rho → A.S → (Rho → A.S → Prop) → Prop
abbrev DGs (A : Amb) := List D → Rho → A.S → (Rho → A.S → Prop) → Prop
def dgN (i : Nat) : DG A := fun d ρ s k => k (ρ.set i (.fz d)) s
def dgs0 : DGs A := fun ds ρ s k => ds = [] ∧ k ρ s
def dgsC (g : DG A) (gs : DGs A) : DGs A := fun ds ρ s k => match ds with
  | d :: r => g d ρ s fun ρ' s' => gs r ρ' s' k
  | [] => False
def dgT (n : Nat) (g : DGs A) : DG A := fun d ρ s k => match d with
  | .tuple ds => ds.length = n ∧ g ds ρ s k
  | _ => False
/-- x[i] = d, x the def's own list -/
def dgIx (i : Nat) (ti : DE A) : DG A := fun d ρ s k => match ρ[i]? with
  | some (.ol ds) => ti ρ s fun x s' => (match x with
    | .int j => (match ixN ds.length j with
      | some m => k (ρ.set i (.ol (ds.set m d))) s'
      | none => False)
    | _ => False)
  | _ => False
def dAsg (t : DE A) (g : DG A) : DS A := fun D ρ s => t ρ s fun d s' => g d ρ s' D.nx
abbrev dSet (i : Nat) (t : DE A) : DS A := dAsg t (dgN i)
/-- new things -/
abbrev DC (A : Amb) := Rho → A.S → (Cell → A.S → Prop) → Prop
def dOfN (t : DC A) : DE A := fun ρ s Q => t ρ s fun c s' => Q c.data s'
def dSetN (i : Nat) (t : DC A) : DS A := fun D ρ s => t ρ s fun c s' => D.nx (ρ.set i c) s'
/-- the own list, dict of a cell becomes data -/
def frzC : Cell → Cell
  | .ol ds => .fz (.list ds)
  | .dk kvs => .fz (Cell.data (.dk kvs))
  | .dt kvs => .fz (Cell.data (.dt kvs))
  | c => c
def dFrz (i : Nat) (t : DS A) : DS A := fun D ρ s => t D (match ρ[i]? with | some c => ρ.set i (frzC c) | none => ρ) s
/-- loops -/
def forW (f : D → DEnds A → Rho → A.S → Prop) : List D → DEnds A → Rho → A.S → Prop
  | [], D, ρ, s => D.nx ρ s
  | x :: xs, D, ρ, s => f x ⟨fun ρ' s' => forW f xs D ρ' s', D.rt, D.nx, fun ρ' s' => forW f xs D ρ' s'⟩ ρ s
abbrev DI (A : Amb) := Rho → A.S → (List D → A.S → Prop) → Prop
def dFor (it : DI A) (g : DG A) (b : DS A) : DS A := fun D ρ s => it ρ s fun xs s' => forW (fun x D ρ s => g x ρ s fun ρ' s' => b D ρ' s') xs D ρ s'
def dWhile (c : DT A) (b : DS A) : DS A := fun D ρ s => ∃ I : Nat → Rho → A.S → Prop, (∃ n, I n ρ s) ∧ ∀ n ρ s, I n ρ s → c ρ s fun k s' => match k with
  | true => b ⟨fun ρ' s' => ∃ m, m < n ∧ I m ρ' s', D.rt, D.nx, fun ρ' s' => ∃ m, m < n ∧ I m ρ' s'⟩ ρ s'
  | false => D.nx ρ s'
end

section
variable {A : Amb} {X : Cx} {N : Ent} {st : Stmt} {rest sts body orelse : List Stmt} {t u : DS A} {e c : Expr} {te : DE A} {tc : DT A} {pos : Pos} {g : DG A} {gs : DGs A}
theorem s_imp {t' : TS} (h : PS X st t') (i : ∀ (D : Ends) (σ : St) (H : Hp) (ρ : Rho) (s : A.S) (O : Addr → Prop) (Dd : DEnds A), Rel A X.K N s σ H ρ O → EndsOk A X.K N (fzP H (Px N σ ρ O)) Dd D → t Dd ρ s → t' D σ H) : PS X st (liftS A X.K N t) :=
  PS.imp h fun D σ H ⟨ρ, s, O, Dd, R, E, q⟩ => i D σ H ρ s O Dd R E q
theorem ss_nil : PSs X [] (liftS A X.K N dNx) := PSs.imp pss_nil fun D σ H ⟨ρ, s, O, Dd, R, E, q⟩ => E.nx ρ s σ H O R (Hle.refl _) q
theorem ss_cons (h1 : PS X st (liftS A X.K N t)) (h2 : PSs X rest (liftS A X.K N u)) : PSs X (st :: rest) (liftS A X.K N (dSeq t u)) :=
  PSs.imp (pss_cons h1 h2) fun D σ H ⟨ρ, s, O, Dd, R, E, q⟩ => ⟨ρ, s, O, ⟨fun ρ s => u Dd ρ s, Dd.rt, Dd.bk, Dd.ct⟩, R, ⟨fun ρ' s' σ' H' O' R' le q' => ⟨ρ', s', O', Dd, R', E.up le, q'⟩, E.rt, E.bk, E.ct⟩, q⟩
theorem ss_one (h1 : PS X st (liftS A X.K N t)) : PSs X [st] (liftS A X.K N t) := pss_one h1
theorem s_pass : PS X (.Pass pos) (liftS A X.K N dNx) := s_imp ps_pass fun D σ H ρ s O Dd R E q => E.nx ρ s σ H O R (Hle.refl _) q
theorem s_break : PS X (.Break pos) (liftS A X.K N dBrk) := s_imp ps_break fun D σ H ρ s O Dd R E q => E.bk ρ s σ H O R (Hle.refl _) q
theorem s_cont : PS X (.Continue pos) (liftS A X.K N dCnt) := s_imp ps_continue fun D σ H ρ s O Dd R E q => E.ct ρ s σ H O R (Hle.refl _) q
theorem s_ret (he : PE X e (liftE A X.K N te)) : PS X (.Return (some e) pos) (liftS A X.K N (dRet te)) :=
  s_imp (ps_ret he) fun D σ H ρ s O Dd R E q => ⟨ρ, s, O, _, R, q, fun d s' v H' O' p R' le r => E.rt ρ s' σ H' O' d v R' le r p⟩
theorem s_retN : PS X (.Return none pos) (liftS A X.K N dRetN) := s_imp ps_retN fun D σ H ρ s O Dd R E q => E.rt ρ s σ H O _ _ R (Hle.refl _) .non q
theorem s_expr (he : PE X e (liftE A X.K N te)) (hs : swapsWith e none pos.line X.env = pure false := by rfl) : PS X (.Expr e pos) (liftS A X.K N (dDrop te)) :=
  s_imp (ps_expr he hs) fun D σ H ρ s O Dd R E q => ⟨ρ, s, O, _, R, q, fun d s' v H' O' p R' le r => E.nx ρ s' σ H' O' R' le p⟩
theorem s_doc {x j pos pos'} : PS X (.Expr (.Constant (.str x) j pos) pos') (liftS A X.K N dNx) := s_imp ps_doc fun D σ H ρ s O Dd R E q => E.nx ρ s σ H O R (Hle.refl _) q
theorem s_if {a b : List Stmt} (hc : PT X c (liftT A X.K N tc)) (ha : PSs X a (liftS A X.K N t)) (hb : PSs X b (liftS A X.K N u)) : PS X (.If c a b pos) (liftS A X.K N (dIfS tc t u)) :=
  s_imp (ps_if hc ha hb) fun D σ H ρ s O Dd R E q => ⟨ρ, s, O, _, R, q, fun b s' H' O' p R' le => by
    cases b with
    | true => exact iteT ⟨ρ, s', O', Dd, R', E.up le, p⟩
    | false => exact iteF ⟨ρ, s', O', Dd, R', E.up le, p⟩⟩
/-- freezing ahead of a statement -/
theorem Rel.toFz {K : PySem.W.Frag} {s : A.S} {σ : St} {H : Hp} {ρ : Rho} {O : Addr → Prop} (R : Rel A K N s σ H ρ O) (i : Nat) : Rel A K N s σ H (match ρ[i]? with | some c => ρ.set i (frzC c) | none => ρ) O ∧ Hle (fzP H (Px N σ ρ O)) (fzP H (Px N σ (match ρ[i]? with | some c => ρ.set i (frzC c) | none => ρ) O)) := by
  cases e : ρ[i]? with
  | none => exact ⟨R, Hle.refl _⟩
  | some c =>
    dsimp only
    obtain ⟨v, ev, ok⟩ := R.slot e
    have same : ∀ c', c' = c → Rel A K N s σ H (ρ.set i c') O ∧ Hle (fzP H (Px N σ ρ O)) (fzP H (Px N σ (ρ.set i c') O)) := fun c' z => by
      subst z
      rw [(set_same e : ρ.set i c' = ρ)]
      exact ⟨R, Hle.refl _⟩
    have go : c.own → frzC c = .fz c.data → Rel A K N s σ H (ρ.set i (frzC c)) O ∧ Hle (fzP H (Px N σ ρ O)) (fzP H (Px N σ (ρ.set i (frzC c)) O)) := fun o z => by
      obtain ⟨p, ob, rfl, hp, ho⟩ := ok.holds o
      -- the object joins what is frozen
      have sv : σ.set i (some (.ref p)) = σ := set_same ev
      obtain ⟨hn0, hnO⟩ := R.new p ⟨i, c, e, o, ev⟩
      have base := (R.setFz (i := i) (v := .ref p) (c := .un) (fun z => z) trivial)
      rw [sv] at base
      obtain ⟨R1, le1⟩ := base
      have nx : ¬ Px N σ (ρ.set i .un) O p := by
        rintro (z | ⟨j, c', e1, o', e2⟩ | z)
        · exact hnO z
        · rcases set_get e1 with ⟨_, rfl⟩ | ⟨n, e1⟩
          · exact o'
          · exact n (R.inj j i c' c p e1 o' e o e2 ev)
        · obtain ⟨⟨o', e'⟩, n⟩ := R.xd p z
          exact n (hn0 o' e')
      have fin := R1.setFz (i := i) (v := .ref p) (c := .fz c.data) (fun z => z) ⟨_, rfl, (ho.mono le1).rp (fzP_of nx hp)⟩
      rw [sv, List.set_set] at fin
      rw [z]
      exact ⟨fin.1, le1.trans fin.2⟩
    cases c with
    | un => exact same _ rfl
    | fz d => exact same _ rfl
    | ol ds => exact go trivial rfl
    | dk ds => exact go trivial rfl
    | dt ds => exact go trivial rfl
theorem s_frz {i : Nat} (h : PS X st (liftS A X.K N t)) : PS X st (liftS A X.K N (dFrz i t)) := PS.imp h fun D σ H ⟨ρ, s, O, Dd, R, E, q⟩ => ⟨_, s, O, Dd, (R.toFz i).1, E.up (R.toFz i).2, q⟩
end
end Dl
/-! Targets, stores, loops, what is walked, comprehensions, calls. -/
namespace Dl
open PySem L2

section
variable (A : Amb) (K : PySem.W.Frag) (N : Ent)
/-- σ' is σ but at the slots of vs -/
def Off (vs : List Nat) (σ σ' : St) : Prop := σ'.length = σ.length ∧ ∀ j : Nat, j ∉ vs → σ'[j]? = σ[j]?
def OffR (vs : List Nat) (ρ ρ' : Rho) : Prop := ρ'.length = ρ.length ∧ ∀ j : Nat, j ∉ vs → ρ'[j]? = ρ[j]?
/-- what a target may touch -/
structure Tch (vs : List Nat) (σ : St) (ρ : Rho) (σ' : St) (ρ' : Rho) : Prop where
  st : Off vs σ σ'
  rh : OffR vs ρ ρ'
  own : ∀ b, OwnS σ' ρ' b → OwnS σ ρ b
def liftG (vs : List Nat) (g : DG A) : TG := fun v σ H Q => ∃ ρ s O d P, Rel A K N s σ H ρ O ∧ Rp K (fzP H (Px N σ ρ O)) v d ∧ g d ρ s P ∧ ∀ ρ' s' σ' H' O', P ρ' s' → Rel A K N s' σ' H' ρ' O' → Hle (fzP H (Px N σ ρ O)) (fzP H' (Px N σ' ρ' O')) → Tch vs σ ρ σ' ρ' → Q σ' H'
def liftGs (vs : List Nat) (g : DGs A) : TGs := fun xs σ H Q => ∃ ρ s O ds P, Rel A K N s σ H ρ O ∧ RpL K (fzP H (Px N σ ρ O)) xs ds ∧ g ds ρ s P ∧ ∀ ρ' s' σ' H' O', P ρ' s' → Rel A K N s' σ' H' ρ' O' → Hle (fzP H (Px N σ ρ O)) (fzP H' (Px N σ' ρ' O')) → Tch vs σ ρ σ' ρ' → Q σ' H'
def liftW (t : DC A) : TE := fun σ H Q => ∃ ρ s O P, Rel A K N s σ H ρ O ∧ t ρ s P ∧ ∀ c s' p ob H1 O1, P c s' → Rel A K N s' σ H1 ρ O1 → Hle (fzP H (Px N σ ρ O)) (fzP H1 (Px N σ ρ O1)) → H1 p = none → Holds K (fzP H1 (Px N σ ρ O1)) ob c → Q (.ref p) (upd H1 p ob)
/-- what a walk yields, whatever is new by then -/
def ItOk (K : PySem.W.Frag) (F : Hp) (J : It) (xs : List D) : Prop := ∀ (i : Nat) (H : Hp) (P : Addr → Prop), (∀ b, P b → ∃ o, H b = some o) → Hle F (fzP H P) →
  (i < xs.length → J.go i H ∧ ∀ x H', J.yld i H x H' → Same H H' ∧ ∃ d, xs[i]? = some d ∧ Rp K (fzP H' P) x d) ∧ (xs.length ≤ i → J.stop i H)
def liftI (t : DI A) : TI := fun σ H R => ∃ ρ s O P, Rel A K N s σ H ρ O ∧ t ρ s P ∧ ∀ xs s' J H' O', P xs s' → Rel A K N s' σ H' ρ O' → Hle (fzP H (Px N σ ρ O)) (fzP H' (Px N σ ρ O')) → ItOk K (fzP H' (Px N σ ρ O')) J xs → R J H'
end
theorem Off.refl (vs : List Nat) (σ : St) : Off vs σ σ := ⟨rfl, fun _ _ => rfl⟩
theorem Off.trans {vs : List Nat} {σ σ1 σ2 : St} (a : Off vs σ σ1) (b : Off vs σ1 σ2) : Off vs σ σ2 := ⟨b.1.trans a.1, fun j h => (b.2 j h).trans (a.2 j h)⟩
theorem Off.up {vs ws : List Nat} {σ σ1 : St} (a : Off vs σ σ1) (h : ∀ i ∈ vs, i ∈ ws) : Off ws σ σ1 := ⟨a.1, fun j z => a.2 j fun q => z (h j q)⟩
theorem Off.set {i : Nat} {σ : St} {v : Option V} : Off [i] σ (σ.set i v) := ⟨by rw [List.length_set], fun j h => List.getElem?_set_ne fun e => h (by simp [e])⟩
theorem wipe_at {σ : St} {i : Nat} : ∀ {vs : List Nat}, i < σ.length → (wipe σ vs)[i]? = if i ∈ vs then some none else σ[i]?
  | [], h => by simp [wipe]
  | v :: vs, h => by
    unfold wipe
    rw [List.getElem?_set]
    have q := wipe_at (vs := vs) h
    by_cases e : v = i
    · subst e
      simp [wipe_length, h]
    · simp only [if_neg e, q, List.mem_cons]
      have e' : ¬ i = v := fun z => e z.symm
      simp [e']
theorem Off.wipe {vs : List Nat} {σ σ' : St} (h : Off vs σ σ') : L2.wipe σ' vs = L2.wipe σ vs := by
  apply List.ext_getElem?
  intro i
  by_cases hi : i < σ.length
  · rw [wipe_at hi, wipe_at (by rw [h.1]; exact hi)]
    by_cases m : i ∈ vs
    · simp [m]
    · simp [m, h.2 i m]
  · rw [List.getElem?_eq_none (by rw [wipe_length, h.1]; omega), List.getElem?_eq_none (by rw [wipe_length]; omega)]

theorem Tch.refl (vs : List Nat) (σ : St) (ρ : Rho) : Tch vs σ ρ σ ρ := ⟨Off.refl _ _, ⟨rfl, fun _ _ => rfl⟩, fun _ z => z⟩
theorem Tch.trans {vs ws : List Nat} {σ σ1 σ2 : St} {ρ ρ1 ρ2 : Rho} (a : Tch vs σ ρ σ1 ρ1) (b : Tch ws σ1 ρ1 σ2 ρ2) : Tch (vs ++ ws) σ ρ σ2 ρ2 :=
  ⟨(a.st.up fun i z => List.mem_append_left _ z).trans (b.st.up fun i z => List.mem_append_right _ z), ⟨b.rh.1.trans a.rh.1, fun j h => (b.rh.2 j fun z => h (List.mem_append_right _ z)).trans (a.rh.2 j fun z => h (List.mem_append_left _ z))⟩, fun x z => a.own x (b.own x z)⟩
theorem Tch.fz {i : Nat} {σ : St} {ρ : Rho} {v : V} {c : Cell} (nc : ¬ c.own) : Tch [i] σ ρ (σ.set i (some v)) (ρ.set i c) :=
  ⟨Off.set, ⟨by rw [List.length_set], fun j h => List.getElem?_set_ne fun e => h (by simp [e])⟩, fun b ⟨j, c', e1, o, e2⟩ => by
    rcases set_get e1 with ⟨_, rfl⟩ | ⟨n, e1⟩
    · exact (nc o).elim
    · rcases set_get e2 with ⟨z, _⟩ | ⟨_, e2⟩
      · exact (n z).elim
      · exact ⟨j, c', e1, o, e2⟩⟩
section
variable {A : Amb} {X : Cx} {N : Ent} {st : Stmt} {e e1 c tg iter : Expr} {body : List Stmt} {es ts : List Expr} {te ti : DE A} {t u : DS A} {tc : DT A} {g : DG A} {gs : DGs A} {vs ws : List Nat} {pos : Pos} {it : DI A} {tn : DC A}
theorem PGs.imp {ts : List Expr} {t t' : TGs} (h : PGs X ts t) (i : ∀ v σ H Q, t' v σ H Q → t v σ H Q) : PGs X ts t' := ⟨fun pins s σ H v u Q I r q => h.run pins s σ H v u Q I r (i _ _ _ _ q)⟩
theorem PI.imp {wi wi' : TI} (h : PI X tg iter wi) (i : ∀ σ H R, wi' σ H R → wi σ H R) : PI X tg iter wi' := ⟨fun pins s σ H R I q => h.run pins s σ H R I (i _ _ _ q)⟩
theorem g_name {i : Nat} (h : PG X e (gName i)) : PG X e (liftG A X.K N [i] (dgN i)) := PG.imp h fun v σ H Q ⟨ρ, s, O, d, P, R, r, q, k⟩ =>
  k _ s _ H O q (R.setFz (c := .fz d) (fun z => z) ⟨v, rfl, r⟩).1 (R.setFz (c := .fz d) (fun z => z) ⟨v, rfl, r⟩).2 (Tch.fz fun z => z)
theorem gs_nil : PGs X [] (liftGs A X.K N [] dgs0) := PGs.imp pgs_nil fun v σ H Q ⟨ρ, s, O, d, P, R, r, q, k⟩ => by
  obtain ⟨rfl, q⟩ := q
  cases r
  exact ⟨rfl, k ρ s σ H O q R (Hle.refl _) (Tch.refl _ _ _)⟩
theorem gs_cons (h1 : PG X e (liftG A X.K N vs g)) (h2 : PGs X ts (liftGs A X.K N ws gs)) (hs : (assignEach (e :: ts) X.env).map (·.2) = assign e X.env :: (assignEach ts X.env).map (·.2) := by rfl) : PGs X (e :: ts) (liftGs A X.K N (vs ++ ws) (dgsC g gs)) :=
  PGs.imp (pgs_cons h1 h2 hs) fun xs σ H Q ⟨ρ, s, O, ds, P, R, r, q, k⟩ => by
    unfold dgsC at q
    split at q
    · cases r with
      | cons r rs =>
        refine ⟨_, _, rfl, ρ, s, O, _, _, R, r, q, fun ρ1 s1 σ1 H1 O1 q1 R1 le1 o1 => ⟨ρ1, s1, O1, _, _, R1, rs.mono le1, q1, fun ρ2 s2 σ2 H2 O2 q2 R2 le2 o2 => ?_⟩⟩
        exact k ρ2 s2 σ2 H2 O2 q2 R2 (le1.trans le2) (o1.trans o2)
    · exact q.elim
theorem g_tup {k n : Nat} {g : DGs A} (hc : X.calm = true) (h : PGs X ts (liftGs A X.K N vs g)) (hn : (assignEach ts X.env).length = n := by rfl) (hst : (assignEach ts X.env).findIdx? (·.1) = none := by rfl) : PG X (.Tuple ts k pos) (liftG A X.K N vs (dgT n g)) :=
  PG.imp (pg_tup hc h hn hst) fun v σ H Q ⟨ρ, s, O, d, P, R, r, q, kk⟩ => by
    unfold dgT at q
    split at q
    · cases r with
      | tup sq rs => exact ⟨_, _, rfl, (fzP_le : Hle _ H).sqT sq.sqT, by rw [rs.length]; exact q.1, ρ, s, O, _, P, R, rs, q.2, kk⟩
    · exact q.elim
theorem g_ix {o i : Expr} {n : Nat} (ho : PE X o (tVar n)) (hi : PE X i (liftB A X.K N ti)) (h : ∀ {to ti' : TE} {t : TSet}, PE X o to → PE X i ti' → PSet X t → PG X (.Subscript o i pos) (gSub to ti' t)) : PG X (.Subscript o i pos) (liftG A X.K N [n] (dgIx n ti)) :=
  PG.imp (h ho hi set_list) fun v σ H Q ⟨ρ, s, O, d, P, R, r, q, k⟩ => by
    unfold dgIx at q
    split at q
    · next ds hd =>
      obtain ⟨w, e1, p, xs, rfl, hp, rl⟩ := R.slot hd
      refine ⟨_, e1, ρ, s, O, _, R, q, fun x s1 vx H1 O1 q1 R1 le1 rx => ?_⟩
      split at q1
      · split at q1
        · next m hm =>
          cases (R1.bh rx).int
          obtain ⟨w', e1', p', xs', z', hp', rl'⟩ := R1.slot hd
          rw [e1] at e1'
          cases e1'
          cases z'
          have hl := rl'.length
          have W := R1.write (c' := .ol (ds.set m d)) hd trivial e1 (.ol (rl'.set m (r.mono le1)))
          exact ⟨p, xs', _, m, rfl, rfl, hp', by rw [hl]; exact hm, k _ s1 σ _ O1 q1 W.1 (le1.trans W.2) ⟨Off.refl _ _, ⟨by rw [List.length_set], fun j h => List.getElem?_set_ne fun e => h (by simp [e])⟩, fun b ⟨j, c', f1, o, f2⟩ => by
            rcases set_get f1 with ⟨rfl, rfl⟩ | ⟨_, f1⟩
            · exact ⟨j, _, hd, trivial, f2⟩
            · exact ⟨j, c', f1, o, f2⟩⟩⟩
        · exact q1.elim
      · exact q1.elim
    · exact q.elim
/-! ### stores of a name -/
theorem s_asg (h : PS X st (tAsg (liftE A X.K N te) (liftG A X.K N vs g))) : PS X st (liftS A X.K N (dAsg te g)) := s_imp h fun D σ H ρ s O Dd R E q =>
  ⟨ρ, s, O, _, R, q, fun d s1 v H1 O1 q1 R1 le1 r => ⟨ρ, s1, O1, d, _, R1, r, q1, fun ρ' s' σ' H' O' p R' le _ => E.nx ρ' s' σ' H' O' R' (le1.trans le) p⟩⟩
theorem s_set {i : Nat} (h : PS X st (tAsg (liftE A X.K N te) (gName i))) : PS X st (liftS A X.K N (dSet i te)) := s_imp h fun D σ H ρ s O Dd R E q =>
  ⟨ρ, s, O, _, R, q, fun d s1 v H1 O1 q1 R1 le1 r => E.nx _ s1 _ H1 O1 (R1.setFz (c := .fz d) (fun z => z) ⟨v, rfl, r⟩).1 (le1.trans (R1.setFz (c := .fz d) (fun z => z) ⟨v, rfl, r⟩).2) q1⟩
theorem s_setW {i : Nat} (h : PS X st (tAsg (liftW A X.K N tn) (gName i))) : PS X st (liftS A X.K N (dSetN i tn)) := s_imp h fun D σ H ρ s O Dd R E q =>
  ⟨ρ, s, O, _, R, q, fun c s1 p ob H1 O1 q1 R1 le1 hp hh => E.nx _ s1 _ _ O1 (R1.setNew hp hh).1 (le1.trans (R1.setNew hp hh).2) q1⟩
theorem e_ofW (h : PE X e (liftW A X.K N tn)) : PE X e (liftE A X.K N (dOfN tn)) := PE.imp h fun σ H Q ⟨ρ, s, O, P, R, q, k⟩ =>
  ⟨ρ, s, O, _, R, q, fun c s1 p ob H1 O1 q1 R1 le1 hp hh => k _ s1 _ _ O1 q1 (R1.alloc (same_upd hp)) (le1.trans (R1.fzle (same_upd hp))) ((hh.mono (R1.fzle (same_upd hp))).rp (fzP_of (R1.fresh hp) upd_same))⟩
/-! ### new lists -/
def nLst (a : DA A) : DC A := fun ρ s Q => a ρ s fun xs s1 => xs.length ≤ sizeLine ∧ Q (.ol xs) s1
theorem n_lst {tL : DA A} (h : PA X es (liftA A X.K N tL)) : PE X (.List es pos) (liftW A X.K N (nLst tL)) :=
  PE.imp (pe_lst h) fun σ H Q ⟨ρ, s, O, P, R0, q, k⟩ => ⟨ρ, s, O, _, R0, q, fun x s1 vx H1 O1 ⟨q0, q1⟩ R1 le1 rx => ⟨by rw [rx.length]; exact q0, fun p hp => k _ s1 p _ H1 O1 q1 R1 le1 hp (.ol rx)⟩⟩
/-- what gives a new list, by values -/
def DR2W (K : PySem.W.Frag) (r : R2) (f : D → D → (Cell → Prop) → Prop) : Prop := ∀ (H : Hp) (P : Addr → Prop) (x y : V) (dx dy : D) (k : Cell → Prop) (Q : VK), (∀ b, P b → ∃ o, H b = some o) → Bh K (fzP H P) H x dx → Bh K (fzP H P) H y dy → f dx dy k →
  (∀ p ob c, H p = none → Holds K (fzP H P) ob c → k c → Q (.ref p) (upd H p ob)) → r x y H Q
def DRNW (K : PySem.W.Frag) (r : List V → Hp → VK → Prop) (f : List D → (Cell → Prop) → Prop) : Prop := ∀ (H : Hp) (P : Addr → Prop) (xs : List V) (ds : List D) (k : Cell → Prop) (Q : VK), (∀ b, P b → ∃ o, H b = some o) → BhL K (fzP H P) H xs ds → f ds k →
  (∀ p ob c, H p = none → Holds K (fzP H P) ob c → k c → Q (.ref p) (upd H p ob)) → r xs H Q
def nOp (f : D → D → (Cell → Prop) → Prop) (a b : DE A) : DC A := fun ρ s Q => a ρ s fun x s1 => b ρ s1 fun y s2 => f x y fun z => Q z s2
def nFn (f : List D → (Cell → Prop) → Prop) (a : DA A) : DC A := fun ρ s Q => a ρ s fun xs s1 => f xs fun z => Q z s1
variable {a b : Expr} {ta tb : DE A}
theorem n_op {op : Operator} {r : R2} {f : D → D → (Cell → Prop) → Prop} (ho : OpR X (binaryOp op) r) (hR : DR2W X.K r f) (ha : PE X a (liftB A X.K N ta)) (hb : PE X b (liftB A X.K N tb)) : PE X (.BinOp a op b pos) (liftW A X.K N (nOp f ta tb)) :=
  PE.imp (pe_op ho ha hb) fun σ H Q ⟨ρ, s, O, P, R0, q, k⟩ => ⟨ρ, s, O, _, R0, q, fun x s1 vx H1 O1 q1 R1 le1 rx => ⟨ρ, s1, O1, _, R1, q1, fun y s2 vy H2 O2 q2 R2 le2 ry =>
    hR H2 (Px N σ ρ O2) vx vy x y (fun z => P z s2) Q (fun _ z => R2.dom z) (R2.bh (rx.mono le2)) (R2.bh ry) q2 fun p ob c hp hh pc => k c s2 p ob H2 O2 pc R2 (le1.trans le2) hp hh⟩⟩
theorem liftNW {tL : DA A} {r : List V → Hp → VK → Prop} {f : List D → (Cell → Prop) → Prop} (hR : DRNW X.K r f) : ∀ σ H Q, liftW A X.K N (nFn f tL) σ H Q → tCB r (liftAB A X.K N tL) σ H Q := fun σ H Q ⟨ρ, s, O, P, R0, q, k⟩ =>
  ⟨ρ, s, O, _, R0, q, fun x s1 vx H1 O1 q1 R1 le1 rx => hR H1 (Px N σ ρ O1) vx x (fun z => P z s1) Q (fun _ z => R1.dom z) (R1.bhL rx) q1 fun p ob c hp hh pc => k c s1 p ob H1 O1 pc R1 le1 hp hh⟩
theorem n_callB {id : String} {x : Str} {p : Pos} {r : List V → Hp → VK → Prop} {f : List D → (Cell → Prop) → Prop} {tL : DA A} (hc : CallR X (.builtin id) r) (hR : DRNW X.K r f) (hm : X.mg x = none) (hv : bootBuiltins x = some (.builtin id)) (ha : PA X (e :: es) (liftAB A X.K N tL))
    (hg : Gl X x := by rfl) (hn : x ≠ "__name__" := by decide) (hdb : (x == ("__debug__" : Str)) = false := by decide) (h1 : starEach (e :: es) X.env = (false, eval e X.env) :: starEach es X.env := by rfl) (h2 : (backTo pos (starEach es X.env)).any (·.1) = false := by rfl) :
    PE X (.Call (.Name x p) (e :: es) [] pos) (liftW A X.K N (nFn f tL)) := PE.imp (pe_callB hc hg hm hv ha hn hdb h1 h2) (liftNW hR)
theorem n_callTy {T : String} {x : Str} {p : Pos} {r : List V → Hp → VK → Prop} {f : List D → (Cell → Prop) → Prop} {tL : DA A} (hc : CallR X (.type T) r) (hR : DRNW X.K r f) (hm : X.mg x = none) (hv : bootBuiltins x = some (.type T)) (ha : PA X (e :: es) (liftAB A X.K N tL))
    (hg : Gl X x := by rfl) (hn : x ≠ "__name__" := by decide) (hdb : (x == ("__debug__" : Str)) = false := by decide) (h1 : starEach (e :: es) X.env = (false, eval e X.env) :: starEach es X.env := by rfl) (h2 : (backTo pos (starEach es X.env)).any (·.1) = false := by rfl) :
    PE X (.Call (.Name x p) (e :: es) [] pos) (liftW A X.K N (nFn f tL)) := PE.imp (pe_callTy hc hg hm hv ha hn hdb h1 h2) (liftNW hR)
/-! ### the def's own list grows -/
def dApp (i : Nat) (te : DE A) : DS A := fun D ρ s => match ρ[i]? with
  | some (.ol ds) => te ρ s fun d s' => ds.length < sizeLine ∧ D.nx (ρ.set i (.ol (ds ++ [d]))) s'
  | _ => False
def dExt (i : Nat) (te : DE A) : DS A := fun D ρ s => match ρ[i]? with
  | some (.ol ds) => te ρ s fun d s' => (match d with
    | .list es => ds.length + es.length ≤ sizeLine ∧ D.nx (ρ.set i (.ol (ds ++ es))) s'
    | _ => False)
  | _ => False
theorem s_append {i : Nat} (h : PS X st (tDrop (tBM X.K "list" rAppend (tVar i) (tCons (liftE A X.K N te) tNil)))) : PS X st (liftS A X.K N (dApp i te)) := s_imp h fun D σ H ρ s O Dd R E q => by
  unfold dApp at q
  split at q
  · next ds hd =>
    obtain ⟨w, e1, p, xs, rfl, hp, rl⟩ := R.slot hd
    refine ⟨_, e1, .inl ⟨rfl, _, .inl (.inl hp)⟩, ρ, s, O, _, R, q, fun d s1 v H1 O1 q1 R1 le1 r => ?_⟩
    obtain ⟨w', e1', p', xs', z', hp', rl'⟩ := R1.slot hd
    rw [e1] at e1'
    cases e1'
    cases z'
    have W := R1.write (c' := .ol (ds ++ [d])) hd trivial e1 (.ol (rl'.append (.one r)))
    exact ⟨p, xs', v, rfl, rfl, hp', by rw [rl'.length]; exact q1.1, E.nx _ s1 σ _ O1 W.1 (le1.trans W.2) q1.2⟩
  · exact q.elim
theorem s_extend {i : Nat} (h : PS X st (tDrop (tBM X.K "list" rExtend (tVar i) (tCons (liftB A X.K N te) tNil)))) : PS X st (liftS A X.K N (dExt i te)) := s_imp h fun D σ H ρ s O Dd R E q => by
  unfold dExt at q
  split at q
  · next ds hd =>
    obtain ⟨w, e1, p, xs, rfl, hp, rl⟩ := R.slot hd
    refine ⟨_, e1, .inl ⟨rfl, _, .inl (.inl hp)⟩, ρ, s, O, _, R, q, fun d s1 v H1 O1 q1 R1 le1 r => ?_⟩
    split at q1
    · next es =>
      obtain ⟨w', e1', p', xs', z', hp', rl'⟩ := R1.slot hd
      rw [e1] at e1'
      cases e1'
      cases z'
      obtain ⟨a, zs, rfl, ha, rz⟩ := (R1.bh r).list fzP_le
      have W := R1.write (c' := .ol (ds ++ es)) hd trivial e1 (.ol (rl'.append rz))
      exact ⟨p, a, xs', zs, rfl, rfl, hp', ha, by rw [rl'.length, rz.length]; exact q1.1, E.nx _ s1 σ _ O1 W.1 (le1.trans W.2) q1.2⟩
    · exact q1.elim
  · exact q.elim
/-! ### while -/
theorem s_while (hc : PT X c (liftT A X.K N tc)) (hb : PSs X body (liftS A X.K N t)) (hp : PassesOwn (model X.prog X.w) X.A X.env X.xe) : PS X (.While c body [] pos) (liftS A X.K N (dWhile tc t)) :=
  s_imp (ps_while hp hc hb) fun D σ H ρ s O Dd R E ⟨I, ⟨n, i0⟩, turn⟩ =>
    ⟨fun m σ' H' => ∃ ρ' s' O', Rel A X.K N s' σ' H' ρ' O' ∧ Hle (fzP H (Px N σ ρ O)) (fzP H' (Px N σ' ρ' O')) ∧ I m ρ' s', ⟨n, ρ, s, O, R, Hle.refl _, i0⟩, fun m σ1 H1 ⟨ρ1, s1, O1, R1, le1, i1⟩ =>
      ⟨ρ1, s1, O1, _, R1, turn m ρ1 s1 i1, fun b s2 H2 O2 q2 R2 le2 => by
        cases b with
        | false => exact iteF (E.nx ρ1 s2 σ1 H2 O2 R2 (le1.trans le2) q2)
        | true =>
          refine iteT ⟨fun σ' H' => ∃ m', m' < m ∧ ∃ ρ' s' O', Rel A X.K N s' σ' H' ρ' O' ∧ Hle (fzP H (Px N σ ρ O)) (fzP H' (Px N σ' ρ' O')) ∧ I m' ρ' s', fun σ' H' z => z, ρ1, s2, O2, _, R2, ?_, q2⟩
          have E' := E.up (le1.trans le2)
          exact ⟨fun ρ' s' σ' H' O' R' le ⟨m', hm, i'⟩ => ⟨m', hm, ρ', s', O', R', le1.trans (le2.trans le), i'⟩, E'.rt, E'.nx, fun ρ' s' σ' H' O' R' le ⟨m', hm, i'⟩ => ⟨m', hm, ρ', s', O', R', le1.trans (le2.trans le), i'⟩⟩⟩⟩
/-! ### for -/
theorem s_for (hi : PI X tg iter (liftI A X.K N it)) (hg : PG X tg (liftG A X.K N vs g)) (hb : PSs X body (liftS A X.K N t)) (hp : PassesOwn (model X.prog X.w) X.A X.env X.xe) (hc : X.calm = true) (hs : ∀ x, foldedSetIterable iter X.env x = pure x := by intro _; rfl) :
    PS X (.For tg iter body [] pos) (liftS A X.K N (dFor it g t)) :=
  s_imp (ps_for hp hc hi hg hb hs) fun D σ H ρ s O Dd R E q => ⟨ρ, s, O, _, R, q, fun xs s0 J H0 O0 q0 R0 le0 ok => by
    refine ⟨fun i m σ' H' => m = xs.length - i ∧ i ≤ xs.length ∧ ∃ ρ' s' O', Rel A X.K N s' σ' H' ρ' O' ∧ Hle (fzP H0 (Px N σ ρ O0)) (fzP H' (Px N σ' ρ' O')) ∧ forW (fun x D ρ s => g x ρ s fun ρ' s' => t D ρ' s') (xs.drop i) Dd ρ' s',
      ⟨xs.length, rfl, Nat.zero_le _, ρ, s0, O0, R0, Hle.refl _, q0⟩, ?_⟩
    rintro i m σ1 H1 ⟨rfl, hi, ρ1, s1, O1, R1, le1, q1⟩
    have ok1 := ok i H1 (Px N σ1 ρ1 O1) (fun _ z => R1.dom z) le1
    by_cases hlt : i < xs.length
    · refine .inr ⟨(ok1.1 hlt).1, fun σ' H' => i + 1 ≤ xs.length ∧ ∃ ρ' s' O', Rel A X.K N s' σ' H' ρ' O' ∧ Hle (fzP H0 (Px N σ ρ O0)) (fzP H' (Px N σ' ρ' O')) ∧ forW (fun x D ρ s => g x ρ s fun ρ' s' => t D ρ' s') (xs.drop (i + 1)) Dd ρ' s', fun σ' H' z => ⟨xs.length - (i + 1), by omega, rfl, z.1, z.2⟩, fun x H2 y => ?_⟩
      obtain ⟨sm, d, hd, rx⟩ := (ok1.1 hlt).2 x H2 y
      have R2 := R1.alloc sm
      have le2 := R1.fzle sm
      have hx : xs.drop i = d :: xs.drop (i + 1) := by
        rw [List.drop_eq_getElem_cons hlt]
        rw [List.getElem?_eq_getElem hlt] at hd
        cases hd
        rfl
      rw [hx] at q1
      refine ⟨ρ1, s1, O1, d, _, R2, rx, q1, fun ρ3 s3 σ3 H3 O3 q3 R3 le3 _ => ⟨ρ3, s3, O3, _, R3, ?_, q3⟩⟩
      have E' := E.up (le0.trans (le1.trans (le2.trans le3)))
      exact ⟨fun ρ' s' σ' H' O' R' le z => ⟨hlt, ρ', s', O', R', le1.trans (le2.trans (le3.trans le)), z⟩, E'.rt, E'.nx, fun ρ' s' σ' H' O' R' le z => ⟨hlt, ρ', s', O', R', le1.trans (le2.trans (le3.trans le)), z⟩⟩
    · have e : i = xs.length := by omega
      subst e
      rw [List.drop_length] at q1
      exact .inl ⟨ok1.2 (Nat.le_refl _), E.nx ρ1 s1 σ1 H1 O1 R1 (le0.trans le1) q1⟩⟩
end
end Dl
/-! What is walked, comprehensions, calls of defs. -/
namespace Dl
open PySem L2

/-! ### walks -/
section
variable {X : Cx} {N : Ent} {A : Amb} {tg e : Expr} {te : DE A} {pos : Pos}
section
variable {pins : List (Addr × Obj)} {σ : St} {H : Hp} {s : Shared} {R : It → Hp → Prop} {E : Value → Shared → Prop}
theorem newIt {J : It} {tn : Nat → Heap → Prop} {ob : Obj} {tk : Nat} (I : Inv X pins σ H s) (T : Turn X.prog X.w X.K tg J [s.heap.objs.size] s.heap.objs.size tn) (h0 : tn 0 (s.heap.push ob)) (q : R J H) :
    PIE X pins σ tg R (.ref s.heap.objs.size) { s with heap := s.heap.push ob, toks := tk } :=
  ⟨_, _, tn, J, H, rfl, I.kept fun b o e => Heap.get?_push_of_some _ e, T, h0, fun b hb => by
    rw [List.mem_singleton.mp hb]
    exact I.fpOk (Nat.le_refl _) (I.hok.fresh (Nat.le_refl _)), q⟩
theorem it_list {a : Addr} {xs : List V} (I : Inv X pins σ H s) (h : SqL X.K H a xs) (q : R (Itl X.K a) H) : wpAny (model X.prog X.w) X.A (pyIter (.ref a)) (PIE X pins σ tg R) E s := by
  obtain ⟨its, rv, p, hz⟩ := I.list h
  exact wpAny_pyIter_list p.isList (newIt (tk := s.toks) I (turn_list a _) ⟨_, Heap.get?_push_size _ rfl, rfl, rfl⟩ q)
theorem it_tup {a : Addr} {xs : List V} (I : Inv X pins σ H s) (h : SqT X.K H a xs) (q : R (Itt X.K a) H) : wpAny (model X.prog X.w) X.A (pyIter (.ref a)) (PIE X pins σ tg R) E s := by
  obtain ⟨its, rv, p, hz⟩ := I.tuple h
  exact wpAny_pyIter_tuple (show s.heap.IsTuple a its.toArray from p) (newIt (tk := s.toks) I (turn_tuple a _) ⟨_, Heap.get?_push_size _ rfl, rfl, rfl⟩ q)
end
/-- a walk by the value itself -/
theorem PI.by {wi : TI} {te : TE} (he : PE X e te) (h : ∀ σ H R, wi σ H R → te σ H fun v H1 => ∀ (pins : List (Addr × Obj)) (s : Shared) (u : Value), Inv X pins σ H1 s → RelV v u → wpAny (model X.prog X.w) X.A (pyIter u) (PIE X pins σ tg R) X.xe s) : PI X tg e wi :=
  ⟨fun pins s σ H R I q => thn (he.run pins s σ H _ I (h σ H R q)) fun u s1 ⟨v, H1, I1, r1, k⟩ => k pins s1 u I1 r1⟩
def signsD (z : Str) : List D := z.cps.toList.map fun c => .str ⟨#[c]⟩
theorem ok_list {K : PySem.W.Frag} {F : Hp} {a : Addr} {xs : List V} {ds : List D} (h : F a = some (.lst xs)) (r : RpL K F xs ds) : ItOk K F (Itl K a) ds := fun i H P dm le => by
  have hs : SqL K H a xs := SqL.of (fzP_le _ _ (le _ _ h))
  refine ⟨fun hi => ?_, fun hi => ⟨xs, hs, by rw [r.length]; exact hi⟩⟩
  have hx : i < xs.length := by rw [r.length]; exact hi
  refine ⟨⟨xs, xs[i], hs, List.getElem?_eq_getElem hx⟩, fun x H' ⟨e, y⟩ => ?_⟩
  subst e
  obtain ⟨d, e1, e2⟩ := r.get (y xs hs)
  exact ⟨Same.refl _, d, e1, e2.mono le⟩
theorem ok_tup {K : PySem.W.Frag} {F : Hp} {a : Addr} {xs : List V} {ds : List D} (h : SqT K F a xs) (r : RpL K F xs ds) : ItOk K F (Itt K a) ds := fun i H P dm le => by
  have hs : SqT K H a xs := (le.trans fzP_le).sqT h
  refine ⟨fun hi => ?_, fun hi => ⟨xs, hs, by rw [r.length]; exact hi⟩⟩
  have hx : i < xs.length := by rw [r.length]; exact hi
  refine ⟨⟨xs, xs[i], hs, List.getElem?_eq_getElem hx⟩, fun x H' ⟨e, y⟩ => ?_⟩
  subst e
  obtain ⟨d, e1, e2⟩ := r.get (y xs hs)
  exact ⟨Same.refl _, d, e1, e2.mono le⟩
theorem ok_str {K : PySem.W.Frag} {F : Hp} {z : Str} : ItOk K F (Its z) (signsD z) := fun i H P dm le => by
  have hl : (signsD z).length = z.cps.size := by unfold signsD; rw [List.length_map, Array.length_toList]
  refine ⟨fun hi => ⟨by rw [hl] at hi; exact hi, fun x H' ⟨e, c, hc, ex⟩ => ?_⟩, fun hi => by rw [hl] at hi; exact hi⟩
  subst e
  subst ex
  refine ⟨Same.refl _, .str ⟨#[c]⟩, ?_, .str _⟩
  unfold signsD
  rw [List.getElem?_map, Array.getElem?_toList, hc]
  rfl
def rngD (lo : Int) (n : Nat) : List D := (List.range n).map fun i => .int (lo + (i : Nat))
theorem ok_rng {K : PySem.W.Frag} {F : Hp} {lo : Int} {n : Nat} : ItOk K F (Itr lo n) (rngD lo n) := fun i H P dm le => by
  have hl : (rngD lo n).length = n := by unfold rngD; simp
  refine ⟨fun hi => ⟨by rw [hl] at hi; exact hi, fun x H' ⟨e, ex⟩ => ?_⟩, fun hi => by rw [hl] at hi; exact hi⟩
  subst e
  subst ex
  rw [hl] at hi
  refine ⟨Same.refl _, .int (lo + (i : Nat)), ?_, .int _⟩
  unfold rngD
  rw [List.getElem?_map, List.getElem?_range hi]
  rfl
/-- over a list, a tuple, a text -/
def itemsD : D → Option (List D)
  | .list ds => some ds
  | .tuple ds => some ds
  | .str z => some (signsD z)
  | _ => none
def dIt (te : DE A) : DI A := fun ρ s Q => te ρ s fun d s' => match d with
  | .list ds => Q ds s'
  | .tuple ds => Q ds s'
  | .str z => Q (signsD z) s'
  | _ => False
/-- the iterator of a text, taken from the kit's walk over a name -/
theorem i_any (he : PE X e (liftE A X.K N te)) (hstr : ∀ (pins : List (Addr × Obj)) (s : Shared) (σ : St) (H : Hp) (R : It → Hp → Prop) (z : Str) (u : Value), Inv X pins σ H s → RelV (.str z) u → R (Its z) H → wpAny (model X.prog X.w) X.A (pyIter u) (PIE X pins σ tg R) X.xe s) : PI X tg e (liftI A X.K N (dIt te)) :=
  PI.by he fun σ H R ⟨ρ, s, O, P, R0, q, k⟩ => ⟨ρ, s, O, _, R0, q, fun d s1 v H1 O1 q1 R1 le1 r pins sh u I ru => by
    split at q1
    · cases r with
      | lst hs rl =>
        cases ru
        exact it_list I (SqL.of (fzP_le _ _ hs)) (k _ s1 _ H1 O1 q1 R1 le1 (ok_list hs rl))
    · cases r with
      | tup hs rl =>
        cases ru
        exact it_tup I ((fzP_le : Hle _ H1).sqT hs.sqT) (k _ s1 _ H1 O1 q1 R1 le1 (ok_tup hs.sqT rl))
    · cases r
      exact hstr pins sh σ H1 R _ u I ru (k _ s1 _ H1 O1 q1 R1 le1 ok_str)
    · exact q1.elim⟩
def dRg1 (ta : DA A) : DI A := fun ρ s Q => ta ρ s fun xs s' => match xs with
  | [.int j] => (-(2 ^ 62) ≤ j ∧ j < 2 ^ 62) ∧ Q (rngD 0 j.toNat) s'
  | _ => False
def dRg2 (ta : DA A) : DI A := fun ρ s Q => ta ρ s fun xs s' => match xs with
  | [.int i, .int j] => (-(2 ^ 62) ≤ i ∧ i < 2 ^ 62 ∧ -(2 ^ 62) ≤ j ∧ j < 2 ^ 62) ∧ Q (rngD i (j - i).toNat) s'
  | _ => False
theorem RpL.one_of {K : PySem.W.Frag} {F : Hp} {vs : List V} {d : D} (r : RpL K F vs [d]) : ∃ v, vs = [v] ∧ Rp K F v d := by
  cases r with
  | cons r t => cases t; exact ⟨_, rfl, r⟩
theorem RpL.two_of {K : PySem.W.Frag} {F : Hp} {vs : List V} {d d' : D} (r : RpL K F vs [d, d']) : ∃ v v', vs = [v, v'] ∧ Rp K F v d ∧ Rp K F v' d' := by
  cases r with
  | cons r t => obtain ⟨v, rfl, r'⟩ := t.one_of; exact ⟨_, _, rfl, r, r'⟩
theorem Rp.int_of {K : PySem.W.Frag} {F : Hp} {v : V} {i : Int} (r : Rp K F v (.int i)) : v = .int i := by cases r; rfl
theorem i_rg1 {a : Expr} {ta : DA A} {p : Pos} (hm : X.mg "range" = none) (ha : PA X [a] (liftA A X.K N ta)) (hg : Gl X "range" := by rfl) (hs : starEach [a] X.env = [(false, eval a X.env)] := by rfl) : PI X tg (.Call (.Name "range" p) [a] [] pos) (liftI A X.K N (dRg1 ta)) :=
  PI.imp (pi_range1 hg hm ha hs) fun σ H R ⟨ρ, s, O, P, R0, q, k⟩ => ⟨ρ, s, O, _, R0, q, fun xs s1 vs H1 O1 q1 R1 le1 r => by
    split at q1
    · obtain ⟨v, rfl, r1⟩ := r.one_of
      cases r1.int_of
      exact ⟨_, rfl, q1.1.1, q1.1.2, k _ s1 _ H1 O1 q1.2 R1 le1 ok_rng⟩
    · exact q1.elim⟩
theorem i_rg2 {a b : Expr} {ta : DA A} {p : Pos} (hm : X.mg "range" = none) (ha : PA X [a, b] (liftA A X.K N ta)) (hg : Gl X "range" := by rfl) (hs : starEach [a, b] X.env = [(false, eval a X.env), (false, eval b X.env)] := by rfl) (hs2 : starEach [b] X.env = [(false, eval b X.env)] := by rfl) :
    PI X tg (.Call (.Name "range" p) [a, b] [] pos) (liftI A X.K N (dRg2 ta)) :=
  PI.imp (pi_range2 hg hm ha hs hs2) fun σ H R ⟨ρ, s, O, P, R0, q, k⟩ => ⟨ρ, s, O, _, R0, q, fun xs s1 vs H1 O1 q1 R1 le1 r => by
    split at q1
    · obtain ⟨v, v', rfl, r1, r2⟩ := r.two_of
      cases r1.int_of
      cases r2.int_of
      exact ⟨_, _, rfl, q1.1, k _ s1 _ H1 O1 q1.2 R1 le1 ok_rng⟩
    · exact q1.elim⟩
end

/-! ### list comprehensions -/
def compW {S : Type} (f : D → S → (Option D → S → Prop) → Prop) : List D → S → (List D → S → Prop) → Prop
  | [], s, Q => Q [] s
  | x :: xs, s, Q => f x s fun r s' => compW f xs s' fun out s'' => Q (match r with | some d => d :: out | none => out) s''
def wipeR (ρ : Rho) : List Nat → Rho
  | [] => ρ
  | v :: vs => (wipeR ρ vs).set v .un
def clean (ρ : Rho) : List Nat → Prop
  | [] => True
  | v :: vs => (match ρ[v]? with
    | some (.ol _) => False
    | some (.dk _) => False
    | some (.dt _) => False
    | _ => True) ∧ clean ρ vs
section
variable {A : Amb}
def nComp (it : DI A) (g : DG A) (tt : DT A) (te : DE A) (vs : List Nat) : DC A := fun ρ s Q => it ρ s fun xs s' => clean ρ vs ∧ xs.length ≤ sizeLine ∧
  compW (fun x s k => g x (wipeR ρ vs) s fun ρ1 s1 => tt ρ1 s1 fun b s2 => match b with
    | true => te ρ1 s2 fun d s3 => k (some d) s3
    | false => k none s2) xs s' fun out s'' => Q (.ol out) s''
end
theorem wipeR_length (ρ : Rho) : ∀ vs, (wipeR ρ vs).length = ρ.length
  | [] => rfl
  | v :: vs => by unfold wipeR; rw [List.length_set, wipeR_length ρ vs]
theorem wipeR_at {ρ : Rho} {i : Nat} : ∀ {vs : List Nat}, i < ρ.length → (wipeR ρ vs)[i]? = if i ∈ vs then some .un else ρ[i]?
  | [], h => by simp [wipeR]
  | v :: vs, h => by
    unfold wipeR
    rw [List.getElem?_set]
    have q := wipeR_at (vs := vs) h
    by_cases e : v = i
    · subst e
      simp [wipeR_length, h]
    · simp only [if_neg e, q, List.mem_cons]
      have e' : ¬ i = v := fun z => e z.symm
      simp [e']
theorem clean_at {ρ : Rho} : ∀ {vs : List Nat} {i : Nat} {c : Cell}, clean ρ vs → i ∈ vs → ρ[i]? = some c → ¬ c.own
  | v :: vs, i, c, ⟨h, t⟩, m, e, o => by
    rcases List.mem_cons.mp m with rfl | m
    · rw [e] at h
      cases c with
      | un => exact o
      | fz d => exact o
      | ol d => exact h
      | dk d => exact h
      | dt d => exact h
    · exact clean_at t m e o
open Classical in
noncomputable def hide (H : Hp) (D : Addr) : Hp := fun b => if b = D then none else H b
theorem hide_self {H : Hp} {D : Addr} : hide H D D = none := by simp [hide]
theorem hide_ne {H : Hp} {D b : Addr} (h : b ≠ D) : hide H D b = H b := by simp [hide, h]
theorem hide_upd {H : Hp} {D : Addr} {o : HO} : hide (upd H D o) D = hide H D := by
  funext b
  by_cases e : b = D
  · subst e; rw [hide_self, hide_self]
  · rw [hide_ne e, hide_ne e, upd_ne e]
theorem upd_hide {H : Hp} {D : Addr} {o : HO} (h : H D = some o) : upd (hide H D) D o = H := by
  funext b
  by_cases e : b = D
  · subst e; rw [upd_same, h]
  · rw [upd_ne e, hide_ne e]
theorem hide_of {H : Hp} {D : Addr} (h : H D = none) : hide H D = H := by
  funext b
  by_cases e : b = D
  · subst e; rw [hide_self, h]
  · rw [hide_ne e]
theorem fz_hide {H : Hp} {D : Addr} {P P' : Addr → Prop} (h : ∀ b, b ≠ D → (P' b ↔ P b)) (hD : P' D) : fzP H P' = fzP (hide H D) P := by
  funext b
  unfold fzP
  by_cases e : b = D
  · subst e
    simp [hD, hide_self]
  · have q : P' b = P b := propext (h b e)
    rw [hide_ne e]
    by_cases z : P b
    · rw [if_pos z, if_pos (q ▸ z)]
    · rw [if_neg z, if_neg (q ▸ z)]
/-- D is held aside for a while -/
def Ent.put (N : Ent) (D : Addr) (o : HO) : Ent := ⟨fun b => if b = D then some o else N.H0 b, fun b => N.O0 b ∧ b ≠ D, fun b => N.X0 b ∨ b = D⟩
section
variable {A : Amb} {K : PySem.W.Frag} {N : Ent} {s s' : A.S} {σ σ' : St} {H H' : Hp} {ρ ρ' : Rho} {O O' : Addr → Prop} {D : Addr} {o : HO} {vs : List Nat}
theorem own_wipe (R : Rel A K N s σ H ρ O) (cl : clean ρ vs) (b : Addr) : OwnS (wipe σ vs) (wipeR ρ vs) b ↔ OwnS σ ρ b := by
  constructor
  · rintro ⟨i, c, e1, o1, e2⟩
    have hi : i < ρ.length := by
      have z := (List.getElem?_eq_some_iff.mp e1).1
      rw [wipeR_length] at z
      exact z
    rw [wipeR_at hi] at e1
    rw [wipe_at (by rw [R.len]; exact hi)] at e2
    by_cases m : i ∈ vs
    · rw [if_pos m] at e1
      cases e1
      exact o1.elim
    · rw [if_neg m] at e1 e2
      exact ⟨i, c, e1, o1, e2⟩
  · rintro ⟨i, c, e1, o1, e2⟩
    have hi : i < ρ.length := (List.getElem?_eq_some_iff.mp e1).1
    have m : ¬ i ∈ vs := fun m => clean_at cl m e1 o1
    exact ⟨i, c, by rw [wipeR_at hi, if_neg m]; exact e1, o1, by rw [wipe_at (by rw [R.len]; exact hi), if_neg m]; exact e2⟩
theorem Rel.block (R : Rel A K N s σ (hide H D) ρ O) (hD : H D = some o) (cl : clean ρ vs) : Rel A K (N.put D o) s (wipe σ vs) H (wipeR ρ vs) O ∧ fzP H (Px (N.put D o) (wipe σ vs) (wipeR ρ vs) O) = fzP (hide H D) (Px N σ ρ O) := by
  have nO : ¬ O D := fun z => by
    obtain ⟨x, e⟩ := A.dom R.amb z
    rw [hide_self] at e
    cases e
  have nOw : ¬ OwnS σ ρ D := fun z => by
    obtain ⟨x, e⟩ := R.ownD z
    rw [hide_self] at e
    cases e
  have hF : fzP H (Px (N.put D o) (wipe σ vs) (wipeR ρ vs) O) = fzP (hide H D) (Px N σ ρ O) := fz_hide (fun b nb => by
    unfold Px
    rw [own_wipe R cl]
    show (O b ∨ OwnS σ ρ b ∨ (N.X0 b ∨ b = D)) ↔ _
    simp [nb]) (.inr (.inr (.inr rfl)))
  refine ⟨⟨?_, fun b x e n => ?_, fun b z => ?_, by rw [wipe_length, wipeR_length]; exact R.len, fun i v c e1 e2 => ?_, fun b z => ?_, fun i j c c' b e1 o1 e2 o2 e3 e4 => ?_⟩, hF⟩
  · rw [hF]
    exact A.stay R.amb (Hle.refl _) fun b z => (hide_ne (H := H) (D := D) (b := b) fun e => nO (by rw [← e]; exact z)).symm
  · by_cases nb : b = D
    · subst nb
      have e' : (some o : Option HO) = some x := by simpa [Ent.put] using e
      cases e'
      exact ⟨hD, nO⟩
    · have e' : N.H0 b = some x := by simpa [Ent.put, nb] using e
      have n' : ¬ N.O0 b := fun z => n ⟨z, nb⟩
      have q := R.keep b x e' n'
      rw [hide_ne nb] at q
      exact q
  · rcases z with z | rfl
    · obtain ⟨⟨x, e⟩, n⟩ := R.xd b z
      have nb : b ≠ D := fun q => by
        have w := (R.keep b x e n).1
        rw [q, hide_self] at w
        cases w
      exact ⟨⟨x, by simp [Ent.put, nb, e]⟩, fun w => n w.1⟩
    · exact ⟨⟨o, by simp [Ent.put]⟩, fun w => w.2 rfl⟩
  · rw [hF]
    have hi : i < ρ.length := by
      have z := (List.getElem?_eq_some_iff.mp e2).1
      rw [wipeR_length] at z
      exact z
    rw [wipeR_at hi] at e2
    rw [wipe_at (by rw [R.len]; exact hi)] at e1
    by_cases m : i ∈ vs
    · rw [if_pos m] at e2
      cases e2
      trivial
    · rw [if_neg m] at e1 e2
      refine (R.cell i v c e1 e2).mono (Hle.refl _) fun p oc z => (hide_ne fun w => ?_).symm
      subst z
      subst w
      exact nOw ⟨i, c, e2, oc, e1⟩
  · rw [own_wipe R cl] at z
    refine ⟨fun x e => ?_, (R.new b z).2⟩
    have nb : b ≠ D := fun q => nOw (q ▸ z)
    have e' : N.H0 b = some x := by simpa [Ent.put, nb] using e
    exact ⟨(R.new b z).1 x e', nb⟩
  · have back : ∀ (i : Nat) (c : Cell), (wipeR ρ vs)[i]? = some c → c.own → (wipe σ vs)[i]? = some (some (.ref b)) → ρ[i]? = some c ∧ σ[i]? = some (some (.ref b)) := fun i c e1 o1 e2 => by
      have hi : i < ρ.length := by
        have z := (List.getElem?_eq_some_iff.mp e1).1
        rw [wipeR_length] at z
        exact z
      rw [wipeR_at hi] at e1
      rw [wipe_at (by rw [R.len]; exact hi)] at e2
      by_cases m : i ∈ vs
      · rw [if_pos m] at e1
        cases e1
        exact o1.elim
      · rw [if_neg m] at e1 e2
        exact ⟨e1, e2⟩
    obtain ⟨a1, a2⟩ := back i c e1 o1 e3
    obtain ⟨b1, b2⟩ := back j c' e2 o2 e4
    exact R.inj i j c c' b a1 o1 b1 o2 a2 b2
/-- back behind a turn of the block -/
theorem Rel.unblock (R : Rel A K N s σ (hide H D) ρ O) (cl : clean ρ vs) (R' : Rel A K (N.put D o) s' σ' H' ρ' O') (T : Tch vs (wipe σ vs) (wipeR ρ vs) σ' ρ') (le : Hle (fzP (hide H D) (Px N σ ρ O)) (fzP H' (Px (N.put D o) σ' ρ' O'))) :
    Rel A K N s' σ (hide H' D) ρ O' ∧ fzP H' (Px (N.put D o) σ' ρ' O') = fzP (hide H' D) (Px N σ ρ O') ∧ H' D = some o ∧ ¬ Px N σ ρ O' D := by
  have kD := R'.keep D o (by simp [Ent.put]) fun z => z.2 rfl
  have same : ∀ (i : Nat), i ∉ vs → σ'[i]? = σ[i]? ∧ ρ'[i]? = ρ[i]? := fun i m => by
    by_cases hi : i < ρ.length
    · refine ⟨(T.st.2 i m).trans ?_, (T.rh.2 i m).trans ?_⟩
      · rw [wipe_at (by rw [R.len]; exact hi), if_neg m]
      · rw [wipeR_at hi, if_neg m]
    · have h1 : σ.length ≤ i := by rw [R.len]; omega
      refine ⟨?_, ?_⟩
      · rw [List.getElem?_eq_none h1, List.getElem?_eq_none (by rw [T.st.1, wipe_length]; exact h1)]
      · have n1 : ρ[i]? = none := List.getElem?_eq_none (by omega)
        have n2 : ρ'[i]? = none := List.getElem?_eq_none (by rw [T.rh.1, wipeR_length]; omega)
        rw [n1, n2]
  have own : ∀ b, OwnS σ' ρ' b ↔ OwnS σ ρ b := fun b => ⟨fun z => (own_wipe R cl b).mp (T.own b z), fun ⟨i, c, e1, o1, e2⟩ => by
    have m : ¬ i ∈ vs := fun m => clean_at cl m e1 o1
    exact ⟨i, c, by rw [(same i m).2]; exact e1, o1, by rw [(same i m).1]; exact e2⟩⟩
  have nOw : ¬ OwnS σ ρ D := fun z => by
    obtain ⟨x, e⟩ := R.ownD z
    rw [hide_self] at e
    cases e
  have nX : ¬ N.X0 D := fun z => by
    obtain ⟨⟨x, e⟩, n⟩ := R.xd D z
    have w := (R.keep D x e n).1
    rw [hide_self] at w
    cases w
  have hF : fzP H' (Px (N.put D o) σ' ρ' O') = fzP (hide H' D) (Px N σ ρ O') := fz_hide (fun b nb => by
    unfold Px
    rw [own]
    show (O' b ∨ OwnS σ ρ b ∨ (N.X0 b ∨ b = D)) ↔ _
    simp [nb]) (.inr (.inr (.inr rfl)))
  refine ⟨⟨?_, fun b x e n => ?_, R.xd, R.len, fun i v c e1 e2 => ?_, fun b z => ?_, R.inj⟩, hF, kD.1, ?_⟩
  · rw [← hF]
    exact A.stay R'.amb (Hle.refl _) fun b z => hide_ne (H := H') (D := D) (b := b) fun e => kD.2 (by rw [← e]; exact z)
  · have q := R.keep b x e n
    have nb : b ≠ D := fun z => by
      rw [z, hide_self] at q
      cases q.1
    have q' := R'.keep b x (by simp [Ent.put, nb, e]) fun z => n z.1
    rw [hide_ne nb]
    exact q'
  · by_cases m : i ∈ vs
    · have nc := clean_at cl m e2
      have q := R.cell i v c e1 e2
      refine q.mono ?_ fun p oc _ => (nc oc).elim
      rw [← hF]
      exact le
    · have q := R'.cell i v c ((same i m).1.trans e1) ((same i m).2.trans e2)
      rw [hF] at q
      refine q.mono (Hle.refl _) fun p oc z => hide_ne fun w => ?_
      subst z
      subst w
      exact nOw ⟨i, c, e2, oc, e1⟩
  · exact ⟨(R.new b z).1, (R'.new b ((own b).mpr z)).2⟩
  · rintro (z | z | z)
    · exact kD.2 z
    · exact nOw z
    · exact nX z
end

section
variable {A : Amb} {X : Cx} {N : Ent} {elt tg iter : Expr} {ifs : List Expr} {scope : Scope} {own : List (Str × Nat)} {pos : Pos} {it : DI A} {g : DG A} {tt : DT A} {te : DE A}
theorem PE.ex {e : Expr} {t : Ent → TE} (h : ∀ N, PE X e (t N)) : PE X e (fun σ H Q => ∃ N, t N σ H Q) := ⟨fun pins s σ H Q I ⟨N, q⟩ => (h N).run pins s σ H Q I q⟩
theorem PTs.ex {e : List Expr} {t : Ent → TT} (h : ∀ N, PTs X e (t N)) : PTs X e (fun σ H Q => ∃ N, t N σ H Q) := ⟨fun pins s σ H Q I ⟨N, q⟩ => (h N).run pins s σ H Q I q⟩
theorem PG.ex {e : Expr} {t : Ent → TG} (h : ∀ N, PG X e (t N)) : PG X e (fun v σ H Q => ∃ N, t N v σ H Q) := ⟨fun pins s σ H v u Q I r ⟨N, q⟩ => (h N).run pins s σ H v u Q I r q⟩
theorem PTs.imp {ifs : List Expr} {t t' : TT} (h : PTs X ifs t) (i : ∀ σ H Q, t' σ H Q → t σ H Q) : PTs X ifs t' := ⟨fun pins s σ H Q I q => h.run pins s σ H Q I (i _ _ _ q)⟩
def dYes : DT A := fun _ s Q => Q true s
theorem ts_nil : PTs X [] (liftT A X.K N dYes) := PTs.imp pts_nil fun σ H Q ⟨ρ, s, O, P, R0, q, k⟩ => k _ s H O q R0 (Hle.refl _)
theorem ts_one {c : Expr} {tc : DT A} (h : PT X c (liftT A X.K N tc)) : PTs X [c] (liftT A X.K N tc) := pts_one h

def tCompW (K : PySem.W.Frag) (wi : TI) (g : DG A) (tt : DT A) (te : DE A) (own : List (Str × Nat)) : TE := tLc wi (fun v σ H Q => ∃ N, liftG A K N (own.map (·.2)) g v σ H Q) (fun σ H Q => ∃ N, liftT A K N tt σ H Q) (fun σ H Q => ∃ N, liftE A K N te σ H Q) (own.map (·.2))
theorem lift_comp : ∀ σ H Q, liftW A X.K N (nComp it g tt te (own.map (·.2))) σ H Q → tCompW X.K (liftI A X.K N it) g tt te own σ H Q := by
  rintro σ H Q ⟨ρ, s, O, P, R, q, k⟩
  refine ⟨ρ, s, O, _, R, q, fun xs s0 J H0 O0 ⟨cl, hz, q0⟩ R0 le0 ok D hD => ?_⟩
  refine ⟨fun i m H' => m = xs.length - i ∧ i ≤ xs.length ∧ ∃ s' O' acc vacc, Rel A X.K N s' σ (hide H' D) ρ O' ∧ Hle (fzP H0 (Px N σ ρ O0)) (fzP (hide H' D) (Px N σ ρ O')) ∧ ¬ Px N σ ρ O' D ∧ H' D = some (.lst vacc) ∧ RpL X.K (fzP (hide H' D) (Px N σ ρ O')) vacc acc ∧ acc.length ≤ i ∧
    compW (fun x s k => g x (wipeR ρ (own.map (·.2))) s fun ρ1 s1 => tt ρ1 s1 fun b s2 => match b with
      | true => te ρ1 s2 fun d s3 => k (some d) s3
      | false => k none s2) (xs.drop i) s' fun out s'' => P (.ol (acc ++ out)) s'', ⟨xs.length, rfl, Nat.zero_le _, s0, O0, [], [], ?_⟩, ?_⟩
  · have e : hide (upd H0 D (.lst [])) D = H0 := by rw [hide_upd, hide_of hD]
    rw [e]
    exact ⟨R0, Hle.refl _, R0.fresh hD, upd_same, .nil, Nat.le_refl _, q0⟩
  · rintro i m H1 ⟨rfl, hi, s1, O1, acc, vacc, R1, le1, nD, eD, ra, hl, q1⟩
    have hP : fzP H1 (fun b => Px N σ ρ O1 b ∨ b = D) = fzP (hide H1 D) (Px N σ ρ O1) := fz_hide (fun b nb => by simp [nb]) (.inr rfl)
    have ok1 := ok i H1 (fun b => Px N σ ρ O1 b ∨ b = D) (fun b z => by
      rcases z with z | rfl
      · obtain ⟨x, e⟩ := R1.dom z
        have nb : b ≠ D := fun w => nD (w ▸ z)
        rw [hide_ne nb] at e
        exact ⟨x, e⟩
      · exact ⟨_, eD⟩) (by rw [hP]; exact le1)
    by_cases hlt : i < xs.length
    · refine .inr ⟨(ok1.1 hlt).1, fun H' => i + 1 ≤ xs.length ∧ ∃ s' O' acc vacc, Rel A X.K N s' σ (hide H' D) ρ O' ∧ Hle (fzP H0 (Px N σ ρ O0)) (fzP (hide H' D) (Px N σ ρ O')) ∧ ¬ Px N σ ρ O' D ∧ H' D = some (.lst vacc) ∧ RpL X.K (fzP (hide H' D) (Px N σ ρ O')) vacc acc ∧ acc.length ≤ i + 1 ∧
        compW (fun x s k => g x (wipeR ρ (own.map (·.2))) s fun ρ1 s1 => tt ρ1 s1 fun b s2 => match b with
          | true => te ρ1 s2 fun d s3 => k (some d) s3
          | false => k none s2) (xs.drop (i + 1)) s' fun out s'' => P (.ol (acc ++ out)) s'', fun H' z => ⟨xs.length - (i + 1), by omega, rfl, z.1, z.2⟩, fun x H2 y => ?_⟩
      obtain ⟨sm, d, hd, rx⟩ := (ok1.1 hlt).2 x H2 y
      -- the heap behind the iterator's step
      have eD2 : H2 D = some (.lst vacc) := sm _ _ eD
      have sm' : Same (hide H1 D) (hide H2 D) := fun b o e => by
        by_cases nb : b = D
        · subst nb; rw [hide_self] at e; cases e
        · rw [hide_ne nb] at e ⊢
          exact sm b o e
      have R2 := R1.alloc sm'
      have le2 := R1.fzle sm'
      have hP2 : fzP H2 (fun b => Px N σ ρ O1 b ∨ b = D) = fzP (hide H2 D) (Px N σ ρ O1) := fz_hide (fun b nb => by simp [nb]) (.inr rfl)
      rw [hP2] at rx
      have hx : xs.drop i = d :: xs.drop (i + 1) := by
        rw [List.drop_eq_getElem_cons hlt]
        rw [List.getElem?_eq_getElem hlt] at hd
        cases hd
        rfl
      rw [hx] at q1
      unfold compW at q1
      obtain ⟨B, hF⟩ := R2.block (vs := own.map (·.2)) eD2 cl
      refine ⟨N.put D (.lst vacc), wipeR ρ (own.map (·.2)), s1, O1, d, _, B, by rw [hF]; exact rx, q1, fun ρ3 s3 σ3 H3 O3 q3 R3 le3 T3 => ⟨T3.st.wipe.trans ?_, N.put D (.lst vacc), ρ3, s3, O3, _, R3, q3, fun b s4 H4 O4 q4 R4 le4 => ?_⟩⟩
      · apply List.ext_getElem?
        intro j
        by_cases hj : j < σ.length
        · rw [wipe_at (by rw [wipe_length]; exact hj), wipe_at hj]
          by_cases mj : j ∈ own.map (·.2)
          · simp [mj]
          · simp [mj]
        · rw [List.getElem?_eq_none (by rw [wipe_length, wipe_length]; omega), List.getElem?_eq_none (by rw [wipe_length]; omega)]
      · have leB := le3.trans le4
        rw [hF] at leB
        cases b with
        | false =>
          refine iteF ?_
          obtain ⟨U, hU, eU, nU⟩ := R2.unblock cl R4 T3 leB
          have leU := leB
          rw [hU] at leU
          exact ⟨hlt, s4, O4, acc, vacc, U, le1.trans (le2.trans leU), nU, eU, ra.mono (le2.trans leU), by omega, q4⟩
        | true =>
          refine iteT ⟨N.put D (.lst vacc), ρ3, s4, O4, _, R4, q4, fun d5 s5 v5 H5 O5 q5 R5 le5 r5 => ?_⟩
          have leC := leB.trans le5
          obtain ⟨U, hU, eU, nU⟩ := R2.unblock cl R5 T3 leC
          have leU := leC
          rw [hU] at leU r5
          refine ⟨vacc, eU, by rw [ra.length]; omega, hlt, s5, O5, acc ++ [d5], vacc ++ [v5], ?_⟩
          rw [hide_upd]
          refine ⟨U, le1.trans (le2.trans leU), nU, upd_same, (ra.mono (le2.trans leU)).append (.one r5), by rw [List.length_append, List.length_singleton]; omega, ?_⟩
          have e : (fun out s'' => P (.ol (acc ++ (d5 :: out))) s'') = fun out s'' => P (.ol (acc ++ [d5] ++ out)) s'' := by
            funext out s''
            rw [List.append_assoc]
            rfl
          rw [← e]
          exact q5
    · have e : i = xs.length := by omega
      subst e
      rw [List.drop_length] at q1
      refine .inl ⟨ok1.2 (Nat.le_refl _), ?_⟩
      have q2 : P (.ol (acc ++ [])) s1 := q1
      rw [List.append_nil] at q2
      have fin := k (.ol acc) s1 D (.lst vacc) (hide H1 D) O1 q2 R1 (le0.trans le1) hide_self (.ol ra)
      rw [upd_hide eD] at fin
      exact fin
/-- [elt for tg in iter if ..] -/
theorem n_comp (hN : X.N.Nodup) (ok : blkC X.N X.env.scope scope own = true) (hi : PI X tg iter (liftI A X.K N it))
    (hg : ∀ (N : Ent) (s : Shared) (H : Hp) (C : Addr) (cl : List (Str × Addr)) (fp : List Addr), PG (X.blk s H scope (compEnvC scope cl C X.env) fp) tg (liftG A X.K N (own.map (·.2)) g))
    (ht : ∀ (N : Ent) (s : Shared) (H : Hp) (C : Addr) (cl : List (Str × Addr)) (fp : List Addr), PTs (X.blk s H scope (compEnvC scope cl C X.env) fp) ifs (liftT A X.K N tt))
    (he : ∀ (N : Ent) (s : Shared) (H : Hp) (C : Addr) (cl : List (Str × Addr)) (fp : List Addr), PE (X.blk s H scope (compEnvC scope cl C X.env) fp) elt (liftE A X.K N te)) (hc : X.calm = true) (hs : ∀ x, foldedSetIterable iter X.env x = pure x := by intro _; rfl) :
    PE X (.ListComp elt [⟨tg, iter, ifs, 0⟩] scope pos) (liftW A X.K N (nComp it g tt te (own.map (·.2)))) :=
  PE.imp (pe_lc hc hN hi (blkOk_by ok) (fun s H C cl fp => PG.ex fun N => hg N s H C cl fp) (fun s H C cl fp => PTs.ex fun N => ht N s H C cl fp) (fun s H C cl fp => PE.ex fun N => he N s H C cl fp) hs) lift_comp
/-- name = [..] -/
theorem PS.impE {st : Stmt} {t t' : TE} {g : TG} (h : PS X st (tAsg t g)) (i : ∀ σ H Q, t' σ H Q → t σ H Q) : PS X st (tAsg t' g) := PS.imp h fun D σ H q => i σ H _ q
end
end Dl
/-! Defs over data. -/
namespace Dl
open PySem L2

/-- what a def does, over data: from the arguments and what lives beside, to each end -/
abbrev FS (A : Amb) := List D → A.S → (D → A.S → Prop) → Prop
theorem fzP_congr {H : Hp} {P P' : Addr → Prop} (h : ∀ b, P b ↔ P' b) : fzP H P = fzP H P' := by
  have e : P = P' := funext fun b => propext (h b)
  rw [e]
/-- .. as a promise -/
def liftF (A : Amb) (K : PySem.W.Frag) (n : Nat) (S : FS A) : Sp := fun vs H Q _ => vs.length = n ∧ ∃ (ds : List D) (s : A.S) (O Y : Addr → Prop) (P : D → A.S → Prop), A.at_ s O (fzP H fun b => O b ∨ Y b) H ∧ (∀ b, Y b → (∃ o, H b = some o) ∧ ¬ O b) ∧
  RpL K (fzP H fun b => O b ∨ Y b) vs ds ∧ S ds s P ∧
  ∀ (d : D) (s' : A.S) (v : V) (H' : Hp) (O' : Addr → Prop), P d s' → A.at_ s' O' (fzP H' fun b => O' b ∨ Y b) H' → (∀ b o, H b = some o → ¬ O b → H' b = some o ∧ ¬ O' b) → Rp K (fzP H' fun b => O' b ∨ Y b) v d → Q v H'
/-- a def of the module that does S; ps: its parameters; k: the calls it may make, one in another -/
structure DFn (P : Program) (w : World) (K : PySem.W.Frag) (mg : Str → Option Value) (base : Heap) (A : Amb) (k : Nat) (x : Str) (ps : List Str) (S : FS A) : Prop where
  len : ∀ xs s P, S xs s P → xs.length = ps.length
  fn : ∃ f fd, mg x = some (.ref f) ∧ PySem.W.keepIn K (.ref f) = true ∧ Binds K fd ps [] ∧ FnOk P w K mg base CX0 k f fd ps (liftF A K ps.length S)
def dCall {A : Amb} (S : FS A) (a : DA A) : DE A := fun ρ s Q => a ρ s fun xs s1 => S xs s1 Q

section
variable {A : Amb} {K : PySem.W.Frag} {N : Ent} {s s' : A.S} {σ : St} {H H' : Hp} {ρ : Rho} {O O' : Addr → Prop}
/-- behind a call -/
theorem Rel.call (R : Rel A K N s σ H ρ O) (h : A.at_ s' O' (fzP H' (Px N σ ρ O')) H') (kp : ∀ b o, H b = some o → ¬ O b → H' b = some o ∧ ¬ O' b) : Rel A K N s' σ H' ρ O' ∧ Hle (fzP H (Px N σ ρ O)) (fzP H' (Px N σ ρ O')) := by
  have le : Hle (fzP H (Px N σ ρ O)) (fzP H' (Px N σ ρ O')) := fun b o e => by
    obtain ⟨n, e⟩ := fzP_some.mp e
    obtain ⟨e', n'⟩ := kp b o e fun z => n (.inl z)
    refine fzP_of (fun z => ?_) e'
    rcases z with z | z | z
    · exact n' z
    · exact n (.inr (.inl z))
    · exact n (.inr (.inr z))
  have ownK : ∀ b, OwnS σ ρ b → H' b = H b ∧ ¬ O' b := fun b z => by
    obtain ⟨o, e⟩ := R.ownD z
    obtain ⟨e', n'⟩ := kp b o e (R.new b z).2
    exact ⟨e'.trans e.symm, n'⟩
  refine ⟨⟨h, fun b o e n => ?_, R.xd, R.len, fun i v c e1 e2 => ?_, fun b z => ⟨(R.new b z).1, (ownK b z).2⟩, R.inj⟩, le⟩
  · obtain ⟨e1, n1⟩ := R.keep b o e n
    exact kp b o e1 n1
  · refine (R.cell i v c e1 e2).mono le fun p oc z => ?_
    subst z
    exact (ownK p ⟨i, c, e2, oc, e1⟩).1
end
section
variable {A : Amb} {X : Cx} {N : Ent} {e : Expr} {es : List Expr} {pos : Pos} {tL : DA A}
theorem e_call {k j : Nat} {x : Str} {p : Pos} {ps : List Str} {S : FS A} (G : DFn X.prog X.w X.K X.mg X.base A k x ps S) (hr : Room j X.A) (hj : k ≤ j) (ha : PA X (e :: es) (liftA A X.K N tL))
    (hg : Gl X x := by rfl) (hdb : (x == ("__debug__" : Str)) = false := by decide) (h1 : starEach (e :: es) X.env = (false, eval e X.env) :: starEach es X.env := by rfl) (h2 : (backTo pos (starEach es X.env)).any (·.1) = false := by rfl) :
    PE X (.Call (.Name x p) (e :: es) [] pos) (liftE A X.K N (dCall S tL)) := by
  obtain ⟨f, fd, hm, hk, hb, F⟩ := G.fn
  refine PE.imp (pe_call F (hr.mono hj) hg hm hk hb .nil pass0 ha hdb h1 h2) fun σ H Q ⟨ρ, s, O, P, R0, q, kk⟩ => ⟨ρ, s, O, _, R0, q, fun xs s1 vs H1 O1 q1 R1 le1 r => ?_⟩
  refine ⟨by rw [List.append_nil, r.length]; exact G.len _ _ _ q1, xs, s1, O1, fun b => OwnS σ ρ b ∨ N.X0 b, P, R1.amb, fun b z => ?_, by rw [List.append_nil]; exact r, q1, fun d s2 v H2 O2 p at2 kp rd => ?_⟩
  · refine ⟨R1.dom (.inr z), ?_⟩
    rcases z with z | z
    · exact (R1.new b z).2
    · obtain ⟨⟨o, e⟩, n⟩ := R1.xd b z
      exact (R1.keep b o e n).2
  · have C := R1.call at2 kp
    exact kk d s2 v H2 O2 p C.1 (le1.trans C.2) rd
end

/-! ### a def's body -/
def startR (n : Nat) (ds : List D) : Rho := ds.map Cell.fz ++ List.replicate (n - ds.length) .un
theorem startR_get {n : Nat} {ds : List D} {i : Nat} {c : Cell} (h : (startR n ds)[i]? = some c) : ¬ c.own ∧ ∀ {vs : List V} {K : PySem.W.Frag} {F H : Hp} {N : List Str} {v : Option V}, RpL K F vs ds → (L2.start N vs)[i]? = some v → CellOk K F H v c := by
  unfold startR at h
  by_cases hi : i < ds.length
  · rw [List.getElem?_append_left (by rw [List.length_map]; exact hi), List.getElem?_map, List.getElem?_eq_getElem hi] at h
    cases h
    refine ⟨fun z => z, fun {vs K F H N v} r e => ?_⟩
    unfold L2.start at e
    have hv : i < vs.length := by rw [r.length]; exact hi
    rw [List.getElem?_append_left (by rw [List.length_map]; exact hv), List.getElem?_map, List.getElem?_eq_getElem hv] at e
    cases e
    obtain ⟨d, e1, e2⟩ := r.get (List.getElem?_eq_getElem hv)
    rw [List.getElem?_eq_getElem hi] at e1
    cases e1
    exact ⟨_, rfl, e2⟩
  · rw [List.getElem?_append_right (by rw [List.length_map]; omega), List.getElem?_replicate] at h
    split at h
    · cases h
      exact ⟨fun z => z, fun _ _ => trivial⟩
    · cases h
section
variable {P : Program} {w : World} {K : PySem.W.Frag} {mg : Str → Option Value} {base : Heap} {A : Amb}
theorem Rel.start {N ps : List Str} {vs : List V} {ds : List D} {H : Hp} {s : A.S} {O Y : Addr → Prop} (hn : vs.length ≤ N.length) (a : A.at_ s O (fzP H fun b => O b ∨ Y b) H) (y : ∀ b, Y b → (∃ o, H b = some o) ∧ ¬ O b) (r : RpL K (fzP H fun b => O b ∨ Y b) vs ds) :
    Rel A K ⟨H, O, Y⟩ s (L2.start N vs) H (startR N.length ds) O ∧ fzP H (Px ⟨H, O, Y⟩ (L2.start N vs) (startR N.length ds) O) = fzP H fun b => O b ∨ Y b := by
  have no : ∀ b, ¬ OwnS (L2.start N vs) (startR N.length ds) b := fun b ⟨i, c, e1, o, _⟩ => (startR_get e1).1 o
  have hF : fzP H (Px ⟨H, O, Y⟩ (L2.start N vs) (startR N.length ds) O) = fzP H fun b => O b ∨ Y b := fzP_congr fun b => by
    unfold Px
    constructor
    · rintro (z | z | z)
      · exact .inl z
      · exact (no b z).elim
      · exact .inr z
    · rintro (z | z)
      · exact .inl z
      · exact .inr (.inr z)
  refine ⟨⟨by rw [hF]; exact a, fun b o e n => ⟨e, n⟩, y, ?_, fun i v c e1 e2 => ?_, fun b z => (no b z).elim, fun i j c c' b e1 o1 _ _ _ _ => ((startR_get e1).1 o1).elim⟩, hF⟩
  · have := r.length
    unfold L2.start startR
    rw [List.length_append, List.length_append, List.length_map, List.length_map, List.length_replicate, List.length_replicate]
    omega
  · rw [hF]
    exact (startR_get e2).2 r e1
/-- THE RULE for a def: its body as a term of rules; what the body's reading gives -/
theorem DFn.mk' {x qual : Str} {st : Stmt} {f : Addr} {fd : FuncData} {N ps : List Str} {k : Nat} {S : FS A} {tb : DS A} (F : Fun K x qual st f fd) (hm : mg x = some (.ref f)) (b : Binds K fd ps []) (sc : FnScope N ps (defScope st)) (len : ∀ xs s P, S xs s P → xs.length = ps.length)
    (hb : ∀ (cdv : Value) (Ar : Around) (outer : List PySem.Env) (s : Shared) (H : Hp) (E : XK), Room k (Ar.deeper (PyProof.Rows.envOfC qual (defScope st) s.heap.objs.size f cdv)) → ∀ (Nt : Ent), PSs (cxOf CX0 P w K mg base N qual (defScope st) f cdv Ar outer s H E).nox (defBody st) (liftS A K Nt tb))
    (ht : ∀ ds s Q, S ds s Q → tb ⟨fun _ s' => Q .none s', Q, fun _ _ => False, fun _ _ => False⟩ (startR N.length ds) s) : DFn P w K mg base A (k + 1) x ps S := by
  refine ⟨len, f, fd, hm, F.kp, b, F.ok sc (fun vs H Q E h => h.1) fun cdv Ar outer s H vs Q E hr h => ?_⟩
  obtain ⟨hl, ds, s0, O, Y, Pk, a, y, r, q, kk⟩ := h
  have hn : vs.length ≤ N.length := by
    have z := congrArg List.length sc.pre
    rw [List.length_take] at z
    omega
  obtain ⟨R, hF⟩ := Rel.start (N := N) (ps := ps) hn a y r
  refine ⟨_, hb cdv Ar outer s H E hr ⟨H, O, Y⟩, _, s0, O, ⟨fun _ s' => Pk .none s', Pk, fun _ _ => False, fun _ _ => False⟩, R, ⟨fun ρ s' σ' H' O' R' le p => ?_, fun ρ s' σ' H' O' d v R' le rd p => ?_, fun _ _ _ _ _ _ _ z => z.elim, fun _ _ _ _ _ _ _ z => z.elim⟩, ht ds s0 _ q⟩
  all_goals
    have le2 : Hle (fzP H' (Px ⟨H, O, Y⟩ σ' ρ O')) (fzP H' fun b => O' b ∨ Y b) := fzP_mono (Hle.refl _) fun b _ _ z => by
      rcases z with z | z
      · exact .inl z
      · exact .inr (.inr z)
  · exact kk _ s' .non H' O' p (A.stay R'.amb le2 fun _ _ => rfl) R'.keep .non
  · exact kk d s' v H' O' p (A.stay R'.amb le2 fun _ _ => rfl) R'.keep (rd.mono le2)
theorem DFn.mono {k j : Nat} {x : Str} {ps : List Str} {S : FS A} (G : DFn P w K mg base A k x ps S) (h : k ≤ j) : DFn P w K mg base A j x ps S := by
  obtain ⟨l, f, fd, h1, h2, h3, h4⟩ := G
  exact ⟨l, f, fd, h1, h2, h3, h4.mono h⟩
theorem DFn.imp {k : Nat} {x : Str} {ps : List Str} {S S' : FS A} (G : DFn P w K mg base A k x ps S) (h : ∀ ds s Q, S' ds s Q → ∃ P, S ds s P ∧ ∀ d s', P d s' → Q d s') : DFn P w K mg base A k x ps S' := by
  obtain ⟨l, f, fd, h1, h2, h3, h4⟩ := G
  refine ⟨fun xs s P q => ?_, f, fd, h1, h2, h3, h4.imp fun vs H Q E ⟨e, ds, s, O, Y, P, a, y, r, q, kk⟩ => ?_⟩
  · obtain ⟨P', q', _⟩ := h xs s P q
    exact l xs s P' q'
  · obtain ⟨P', q', i⟩ := h ds s P q
    exact ⟨e, ds, s, O, Y, P', a, y, r, q', fun d s' v H' O' p => kk d s' v H' O' (i d s' p)⟩
end
end Dl
/-! What is built in, over data. -/
namespace Dl
open PySem L2

/-! ### operators -/
def fAdd : F2 := fun x y k => match x, y with
  | .int i, .int j => k (.int (i + j))
  | .str a, .str b => a.length + b.length ≤ sizeLine ∧ k (.str (a ++ b))
  | .tuple xs, .tuple ys => xs.length + ys.length ≤ sizeLine ∧ k (.tuple (xs ++ ys))
  | .list xs, .list ys => xs.length + ys.length ≤ sizeLine ∧ k (.list (xs ++ ys))
  | _, _ => False
def fSub : F2 := fun x y k => match x, y with
  | .int i, .int j => k (.int (i - j))
  | _, _ => False
def fMulI : F2 := fun x y k => match x, y with
  | .int i, .int j => CMul i j ∧ k (.int (i * j))
  | _, _ => False
def fMulL : F2 := fun x y k => match x, y with
  | .list xs, .int n => (-(2 ^ 63) ≤ n ∧ n < 2 ^ 63 ∧ xs.length * n.toNat ≤ sizeLine) ∧ k (.list (List.replicate n.toNat xs).flatten)
  | _, _ => False
def fMod : F2 := fun x y k => match x, y with
  | .int i, .int j => 0 < j ∧ k (.int (i % j))
  | _, _ => False
def fDiv : F2 := fun x y k => match x, y with
  | .int i, .int j => CDiv i j ∧ k (.int (i / j))
  | _, _ => False
def fEq : F2 := fun x y k => SeqAt.shaped x = true ∧ SeqAt.shaped y = true ∧ k (.bool (PyData.eqv x y))
def fNe : F2 := fun x y k => SeqAt.shaped x = true ∧ SeqAt.shaped y = true ∧ k (.bool (!PyData.eqv x y))
def fCmpI (p : Int → Int → Bool) : F2 := fun x y k => match x, y with
  | .int i, .int j => k (.bool (p i j))
  | _, _ => False
/-- < of numbers, of texts, of tuples of numbers -/
def fLt : F2 := fun x y k => match x, y with
  | .int i, .int j => k (.bool (decide (i < j)))
  | .str a, .str b => k (.bool (decide (a.cps.toList < b.cps.toList)))
  | .tuple xs, .tuple ys => ∃ ns ms : List Int, xs = ns.map .int ∧ ys = ms.map .int ∧ k (.bool (HT.lexLt ns ms))
  | _, _ => False
abbrev fLe := fCmpI fun i j => decide (i ≤ j)
abbrev fGt := fCmpI fun i j => decide (j < i)
abbrev fGe := fCmpI fun i j => decide (j ≤ i)
def notDict : D → Prop
  | .dict _ => False
  | _ => True
def isN : D → Bool
  | .none => true
  | _ => false
def fIs : F2 := fun x y k => match y with
  | .none => notDict x ∧ k (.bool (isN x))
  | _ => False
def fIsNot : F2 := fun x y k => match y with
  | .none => notDict x ∧ k (.bool (!isN x))
  | _ => False
def fNeg : F1 := fun x k => match x with
  | .int i => k (.int (-i))
  | _ => False
/-- an item: of a list, a tuple, a text -/
def atS (z : Str) (i : Int) : Option Str := (atI z.cps.toList i).map fun c => ⟨#[c]⟩
def fIx : F2 := fun x y k => match x, y with
  | .list ds, .int i => (match atI ds i with | some d => k d | none => False)
  | .tuple ds, .int i => (match atI ds i with | some d => k d | none => False)
  | .str z, .int i => z.length ≤ sizeLine ∧ (match atS z i with | some d => k (.str d) | none => False)
  | _, _ => False
section
variable {X : Cx}
theorem Same.up {H : Hp} (p : Addr) (o : HO) (h : H p = none) : Same H (upd H p o) := same_upd h
theorem dom_not {H : Hp} {P : Addr → Prop} (dm : ∀ b, P b → ∃ o, H b = some o) {p : Addr} (h : H p = none) : ¬ P p := fun z => by
  obtain ⟨o, e⟩ := dm p z
  rw [h] at e
  cases e
theorem new_fz {H : Hp} {P : Addr → Prop} (dm : ∀ b, P b → ∃ o, H b = some o) {p : Addr} {o : HO} (h : H p = none) : fzP (upd H p o) P p = some o ∧ Hle (fzP H P) (fzP (upd H p o) P) :=
  ⟨fzP_of (dom_not dm h) upd_same, fzP_mono (same_upd h) fun _ _ _ z => z⟩
theorem dr_sub : DR2 X.K (rI0 fun i j => .int (i - j)) fSub := fun H P x y dx dy k Q dm bx by_ f kk => by
  unfold fSub at f
  split at f
  · exact ⟨_, _, bx.int, by_.int, kk _ H _ (Same.refl _) (.int _) f⟩
  · exact f.elim
theorem dr_mulI : DR2 X.K (rI CMul fun i j => .int (i * j)) fMulI := fun H P x y dx dy k Q dm bx by_ f kk => by
  unfold fMulI at f
  split at f
  · exact ⟨_, _, bx.int, by_.int, f.1, kk _ H _ (Same.refl _) (.int _) f.2⟩
  · exact f.elim
theorem dr_mod : DR2 X.K (rI (fun _ j => 0 < j) fun i j => .int (i % j)) fMod := fun H P x y dx dy k Q dm bx by_ f kk => by
  unfold fMod at f
  split at f
  · exact ⟨_, _, bx.int, by_.int, f.1, kk _ H _ (Same.refl _) (.int _) f.2⟩
  · exact f.elim
theorem dr_div : DR2 X.K (rI CDiv fun i j => .int (i / j)) fDiv := fun H P x y dx dy k Q dm bx by_ f kk => by
  unfold fDiv at f
  split at f
  · exact ⟨_, _, bx.int, by_.int, f.1, kk _ H _ (Same.refl _) (.int _) f.2⟩
  · exact f.elim
theorem dr_cmpI {p : Int → Int → Bool} : DR2 X.K (rI0 fun i j => .bl (p i j)) (fCmpI p) := fun H P x y dx dy k Q dm bx by_ f kk => by
  unfold fCmpI at f
  split at f
  · exact ⟨_, _, bx.int, by_.int, kk _ H _ (Same.refl _) (.bl _) f⟩
  · exact f.elim
def rLtA (K : PySem.W.Frag) : R2 := fun x y H Q => rI0 (fun i j => .bl (decide (i < j))) x y H Q ∨ ((∃ i j, x = .str i ∧ y = .str j ∧ Q (.bl (decide (i.cps.toList < j.cps.toList))) H) ∨ rLtT K x y H Q)
theorem op_ltA (hu : X.A.units + 65 < cLine) : OpR X (compareOp .Lt) (rLtA X.K) := op_lt.or (op_lt_str.or (op_ltT (by omega)))
theorem RpL.ints_is {K : PySem.W.Frag} {F : Hp} : ∀ {vs : List V} {ns : List Int}, RpL K F vs (ns.map .int) → vs = ns.map V.int
  | _, [], r => by cases r; rfl
  | _, n :: ns, r => by
    cases r with
    | cons r t =>
      cases r
      rw [RpL.ints_is t]
      rfl
theorem dr_ltA : DR2 X.K (rLtA X.K) fLt := fun H P x y dx dy k Q dm bx by_ f kk => by
  unfold fLt at f
  split at f
  · exact .inl ⟨_, _, bx.int, by_.int, kk _ H _ (Same.refl _) (.bl _) f⟩
  · exact .inr (.inl ⟨_, _, bx.str, by_.str, kk _ H _ (Same.refl _) (.bl _) f⟩)
  · obtain ⟨ns, ms, rfl, rfl, f⟩ := f
    obtain ⟨a, vs, rfl, _, s1, r1⟩ := bx.tup fzP_le
    obtain ⟨b, ws, rfl, _, s2, r2⟩ := by_.tup fzP_le
    rw [r1.ints_is] at s1
    rw [r2.ints_is] at s2
    exact .inr (.inr ⟨a, b, ns, ms, rfl, rfl, s1, s2, kk _ H _ (Same.refl _) (.bl _) f⟩)
  · exact f.elim
theorem dr_neg : DR1 X.K (rU fun i => .int (-i)) fNeg := fun H P x dx k Q dm bx f kk => by
  unfold fNeg at f
  split at f
  · exact ⟨_, bx.int, kk _ H _ (Same.refl _) (.int _) f⟩
  · exact f.elim
theorem dr_eq : DR2 X.K (rEqD X.K) fEq := fun H P x y dx dy k Q dm bx by_ f kk =>
  ⟨dx, dy, bx.dp fzP_le (SeqAt.canLay_of_shaped f.1), by_.dp fzP_le (SeqAt.canLay_of_shaped f.2.1), f.1, f.2.1, kk _ H _ (Same.refl _) (.bl _) f.2.2⟩
theorem dr_ne : DR2 X.K (rNeD X.K) fNe := fun H P x y dx dy k Q dm bx by_ f kk =>
  ⟨dx, dy, bx.dp fzP_le (SeqAt.canLay_of_shaped f.1), by_.dp fzP_le (SeqAt.canLay_of_shaped f.2.1), f.1, f.2.1, kk _ H _ (Same.refl _) (.bl _) f.2.2⟩
theorem bh_isN {K : PySem.W.Frag} {F H : Hp} {x : V} {d : D} (b : Bh K F H x d) (h : notDict d) : decide (x = .non) = isN d := by
  cases d with
  | none => rw [b.none]; rfl
  | bool i => rw [b.bool]; rfl
  | int i => rw [b.int]; rfl
  | str i => rw [b.str]; rfl
  | list i => cases b with
    | rp r => cases r; rfl
    | ol => rfl
  | tuple i => cases b with
    | rp r => cases r; rfl
  | dict i => exact h.elim
theorem dr_is : DR2 X.K (fun x y H Q => y = V.non ∧ Q (.bl (decide (x = .non))) H) fIs := fun H P x y dx dy k Q dm bx by_ f kk => by
  unfold fIs at f
  split at f
  · refine ⟨by_.none, kk _ H _ (Same.refl _) ?_ f.2⟩
    rw [bh_isN bx f.1]
    exact .bl _
  · exact f.elim
theorem dr_isNot : DR2 X.K (fun x y H Q => y = V.non ∧ Q (.bl (!decide (x = .non))) H) fIsNot := fun H P x y dx dy k Q dm bx by_ f kk => by
  unfold fIsNot at f
  split at f
  · refine ⟨by_.none, kk _ H _ (Same.refl _) ?_ f.2⟩
    rw [bh_isN bx f.1]
    exact .bl _
  · exact f.elim
/-- + of whatever it is -/
def rAddA (K : PySem.W.Frag) : R2 := fun x y H Q => rI0 (fun i j => V.int (i + j)) x y H Q ∨ ((∃ i j, x = V.str i ∧ y = V.str j ∧ i.length + j.length ≤ sizeLine ∧ Q (.str (i ++ j)) H) ∨ (rCatF K x y H Q ∨ rCat x y H Q))
theorem op_addA : OpR X (binaryOp .Add) (rAddA X.K) := op_add.or (op_add_str.or (op_catF.or op_cat))
theorem dr_add : DR2 X.K (rAddA X.K) fAdd := fun H P x y dx dy k Q dm bx by_ f kk => by
  unfold fAdd at f
  split at f
  · exact .inl ⟨_, _, bx.int, by_.int, kk _ H _ (Same.refl _) (.int _) f⟩
  · exact .inr (.inl ⟨_, _, bx.str, by_.str, f.1, kk _ H _ (Same.refl _) (.str _) f.2⟩)
  · next xs ys =>
    obtain ⟨a, vs, rfl, s1, s1', r1⟩ := bx.tup fzP_le
    obtain ⟨b, ws, rfl, s2, s2', r2⟩ := by_.tup fzP_le
    refine .inr (.inr (.inl ⟨a, b, vs, ws, rfl, rfl, s1', s2', by rw [r1.length, r2.length]; exact f.1, fun e => ?_, fun e e' => ?_, fun e e' => ⟨xs ++ ys, fun p o hp ho => ?_⟩⟩))
    · have e2 := r1.nil_iff.mp e
      subst e2
      exact kk _ H _ (Same.refl _) (.tup s2 r2) f.2
    · have e2 := r2.nil_iff.mp e'
      subst e2
      rw [List.append_nil] at f
      exact kk _ H _ (Same.refl _) (.tup s1 r1) f.2
    · obtain ⟨n1, n2⟩ := new_fz dm (o := o) hp
      exact kk _ _ _ (same_upd hp) (.tup ⟨o, ho, n1⟩ ((r1.append r2).mono n2)) f.2
  · next xs ys =>
    obtain ⟨a, vs, rfl, s1, r1⟩ := bx.list fzP_le
    obtain ⟨b, ws, rfl, s2, r2⟩ := by_.list fzP_le
    refine .inr (.inr (.inr ⟨a, b, vs, ws, rfl, rfl, s1, s2, by rw [r1.length, r2.length]; exact f.1, fun p hp => ?_⟩))
    obtain ⟨n1, n2⟩ := new_fz dm (o := .lst (vs ++ ws)) hp
    exact kk _ _ _ (same_upd hp) (.lst n1 ((r1.append r2).mono n2)) f.2
  · exact f.elim
theorem dr_mulL : DR2 X.K rRep fMulL := fun H P x y dx dy k Q dm bx by_ f kk => by
  unfold fMulL at f
  split at f
  · obtain ⟨a, vs, rfl, s1, r1⟩ := bx.list fzP_le
    obtain ⟨f1, f2, f3⟩ := f.1
    refine ⟨a, _, vs, rfl, by_.int, s1, f1, f2, by rw [r1.length]; exact f3, fun p hp => ?_⟩
    obtain ⟨n1, n2⟩ := new_fz dm (o := .lst _) hp
    exact kk _ _ _ (same_upd hp) (.lst n1 ((r1.rep _).mono n2)) f.2
  · exact f.elim
/-- list + list, list * n that become the def's own -/
def gCat : D → D → (Cell → Prop) → Prop := fun x y k => match x, y with
  | .list xs, .list ys => xs.length + ys.length ≤ sizeLine ∧ k (.ol (xs ++ ys))
  | _, _ => False
theorem dw_cat : DR2W X.K rCat gCat := fun H P x y dx dy k Q dm bx by_ f kk => by
  unfold gCat at f
  split at f
  · obtain ⟨a, vs, rfl, s1, r1⟩ := bx.list fzP_le
    obtain ⟨b, ws, rfl, s2, r2⟩ := by_.list fzP_le
    exact ⟨a, b, vs, ws, rfl, rfl, s1, s2, by rw [r1.length, r2.length]; exact f.1, fun p hp => kk p _ _ hp (.ol (r1.append r2)) f.2⟩
  · exact f.elim
def gRep : D → D → (Cell → Prop) → Prop := fun x y k => match x, y with
  | .list xs, .int n => (-(2 ^ 63) ≤ n ∧ n < 2 ^ 63 ∧ xs.length * n.toNat ≤ sizeLine) ∧ k (.ol (List.replicate n.toNat xs).flatten)
  | _, _ => False
theorem dw_rep : DR2W X.K rRep gRep := fun H P x y dx dy k Q dm bx by_ f kk => by
  unfold gRep at f
  split at f
  · obtain ⟨a, vs, rfl, s1, r1⟩ := bx.list fzP_le
    obtain ⟨f1, f2, f3⟩ := f.1
    exact ⟨a, _, vs, rfl, by_.int, s1, f1, f2, by rw [r1.length]; exact f3, fun p hp => kk p _ _ hp (.ol (r1.rep _)) f.2⟩
  · exact f.elim
theorem atI_len {α : Type} {xs : List α} {i : Int} {v : α} : atI xs i = some v → ∃ j, ixN xs.length i = some j ∧ xs[j]? = some v := by
  unfold atI
  cases ixN xs.length i with
  | none => intro h; cases h
  | some j => intro h; exact ⟨j, rfl, h⟩
theorem RpL.atI {K : PySem.W.Frag} {F : Hp} {vs : List V} {ds : List D} {i : Int} {d : D} (r : RpL K F vs ds) (h : L2.atI ds i = some d) : ∃ v, L2.atI vs i = some v ∧ Rp K F v d := by
  obtain ⟨j, e1, e2⟩ := atI_len h
  obtain ⟨v, e3, e4⟩ := r.get' e2
  refine ⟨v, ?_, e4⟩
  unfold L2.atI
  rw [r.length, e1]
  exact e3
theorem dr_ix : DR2 X.K (rIx X.K) fIx := fun H P x y dx dy k Q dm bx by_ f kk => by
  unfold fIx at f
  split at f
  · split at f
    · next d hd =>
      obtain ⟨a, vs, rfl, s1, r1⟩ := bx.list fzP_le
      obtain ⟨v, e1, e2⟩ := r1.atI hd
      exact .inl ⟨a, vs, _, v, rfl, by_.int, SqL.of s1, e1, kk _ H _ (Same.refl _) e2 f⟩
    · exact f.elim
  · split at f
    · next d hd =>
      obtain ⟨a, vs, rfl, _, s1, r1⟩ := bx.tup fzP_le
      obtain ⟨v, e1, e2⟩ := r1.atI hd
      exact .inr (.inl ⟨a, vs, _, v, rfl, by_.int, s1, e1, kk _ H _ (Same.refl _) e2 f⟩)
    · exact f.elim
  · obtain ⟨f0, f⟩ := f
    split at f
    · next d hd =>
      unfold atS at hd
      cases e : L2.atI (Str.cps _).toList _ with
      | none => rw [e] at hd; cases hd
      | some c =>
        rw [e] at hd
        cases hd
        exact .inr (.inr ⟨_, _, c, bx.str, by_.int, f0, e, kk _ H _ (Same.refl _) (.str _) f⟩)
    · exact f.elim
  · exact f.elim
end

/-! ### built-ins by name -/
def fLen : FN := fun xs k => match xs with
  | [.list ds] => k (.int ds.length)
  | [.tuple ds] => k (.int ds.length)
  | [.str z] => z.length ≤ sizeLine ∧ k (.int z.length)
  | _ => False
def fTuple : FN := fun xs k => match xs with
  | [.list ds] => k (.tuple ds)
  | [.tuple ds] => k (.tuple ds)
  | _ => False
def gList : List D → (Cell → Prop) → Prop := fun xs k => match xs with
  | [.list ds] => k (.ol ds)
  | [.tuple ds] => k (.ol ds)
  | _ => False
/-- the truth values of a list -/
def boolsD : List D → Option (List Bool)
  | [] => some []
  | .bool b :: r => (boolsD r).map (b :: ·)
  | _ => none
def fAll : FN := fun xs k => match xs with
  | [.list ds] => (match boolsD ds with | some bs => k (.bool (bs.all id)) | none => False)
  | _ => False
def fAny : FN := fun xs k => match xs with
  | [.list ds] => (match boolsD ds with | some bs => k (.bool (bs.any id)) | none => False)
  | _ => False
def fInt : FN := fun xs k => match xs with
  | [.int i] => k (.int i)
  | [.bool b] => k (.int (if b then 1 else 0))
  | _ => False
def fAbs : FN := fun xs k => match xs with
  | [.int i] => k (.int (if i < 0 then -i else i))
  | _ => False
def fMax2 : FN := fun xs k => match xs with
  | [.int i, .int j] => k (.int (if j > i then j else i))
  | _ => False
def fMin2 : FN := fun xs k => match xs with
  | [.int i, .int j] => k (.int (if j < i then j else i))
  | _ => False
def fStr : FN := fun xs k => match xs with
  | [.int i] => i.natAbs.log2 < 1920 ∧ k (.str (toString i))
  | _ => False
section
variable {X : Cx} {K : PySem.W.Frag} {F H : Hp}
theorem BhL.one {vs : List V} {d : D} (r : BhL K F H vs [d]) : ∃ v, vs = [v] ∧ Bh K F H v d := by
  cases r with
  | cons b t => cases t; exact ⟨_, rfl, b⟩
theorem BhL.two {vs : List V} {d d' : D} (r : BhL K F H vs [d, d']) : ∃ v v', vs = [v, v'] ∧ Bh K F H v d ∧ Bh K F H v' d' := by
  cases r with
  | cons b t => obtain ⟨v, rfl, b'⟩ := t.one; exact ⟨_, _, rfl, b, b'⟩
theorem dn_len : DRN X.K (fun xs H Q => ∃ x n, xs = [x] ∧ LenV X.K x H n ∧ Q (.int n) H) fLen := fun H P xs ds k Q dm b f kk => by
  unfold fLen at f
  split at f
  · obtain ⟨v, rfl, b1⟩ := b.one
    obtain ⟨a, vs, rfl, s1, r1⟩ := b1.list fzP_le
    exact ⟨_, _, rfl, .inl ⟨vs, SqL.of s1, rfl⟩, kk _ H _ (Same.refl _) (by rw [r1.length]; exact .int _) f⟩
  · obtain ⟨v, rfl, b1⟩ := b.one
    obtain ⟨a, vs, rfl, _, s1, r1⟩ := b1.tup fzP_le
    exact ⟨_, _, rfl, .inr ⟨vs, s1, rfl⟩, kk _ H _ (Same.refl _) (by rw [r1.length]; exact .int _) f⟩
  · obtain ⟨v, rfl, b1⟩ := b.one
    cases b1.str
    exact ⟨_, _, rfl, ⟨f.1, rfl⟩, kk _ H _ (Same.refl _) (.int _) f.2⟩
  · exact f.elim
theorem dn_tuple : DRN X.K (fun xs H Q => ∃ p ys, xs = [.ref p] ∧ ((SqL X.K H p ys ∧ NewT Q H ys) ∨ (SqT X.K H p ys ∧ Q (.ref p) H))) fTuple := fun H P xs ds k Q dm b f kk => by
  unfold fTuple at f
  split at f
  · next ds =>
    obtain ⟨v, rfl, b1⟩ := b.one
    obtain ⟨a, vs, rfl, s1, r1⟩ := b1.list fzP_le
    refine ⟨a, vs, rfl, .inl ⟨SqL.of s1, ds, fun p o hp ho => ?_⟩⟩
    obtain ⟨n1, n2⟩ := new_fz dm (o := o) hp
    exact kk _ _ _ (same_upd hp) (.tup ⟨o, ho, n1⟩ (r1.mono n2)) f
  · obtain ⟨v, rfl, b1⟩ := b.one
    obtain ⟨a, vs, rfl, s0, s1, r1⟩ := b1.tup fzP_le
    exact ⟨a, vs, rfl, .inr ⟨s1, kk _ H _ (Same.refl _) (.tup s0 r1) f⟩⟩
  · exact f.elim
theorem dw_list : DRNW X.K (fun xs H Q => ∃ p ys, xs = [.ref p] ∧ (SqL X.K H p ys ∨ SqT X.K H p ys) ∧ ∀ l, H l = none → Q (.ref l) (upd H l (.lst ys))) gList := fun H P xs ds k Q dm b f kk => by
  unfold gList at f
  split at f
  · obtain ⟨v, rfl, b1⟩ := b.one
    obtain ⟨a, vs, rfl, s1, r1⟩ := b1.list fzP_le
    exact ⟨a, vs, rfl, .inl (SqL.of s1), fun p hp => kk p _ _ hp (.ol r1) f⟩
  · obtain ⟨v, rfl, b1⟩ := b.one
    obtain ⟨a, vs, rfl, s0, s1, r1⟩ := b1.tup fzP_le
    exact ⟨a, vs, rfl, .inr s1, fun p hp => kk p _ _ hp (.ol r1) f⟩
  · exact f.elim
theorem RpL.bools : ∀ {vs : List V} {ds : List D} {bs : List Bool}, RpL K F vs ds → boolsD ds = some bs → vs = bs.map V.bl
  | _, _, _, .nil, h => by cases h; rfl
  | _, _, bs, .cons (d := d) r t, h => by
    cases d with
    | bool b =>
      unfold boolsD at h
      cases e : boolsD _ with
      | none => rw [e] at h; cases h
      | some bs' =>
        rw [e] at h
        cases h
        cases r
        rw [RpL.bools t e]
        rfl
    | _ => simp [boolsD] at h
theorem dn_all : DRN X.K (rAll X.K) fAll := fun H P xs ds k Q dm b f kk => by
  unfold fAll at f
  split at f
  · split at f
    · next bs hb =>
      obtain ⟨v, rfl, b1⟩ := b.one
      obtain ⟨a, vs, rfl, s1, r1⟩ := b1.list fzP_le
      have e := r1.bools hb
      subst e
      exact ⟨a, bs, rfl, SqL.of s1, kk _ H _ (Same.refl _) (.bl _) f⟩
    · exact f.elim
  · exact f.elim
theorem dn_any : DRN X.K (rAny X.K) fAny := fun H P xs ds k Q dm b f kk => by
  unfold fAny at f
  split at f
  · split at f
    · next bs hb =>
      obtain ⟨v, rfl, b1⟩ := b.one
      obtain ⟨a, vs, rfl, s1, r1⟩ := b1.list fzP_le
      have e := r1.bools hb
      subst e
      exact ⟨a, bs, rfl, SqL.of s1, kk _ H _ (Same.refl _) (.bl _) f⟩
    · exact f.elim
  · exact f.elim
theorem dn_int : DRN X.K (fun xs H Q => (∃ i, xs = [V.int i] ∧ Q (.int i) H) ∨ ∃ k, xs = [V.bl k] ∧ Q (.int (if k then 1 else 0)) H) fInt := fun H P xs ds k Q dm b f kk => by
  unfold fInt at f
  split at f
  · obtain ⟨v, rfl, b1⟩ := b.one
    cases b1.int
    exact .inl ⟨_, rfl, kk _ H _ (Same.refl _) (.int _) f⟩
  · obtain ⟨v, rfl, b1⟩ := b.one
    cases b1.bool
    exact .inr ⟨_, rfl, kk _ H _ (Same.refl _) (.int _) f⟩
  · exact f.elim
theorem dn_abs : DRN X.K (fun xs H Q => ∃ i, xs = [V.int i] ∧ Q (.int (if i < 0 then -i else i)) H) fAbs := fun H P xs ds k Q dm b f kk => by
  unfold fAbs at f
  split at f
  · obtain ⟨v, rfl, b1⟩ := b.one
    cases b1.int
    exact ⟨_, rfl, kk _ H _ (Same.refl _) (.int _) f⟩
  · exact f.elim
theorem dn_max2 : DRN X.K (fun xs H Q => ∃ i j, xs = [V.int i, .int j] ∧ Q (.int (if j > i then j else i)) H) fMax2 := fun H P xs ds k Q dm b f kk => by
  unfold fMax2 at f
  split at f
  · obtain ⟨v, v', rfl, b1, b2⟩ := b.two
    cases b1.int
    cases b2.int
    exact ⟨_, _, rfl, kk _ H _ (Same.refl _) (.int _) f⟩
  · exact f.elim
theorem dn_min2 : DRN X.K (fun xs H Q => ∃ i j, xs = [V.int i, .int j] ∧ Q (.int (if j < i then j else i)) H) fMin2 := fun H P xs ds k Q dm b f kk => by
  unfold fMin2 at f
  split at f
  · obtain ⟨v, v', rfl, b1, b2⟩ := b.two
    cases b1.int
    cases b2.int
    exact ⟨_, _, rfl, kk _ H _ (Same.refl _) (.int _) f⟩
  · exact f.elim
theorem dn_str : DRN X.K (fun xs H Q => ∃ i, xs = [V.int i] ∧ i.natAbs.log2 < 1920 ∧ Q (.str (toString i)) H) fStr := fun H P xs ds k Q dm b f kk => by
  unfold fStr at f
  split at f
  · obtain ⟨v, rfl, b1⟩ := b.one
    cases b1.int
    exact ⟨_, rfl, f.1, kk _ H _ (Same.refl _) (.str _) f.2⟩
  · exact f.elim
end

/-! ### isinstance -/
inductive Ty where
  | int | bool | tuple | list | str
def Ty.nm : Ty → String
  | .int => "int"
  | .bool => "bool"
  | .tuple => "tuple"
  | .list => "list"
  | .str => "str"
def isTy : Ty → D → Bool
  | .int, .int _ => true
  | .int, .bool _ => true
  | .bool, .bool _ => true
  | .tuple, .tuple _ => true
  | .list, .list _ => true
  | .str, .str _ => true
  | _, _ => false
def fIsi (t : Ty) : F1 := fun x k => notDict x ∧ k (.bool (isTy t x))
def tyN : D → String
  | .none => "NoneType"
  | .bool _ => "bool"
  | .int _ => "int"
  | .str _ => "str"
  | .list _ => "list"
  | .tuple _ => "tuple"
  | .dict _ => "dict"
theorem kit_isTy {K : PySem.W.Frag} (t : Ty) (d : D) (h : notDict d) : PySem.W.kitOne K (.type (tyN d)) (.type t.nm) = some (isTy t d) := by
  cases d with
  | dict _ => exact h.elim
  | none =>
    cases t with
    | int => exact kit_ty (a := "NoneType") (b := "int") (r := false) (by decide +kernel)
    | bool => exact kit_ty (a := "NoneType") (b := "bool") (r := false) (by decide +kernel)
    | tuple => exact kit_ty (a := "NoneType") (b := "tuple") (r := false) (by decide +kernel)
    | list => exact kit_ty (a := "NoneType") (b := "list") (r := false) (by decide +kernel)
    | str => exact kit_ty (a := "NoneType") (b := "str") (r := false) (by decide +kernel)
  | bool _ =>
    cases t with
    | int => exact kit_ty (a := "bool") (b := "int") (r := true) (by decide +kernel)
    | bool => exact kit_ty (a := "bool") (b := "bool") (r := true) (by decide +kernel)
    | tuple => exact kit_ty (a := "bool") (b := "tuple") (r := false) (by decide +kernel)
    | list => exact kit_ty (a := "bool") (b := "list") (r := false) (by decide +kernel)
    | str => exact kit_ty (a := "bool") (b := "str") (r := false) (by decide +kernel)
  | int _ =>
    cases t with
    | int => exact kit_ty (a := "int") (b := "int") (r := true) (by decide +kernel)
    | bool => exact kit_ty (a := "int") (b := "bool") (r := false) (by decide +kernel)
    | tuple => exact kit_ty (a := "int") (b := "tuple") (r := false) (by decide +kernel)
    | list => exact kit_ty (a := "int") (b := "list") (r := false) (by decide +kernel)
    | str => exact kit_ty (a := "int") (b := "str") (r := false) (by decide +kernel)
  | str _ =>
    cases t with
    | int => exact kit_ty (a := "str") (b := "int") (r := false) (by decide +kernel)
    | bool => exact kit_ty (a := "str") (b := "bool") (r := false) (by decide +kernel)
    | tuple => exact kit_ty (a := "str") (b := "tuple") (r := false) (by decide +kernel)
    | list => exact kit_ty (a := "str") (b := "list") (r := false) (by decide +kernel)
    | str => exact kit_ty (a := "str") (b := "str") (r := true) (by decide +kernel)
  | list _ =>
    cases t with
    | int => exact kit_ty (a := "list") (b := "int") (r := false) (by decide +kernel)
    | bool => exact kit_ty (a := "list") (b := "bool") (r := false) (by decide +kernel)
    | tuple => exact kit_ty (a := "list") (b := "tuple") (r := false) (by decide +kernel)
    | list => exact kit_ty (a := "list") (b := "list") (r := true) (by decide +kernel)
    | str => exact kit_ty (a := "list") (b := "str") (r := false) (by decide +kernel)
  | tuple _ =>
    cases t with
    | int => exact kit_ty (a := "tuple") (b := "int") (r := false) (by decide +kernel)
    | bool => exact kit_ty (a := "tuple") (b := "bool") (r := false) (by decide +kernel)
    | tuple => exact kit_ty (a := "tuple") (b := "tuple") (r := true) (by decide +kernel)
    | list => exact kit_ty (a := "tuple") (b := "list") (r := false) (by decide +kernel)
    | str => exact kit_ty (a := "tuple") (b := "str") (r := false) (by decide +kernel)
theorem bh_ty {K : PySem.W.Frag} {F H : Hp} {x : V} {d : D} (b : Bh K F H x d) (le : Hle F H) (h : notDict d) : TyX K H x (.type (tyN d)) := by
  cases d with
  | none => rw [b.none]; exact .base .non
  | bool i => rw [b.bool]; exact .base (.bl _)
  | int i => rw [b.int]; exact .base (.int _)
  | str i => rw [b.str]; exact .base (.str _)
  | list i =>
    obtain ⟨a, xs, rfl, s, _⟩ := b.list le
    exact .base (.lst s)
  | tuple i =>
    obtain ⟨a, xs, rfl, _, s, _⟩ := b.tup le
    rcases s with (s | ⟨o, s⟩) | ⟨o, its, n, e, c, _⟩
    · exact .base (.tup s)
    · exact .fTuple s
    · exact .kTuple e c
  | dict i => exact h.elim
section
variable {A : Amb} {X : Cx} {N : Ent} {a : Expr} {ta : DE A} {pos p p2 : Pos}
theorem e_isi (t : Ty) {T : Str} (ha : PE X a (liftB A X.K N ta)) (hm : X.mg "isinstance" = none) (hm2 : X.mg T = none) (hv : bootBuiltins T = some (.type t.nm)) (hg : Gl X "isinstance" := by rfl) (hg2 : Gl X T := by rfl) (hn : T ≠ "__name__" := by decide) (hd : (T == ("__debug__" : Str)) = false := by decide)
    (h1 : starEach [a, .Name T p2] X.env = (false, eval a X.env) :: starEach [.Name T p2] X.env := by rfl) (h2 : (backTo pos (starEach [.Name T p2] X.env)).any (·.1) = false := by rfl) (h3 : starEach [.Name T p2] X.env = (false, eval (.Name T p2) X.env) :: starEach [] X.env := by rfl) :
    PE X (.Call (.Name "isinstance" p) [a, .Name T p2] [] pos) (liftE A X.K N (dUn (fIsi t) ta)) :=
  PE.imp (pe_callB call_isi hg hm (by decide +kernel) (pa_cons ha (pa_cons (pe_bltn (v := .ty t.nm) hg2 hm2 hv rfl hn hd) pa_nil h3) h1) (by decide) (by decide) h1 h2) fun σ H Q ⟨ρ, s, O, P, R0, q, k⟩ =>
    ⟨ρ, s, O, _, R0, q, fun x s1 vx H1 O1 q1 R1 le1 rx => ⟨vx, .ty t.nm, .type (tyN x), .type t.nm, isTy t x, rfl, .ty _, bh_ty (R1.bh rx) fzP_le q1.1, kit_isTy t x q1.1, k _ s1 _ H1 O1 q1.2 R1 le1 (.bl _)⟩⟩
end

/-! ### tuple(range(a, b)), list(range(a, b)) -/
theorem rgV_rp {K : PySem.W.Frag} {F : Hp} (i : Int) : ∀ n, RpL K F ((List.range n).map fun j => V.int (i + (j : Nat))) (rngD i n) := fun n => by
  unfold rngD
  have go : ∀ l : List Nat, RpL K F (l.map fun j => V.int (i + (j : Nat))) (l.map fun j => .int (i + (j : Nat))) := fun l => by
    induction l with
    | nil => exact .nil
    | cons a r ih => exact .cons (.int _) ih
  exact go _
section
variable {A : Amb} {X : Cx} {N : Ent} {a b : Expr} {ta tb : DE A} {pos p p2 pos2 : Pos}
def dTupRg (ta tb : DE A) : DE A := fun ρ s Q => ta ρ s fun x s1 => tb ρ s1 fun y s2 => match x, y with
  | .int i, .int j => RgOk i j ∧ Q (.tuple (rngD i (j - i).toNat)) s2
  | _, _ => False
def nLstRg (ta tb : DE A) : DC A := fun ρ s Q => ta ρ s fun x s1 => tb ρ s1 fun y s2 => match x, y with
  | .int i, .int j => RgOk i j ∧ Q (.ol (rngD i (j - i).toNat)) s2
  | _, _ => False
theorem e_tupRg (ha : PE X a (liftB A X.K N ta)) (hb : PE X b (liftB A X.K N tb)) (hm : X.mg "tuple" = none) (hm2 : X.mg "range" = none) (hc : X.calm = true) (hr : ∀ {ta tb : TE}, PE X a ta → PE X b tb → PRg X (.Call (.Name "range" p2) [a, b] [] pos2) (tRg2 ta tb)) (hg : Gl X "tuple" := by rfl)
    (na : starEach [.Call (.Name "range" p2) [a, b] [] pos2] X.env = (false, eval (.Call (.Name "range" p2) [a, b] [] pos2) X.env) :: starEach [] X.env := by rfl) :
    PE X (.Call (.Name "tuple" p) [.Call (.Name "range" p2) [a, b] [] pos2] [] pos) (liftE A X.K N (dTupRg ta tb)) :=
  PE.imp (pe_tupRgF hc hg hm (hr ha hb) na) fun σ H Q ⟨ρ, s, O, P, R0, q, k⟩ => ⟨ρ, s, O, _, R0, q, fun x s1 vx H1 O1 q1 R1 le1 rx => ⟨ρ, s1, O1, _, R1, q1, fun y s2 vy H2 O2 q2 R2 le2 ry => by
    split at q2
    · next i j =>
      refine ⟨_, _, (R2.bh (rx.mono le2)).int, (R2.bh ry).int, q2.1, rngD i (j - i).toNat, fun l o hl ho => ?_⟩
      exact k _ s2 _ _ O2 q2.2 (R2.alloc (same_upd hl)) (le1.trans (le2.trans (R2.fzle (same_upd hl)))) (.tup ⟨o, ho, fzP_of (R2.fresh hl) upd_same⟩ (rgV_rp _ _))
    · exact q2.elim⟩⟩
theorem n_lstRg (ha : PE X a (liftB A X.K N ta)) (hb : PE X b (liftB A X.K N tb)) (hm : X.mg "list" = none) (hm2 : X.mg "range" = none) (hc : X.calm = true) (hr : ∀ {ta tb : TE}, PE X a ta → PE X b tb → PRg X (.Call (.Name "range" p2) [a, b] [] pos2) (tRg2 ta tb)) (hg : Gl X "list" := by rfl)
    (na : starEach [.Call (.Name "range" p2) [a, b] [] pos2] X.env = (false, eval (.Call (.Name "range" p2) [a, b] [] pos2) X.env) :: starEach [] X.env := by rfl) :
    PE X (.Call (.Name "list" p) [.Call (.Name "range" p2) [a, b] [] pos2] [] pos) (liftW A X.K N (nLstRg ta tb)) :=
  PE.imp (pe_listRg hc hg hm (hr ha hb) na) fun σ H Q ⟨ρ, s, O, P, R0, q, k⟩ => ⟨ρ, s, O, _, R0, q, fun x s1 vx H1 O1 q1 R1 le1 rx => ⟨ρ, s1, O1, _, R1, q1, fun y s2 vy H2 O2 q2 R2 le2 ry => by
    split at q2
    · exact ⟨_, _, (R2.bh (rx.mono le2)).int, (R2.bh ry).int, q2.1, fun l hl => k _ s2 l _ H2 O2 q2.2 R2 (le1.trans le2) hl (.ol (rgV_rp _ _))⟩
    · exact q2.elim⟩⟩
end

/-! ### slices -/
abbrev DO (A : Amb) := Rho → A.S → (Option Int → A.S → Prop) → Prop
section
variable (A : Amb) (K : PySem.W.Frag) (N : Ent)
def liftO (t : DO A) : TO := fun σ H Q => ∃ ρ s O P, Rel A K N s σ H ρ O ∧ t ρ s P ∧ ∀ i s' H' O', P i s' → Rel A K N s' σ H' ρ O' → Hle (fzP H (Px N σ ρ O)) (fzP H' (Px N σ ρ O')) → Q i H'
end
def cutD (xs : List D) (lo hi : Option Int) : List D := (xs.drop (HT.sIx xs.length 0 lo)).take (HT.sIx xs.length xs.length hi - HT.sIx xs.length 0 lo)
theorem RpL.cut {K : PySem.W.Frag} {F : Hp} {vs : List V} {ds : List D} (r : RpL K F vs ds) (lo hi : Option Int) : RpL K F (cutV vs lo hi) (cutD ds lo hi) := by
  unfold cutV cutD
  rw [r.length]
  exact (r.drop _).take _
section
variable {A : Amb} {X : Cx} {N : Ent} {e : Expr} {lo hi : Option Expr} {te : DE A} {tl th : DO A} {pos p2 : Pos}
def oNone : DO A := fun _ s Q => Q none s
def oSome (t : DE A) : DO A := fun ρ s Q => t ρ s fun x s' => match x with
  | .int i => Q (some i) s'
  | _ => False
theorem o_none : PO X none (liftO A X.K N oNone) := ⟨fun pins s σ H Q I ⟨ρ, s', O, P, R0, q, k⟩ => po_none.run pins s σ H Q I (k _ s' H O q R0 (Hle.refl _))⟩
theorem o_some (h : PE X e (liftB A X.K N te)) : PO X (some e) (liftO A X.K N (oSome te)) := ⟨fun pins s σ H Q I ⟨ρ, s', O, P, R0, q, k⟩ => (po_some h).run pins s σ H Q I ⟨ρ, s', O, _, R0, q, fun x s1 vx H1 O1 q1 R1 le1 rx => by
  split at q1
  · exact ⟨_, (R1.bh rx).int, k _ s1 H1 O1 q1 R1 le1⟩
  · exact q1.elim⟩⟩
def rSlA2 (K : PySem.W.Frag) : V → Option Int → Option Int → Hp → VK → Prop := fun x lo hi H Q => rSlL K x lo hi H Q ∨ (rSlF K x lo hi H Q)
def dSl (te : DE A) (tl th : DO A) : DE A := fun ρ s Q => te ρ s fun x s1 => tl ρ s1 fun l s2 => th ρ s2 fun u s3 => match x with
  | .list ds => Q (.list (cutD ds l u)) s3
  | .tuple ds => Q (.tuple (cutD ds l u)) s3
  | .str z => z.length ≤ sizeLine ∧ Q (.str (cutS z l u)) s3
  | _ => False
def nSl (te : DE A) (tl th : DO A) : DC A := fun ρ s Q => te ρ s fun x s1 => tl ρ s1 fun l s2 => th ρ s2 fun u s3 => match x with
  | .list ds => Q (.ol (cutD ds l u)) s3
  | _ => False
theorem whole_cut {xs : List D} {lo hi : Option Int} (h : HT.sIx xs.length 0 lo = 0 ∧ HT.sIx xs.length xs.length hi = xs.length) : cutD xs lo hi = xs := by
  unfold cutD
  rw [h.1, h.2]
  simp
theorem e_sl (he : PE X e (liftB A X.K N te)) (hl : PO X lo (liftO A X.K N tl)) (hu : PO X hi (liftO A X.K N th)) : PE X (.Subscript e (.Slice lo hi none p2) pos) (liftE A X.K N (dSl te tl th)) :=
  PE.imp (pe_slice (sl_list.or (sl_tupF.or sl_str)) he hl hu) fun σ H Q ⟨ρ, s, O, P, R0, q, k⟩ => ⟨ρ, s, O, _, R0, q, fun x s1 vx H1 O1 q1 R1 le1 rx => ⟨ρ, s1, O1, _, R1, q1, fun l s2 H2 O2 q2 R2 le2 => ⟨ρ, s2, O2, _, R2, q2, fun u s3 H3 O3 q3 R3 le3 => by
    have b := R3.bh (rx.mono (le2.trans le3))
    have le := le1.trans (le2.trans le3)
    split at q3
    · obtain ⟨a, vs, rfl, s1', r1⟩ := b.list fzP_le
      exact .inl ⟨a, vs, rfl, SqL.of s1', fun p hp => k _ s3 _ _ O3 q3 (R3.alloc (same_upd hp)) (le.trans (R3.fzle (same_upd hp))) (.lst (fzP_of (R3.fresh hp) upd_same) ((r1.cut l u).mono (R3.fzle (same_upd hp))))⟩
    · obtain ⟨a, vs, rfl, s0, s1', r1⟩ := b.tup fzP_le
      refine .inr (.inl ⟨a, vs, rfl, s1', fun w => ?_, fun _ => ⟨_, fun p o hp ho => k _ s3 _ _ O3 q3 (R3.alloc (same_upd hp)) (le.trans (R3.fzle (same_upd hp))) (.tup ⟨o, ho, fzP_of (R3.fresh hp) upd_same⟩ ((r1.cut l u).mono (R3.fzle (same_upd hp))))⟩⟩)
      rw [r1.length] at w
      rw [whole_cut w] at q3
      exact k _ s3 _ _ O3 q3 R3 le (.tup s0 r1)
    · exact .inr (.inr ⟨_, b.str, q3.1, k _ s3 _ H3 O3 q3.2 R3 le (.str _)⟩)
    · exact q3.elim⟩⟩⟩
theorem n_sl (he : PE X e (liftB A X.K N te)) (hl : PO X lo (liftO A X.K N tl)) (hu : PO X hi (liftO A X.K N th)) : PE X (.Subscript e (.Slice lo hi none p2) pos) (liftW A X.K N (nSl te tl th)) :=
  PE.imp (pe_slice sl_list he hl hu) fun σ H Q ⟨ρ, s, O, P, R0, q, k⟩ => ⟨ρ, s, O, _, R0, q, fun x s1 vx H1 O1 q1 R1 le1 rx => ⟨ρ, s1, O1, _, R1, q1, fun l s2 H2 O2 q2 R2 le2 => ⟨ρ, s2, O2, _, R2, q2, fun u s3 H3 O3 q3 R3 le3 => by
    have b := R3.bh (rx.mono (le2.trans le3))
    have le := le1.trans (le2.trans le3)
    split at q3
    · obtain ⟨a, vs, rfl, s1', r1⟩ := b.list fzP_le
      exact ⟨a, vs, rfl, SqL.of s1', fun p hp => k _ s3 p _ H3 O3 q3 R3 le hp (.ol (r1.cut l u))⟩
    · exact q3.elim⟩⟩⟩
end
end Dl
/-! Short words for the printed derivations. -/
namespace Dl
open PySem L2

/-- the built-in names are the built-in ones -/
structure Bt (mg : Str → Option Value) : Prop where
  len : mg "len" = none
  range : mg "range" = none
  tuple : mg "tuple" = none
  list : mg "list" = none
  int : mg "int" = none
  bool : mg "bool" = none
  str : mg "str" = none
  dict : mg "dict" = none
  set : mg "set" = none
  sorted : mg "sorted" = none
  isinstance : mg "isinstance" = none
  all : mg "all" = none
  any : mg "any" = none
  abs : mg "abs" = none
  max : mg "max" = none
  min : mg "min" = none
  sum : mg "sum" = none
  repr : mg "repr" = none
  zip : mg "zip" = none
  type : mg "type" = none
theorem bt_len : bootBuiltins "len" = some (.builtin "len") := by decide +kernel
theorem bt_isinstance : bootBuiltins "isinstance" = some (.builtin "isinstance") := by decide +kernel
theorem bt_sorted : bootBuiltins "sorted" = some (.builtin "sorted") := by decide +kernel
theorem bt_all : bootBuiltins "all" = some (.builtin "all") := by decide +kernel
theorem bt_any : bootBuiltins "any" = some (.builtin "any") := by decide +kernel
theorem bt_abs : bootBuiltins "abs" = some (.builtin "abs") := by decide +kernel
theorem bt_max : bootBuiltins "max" = some (.builtin "max") := by decide +kernel
theorem bt_min : bootBuiltins "min" = some (.builtin "min") := by decide +kernel
theorem bt_sum : bootBuiltins "sum" = some (.builtin "sum") := by decide +kernel
theorem bt_repr : bootBuiltins "repr" = some (.builtin "repr") := by decide +kernel
theorem bt_tuple : bootBuiltins "tuple" = some (.type "tuple") := by decide +kernel
theorem bt_list : bootBuiltins "list" = some (.type "list") := by decide +kernel
theorem bt_int : bootBuiltins "int" = some (.type "int") := by decide +kernel
theorem bt_bool : bootBuiltins "bool" = some (.type "bool") := by decide +kernel
theorem bt_str : bootBuiltins "str" = some (.type "str") := by decide +kernel
theorem bt_dict : bootBuiltins "dict" = some (.type "dict") := by decide +kernel
theorem bt_set : bootBuiltins "set" = some (.type "set") := by decide +kernel
theorem bt_zip : bootBuiltins "zip" = some (.type "zip") := by decide +kernel

section
variable {A : Amb} {X : Cx} {N : Ent} {st : Stmt} {e c tg iter elt : Expr} {te : DE A} {t : DS A} {tn : DC A} {pos : Pos} {it : DI A} {g : DG A} {tt : DT A}
theorem it_str {pins : List (Addr × Obj)} {σ : St} {H : Hp} {s : Shared} {R : It → Hp → Prop} {E : Value → Shared → Prop} {z : Str} {u : Value} (I : Inv X pins σ H s) (r : RelV (.str z) u) (q : R (Its z) H) : wpAny (model X.prog X.w) X.A (pyIter u) (PIE X pins σ tg R) E s := by
  obtain ⟨t, rfl⟩ := r
  cases ha : z.cps.all (· < 128) with
  | false => exact wpAny_pyIter_wide ha (newIt (tk := s.toks) I (turn_str _ z t "str_iterator" (.inr rfl)) ⟨_, Heap.get?_push_size _ rfl, rfl, rfl⟩ q)
  | true => exact wpAny_pyIter_ascii ha (newIt (tk := s.toks) I (turn_str _ z t "str_ascii_iterator" (.inl rfl)) ⟨_, Heap.get?_push_size _ rfl, rfl, rfl⟩ q)
theorem iA (he : PE X e (liftE A X.K N te)) : PI X tg e (liftI A X.K N (dIt te)) := i_any he fun pins s σ H R z u I r q => it_str I r q
theorem vB (i : Nat) {x : Str} (hN : X.N[i]? = some x := by rfl) (hv : Vis X.env.scope x := by first | exact Or.inl rfl | exact Or.inr (Or.inl rfl) | exact Or.inr (Or.inr rfl)) (hd : (x == ("__debug__" : Str)) = false := by decide) (hcd : (x == ("__classdict__" : Str)) = false := by decide) :
    PE X (.Name x pos) (liftB A X.K N (dVarB i)) := e_var (pv i hN hv hd hcd)
theorem vF (i : Nat) {x : Str} (hN : X.N[i]? = some x := by rfl) (hv : Vis X.env.scope x := by first | exact Or.inl rfl | exact Or.inr (Or.inl rfl) | exact Or.inr (Or.inr rfl)) (hd : (x == ("__debug__" : Str)) = false := by decide) (hcd : (x == ("__classdict__" : Str)) = false := by decide) :
    PE X (.Name x pos) (liftE A X.K N (dVar i)) := e_varF (pv i hN hv hd hcd)
theorem vP (i : Nat) {x : Str} (hN : X.N[i]? = some x := by rfl) (hv : Vis X.env.scope x := by first | exact Or.inl rfl | exact Or.inr (Or.inl rfl) | exact Or.inr (Or.inr rfl)) (hd : (x == ("__debug__" : Str)) = false := by decide) (hcd : (x == ("__classdict__" : Str)) = false := by decide) :
    PE X (.Name x pos) (tVar i) := pv i hN hv hd hcd
/-- a constant of the module -/
theorem gI {x : Str} {i : Int} (hm : ∃ t, X.mg x = some (.int i t)) (hg : Gl X x := by rfl) (hd : (x == ("__debug__" : Str)) = false := by decide) : PE X (.Name x pos) (liftE A X.K N (dC (.int i))) := by
  obtain ⟨t, h⟩ := hm
  exact e_c (pe_glob (v := .int i) hg h ⟨t, rfl⟩ hd) fun _ => .int i
theorem gS {x : Str} {i : Str} (hm : ∃ t, X.mg x = some (.str i t)) (hg : Gl X x := by rfl) (hd : (x == ("__debug__" : Str)) = false := by decide) : PE X (.Name x pos) (liftE A X.K N (dC (.str i))) := by
  obtain ⟨t, h⟩ := hm
  exact e_c (pe_glob (v := .str i) hg h ⟨t, rfl⟩ hd) fun _ => .str i
/-- x = e -/
theorem sS (i : Nat) {x : Str} {p : Pos} (nd : X.N.Nodup) (he : PE X e (liftE A X.K N te)) (hi : X.N[i]? = some x := by rfl) (hx : Loc X.env.scope x := by first | exact Or.inl rfl | exact Or.inr rfl) (hs : swapsWith e (some (.Name x p)) pos.line X.env = pure false := by rfl) (hf : X.fn x = true ∨ X.env.scope.names.lookup x = some .local := by first | exact .inl rfl | exact .inr rfl) :
    PS X (.Assign [.Name x p] e pos) (liftS A X.K N (dSet i te)) := s_set (ps_set nd hi hx he hs hf)
theorem sN (i : Nat) {x : Str} {p : Pos} (nd : X.N.Nodup) (he : PE X e (liftW A X.K N tn)) (hi : X.N[i]? = some x := by rfl) (hx : Loc X.env.scope x := by first | exact Or.inl rfl | exact Or.inr rfl) (hs : swapsWith e (some (.Name x p)) pos.line X.env = pure false := by rfl) (hf : X.fn x = true ∨ X.env.scope.names.lookup x = some .local := by first | exact .inl rfl | exact .inr rfl) :
    PS X (.Assign [.Name x p] e pos) (liftS A X.K N (dSetN i tn)) := s_setW (ps_set nd hi hx he hs hf)
/-- targets of a for, of a comprehension -/
theorem gN (i : Nat) {x : Str} (nd : X.N.Nodup) (hi : X.N[i]? = some x := by rfl) (hx : Loc X.env.scope x := by first | exact Or.inl rfl | exact Or.inr rfl) (hf : X.fn x = true ∨ X.env.scope.names.lookup x = some .local := by first | exact .inl rfl | exact .inr rfl) :
    PG X (.Name x pos) (liftG A X.K N [i] (dgN i)) := g_name (pg_name nd hi hx hf)
/-- [..] as a value: it is frozen at once -/
theorem eC {ifs : List Expr} {scope : Scope} (own : List (Str × Nat)) (nd : X.N.Nodup) (hi : PI X tg iter (liftI A X.K N it))
    (hg : ∀ (N : Ent) (s : Shared) (H : Hp) (C : Addr) (cl : List (Str × Addr)) (fp : List Addr), PG (X.blk s H scope (compEnvC scope cl C X.env) fp) tg (liftG A X.K N (own.map (·.2)) g))
    (ht : ∀ (N : Ent) (s : Shared) (H : Hp) (C : Addr) (cl : List (Str × Addr)) (fp : List Addr), PTs (X.blk s H scope (compEnvC scope cl C X.env) fp) ifs (liftT A X.K N tt))
    (he : ∀ (N : Ent) (s : Shared) (H : Hp) (C : Addr) (cl : List (Str × Addr)) (fp : List Addr), PE (X.blk s H scope (compEnvC scope cl C X.env) fp) elt (liftE A X.K N te)) (ok : blkC X.N X.env.scope scope own = true := by kernel_rfl) (hc : X.calm = true := by rfl) (hs : ∀ x, foldedSetIterable iter X.env x = pure x := by intro _; rfl) :
    PE X (.ListComp elt [⟨tg, iter, ifs, 0⟩] scope pos) (liftW A X.K N (nComp it g tt te (own.map (·.2)))) := n_comp nd ok hi hg ht he hc hs
/-- x = [..], x a local, on one line -/
theorem sC (i : Nat) {x : Str} {p : Pos} {ifs : List Expr} {scope : Scope} {spos : Pos} (own : List (Str × Nat)) (nd : X.N.Nodup) (hi : PI X tg iter (liftI A X.K N it))
    (hg : ∀ (N : Ent) (s : Shared) (H : Hp) (C : Addr) (cl : List (Str × Addr)) (fp : List Addr), PG (X.blk s H scope (compEnvC scope cl C X.env) fp) tg (liftG A X.K N (own.map (·.2)) g))
    (ht : ∀ (N : Ent) (s : Shared) (H : Hp) (C : Addr) (cl : List (Str × Addr)) (fp : List Addr), PTs (X.blk s H scope (compEnvC scope cl C X.env) fp) ifs (liftT A X.K N tt))
    (he : ∀ (N : Ent) (s : Shared) (H : Hp) (C : Addr) (cl : List (Str × Addr)) (fp : List Addr), PE (X.blk s H scope (compEnvC scope cl C X.env) fp) elt (liftE A X.K N te)) (hy : X.N[i]? = some x := by rfl) (hyl : X.env.scope.names.lookup x = some .local := by rfl)
    (hsw : swapsWith (.ListComp elt [⟨tg, iter, ifs, 0⟩] scope pos) (some (.Name x p)) spos.line X.env = pure true := by exact sw_true rfl rfl rfl (by decide +kernel))
    (ok : blkC X.N X.env.scope scope own = true := by kernel_rfl) (hc : X.calm = true := by rfl) (hs : ∀ x, foldedSetIterable iter X.env x = pure x := by intro _; rfl) :
    PS X (.Assign [.Name x p] (.ListComp elt [⟨tg, iter, ifs, 0⟩] scope pos) spos) (liftS A X.K N (dSetN i (nComp it g tt te (own.map (·.2))))) :=
  s_setW (PS.impE (ps_setLc hc nd hy hyl hsw hi (blkOk_by ok) (fun s H C cl fp => PG.ex fun N => hg N s H C cl fp) (fun s H C cl fp => PTs.ex fun N => ht N s H C cl fp) (fun s H C cl fp => PE.ex fun N => he N s H C cl fp) hs) lift_comp)
/-- the same, x frozen at once -/
theorem dSetN_fz {i : Nat} : ∀ D ρ s, dSet i (dOfN tn) D ρ s → dSet i (dOfN tn) D ρ s := fun _ _ _ h => h
theorem s_setWf {i : Nat} (h : PS X st (tAsg (liftW A X.K N tn) (gName i))) : PS X st (liftS A X.K N (dSet i (dOfN tn))) := s_imp h fun D σ H ρ s O Dd R E q =>
  ⟨ρ, s, O, _, R, q, fun c s1 p ob H1 O1 q1 R1 le1 hp hh => by
    have R2 := R1.alloc (same_upd (o := ob) hp)
    have le2 := R1.fzle (same_upd (o := ob) hp)
    have W := R2.setFz (i := i) (v := .ref p) (c := .fz c.data) (fun z => z) ⟨_, rfl, (hh.mono le2).rp (fzP_of (R1.fresh hp) upd_same)⟩
    exact E.nx _ s1 _ _ O1 W.1 (le1.trans (le2.trans W.2)) q1⟩
theorem sCf (i : Nat) {x : Str} {p : Pos} {ifs : List Expr} {scope : Scope} {spos : Pos} (own : List (Str × Nat)) (nd : X.N.Nodup) (hi : PI X tg iter (liftI A X.K N it))
    (hg : ∀ (N : Ent) (s : Shared) (H : Hp) (C : Addr) (cl : List (Str × Addr)) (fp : List Addr), PG (X.blk s H scope (compEnvC scope cl C X.env) fp) tg (liftG A X.K N (own.map (·.2)) g))
    (ht : ∀ (N : Ent) (s : Shared) (H : Hp) (C : Addr) (cl : List (Str × Addr)) (fp : List Addr), PTs (X.blk s H scope (compEnvC scope cl C X.env) fp) ifs (liftT A X.K N tt))
    (he : ∀ (N : Ent) (s : Shared) (H : Hp) (C : Addr) (cl : List (Str × Addr)) (fp : List Addr), PE (X.blk s H scope (compEnvC scope cl C X.env) fp) elt (liftE A X.K N te)) (hy : X.N[i]? = some x := by rfl) (hyl : X.env.scope.names.lookup x = some .local := by rfl)
    (hsw : swapsWith (.ListComp elt [⟨tg, iter, ifs, 0⟩] scope pos) (some (.Name x p)) spos.line X.env = pure true := by exact sw_true rfl rfl rfl (by decide +kernel))
    (ok : blkC X.N X.env.scope scope own = true := by kernel_rfl) (hc : X.calm = true := by rfl) (hs : ∀ x, foldedSetIterable iter X.env x = pure x := by intro _; rfl) :
    PS X (.Assign [.Name x p] (.ListComp elt [⟨tg, iter, ifs, 0⟩] scope pos) spos) (liftS A X.K N (dSet i (dOfN (nComp it g tt te (own.map (·.2)))))) :=
  s_setWf (PS.impE (ps_setLc hc nd hy hyl hsw hi (blkOk_by ok) (fun s H C cl fp => PG.ex fun N => hg N s H C cl fp) (fun s H C cl fp => PTs.ex fun N => ht N s H C cl fp) (fun s H C cl fp => PE.ex fun N => he N s H C cl fp) hs) lift_comp)
end
end Dl
/-! The law's own call, made where nothing is being shown (for repr). -/
namespace Dl
open PySem L2 PyProof.Rows PySem.Spec

section
variable {P : Program} {w : World} {K : PySem.W.Frag} {mg : Str → Option Value} {base : Heap}
/-- a def run inside the calls Ar alone -/
def RunAt (P : Program) (w : World) (K : PySem.W.Frag) (mg : Str → Option Value) (base : Heap) (Ar : Around) (f : Addr) (fd : FuncData) (ps : List Str) (sp : Sp) : Prop :=
  ∀ (outer : List PySem.Env) (s : Shared) (H : Hp) (args : Args) (us : List Value) (vs : List V) (Q : VK) (E : XK), Env0 P w K mg base Ar outer s H → BindsTo s fd args (ps.zip us) → Vals vs us → sp vs H Q E →
    codeAny (model P w) Ar (.call (.ref f) args) (CR CX0 outer P w H s Q E) s
theorem run_at {x qual : Str} {st : Stmt} {f : Addr} {fd : FuncData} {N ps : List Str} {k : Nat} {sp : Sp} {Ar : Around} (F : Fun K x qual st f fd) (sc : FnScope N ps (defScope st)) (hr : Room (k + 1) Ar) (len : ∀ vs H Q E, sp vs H Q E → vs.length = ps.length)
    (hb : ∀ (cdv : Value) (outer : List PySem.Env) (s : Shared) (H : Hp) (vs : List V) (Q : VK) (E : XK), Room k (Ar.deeper (PyProof.Rows.envOfC qual (defScope st) s.heap.objs.size f cdv)) → sp vs H Q E →
      ∃ t, PSs (cxOf CX0 P w K mg base N qual (defScope st) f cdv Ar outer s H E).nox (defBody st) t ∧ t { nx := fun _ H' => Q .non H', rt := Q } (L2.start N vs) H) : RunAt P w K mg base Ar f fd ps sp := by
  intro outer s H args us vs Q E e0 bd r h
  obtain ⟨oc, od, kV, doc, pm, an, cdv, ct, osl, rfl, lk, hcd⟩ := F.ex
  have kept : ∀ b o, base.get? b = some o → s.heap.get? b = some o := fun b o e => (e0.bs b o e).1
  have KX : K.In s.heap := e0.mod.kin.keeps kept
  refine codeAny_call_function hr.depth (KX _ _ lk) rfl sc.co sc.gen rfl
    (PySem.W.codeRec_of KX hcd) (bd _ _ _ _ ?_)
  refine wpAny_newFunctionEnv_cells sc.kind (fun y hy => ?_) fun env he s1 ic => ?_
  · rcases sc.par y.1 (List.of_mem_zip (show (y.1, y.2) ∈ ps.zip us from hy)).1 with q | q
    · exact .inl q
    · exact .inr ⟨q, PySem.W.cellsFrom_some _ _ _ (.inl q)⟩
  · subst he
    refine ⟨(e0.mod.nolimit.keeps kept).keeps ic.toInCall.keep, codeAny_func ?_⟩
    obtain ⟨t, ht, q⟩ := hb cdv outer s H vs Q E (hr.deeper _) h
    have I := inv_start (CX := CX0) (E := E) sc hr.hd e0 (len _ _ _ _ h) r ic
    refine wpAny_mono (ht.nox.run [] s1 _ H _ I q) (fun fl s' hs => ?_) fun _ _ z => z
    cases fl with
    | brk => exact hs.elim fun _ z => z.elim fun _ z => z.2.elim
    | cont => exact hs.elim fun _ z => z.elim fun _ z => z.2.elim
    | next =>
      obtain ⟨σ', H', J, q⟩ := hs
      exact ⟨.non, H', J.os, J.bare, J.base, J.hok, rfl, q⟩
    | ret u =>
      obtain ⟨v, σ', H', J, rv, q⟩ := hs
      exact ⟨v, H', J.os, J.bare, J.base, J.hok, rv, q⟩
end

section
variable {P : Program} {w : World} {K : PySem.W.Frag} {mg mb : Str → Option Value} {fa a : Addr} {fd : FuncData} {x : Str} {sp : Sp} {s1 : Shared} {vs : List Value} {ns : List Int}
theorem ints_vals (h : PyProof.Rows.IntsAre vs ns) : Vals (ns.map V.int) vs := L2.vals_ints h
/-- from the def at the law's place in the calls to the law's call -/
theorem call_at (KX : K.In s1.heap) (hns : s1.heap.Ns mainGlobals mg) (hb : s1.heap.Ns builtinsNs mb) (hbb : ∀ x : Str, x ≠ "__name__" → mb x = bootBuiltins x) (hlim : s1.heap.NoLimit) (hg : s1.gens = #[])
    (ha : s1.heap.get? a = some { cls := .type "list", data := .seq vs.toArray }) (hi : PyProof.Rows.IntsAre vs ns) (hl : ns.length ≤ sizeLine)
    (F : ∀ base : Heap, K.In base → base.Ns mainGlobals mg → RunAt P w K mg base callerA fa fd [x] sp) (hbind : ∀ (s : Shared) (u : Value), BindsTo s fd ⟨[u], []⟩ [(x, u)])
    (hsp : ∀ H : Hp, Only H → SqL K H a (ns.map V.int) → sp [.ref a] H (fun v _ => v = .bl true) fun _ _ _ => False) :
    codeAny (model P w) callerA (.call (.ref fa) ⟨[.ref a], []⟩) (fun r s' => r = .ok (.ret (.bool true)) ∧ OldK s1.heap s'.heap ∧ s'.os = s1.os ∧ AllBare s'.gens) s1 := by
  have lv := hi.length
  have go : ∀ H : Hp, Only H → SqL K H a (ns.map V.int) → HOk P w H s1.heap → (∀ b u, H b = some u → b = a ∧ K.lookup a = none) →
      codeAny (model P w) callerA (.call (.ref fa) ⟨[.ref a], []⟩) (fun r s' => r = .ok (.ret (.bool true)) ∧ OldK s1.heap s'.heap ∧ s'.os = s1.os ∧ AllBare s'.gens) s1 := by
    intro H hO hS hok hA
    have free : ∀ {b : Addr} {o : Obj}, s1.heap.get? b = some o → (b = a → K.lookup a ≠ none ∨ ∀ q : Array Value, ∀ n, o.data ≠ .seq q n) → H b = none := fun {b o} e h => by
      cases q : H b with
      | none => rfl
      | some u =>
        obtain ⟨e1, e2⟩ := hA b u q
        rcases h e1 with z | z
        · exact (z e2).elim
        · subst e1
          rw [ha] at e
          cases e
          exact (z _ _ rfl).elim
    have ns' : ∀ {b : Addr} {m : Str → Option Value}, s1.heap.Ns b m → (hidT s1.heap H).Ns b m := fun {b m} ⟨o, es, ep, e, d, r⟩ =>
      ⟨o, es, ep, hidT_get e (free e fun _ => .inr fun q n z => by rw [d] at z; cases z), d, r⟩
    have kin : K.In (hidT s1.heap H) := fun b o e => hidT_get (KX b o e) (free (KX b o e) fun z => .inl (by subst z; rw [e]; simp))
    obtain ⟨mc, l1, l2⟩ := hlim
    have e0 : Env0 P w K mg (hidT s1.heap H) callerA [] s1 H :=
      ⟨rfl, ⟨kin, ns' hns, ⟨mb, ns' hb, hbb⟩, mc, ns' l1, l2⟩, fun b o e => of_hidT e, Nat.le_of_eq (hidT_size _ _), trivial, fun b z => absurd z (List.not_mem_nil), hok, .of_eq hg⟩
    refine codeAny_mono (F _ kin (ns' hns) [] s1 H ⟨[.ref a], []⟩ [.ref a] [.ref a] _ _ e0 (hbind s1 (.ref a)) (.cons rfl .nil) (hsp H hO hS)) fun r s' h => ?_
    cases r with
    | error e => exact False.elim h
    | ok fl =>
      cases fl with
      | next => exact False.elim h
      | brk => exact False.elim h
      | cont => exact False.elim h
      | ret u =>
        obtain ⟨v, H', os, bare, un, hok', r', q⟩ := h
        cases q
        cases r'
        refine ⟨rfl, OldK.of_keep fun b o e => ?_, os, bare⟩
        rcases hO b with z | ⟨ob, xs, z⟩
        · exact un.keep b o e z (fun w => absurd w (List.not_mem_nil)) (fun w => absurd w (List.not_mem_nil))
        · have e1 := (hok b _ z).1
          rw [e] at e1
          cases e1
          exact (hok' b _ (un.frzs b _ _ z)).1
  cases hk : K.lookup a with
  | some o =>
    have e := KX a o hk
    rw [ha] at e
    cases e
    exact go (fun _ => none) (fun _ => .inl rfl) (.inr ⟨_, vs.toArray, _, hk, rfl, rfl, rfl, by rw [List.size_toArray, lv]; exact hl, by simpa using ints_vals hi⟩) (fun b u z => by cases z) fun b u z => by cases z
  | none =>
    have at_ : ∀ {b : Addr} {u : HO}, (if b = a then some (HO.frz { cls := .type "list", data := .seq vs.toArray } (.lst (ns.map V.int))) else none) = some u → b = a ∧ u = .frz { cls := .type "list", data := .seq vs.toArray } (.lst (ns.map V.int)) := fun {b u} z => by
      by_cases e : b = a
      · rw [if_pos e] at z; cases z; exact ⟨e, rfl⟩
      · rw [if_neg e] at z; cases z
    refine go (fun b => if b = a then some (.frz { cls := .type "list", data := .seq vs.toArray } (.lst (ns.map V.int))) else none) (fun b => ?_) (.inl (.inr ⟨_, if_pos rfl⟩)) (fun b u z => ?_) fun b u z => ⟨(at_ z).1, hk⟩
    · by_cases e : b = a
      · exact .inr ⟨_, _, if_pos e⟩
      · exact .inl (if_neg e)
    · obtain ⟨rfl, rfl⟩ := at_ z
      exact ⟨ha, by rw [List.length_map]; exact hl, vs, _, ints_vals hi, ha⟩
end
/-- the goal that the head leaves -/
theorem walk_at {l : PySem.W.OpenLaw} {n : Nat} {q : Program} {loose : List Str} {XP : (Str → Option Value) → Heap → Prop} {YP : World → Heap → Prop} {d : DefRec} {K : Params → PySem.W.Frag} {sp : PySem.W.Frag → Sp} {x : Str}
    (hn : l.most = some n) (hn2 : n ≤ sizeLine) (hdf : d.params.defaults = []) (hY : ∀ (w : World) (h : Heap), YP w h → (K w.params).In h)
    (F : ∀ (w : World) (mg : Str → Option Value) (fa : Addr) (h : Heap), (K w.params).In h → h.Ns mainGlobals mg → mg d.name = some (.ref fa) →
      ∃ fd : FuncData, (∀ (s : Shared) (u : Value), BindsTo s fd ⟨[u], []⟩ [(x, u)]) ∧
        ∀ base : Heap, (K w.params).In base → base.Ns mainGlobals mg → RunAt l.prog w (K w.params) mg base callerA fa fd [x] (sp (K w.params)))
    (hsp : ∀ (K : PySem.W.Frag) (H : Hp) (a : Addr) (ns : List Int), ns.length ≤ n → Only H → SqL K H a (ns.map V.int) → sp K [.ref a] H (fun v _ => v = .bl true) fun _ _ _ => False) :
    PySem.W.WalkO q loose XP YP l.row.toRowW d [] (fun f vs => PySem.call f vs) := by
  refine Att.attach_call hn hdf fun w s0 s1 mg mb fa o pm cd doc a vs ns G Y ho hd hcd hmg hobj hints hlen hg => ?_
  have KX := hY w _ Y
  obtain ⟨fd, hb, hF⟩ := F w mg fa _ KX G.T.g hmg
  exact call_at KX G.T.g G.T.b G.T.builtins G.T.nolimit hg hobj hints (Nat.le_trans hlen hn2) hF hb fun H hO hS => hsp _ H a ns hlen hO hS
end Dl
/-! sorted of a list, a tuple of data, empty tuples among them too. -/
namespace Dl
open PySem L2 PySem.W PyProof.Rows PySem.SeqAt

section
variable {prog : Program} {w : World} {A : Around} {E : Value → Shared → Prop} {s : Shared}
/-- a tuple against a tuple, where all keys are of one type -/
theorem oneLt_tup {xs ys : List PyData} {a b : Value} {as bs : List Addr} {Q : Bool → Shared → Prop} (ra : Reads s.heap a (.tuple xs) as) (rb : Reads s.heap b (.tuple ys) bs) (hal : alikeAll xs ys = true)
    (hu : A.units + min (PyData.tuple xs).depth (PyData.tuple ys).depth < cLine) (hq : Q (dataLt (.tuple xs) (.tuple ys)) s) : wpAny (model prog w) A (oneLt' true a b) Q E s := by
  cases ra with
  | @tuple l o vs n _ as1 h1 h2 h3 h4 =>
    cases rb with
    | @tuple l' o' vs' n' _ bs1 k1 k2 k3 k4 =>
      have n1 : vs.size = xs.length := by simpa using ReadsAll.length _ _ _ h4
      have n2 : vs'.size = ys.length := by simpa using ReadsAll.length _ _ _ k4
      rw [dataLt_tuple, ← firstLt_toks xs ys hal, ← n1, ← n2] at hq
      obtain ⟨cls, dd, data, sl⟩ := o
      obtain ⟨cls2, dd2, data2, sl2⟩ := o'
      simp only at h2 h3 k2 k3
      subst h2 h3 k2 k3
      rw [oneLt'_eq]
      simp only [if_true]
      refine wpAny_bind (wpAny_cRoomFor (room_here hu) (wpAny_bind ?_))
      refine wpAny_callSpecialIfBound?_slot (T := "tuple") ⟨_, h1, rfl⟩ F.slot_tuple_lt (call_meets F.slot_tuple_lt ⟨_, h1, rfl⟩ F.entry_tuple_lt (F.args_tuple_lt_2 _ _)
        (tuple_ltAt l l' vs vs' n n' dd dd2 sl sl2 (pairEq xs ys) fun j => dataLt (xs.getD j .none) (ys.getD j .none)) ⟨h1, k1, fun j j1 j2 => ?_, fun j j1 j2 hj => ?_, ?_⟩)
      · have q := eqAt_alikeAll xs ys A.in1 s vs.toList vs'.toList _ _ h4 k4 hal (room_in hu) j (by simpa using j1) (by simpa using j2)
        simpa using q
      · have q := rcLt_alikeAll xs ys A.in1 s vs.toList vs'.toList _ _ h4 k4 hal (room_in hu) j (by simpa using j1) (by simpa using j2) hj
        simpa using q
      · exact wpAny_truthy_bool hq
/-- the kind's comparison, for alike data none of which is None -/
theorem oneLt_any {f : Bool} {da db : PyData} {a b : Value} {as bs : List Addr} {Q : Bool → Shared → Prop} (ra : Reads s.heap a da as) (rb : Reads s.heap b db bs) (h : alike da db = true) (hn : da ≠ .none)
    (hu : A.units + min da.depth db.depth < cLine) (hq : Q (dataLt da db) s) : wpAny (model prog w) A (oneLt' f a b) Q E s := by
  by_cases ht : ∃ xs, da = .tuple xs
  · obtain ⟨xs, rfl⟩ := ht
    cases f with
    | false => exact oneLt_alike (fun z => nomatch z) ra rb h hn hu hq
    | true =>
      cases db with
      | tuple ys => exact oneLt_tup ra rb (by simpa [alike] using h) hu hq
      | _ => exact absurd h (by simp [alike])
  · exact oneLt_alike (fun _ xs e => ht ⟨xs, e⟩) ra rb h hn hu hq
/-- a tuple with items -/
def fullT : PyData → Bool
  | .tuple (_ :: _) => true
  | _ => false
/-- the first items of tuples, the empty ones without -/
theorem firsts_any : ∀ {vs : List Value} {ds : List PyData} {Q : List (Option Value) → Shared → Prop}, EachIs (fun v d => ∃ as, Reads s.heap v d as) vs ds → (∀ d ∈ ds, ∃ xs, d = PyData.tuple xs) →
    (∀ fs : List (Option Value), fs.map Option.isSome = ds.map fullT → Q fs s) → wpAny (model prog w) A (vs.mapM firstOfTuple') Q E s
  | _, _, Q, .nil, _, h => by
    rw [List.mapM_nil]
    exact wpAny_pure (h [] rfl)
  | _, _, Q, .cons (b := d) (bs := ds) ⟨as, r⟩ t, ht, h => by
    obtain ⟨xs, rfl⟩ := ht d (List.mem_cons_self ..)
    cases r with
    | @tuple a o items n _ _ ho hc hd hr =>
      rw [List.mapM_cons]
      refine wpAny_bind ?_
      rw [kas_first_eq]
      refine wpAny_bind (Looks.here (show Looks (model prog w) s.heap (typeOf (.ref a)) o.cls from (Looks.ld ho).andThen .now) ?_)
      rw [hc, if_neg (by first | decide | simp)]
      refine wpAny_bind (listItems_at ho hd (wpAny_pure ?_))
      refine wpAny_bind (firsts_any (Q := fun bs s' => wpAny (model prog w) A (pure (items[0]? :: bs)) Q E s') t (fun d hd => ht d (List.mem_cons_of_mem _ hd)) fun fs hl => wpAny_pure (h _ ?_))
      rw [List.map_cons, List.map_cons, hl]
      congr 1
      cases xs with
      | nil =>
        have z : items.toList = [] := by cases hq : items.toList with
          | nil => rfl
          | cons x r => rw [hq] at hr; cases hr
        have z' : items = #[] := by simpa using z
        rw [z']
        rfl
      | cons x r =>
        have z : items[0]?.isSome = true := by
          have q := ReadsAll.length _ _ _ hr
          rw [← Array.getElem?_toList]
          cases hq : items.toList with
          | nil => rw [hq] at q; cases q
          | cons x r => rfl
        exact z
/-- keys of one kind can be sorted, empty tuples too -/
theorem sortsAt_any {vs : List Value} {ds : List PyData} (e : EachIs (fun v d => ∃ as, Reads s.heap v d as) vs ds) (hal : AllAlike ds) (hn : ∀ d ∈ ds, d ≠ .none) (hu : ∀ d, d ∈ ds → A.units + d.depth < cLine) : SortsAt prog w A s (dataKind s.heap ds) vs := by
  by_cases hk : Sortable ds
  · exact SortsAt.data e hal hk hu
  -- all are tuples, one at least is empty
  have ht : ∃ xs, PyData.tuple xs ∈ ds := by
    by_cases z : ∃ xs, PyData.tuple xs ∈ ds
    · exact z
    · exact (hk (.inr fun d hd => ⟨hn d hd, fun xs q => z ⟨xs, q ▸ hd⟩⟩)).elim
  obtain ⟨xs0, hx0⟩ := ht
  have tups : ∀ d ∈ ds, ∃ xs, d = PyData.tuple xs := fun d hd => by
    have q := hal _ hx0 d hd
    cases d with
    | tuple xs => exact ⟨xs, rfl⟩
    | _ => exact absurd q (by simp [alike])
  have he0 : PyData.tuple [] ∈ ds := by
    by_cases z : PyData.tuple [] ∈ ds
    · exact z
    · refine (hk (.inl fun d hd => ?_)).elim
      obtain ⟨xs, rfl⟩ := tups d hd
      cases xs with
      | cons x r => exact ⟨x, r, rfl⟩
      | nil => exact (z hd).elim
  have lt : ∀ f : Bool, ∀ (E : Value → Shared → Prop) (x y : Value) (a b : (dataKind s.heap ds).α) {Q : Bool → Shared → Prop}, (dataKind s.heap ds).keyOf x = some a → (dataKind s.heap ds).keyOf y = some b → Q ((dataKind s.heap ds).blt a b) s → wpAny (model prog w) A (oneLt' f x y) Q E s := by
    intro f E x y a b Q ha hb hq
    obtain ⟨d, as, hd, ra, rfl⟩ := dataKind_inv ha
    obtain ⟨d', as', hd', rb, rfl⟩ := dataKind_inv hb
    exact oneLt_any ra rb (hal d hd d' hd') (hn d hd) (Nat.lt_of_le_of_lt (Nat.add_le_add_left (Nat.min_le_left _ _) _) (hu d hd)) hq
  refine ⟨fun v hv => ?_, ?_⟩
  · obtain ⟨d, hd, as, r⟩ := e.left v hv
    exact ⟨_, dataKind_some hal hd r⟩
  -- which kind it is hangs on the first key
  have kindOf : ∀ kd : SortKind, (kd = general' ∨ kd = oneType') → H.LtAt prog w A s (dataKind s.heap ds) kd := by
    rintro kd (rfl | rfl)
    · exact fun E x y a b Q ha hb hq => lt false E x y a b ha hb hq
    · exact fun E x y a b Q ha hb hq => by
        rw [keyLt'_oneType]
        exact lt true E x y a b ha hb hq
  have notAll : ∀ fs : List (Option Value), fs.map Option.isSome = ds.map fullT → ¬ (fs.toArray.all fun x => x.isSome) = true := fun fs e1 e2 => by
    rw [List.all_toArray] at e2
    have e3 : ds.all fullT = true := by
      have q : (fs.map Option.isSome).all id = true := by rw [List.all_map]; exact e2
      rw [e1, List.all_map] at q
      exact q
    exact absurd (List.all_eq_true.mp e3 _ he0) (by simp [fullT])
  have looks : ∀ v ∈ vs, Looks (model prog w) s.heap (typeOf v) (Value.type "tuple") := fun v hv => by
    obtain ⟨d, hd, as, r⟩ := e.left v hv
    obtain ⟨xs, rfl⟩ := tups d hd
    exact looks_reads r
  cases hd0 : ds.map fullT with
  | nil => rw [List.map_eq_nil_iff] at hd0; rw [hd0] at he0; cases he0
  | cons b0 rest =>
    refine ⟨if b0 = true then general' else oneType', kindOf _ (by split <;> simp), fun h2 E Q hq => ?_⟩
    rw [keyKind'_eq, List.mapM_toArray, map_eq_pure_bind]
    refine wpAny_bind (wpAny_bind (firsts_any (E := E) e tups fun fs hf => wpAny_pure ?_))
    rw [if_neg (notAll fs hf)]
    rw [hd0] at hf
    cases fs with
    | nil => cases hf
    | cons f0 fr =>
      rw [List.map_cons] at hf
      obtain ⟨hf0, _⟩ := List.cons.inj hf
      have e0 : (((f0 :: fr).toArray[0]?).bind id).isSome = b0 := by rw [← hf0]; rfl
      cases b0 with
      | true =>
        rw [if_pos e0]
        exact wpAny_pure hq
      | false =>
        rw [if_neg (by rw [e0]; exact Bool.false_ne_true)]
        rw [oneTypeOnly'_eq, List.mapM_toArray, map_eq_pure_bind]
        refine wpAny_bind (wpAny_bind (wpAny_bind (kas_mapM (r := Value.type "tuple") _ (fun v hv Q' hq => (looks v hv).here hq) (wpAny_pure ?_))))
        have hall : ((List.map (fun _ => Value.type "tuple") vs).toArray.all fun x => x == Value.type "tuple") = true := by
          simp only [List.all_toArray, List.all_map, List.all_eq_true]
          intro _ _
          rfl
        have h0 : (List.map (fun _ => Value.type "tuple") vs).toArray[0]? = some (Value.type "tuple") := by
          cases vs with
          | nil => simp at h2
          | cons v vs => simp
        rw [h0]
        simp only [hall, if_true]
        exact wpAny_pure (wpAny_pure hq)

/-- sorted of a list, a tuple: a new list -/
theorem sorted_seq {κ : Heap → PyProof.Rows.KeyKind} {l : Addr} {T : String} {o : Obj} {items : Array Value} {n : Nat} {Q : Value → Shared → Prop} (hT : T = "list" ∨ T = "tuple") (ho : s.heap.get? l = some o) (hc : o.cls = .type T) (hd : o.data = .seq items n) (hL : items.size ≤ sizeLine)
    (S : ∀ h' : Heap, (∀ b u, s.heap.get? b = some u → h'.get? b = some u) → SortsAt prog w A.in1.in1 { s with heap := sortingHeap (h'.push (seqObj "list" items 0)) h'.objs.size items.toList } (κ (sortingHeap (h'.push (seqObj "list" items 0)) h'.objs.size items.toList)) items.toList)
    (h : ∀ h' : Heap, (∀ b u, s.heap.get? b = some u → h'.get? b = some u) → Q (.ref h'.objs.size) { s with heap := sortedHeap (h'.push (seqObj "list" items 0)) h'.objs.size items.toList (sortVals (κ (sortingHeap (h'.push (seqObj "list" items 0)) h'.objs.size items.toList)) false items.toList items.toList).toArray }) :
    wpAny (model prog w) A (call (.builtin "sorted") [.ref l]) Q E s := by
  refine PyProof.Rows.call_function_entry_kw kind_sorted plain_sorted entry_sorted (args_sorted1 _) ?_
  unfold Builtin.«sorted»
  refine wpAny_bind (m := checkCount "sorted" 1 1 _) (wpAny_pure ?_)
  refine wpAny_bind (wpAny_collect_seq (hsz := hL) l hT ho hc hd fun h' hk => ?_)
  refine wpAny_bind (wpAny_newList ?_ (by rw [Array.length_toList]; exact hL))
  have eb : items.toList.toArray = items := by simp
  have at_ : (h'.push (seqObj "list" items 0)).get? h'.objs.size = some (seqObj "list" items.toList.toArray 0) := by
    rw [eb]
    exact Heap.get?_push_size _ rfl
  show wpAny _ _ _ _ _ { s with heap := h'.push (seqObj "list" items.toList.toArray 0) }
  rw [eb]
  refine wpAny_bind (wpAny_holding (wpAny_call_entry_kw slot_list_sort ⟨_, at_, rfl⟩ entry_list_sort ?body (args_list_sort _)))
  case body =>
    show wpAny (model prog w) A.in1.in1 (Builtin.«list.sort» ⟨[.ref h'.objs.size], []⟩) _ _ _
    refine wpAny_mono (list_sort_vals (E := E) (P := fun f s' => f = .done (.ret .none) ∧ Q (.ref h'.objs.size) s') (s := { s with heap := h'.push (seqObj "list" items 0) }) at_ (S h' hk) (by rw [Array.length_toList]; exact hL) ⟨rfl, h h' hk⟩) (fun f s' hf => ?_) fun _ _ e => e
    obtain ⟨rfl, hq⟩ := hf
    exact ⟨_, rfl, wpAny_pure ⟨_, rfl, hq⟩⟩
end
/-- what sorted does, over data -/
def rSortedD (K : PySem.W.Frag) : List V → Hp → VK → Prop := fun vs H Q => ∃ (a : Addr) (xs : List V) (ds : List PyData), vs = [V.ref a] ∧ (SqL K H a xs ∨ SqT K H a xs) ∧ DpAll K H xs ds ∧ AllAlike ds ∧ (∀ d ∈ ds, d ≠ .none ∧ d.depth ≤ 60) ∧
  ∀ (ps : List (V × PyData)) (p : Addr), ps.Perm (xs.zip ds) → ps.map (·.2) = ds.mergeSort (dataLe false id) → H p = none → Q (.ref p) (upd H p (.lst (ps.map (·.1))))
theorem map_snd_zip {α β : Type} : ∀ {xs : List α} {ys : List β}, xs.length = ys.length → (xs.zip ys).map (·.2) = ys
  | [], [], _ => rfl
  | x :: xs, y :: ys, h => by
    rw [List.zip_cons_cons, List.map_cons, map_snd_zip (by simpa using h)]
theorem map_fst_zip {α β : Type} : ∀ {xs : List α} {ys : List β}, xs.length = ys.length → (xs.zip ys).map (·.1) = xs
  | [], [], _ => rfl
  | x :: xs, y :: ys, h => by
    rw [List.zip_cons_cons, List.map_cons, map_fst_zip (by simpa using h)]
theorem each_zip : ∀ {xs : List V} {vs : List Value} {ds : List PyData}, Vals xs vs → xs.length = ds.length → EachIs (fun u (p : V × PyData) => RelV p.1 u) vs (xs.zip ds)
  | _, _, [], .nil, _ => .nil
  | _, _, d :: ds, .cons r t, h => .cons r (each_zip t (by simpa using h))
theorem each_fst : ∀ {vs : List Value} {ps : List (V × PyData)}, EachIs (fun u (p : V × PyData) => RelV p.1 u) vs ps → Vals (ps.map (·.1)) vs
  | _, _, .nil => .nil
  | _, _, .cons r t => .cons r (each_fst t)
theorem cr_sortedD {X : Cx} (hu : X.A.units + 64 < cLine) : CallR X (.builtin "sorted") (rSortedD X.K) := by
  intro pins s σ H vs us Q I r h
  obtain ⟨a, xs, ds, rfl, hs, hd, hal, hn, q⟩ := h
  rw [Vals.ref1 r]
  obtain ⟨T, o, items, n, hT, ho, hc, hdt, rv, hz⟩ : ∃ T o, ∃ items : Array Value, ∃ n, (T = "list" ∨ T = "tuple") ∧ s.heap.get? a = some o ∧ o.cls = .type T ∧ o.data = .seq items n ∧ Vals xs items.toList ∧ xs.length ≤ sizeLine := by
    rcases hs with hs | hs
    · obtain ⟨its, rv, ⟨o, n, ho, hc, _, hd⟩, hz⟩ := I.list hs
      exact ⟨"list", o, _, n, .inl rfl, ho, hc, hd, rv, hz⟩
    · obtain ⟨its, rv, ⟨o, ho, hc, n, hd⟩, hz⟩ := I.tuple hs
      exact ⟨"tuple", o, _, n, .inr rfl, ho, hc, hd, rv, hz⟩
  obtain ⟨as, ra⟩ := Dp.readsAll I ds _ _ hd rv
  have hl : items.size = xs.length := by rw [← Array.length_toList, ← rv.length]
  have hl2 : xs.length = ds.length := by
    have e1 := ReadsAll.length _ _ _ ra
    rw [Array.length_toList] at e1
    omega
  have er0 := readsAll_each id (bs := ds) (by rw [List.map_id]; exact ra)
  have keepS : ∀ h' : Heap, (∀ b u, s.heap.get? b = some u → h'.get? b = some u) → ∀ b u, s.heap.get? b = some u → (sortingHeap (h'.push (seqObj "list" items 0)) h'.objs.size items.toList).get? b = some u := fun h' hk b u e =>
    sortingHeap_old (Nat.ne_of_lt (Heap.lt_size (hk b u e))) (Heap.get?_push_of_some _ (hk b u e))
  have er : ∀ h' : Heap, (∀ b u, s.heap.get? b = some u → h'.get? b = some u) → EachIs (fun v d => ∃ as, Reads (sortingHeap (h'.push (seqObj "list" items 0)) h'.objs.size items.toList) v (id d) as) items.toList ds := fun h' hk => er0.mono fun _ _ ⟨as, r⟩ => ⟨as, PyProof.Rows.Reads.keeps (keepS h' hk) r⟩
  refine sorted_seq (κ := fun h => dataKind h ds) hT ho hc hdt (by omega) (fun h' hk => sortsAt_any (er h' hk) hal (fun d m => (hn d m).1) fun d m => ?_) fun h' hk => ?_
  · have q1 := (hn d m).2
    have q2 : X.A.in1.in1.units = X.A.units + 2 := rfl
    rw [q2]
    omega
  · have e0 := each_zip rv hl2
    have er' : EachIs (fun v (p : V × PyData) => ∃ as, Reads (sortingHeap (h'.push (seqObj "list" items 0)) h'.objs.size items.toList) v p.2 as) items.toList (xs.zip ds) :=
      each_of_map (fun p : V × PyData => p.2) (R := fun v d => ∃ as, Reads (sortingHeap (h'.push (seqObj "list" items 0)) h'.objs.size items.toList) v d as) (by rw [map_snd_zip hl2]; exact er h' hk)
    have out := sortVals_data (enc := fun p : V × PyData => p.2) false e0 er' (by rw [map_snd_zip hl2]; exact hal)
    rw [show (xs.zip ds).map (fun p : V × PyData => p.2) = ds from map_snd_zip hl2] at out
    have hv := each_fst out
    obtain ⟨ep, he'⟩ := PyProof.Rows.sortedHeap_at (h := h'.push (seqObj "list" items 0)) (vs := items.toList) (n := 0) (out := (sortVals (dataKind (sortingHeap (h'.push (seqObj "list" items 0)) h'.objs.size items.toList) ds) false items.toList items.toList).toArray) (a := h'.objs.size) (by
      have eb : items.toList.toArray = items := by simp
      rw [eb]
      exact Heap.get?_push_size _ rfl)
    have hn1 : s.heap.get? h'.objs.size = none := by
      cases e : s.heap.get? h'.objs.size with
      | none => rfl
      | some u => exact absurd (Heap.lt_size (hk _ _ e)) (Nat.lt_irrefl _)
    have hn2 : H h'.objs.size = none := (I.hok.kept hk).fresh (Nat.le_refl _)
    refine ⟨.ref _, upd H h'.objs.size (.lst _), I.laidN (t' := s.toks) (fun b u e => ?_) hn1 hn2 ⟨?_, _, ep, hv, he'⟩, rfl, q _ _ (List.mergeSort_perm _ _) ?_ hn2⟩
    · rw [PyProof.Rows.sortedHeap_old (Nat.ne_of_lt (Heap.lt_size (hk b u e))) (Nat.lt_of_lt_of_le (Heap.lt_size (hk b u e)) (by rw [size_push']; omega))]
      exact Heap.get?_push_of_some _ (hk b u e)
    · rw [List.length_map, (List.mergeSort_perm _ _).length_eq, List.length_zip]
      omega
    · rw [List.map_mergeSort (r := dataLe false (fun p : V × PyData => p.2)) (s := dataLe false id) (fun a _ b _ => rfl), map_snd_zip hl2]
end Dl
/-! sorted, repr, == over data; what is not yet there of defs. -/
namespace Dl
open PySem L2

/-- sorted(xs), a new list -/
def gSorted : List D → (Cell → Prop) → Prop := fun xs k => match xs with
  | [.list ds] => PyData.canLayAll0 ds = true ∧ PySem.W.AllAlike ds ∧ (∀ d ∈ ds, d ≠ .none ∧ d.depth ≤ 60) ∧ k (.ol (ds.mergeSort (PySem.W.dataLe false id)))
  | [.tuple ds] => PyData.canLayAll0 ds = true ∧ PySem.W.AllAlike ds ∧ (∀ d ∈ ds, d ≠ .none ∧ d.depth ≤ 60) ∧ k (.ol (ds.mergeSort (PySem.W.dataLe false id)))
  | _ => False
theorem RpL.pairs {K : PySem.W.Frag} {F : Hp} : ∀ {ps : List (V × D)}, (∀ p ∈ ps, Rp K F p.1 p.2) → RpL K F (ps.map (·.1)) (ps.map (·.2))
  | [], _ => .nil
  | p :: ps, h => .cons (h p (List.mem_cons_self ..)) (RpL.pairs fun q m => h q (List.mem_cons_of_mem _ m))
theorem RpL.of_zip {K : PySem.W.Frag} {F : Hp} : ∀ {vs : List V} {ds : List D}, RpL K F vs ds → ∀ p ∈ vs.zip ds, Rp K F p.1 p.2
  | _, _, .nil, p, h => by simp at h
  | _, _, .cons r t, p, h => by
    rw [List.zip_cons_cons] at h
    rcases List.mem_cons.mp h with rfl | h
    · exact r
    · exact RpL.of_zip t p h
section
variable {X : Cx}
theorem dw_sorted : DRNW X.K (rSortedD X.K) gSorted := fun H P xs ds k Q dm b f kk => by
  unfold gSorted at f
  split at f
  · obtain ⟨v, rfl, b1⟩ := b.one
    obtain ⟨a, vs, rfl, s1, r1⟩ := b1.list fzP_le
    refine ⟨a, vs, _, rfl, .inl (SqL.of s1), (r1.mono fzP_le).dp _ _ f.1, f.2.1, f.2.2.1, fun ps p h1 h2 hp => kk p _ _ hp (.ol (ds := ps.map (·.2)) (RpL.pairs fun q m => r1.of_zip q (h1.mem_iff.mp m))) (by rw [h2]; exact f.2.2.2)⟩
  · obtain ⟨v, rfl, b1⟩ := b.one
    obtain ⟨a, vs, rfl, s0, s1, r1⟩ := b1.tup fzP_le
    refine ⟨a, vs, _, rfl, .inr s1, (r1.mono fzP_le).dp _ _ f.1, f.2.1, f.2.2.1, fun ps p h1 h2 hp => kk p _ _ hp (.ol (ds := ps.map (·.2)) (RpL.pairs fun q m => r1.of_zip q (h1.mem_iff.mp m))) (by rw [h2]; exact f.2.2.2)⟩
  · exact f.elim
/-- repr(x), where nothing is being shown -/
def fRepr : FN := fun xs k => match xs with
  | [d] => d.canLay0 = true ∧ d.showable = true ∧ d.depth ≤ 60 ∧ d.shown.length ≤ sizeLine ∧ k (.str d.shown)
  | _ => False
def rReprD (K : PySem.W.Frag) : List V → Hp → VK → Prop := fun vs H Q => ∃ v d, vs = [v] ∧ Dp K H v d ∧ d.canLay0 = true ∧ d.showable = true ∧ d.depth ≤ 60 ∧ d.shown.length ≤ sizeLine ∧ Q (.str d.shown) H
theorem cr_repr (hg : X.A.guards = some []) (hu : X.A.units + 64 < cLine) : CallR X (.builtin "repr") (rReprD X.K) := by
  intro pins s σ H vs us Q I r h
  obtain ⟨v, d, rfl, hd, hl, hs, hz, hn, q⟩ := h
  cases r with
  | cons r t =>
    cases t
    rename_i u
    obtain ⟨as, ra⟩ := Dp.reads I d v u hd r
    have isref : ∀ a : Addr, u = .ref a → wpAny (model X.prog X.w) X.A (PySem.call (.builtin "repr") [u]) (fun u' s' => ∃ v' H', Inv X pins σ H' s' ∧ RelV v' u' ∧ Q v' H') X.xe s := fun a e => by
      subst e
      exact repr_of_reads' ra hs (PyData.noDict_hsm (PyData.hasDict_of_canLay d hl)) hg (by omega) (fun _ _ e => e) (fun h' u tk hk => ⟨.str d.shown, H, I.kept (t' := tk) hk, ⟨_, rfl⟩, q⟩) hn
    cases d with
    | none =>
      cases ra
      exact PySem.P.repr_of_none ⟨.str "None", H, I.tok _, ⟨_, rfl⟩, q⟩
    | bool b =>
      cases ra
      exact PySem.P.repr_of_bool ⟨.str (if b then "True" else "False"), H, I.tok _, ⟨_, rfl⟩, q⟩
    | int i =>
      cases ra
      exact PySem.P.repr_of_int (of_decide_eq_true hs) ⟨.str (toString i), H, I.tok _, ⟨_, rfl⟩, q⟩
    | str x =>
      cases ra
      exact PySem.P.repr_of_str ⟨.str (reprText x), H, I.tok _, ⟨_, rfl⟩, q⟩ hn
    | list xs => cases ra; exact isref _ rfl
    | tuple xs => cases ra; exact isref _ rfl
    | dict xs => simp [PyData.canLay0] at hl
theorem dn_repr : DRN X.K (rReprD X.K) fRepr := fun H P xs ds k Q dm b f kk => by
  unfold fRepr at f
  split at f
  · obtain ⟨v, rfl, b1⟩ := b.one
    exact ⟨_, _, rfl, b1.dp fzP_le f.1, f.1, f.2.1, f.2.2.1, f.2.2.2.1, kk _ H _ (Same.refl _) (.str _) f.2.2.2.2⟩
  · exact f.elim
/-! ### == and != -/
def twoS : D → D → Bool
  | .str _, .str _ => true
  | _, _ => false
def eqOk (x y : D) : Prop := (twoS x y || (SeqAt.shaped x && SeqAt.shaped y)) = true
def fEqU : F2 := fun x y k => eqOk x y ∧ k (.bool (PyData.eqv x y))
def fNeU : F2 := fun x y k => eqOk x y ∧ k (.bool (!PyData.eqv x y))
def rEqU (K : PySem.W.Frag) : R2 := fun x y H Q => rEqD K x y H Q ∨ rEq x y H Q
def rNeU (K : PySem.W.Frag) : R2 := fun x y H Q => rNeD K x y H Q ∨ rNe x y H Q
theorem eqv_str (a b : Str) : PyData.eqv (.str a) (.str b) = decide (V.str a = V.str b) := by
  rw [Bool.eq_iff_iff]
  simp [PyData.eqv]
theorem dr_eqU : DR2 X.K (rEqU X.K) fEqU := fun H P x y dx dy k Q dm bx by_ f kk => by
  obtain ⟨ok, q⟩ := f
  by_cases h : twoS dx dy = true
  · cases dx <;> cases dy <;> first | (simp [twoS] at h; done) | skip
    rw [bx.str, by_.str]
    refine .inr ⟨rfl, kk _ H _ (Same.refl _) ?_ q⟩
    rw [eqv_str]
    exact .bl _
  · have ok' : SeqAt.shaped dx = true ∧ SeqAt.shaped dy = true := by simpa [eqOk, h] using ok
    exact .inl (dr_eq H P x y dx dy k Q dm bx by_ ⟨ok'.1, ok'.2, q⟩ kk)
theorem dr_neU : DR2 X.K (rNeU X.K) fNeU := fun H P x y dx dy k Q dm bx by_ f kk => by
  obtain ⟨ok, q⟩ := f
  by_cases h : twoS dx dy = true
  · cases dx <;> cases dy <;> first | (simp [twoS] at h; done) | skip
    rw [bx.str, by_.str]
    refine .inr ⟨rfl, kk _ H _ (Same.refl _) ?_ q⟩
    rw [eqv_str]
    exact .bl _
  · have ok' : SeqAt.shaped dx = true ∧ SeqAt.shaped dy = true := by simpa [eqOk, h] using ok
    exact .inl (dr_ne H P x y dx dy k Q dm bx by_ ⟨ok'.1, ok'.2, q⟩ kk)
theorem op_eqU (hu : X.A.units + 64 < cLine) : OpR X (compareOp .Eq) (rEqU X.K) := (op_eqD hu).or op_eq
theorem op_neU (hu : X.A.units + 64 < cLine) : OpR X (compareOp .NotEq) (rNeU X.K) := (op_neD hu).or op_ne
/-! ### text slices -/
end
/-! ### a def of which nothing is asked -/
section
variable {P : Program} {w : World} {K : PySem.W.Frag} {mg : Str → Option Value} {base : Heap} {A : Amb}
theorem DFn.zero {x qual : Str} {st : Stmt} {f : Addr} {fd : FuncData} {ps : List Str} {S : FS A} (F : Fun K x qual st f fd) (hm : mg x = some (.ref f)) (b : Binds K fd ps []) (no : ∀ ds s Q, ¬ S ds s Q) : DFn P w K mg base A 0 x ps S :=
  ⟨fun xs s P q => (no _ _ _ q).elim, f, fd, hm, F.kp, b, ⟨fun vs H Q E h => by obtain ⟨_, ds, s, O, Y, Pk, _, _, _, q, _⟩ := h; exact (no _ _ _ q).elim, fun A outer s H args us vs Q E _ _ _ _ h => by obtain ⟨_, ds, s, O, Y, Pk, _, _, _, q, _⟩ := h; exact (no _ _ _ q).elim⟩⟩
end
end Dl
/-! The pool of draws: a list of five, whose first item is a list; how it is made and drawn from. -/
namespace Dl
open PySem L2

/-- nothing beside -/
def amb0 : Amb where
  S := Unit
  at_ := fun _ O _ _ => ∀ b, ¬ O b
  dom := fun h z => (h _ z).elim
  stay := fun h _ _ => h
/-- what the pool's two objects hold -/
def PoolH (a p : Addr) (H : Hp) : Prop := ∃ (ns : List Int) (i cur cnt salt : Int), a ≠ p ∧ H a = some (.lst [.ref p, .int i, .int cur, .int cnt, .int salt]) ∧ H p = some (.lst (ns.map V.int)) ∧ 0 ≤ i
/-- the pool at a beside -/
def poolA (a : Addr) : Amb where
  S := Unit
  at_ := fun _ O _ H => ∃ p, (∀ b, O b ↔ b = a ∨ b = p) ∧ PoolH a p H
  dom := fun {s O F H b} ⟨p, ho, ns, i, cur, cnt, salt, n, h1, h2, _⟩ z => by
    rcases (ho b).mp z with rfl | rfl
    · exact ⟨_, h1⟩
    · exact ⟨_, h2⟩
  stay := fun {s O F F' H H'} ⟨p, ho, ns, i, cur, cnt, salt, n, h1, h2, h3⟩ _ k => ⟨p, ho, ns, i, cur, cnt, salt, n, (k a ((ho a).mpr (.inl rfl))).trans h1, (k p ((ho p).mpr (.inr rfl))).trans h2, h3⟩
/-! ### what is promised -/
/-- a draw: any number below many -/
def S_draw (a : Addr) : FS (poolA a) := fun ds s Q => ∃ m : Int, ds = [refD a, .int m] ∧ 0 < m ∧ m < 2 ^ 64 ∧ ∀ v : Int, 0 ≤ v → v < m → Q (.int v) s
/-- a number goes in, some number comes out -/
def S_spread : FS amb0 := fun ds s Q => ∃ i : Int, ds = [.int i] ∧ ∀ j : Int, Q (.int j) s
/-- the pool is new -/
def spPool (K : PySem.W.Frag) : Sp := fun vs H Q _ => ∃ (e : Addr) (ns : List Int), vs = [.ref e] ∧ SqL K H e (ns.map V.int) ∧ ns.length ≤ 63 ∧
  ∀ (a p : Addr) (H' : Hp), Same H H' → H a = none → H p = none → PoolH a p H' → Q (.ref a) H'

/-! ### making it, by hand -/
/-- a walk over a list -/
def wiL (K : PySem.W.Frag) (te : TE) : TI := fun σ H R => te σ H fun v H1 => ∃ a xs, v = .ref a ∧ SqL K H1 a xs ∧ R (Itl K a) H1
theorem pi_list {X : Cx} {tg e : Expr} {te : TE} (he : PE X e te) : PI X tg e (wiL X.K te) := ⟨fun pins s σ H R I q => thn (he.run pins s σ H _ I q) fun u s1 ⟨v, H1, I1, r1, ⟨a, xs, e, hs, k⟩⟩ => by
  subst e
  cases r1
  exact it_list I1 hs k⟩
abbrev rInt : List V → Hp → VK → Prop := fun xs H Q => (∃ i, xs = [V.int i] ∧ Q (V.int i) H) ∨ ∃ k, xs = [V.bl k] ∧ Q (V.int (if k = true then 1 else 0)) H
abbrev rMod : R2 := rI (fun _ j => 0 < j) fun i j => V.int (i % j)
abbrev rAdd : R2 := rI0 fun i j => V.int (i + j)
abbrev rMul : R2 := rI CMul fun i j => V.int (i * j)
abbrev rListOf (K : PySem.W.Frag) : List V → Hp → VK → Prop := fun xs H Q => ∃ p ys, xs = [.ref p] ∧ (SqL K H p ys ∨ SqT K H p ys) ∧ ∀ l, H l = none → Q (.ref l) (upd H l (.lst ys))
/-- the reading of _law_pool -/
def rdPool (K : PySem.W.Frag) : TS := tSeq (tAsg (tC (.int 7)) (gName 1))
  (tSeq (tFor (wiL K (tSl (rSlL K) (tVar 0) tNoPart (tPart (tC (.int 63))))) (gName 2)
    (tAsg (tOp rMod (tCB rInt (tCons (tOp rAdd (tOp rMul (tVar 1) (tC (.int 31))) (tVar 2)) tNil)) (tC (.int 1000003))) (gName 1)))
  (tRet (tLst (tCons (tCB (rListOf K) (tCons (tVar 0) tNil)) (tCons (tC (.int 0)) (tCons (tC (.int 0)) (tCons (tC (.int 0)) (tCons (tVar 1) tNil))))))))
theorem Same.upd {H : Hp} {p : Addr} {o : HO} (h : H p = none) : Same H (L2.upd H p o) := same_upd h
theorem rd_pool {K : PySem.W.Frag} {H : Hp} {e : Addr} {ns : List Int} {Q : VK} {D : Ends} (hS : SqL K H e (ns.map V.int)) (hl : ns.length ≤ 63) (hD : D.rt = Q)
    (q : ∀ (a p : Addr) (H' : Hp), Same H H' → H a = none → H p = none → PoolH a p H' → Q (.ref a) H') : rdPool K D [some (.ref e), none, none] H := by
  obtain ⟨ms, hm⟩ : ∃ ms : List Int, cutV (ns.map V.int) none (some 63) = ms.map V.int := ⟨_, by unfold cutV; rw [← List.map_drop, ← List.map_take]⟩
  refine ⟨_, rfl, 63, rfl, e, _, rfl, hS, fun c hc => ⟨c, _, rfl, SqL.of upd_same, ?_⟩⟩
  rw [hm]
  have hs : SqL K (L2.upd H c (.lst (ms.map V.int))) c (ms.map V.int) := SqL.of upd_same
  have un : ∀ xs, SqL K (L2.upd H c (.lst (ms.map V.int))) c xs → True := fun _ _ => trivial
  refine ⟨fun i m σ H' => m = ms.length - i ∧ i ≤ ms.length ∧ H' = L2.upd H c (.lst (ms.map V.int)) ∧ ∃ (k : Int) (o : Option V), σ = [some (.ref e), some (.int k), o], ⟨_, rfl, Nat.zero_le _, rfl, 7, none, rfl⟩, ?_⟩
  rintro i m σ H' ⟨rfl, hi, rfl, k, o, rfl⟩
  by_cases hlt : i < ms.length
  · refine .inr ⟨⟨_, .int ms[i], hs, by rw [List.getElem?_map, List.getElem?_eq_getElem hlt]; rfl⟩, fun σ' H' => i + 1 ≤ ms.length ∧ H' = L2.upd H c (.lst (ms.map V.int)) ∧ ∃ (k : Int) (o : Option V), σ' = [some (.ref e), some (.int k), o], fun σ' H' z => ⟨ms.length - (i + 1), by omega, rfl, z.1, z.2⟩, ?_⟩
    rintro x H' ⟨rfl, y⟩
    have hx := y _ hs
    rw [List.getElem?_map, List.getElem?_eq_getElem hlt] at hx
    cases hx
    exact ⟨_, rfl, _, _, rfl, rfl, .inr ⟨by decide, by decide⟩, _, rfl, _, _, rfl, rfl, .inl ⟨_, rfl, _, _, rfl, rfl, (show (0 : Int) < 1000003 by decide), hlt, rfl, _, _, rfl⟩⟩
  · refine .inl ⟨⟨_, hs, by rw [List.length_map]; omega⟩, ?_⟩
    have g1 : Same H (L2.upd H c (.lst (ms.map V.int))) := same_upd hc
    refine ⟨_, rfl, e, _, rfl, .inl (g1.seq hS), fun p hp => ⟨_, rfl, (show 5 ≤ sizeLine by decide), fun a ha => ?_⟩⟩
    have g2 := same_upd (o := .lst (ns.map V.int)) hp
    have g3 := same_upd (o := .lst [.ref p, .int 0, .int 0, .int 0, .int k]) ha
    rw [hD]
    have hp' : p ≠ c := fun z => by rw [z, upd_same] at hp; cases hp
    have ha' : a ≠ p := fun z => by rw [z, upd_same] at ha; cases ha
    have ha2 : a ≠ c := fun z => by
      rw [z, upd_ne (fun z => hp' z.symm), upd_same] at ha
      cases ha
    refine q a p _ (g1.trans (g2.trans g3)) (by rw [upd_ne ha', upd_ne ha2] at ha; exact ha) (by rw [upd_ne hp'] at hp; exact hp) ⟨ns, 0, 0, 0, k, ha', upd_same, ?_, Int.le_refl 0⟩
    rw [upd_ne (Ne.symm ha'), upd_same]

/-! ### drawing, by hand -/
abbrev ixC (K : PySem.W.Frag) (k : Int) : TE := tOp (rIxL K) (tVar 0) (tC (.int k))
abbrev rLe : R2 := rI0 fun i j => V.bl (decide (i ≤ j))
abbrev rLt : R2 := rI0 fun i j => V.bl (decide (i < j))
abbrev rLen (K : PySem.W.Frag) : List V → Hp → VK → Prop := fun xs H Q => ∃ p ys, xs = [V.ref p] ∧ (SqL K H p ys ∨ SqT K H p ys) ∧ Q (.int (ys.length : Nat)) H
abbrev setC (k : Int) : TG := gSub (tVar 0) (tC (.int k)) rSetL
def rdDraw (K : PySem.W.Frag) (sp : Sp) (E : XK) : TS := tSeq
  (tIfS (tAnd (tTest (tOp rLe (ixC K 2) (tC (.int 0)))) (tTest (tOp rLt (ixC K 1) (tCB (rLen K) (tCons (ixC K 0) tNil)))))
    (tSeq (tAsg (tOp (rIxL K) (ixC K 0) (ixC K 1)) (gName 2))
    (tSeq (tAsg (tOp rAdd (ixC K 1) (tC (.int 1))) (setC 1))
    (tSeq (tAsg (tVar 2) (setC 2))
    (tIfS (tTest (tOp rLt (tVar 2) (tC (.int 1000000000000000000)))) (tAsg (tCall sp [] E (tCons (tVar 2) tNil)) (setC 2)) tNext)))) tNext)
  (tSeq (tAsg (tOp rAdd (ixC K 3) (tC (.int 1))) (setC 3))
  (tSeq (tIfS (tTest (tOp rLe (ixC K 2) (tC (.int 0))))
    (tSeq (tAsg (tOp rMod (tCB rInt (tCons (tOp rAdd (tOp rAdd (tOp rMul (ixC K 4) (tC (.int 48271))) (tOp rMul (ixC K 3) (tC (.int 69621)))) (tC (.int 1))) tNil)) (tC (.int 2147483647))) (gName 3))
    (tSeq (tAsg (tOp rMod (tCB rInt (tCons (tOp rAdd (tOp rMul (tVar 3) (tC (.int 16807))) (ixC K 3)) tNil)) (tC (.int 2147483629))) (gName 3))
    (tRet (tOp rMod (tOp (rI CDiv fun i j => V.int (i / j)) (tVar 3) (tC (.int 5))) (tVar 1))))) tNext)
  (tSeq (tAsg (tOp rMod (tCB rInt (tCons (ixC K 2) tNil)) (tVar 1)) (gName 4))
  (tSeq (tAsg (tOp (rI CDivW fun i j => V.int (i / j)) (ixC K 2) (tVar 1)) (setC 2))
  (tRet (tVar 4))))))
theorem ix_at {K : PySem.W.Frag} {H : Hp} {a : Addr} {xs : List V} {k : Int} {v : V} {σ : St} {Q : VK} (h0 : σ[0]? = some (some (.ref a))) (h : H a = some (.lst xs)) (e : atI xs k = some v) (q : Q v H) : ixC K k σ H Q := ⟨_, h0, _, _, _, _, rfl, rfl, SqL.of h, e, q⟩
/-- the part behind the refill -/
theorem rd_draw {K : PySem.W.Frag} {sp : Sp} {E : XK} {H : Hp} {a p : Addr} {m : Int} {Q : VK} {D : Ends} (hp : PoolH a p H) (h0 : 0 < m) (h64 : m < 2 ^ 64) (hD : D.rt = Q)
    (hsp : ∀ (i : Int) (H : Hp) (Q : VK), (∀ j H', Same H H' → Q (.int j) H') → sp [.int i] H Q E)
    (q : ∀ (v : Int) (H' : Hp), 0 ≤ v → v < m → PoolH a p H' → (∀ b o, H b = some o → b ≠ a → H' b = some o) → Q (.int v) H') : rdDraw K sp E D [some (.ref a), some (.int m), none, none, none] H := by
  have hdiv : CDivW 0 m := wide_div (b := 64) h0 (by omega) (by decide) (by decide)
  have rest : ∀ (H' : Hp) (o2 : Option V), PoolH a p H' → (∀ b o, H b = some o → b ≠ a → H' b = some o) → (tSeq (tAsg (tOp rAdd (ixC K 3) (tC (.int 1))) (setC 3))
    (tSeq (tIfS (tTest (tOp rLe (ixC K 2) (tC (.int 0))))
    (tSeq (tAsg (tOp rMod (tCB rInt (tCons (tOp rAdd (tOp rAdd (tOp rMul (ixC K 4) (tC (.int 48271))) (tOp rMul (ixC K 3) (tC (.int 69621)))) (tC (.int 1))) tNil)) (tC (.int 2147483647))) (gName 3))
    (tSeq (tAsg (tOp rMod (tCB rInt (tCons (tOp rAdd (tOp rMul (tVar 3) (tC (.int 16807))) (ixC K 3)) tNil)) (tC (.int 2147483629))) (gName 3))
    (tRet (tOp rMod (tOp (rI CDiv fun i j => V.int (i / j)) (tVar 3) (tC (.int 5))) (tVar 1))))) tNext)
    (tSeq (tAsg (tOp rMod (tCB rInt (tCons (ixC K 2) tNil)) (tVar 1)) (gName 4))
    (tSeq (tAsg (tOp (rI CDivW fun i j => V.int (i / j)) (ixC K 2) (tVar 1)) (setC 2))
    (tRet (tVar 4)))))) D [some (.ref a), some (.int m), o2, none, none] H' := by
    rintro H1 o2 ⟨ns, i, cur, cnt, salt, n, ha, hpp, hi⟩ k1
    refine ix_at rfl ha rfl ⟨_, _, rfl, rfl, _, rfl, a, _, 3, 3, rfl, rfl, ha, rfl, ?_⟩
    have ha2 : (upd H1 a (.lst [.ref p, .int i, .int cur, .int (cnt + 1), .int salt])) a = some (.lst [.ref p, .int i, .int cur, .int (cnt + 1), .int salt]) := upd_same
    have k2 : ∀ xs b o, H b = some o → b ≠ a → upd H1 a (.lst xs) b = some o := fun xs b o e n => by rw [upd_ne n]; exact k1 b o e n
    have P2 : ∀ i cur cnt salt, 0 ≤ i → PoolH a p (upd H1 a (.lst [.ref p, .int i, .int cur, .int cnt, .int salt])) := fun i cur cnt salt h => ⟨ns, i, cur, cnt, salt, n, upd_same, by rw [upd_ne (Ne.symm n)]; exact hpp, h⟩
    refine ix_at rfl ha2 rfl ⟨_, _, rfl, rfl, _, rfl, ?_⟩
    refine ite2 (fun c => ?_) (fun c => ?_)
    · refine ix_at rfl ha2 rfl ⟨_, _, rfl, rfl, .inr ⟨by decide, by decide⟩, ix_at rfl ha2 rfl ⟨_, _, rfl, rfl, .inr ⟨by decide, by decide⟩, _, _, rfl, rfl, _, _, rfl, rfl, .inl ⟨_, rfl, _, _, rfl, rfl, (show (0 : Int) < 2147483647 by decide), ?_⟩⟩⟩
      refine ⟨_, rfl, _, _, rfl, rfl, .inr ⟨by decide, by decide⟩, ix_at rfl ha2 rfl ⟨_, _, rfl, rfl, .inl ⟨_, rfl, _, _, rfl, rfl, (show (0 : Int) < 2147483629 by decide), ?_⟩⟩⟩
      refine ⟨_, rfl, _, _, rfl, rfl, ⟨by decide, by decide⟩, _, rfl, _, _, rfl, rfl, h0, ?_⟩
      rw [hD]
      exact q _ _ (Int.emod_nonneg _ (by omega)) (Int.emod_lt_of_pos _ h0) (P2 _ _ _ _ hi) (k2 _)
    · refine ix_at rfl ha2 rfl (.inl ⟨_, rfl, _, rfl, _, _, rfl, rfl, h0, ix_at rfl ha2 rfl ⟨_, rfl, _, _, rfl, rfl, ⟨hdiv.1, hdiv.2⟩, _, rfl, a, _, 2, 2, rfl, rfl, ha2, rfl, _, rfl, ?_⟩⟩)
      rw [hD]
      rw [upd_upd]
      exact q _ _ (Int.emod_nonneg _ (by omega)) (Int.emod_lt_of_pos _ h0) (P2 _ _ _ _ hi) (k2 _)
  obtain ⟨ns, i, cur, cnt, salt, n, ha, hpp, hi⟩ := hp
  refine ix_at rfl ha rfl ⟨_, _, rfl, rfl, _, rfl, ?_⟩
  refine ite2 (fun c => ?_) (fun c => ?_)
  · refine ix_at rfl ha rfl (ix_at rfl ha rfl ⟨p, _, rfl, .inl (SqL.of hpp), _, _, rfl, rfl, _, rfl, ?_⟩)
    refine ite2 (fun c2 => ?_) (fun c2 => ?_)
    · have hlt : i < (ns.length : Int) := by
        have z := of_decide_eq_true c2
        rw [List.length_map] at z
        exact z
      have ek : i = ((i.toNat : Nat) : Int) := by omega
      have hk : i.toNat < ns.length := by omega
      have at_ : atI (ns.map V.int) i = some (.int ns[i.toNat]) := by
        have z := atI_nat (xs := ns.map V.int) (j := i.toNat) (v := .int ns[i.toNat]) (by rw [List.getElem?_map, List.getElem?_eq_getElem hk]; rfl)
        rw [← ek] at z
        exact z
      refine ix_at rfl ha rfl (ix_at rfl ha rfl ⟨p, _, _, _, rfl, rfl, SqL.of hpp, at_, ?_⟩)
      refine ix_at rfl ha rfl ⟨_, _, rfl, rfl, _, rfl, a, _, 1, 1, rfl, rfl, ha, rfl, ?_⟩
      refine ⟨_, rfl, _, rfl, a, _, 2, 2, rfl, rfl, upd_same, rfl, ?_⟩
      rw [upd_upd]
      have P2 : ∀ i cur cnt salt, 0 ≤ i → PoolH a p (upd H a (.lst [.ref p, .int i, .int cur, .int cnt, .int salt])) := fun i cur cnt salt h => ⟨ns, i, cur, cnt, salt, n, upd_same, by rw [upd_ne (Ne.symm n)]; exact hpp, h⟩
      have k2 : ∀ xs b o, H b = some o → b ≠ a → upd H a (.lst xs) b = some o := fun xs b o e n => by rw [upd_ne n]; exact e
      refine ⟨_, rfl, _, _, rfl, rfl, _, rfl, ?_⟩
      refine ite2 (fun c3 => ?_) (fun c3 => ?_)
      · refine ⟨_, rfl, hsp _ _ _ fun j H2 sm => ⟨_, rfl, a, _, 2, 2, rfl, rfl, sm _ _ upd_same, rfl, ?_⟩⟩
        refine rest _ _ ⟨ns, i + 1, j, cnt, salt, n, upd_same, ?_, by omega⟩ fun b o e n2 => ?_
        · rw [upd_ne (Ne.symm n)]
          exact sm _ _ (by rw [upd_ne (Ne.symm n)]; exact hpp)
        · rw [upd_ne n2]
          exact sm _ _ (k2 _ b o e n2)
      · exact rest _ _ (P2 _ _ _ _ (by omega)) (k2 _)
    · exact rest H none ⟨ns, i, cur, cnt, salt, n, ha, hpp, hi⟩ fun b o e _ => e
  · refine ite2 (fun c2 => ?_) (fun c2 => ?_)
    · cases c2
    · exact rest H none ⟨ns, i, cur, cnt, salt, n, ha, hpp, hi⟩ fun b o e _ => e

section
variable {P : Program} {w : World} {K : PySem.W.Frag} {mg : Str → Option Value} {base : Heap}
abbrev Npool : List Str := ["script", "salt", "cell"]
abbrev Ndraw : List Str := ["pool", "many", "cell", "mixed", "value"]
theorem Rp.ref_of {F : Hp} {v : V} {a : Addr} (r : Rp K F v (refD a)) : v = .ref a := by
  generalize hd : refD a = d at r
  unfold refD at hd
  cases r with
  | obj b =>
    injection hd with hd
    have e := (List.cons.inj hd).1
    have e2 := (Prod.mk.inj e).2
    injection e2 with e2
    rw [Int.ofNat.inj e2]
  | @dK b kvs ds s t =>
    injection hd with hd
    cases kvs with
    | nil => cases hd
    | cons k r =>
      cases t with
      | cons t1 t2 =>
        have e : PyData.none = keyD k.1 := (Prod.mk.inj (List.cons.inj hd).1).1
        cases hk : k.1 with
        | inl i => rw [hk] at e; cases e
        | inr i => rw [hk] at e; cases e
  | @dT b kvs ds s t =>
    injection hd with hd
    cases kvs with
    | nil => cases hd
    | cons k r =>
      cases t with
      | cons t1 t2 => exact absurd (Prod.mk.inj (List.cons.inj hd).1).1 (by unfold keysD; simp)
  | _ => cases hd
/-- calls of a def that promises over amb0, by hand -/
theorem liftF_spread {H : Hp} {i : Int} {Q : VK} {E : XK} (q : ∀ j H', Same H H' → Q (.int j) H') : liftF amb0 K 1 S_spread [.int i] H Q E := by
  refine ⟨rfl, [.int i], (), fun _ => False, fun _ => False, fun d _ => ∃ j, d = .int j, fun b z => z, fun b z => z.elim, .one (.int i), ⟨i, rfl, fun j => ⟨j, rfl⟩⟩, ?_⟩
  rintro d s' v H' O' ⟨j, rfl⟩ at' kp rd
  cases rd
  exact q j H' fun b o e => (kp b o e fun z => z).1
theorem pool_fn {qual : Str} {st : Stmt} {f : Addr} {fd : FuncData} (F : Fun K "_law_pool" qual st f fd) (sc : FnScope Npool ["script"] (defScope st))
    (hb : ∀ (cdv : Value) (Ar : Around) (outer : List PySem.Env) (s : Shared) (H : Hp) (E : XK), PSs (cxOf CX0 P w K mg base Npool qual (defScope st) f cdv Ar outer s H E).nox (defBody st) (rdPool K)) : FnOk P w K mg base CX0 1 f fd ["script"] (spPool K) := by
  refine F.ok sc (fun vs H Q E ⟨e, ns, h, _⟩ => by rw [h]; rfl) fun cdv Ar outer s H vs Q E hr ⟨e, ns, h, hS, hl, q⟩ => ⟨_, hb cdv Ar outer s H E, ?_⟩
  subst h
  exact rd_pool hS hl rfl q
theorem draw_fn {qual : Str} {st : Stmt} {f g : Addr} {fd gd : FuncData} {a : Addr} (F : Fun K "_law_draw" qual st f fd) (hm : mg "_law_draw" = some (.ref f)) (b : Binds K fd ["pool", "many"] []) (sc : FnScope Ndraw ["pool", "many"] (defScope st))
    (hb : ∀ (cdv : Value) (Ar : Around) (outer : List PySem.Env) (s : Shared) (H : Hp) (E : XK), Room 1 (Ar.deeper (PyProof.Rows.envOfC qual (defScope st) s.heap.objs.size f cdv)) →
      PSs (cxOf CX0 P w K mg base Ndraw qual (defScope st) f cdv Ar outer s H E).nox (defBody st) (rdDraw K (liftF amb0 K 1 S_spread) fun _ _ _ => False)) : DFn P w K mg base (poolA a) 2 "_law_draw" ["pool", "many"] (S_draw a) := by
  refine ⟨fun ds s Q ⟨m, e, _⟩ => by rw [e]; rfl, f, fd, hm, F.kp, b, F.ok sc (fun vs H Q E h => h.1) fun cdv Ar outer s H vs Q E hr h => ⟨_, hb cdv Ar outer s H E hr, ?_⟩⟩
  obtain ⟨hl, ds, s0, O, Y, Pk, ⟨p, ho, hp⟩, y, r, ⟨m, rfl, h0, h64, q⟩, kk⟩ := h
  obtain ⟨v1, v2, rfl, r1, r2⟩ := r.two_of
  cases r2
  have e1 : v1 = .ref a := r1.ref_of
  subst e1
  refine rd_draw hp h0 h64 rfl (fun i H Q k => liftF_spread k) fun v H' v0 v1 hp' k => ?_
  refine kk (.int v) () (.int v) H' O (q v v0 v1) ⟨p, ho, hp'⟩ (fun b o e n => ⟨k b o e fun z => n ((ho b).mpr (.inl z)), n⟩) (.int v)
end
end Dl
/-! A law: first its pool, then all else over data. -/
namespace Dl
open PySem L2 PySem.Spec
/-- what law(script) promises -/
def spLaw (K : PySem.W.Frag) : Sp := fun vs H Q _ => ∃ (e : Addr) (ns : List Int), vs = [.ref e] ∧ SqL K H e (ns.map V.int) ∧ ns.length ≤ 63 ∧ ∀ H', Q (.bl true) H'
/-- the slots behind the first statement -/
def ρLaw (a : Addr) (n : Nat) : Rho := .un :: .fz (refD a) :: List.replicate n .un
def lawEnds (A : Amb) : DEnds A := ⟨fun _ _ => False, fun d _ => d = .bool true, fun _ _ => False, fun _ _ => False⟩
theorem PSs.ex {α : Type} {X : Cx} {l : List Stmt} {t : α → TS} (h : ∀ i, PSs X l (t i)) : PSs X l (fun D σ H => ∃ i, t i D σ H) := ⟨fun pins s σ H D I ⟨i, q⟩ => (h i).run pins s σ H D I q⟩
theorem ρLaw_get {a : Addr} {n i : Nat} {c : Cell} (h : (ρLaw a n)[i]? = some c) : (i = 1 ∧ c = .fz (refD a)) ∨ c = .un := by
  unfold ρLaw at h
  match i with
  | 0 => exact .inr (by simpa using h.symm)
  | 1 => exact .inl ⟨rfl, by simpa using h.symm⟩
  | i + 2 =>
    rw [List.getElem?_cons_succ, List.getElem?_cons_succ, List.getElem?_replicate] at h
    split at h
    · cases h; exact .inr rfl
    · cases h
section
variable {P : Program} {w : World} {K : PySem.W.Frag} {mg : Str → Option Value} {base : Heap}
theorem Rel.law {a p e : Addr} {H : Hp} {n : Nat} (hp : PoolH a p H) : Rel (poolA a) K ⟨H, fun b => b = a ∨ b = p, fun _ => False⟩ () (some (.ref e) :: some (.ref a) :: List.replicate n none) H (ρLaw a n) fun b => b = a ∨ b = p := by
  have no : ∀ b, ¬ OwnS (some (.ref e) :: some (.ref a) :: List.replicate n none) (ρLaw a n) b := fun b ⟨i, c, e1, o, _⟩ => by
    rcases ρLaw_get e1 with ⟨_, rfl⟩ | rfl
    · exact o
    · exact o
  refine ⟨⟨p, fun b => Iff.rfl, hp⟩, fun b o e n => ⟨e, n⟩, fun b z => z.elim, ?_, fun i v c e1 e2 => ?_, fun b z => (no b z).elim, fun i j c c' b e1 o1 _ _ _ _ => ?_⟩
  · unfold ρLaw
    simp
  · rcases ρLaw_get e2 with ⟨rfl, rfl⟩ | rfl
    · cases e1
      exact ⟨_, rfl, .obj a⟩
    · trivial
  · rcases ρLaw_get e1 with ⟨_, rfl⟩ | rfl
    · exact o1.elim
    · exact o1.elim
theorem law_at {qual : Str} {st s0 : Stmt} {rest : List Stmt} {f : Addr} {fd : FuncData} {N : List Str} {k : Nat} {tb : ∀ a, DS (poolA a)} (F : Fun K "law" qual st f fd) (sc : FnScope N ["script"] (defScope st)) (hr : Room (k + 1) callerA) (hN : ∃ n, N.length = n + 2) (hbd : defBody st = s0 :: rest)
    (h0 : ∀ (cdv : Value) (outer : List PySem.Env) (s : Shared) (H : Hp) (E : XK), Room k (callerA.deeper (PyProof.Rows.envOfC qual (defScope st) s.heap.objs.size f cdv)) →
      PS (cxOf CX0 P w K mg base N qual (defScope st) f cdv callerA outer s H E).nox s0 (tAsg (tCall (spPool K) [] (fun _ _ _ => False) (tCons (tVar 0) tNil)) (gName 1)))
    (h1 : ∀ (a : Addr) (Nt : Ent) (cdv : Value) (outer : List PySem.Env) (s : Shared) (H : Hp) (E : XK), Room k (callerA.deeper (PyProof.Rows.envOfC qual (defScope st) s.heap.objs.size f cdv)) →
      PSs (cxOf CX0 P w K mg base N qual (defScope st) f cdv callerA outer s H E).nox rest (liftS (poolA a) K Nt (tb a)))
    (ht : ∀ a, tb a (lawEnds _) (ρLaw a (N.length - 2)) ()) : RunAt P w K mg base callerA f fd ["script"] (spLaw K) := by
  refine run_at F sc hr (fun vs H Q E ⟨e, ns, h, _⟩ => by rw [h]; rfl) fun cdv outer s H vs Q E hr2 ⟨e, ns, h, hS, hl, q⟩ => ?_
  subst h
  rw [hbd]
  refine ⟨_, pss_cons (h0 cdv outer s H E hr2) (PSs.ex fun a => PSs.ex fun Nt => h1 a Nt cdv outer s H E hr2), ?_⟩
  obtain ⟨n, hn⟩ := hN
  have hst : L2.start N [.ref e] = some (.ref e) :: none :: List.replicate n none := by
    unfold L2.start
    rw [hn]
    rfl
  rw [hst]
  refine ⟨_, rfl, e, ns, rfl, hS, hl, fun a p H' sm ha hp hP => ⟨a, ⟨H', fun b => b = a ∨ b = p, fun _ => False⟩, ρLaw a n, (), fun b => b = a ∨ b = p, lawEnds _, Rel.law hP, ?_, ?_⟩⟩
  · refine ⟨fun _ _ _ _ _ _ _ z => z.elim, fun ρ s' σ' H' O' d v R' le rd p => ?_, fun _ _ _ _ _ _ _ z => z.elim, fun _ _ _ _ _ _ _ z => z.elim⟩
    have e : d = .bool true := p
    subst e
    cases rd
    exact q H'
  · have z := ht a
    rw [hn] at z
    exact z
end
end Dl
/-! More rules by values: in, *. -/
namespace Dl
open PySem L2

theorem units65 {k : Nat} {A : Around} (h : Room k A) : A.units + 65 < cLine := by
  have := h.un
  omega
theorem _root_.L2.Room.units65 {k : Nat} {A : Around} (h : Room k A) : A.units + 65 < cLine := Dl.units65 h
/-- x in y, y a list or a tuple -/
def seqOf : D → Option (List D)
  | .list ds => some ds
  | .tuple ds => some ds
  | _ => none
def anyEq (x : D) (ds : List D) : Bool := ds.any fun y => PyData.eqv y x
def inOk (x : D) (ds : List D) : Prop := PyData.canLayAll0 ds = true ∧ x.canLay0 = true ∧ x.depth ≤ 60
def rInS (K : PySem.W.Frag) (neg : Bool) : R2 := fun x y H Q => ∃ d e ds, Dp K H x d ∧ Dp K H y e ∧ seqOf e = some ds ∧ inOk d ds ∧ Q (.bl (if neg then !anyEq d ds else anyEq d ds)) H
section
variable {X : Cx}
theorem op_inS1 (hu : X.A.units + 65 < cLine) : OpR X (compareOp .In) (rInS X.K false) := by
  intro pins s σ H x y v u Q I rx ry h
  obtain ⟨d, e, ds, hd, he, hs, ⟨h1, h2, h3⟩, q⟩ := h
  obtain ⟨as, r1⟩ := Dp.reads I d x v hd rx
  obtain ⟨bs, r2⟩ := Dp.reads I e y u he ry
  cases e with
  | list es => cases hs; exact SeqAt.in_list_reads r2 r1 h1 h2 (by omega) ⟨.bl _, H, I, rfl, q⟩
  | tuple es => cases hs; exact SeqAt.in_tuple_reads r2 r1 h1 h2 (by omega) ⟨.bl _, H, I, rfl, q⟩
  | _ => cases hs
theorem op_notInS1 (hu : X.A.units + 65 < cLine) : OpR X (compareOp .NotIn) (rInS X.K true) := by
  intro pins s σ H x y v u Q I rx ry h
  obtain ⟨d, e, ds, hd, he, hs, ⟨h1, h2, h3⟩, q⟩ := h
  obtain ⟨as, r1⟩ := Dp.reads I d x v hd rx
  obtain ⟨bs, r2⟩ := Dp.reads I e y u he ry
  cases e with
  | list es => cases hs; exact SeqAt.notIn_list_reads r2 r1 h1 h2 (by omega) ⟨.bl _, H, I, rfl, q⟩
  | tuple es => cases hs; exact SeqAt.notIn_tuple_reads r2 r1 h1 h2 (by omega) ⟨.bl _, H, I, rfl, q⟩
  | _ => cases hs
def fInG (neg : Bool) : F2 := fun x y k => match y with
  | .list ds => inOk x ds ∧ k (.bool (if neg then !anyEq x ds else anyEq x ds))
  | .tuple ds => inOk x ds ∧ k (.bool (if neg then !anyEq x ds else anyEq x ds))
  | .str z => ∃ c : Nat, x = .str ⟨#[c]⟩ ∧ k (.bool (if neg then !decide (c ∈ z.cps.toList) else decide (c ∈ z.cps.toList)))
  | _ => False
abbrev fIn := fInG false
abbrev fNotIn := fInG true
/-- .. or a sign in a text -/
def rInA (K : PySem.W.Frag) (neg : Bool) : R2 := fun x y H Q => rInS K neg x y H Q ∨ ∃ (c : Nat) (z : Str), x = .str ⟨#[c]⟩ ∧ y = .str z ∧ Q (.bl (if neg then !decide (c ∈ z.cps.toList) else decide (c ∈ z.cps.toList))) H
theorem op_inA (hu : X.A.units + 65 < cLine) : OpR X (compareOp .In) (rInA X.K false) := (op_inS1 hu).or op_in_sign
theorem op_notInA (hu : X.A.units + 65 < cLine) : OpR X (compareOp .NotIn) (rInA X.K true) := (op_notInS1 hu).or op_notIn_sign
theorem dr_inG {neg : Bool} : DR2 X.K (rInA X.K neg) (fInG neg) := fun H P x y dx dy k Q dm bx by_ f kk => by
  unfold fInG at f
  split at f
  · obtain ⟨ok, q⟩ := f
    exact .inl ⟨_, _, _, bx.dp fzP_le ok.2.1, by_.dp fzP_le (by simpa [PyData.canLay0] using ok.1), rfl, ok, kk _ H _ (Same.refl _) (.bl _) q⟩
  · obtain ⟨ok, q⟩ := f
    exact .inl ⟨_, _, _, bx.dp fzP_le ok.2.1, by_.dp fzP_le (by simpa [PyData.canLay0] using ok.1), rfl, ok, kk _ H _ (Same.refl _) (.bl _) q⟩
  · obtain ⟨c, rfl, q⟩ := f
    exact .inr ⟨c, _, bx.str, by_.str, kk _ H _ (Same.refl _) (.bl _) q⟩
  · exact f.elim
/-! ### * -/
/-- a tuple so many times, a million items at most -/
def rRepM (K : PySem.W.Frag) : R2 := fun x y H Q => ∃ (b : Addr) (j : Int) (ws : List V), x = .ref b ∧ y = .int j ∧ SqT K H b ws ∧ ws ≠ [] ∧ 2 ≤ j ∧ ws.length * j.toNat ≤ 1000000 ∧
  NewT Q H (List.replicate j.toNat ws).flatten
theorem op_repM : OpR X (binaryOp .Mult) (rRepM X.K) := by
  intro pins sh st Hh x y vx vy Qq Iv rx ry hyp
  obtain ⟨b, j, ws, rfl, rfl, hw, hne, h2, hz, fin⟩ := hyp
  cases rx
  obtain ⟨tk, rfl⟩ := ry
  obtain ⟨us, rel, ⟨⟨cl, dc, dat, slt⟩, hob, hcl, k, hda⟩, _⟩ := Iv.tuple hw
  simp only at hcl hda
  subst hcl hda
  have len : us.length = ws.length := rel.length.symm
  have ne : us ≠ [] := fun z => hne (List.eq_nil_of_length_eq_zero (by rw [← len, z]; rfl))
  have emp : us.toArray.isEmpty = false := by
    cases us with
    | nil => exact absurd rfl ne
    | cons u r => rfl
  have sz : us.toArray.size = ws.length := by rw [List.size_toArray, len]
  have ej : ((j.toNat : Nat) : Int) = j := by omega
  have prod : ((us.toArray.size : Nat) : Int) * j ≤ 1000000 := by
    have z : ((ws.length * j.toNat : Nat) : Int) ≤ 1000000 := by omega
    rw [Int.natCast_mul, ej] at z
    rw [sz]
    exact z
  have pj : 1 ≤ ws.length := List.length_pos_iff.mpr hne
  have jl : j.toNat ≤ 1000000 := Nat.le_trans (Nat.le_mul_of_pos_left _ pj) hz
  have all : (List.replicate j.toNat us).flatten.length ≤ sizeLine := by
    rw [PyProof.Rows.lm_len_rep_flat, len, sizeLine_eq, Nat.mul_comm]
    omega
  have all2 : (List.replicate j.toNat ws).flatten.length ≤ sizeLine := by
    rw [PyProof.Rows.lm_len_rep_flat, sizeLine_eq, Nat.mul_comm]
    omega
  have k0 : (decide (j < -(2 ^ 63)) || decide (j ≥ 2 ^ 63)) = false := by
    rw [decide_eq_false (by omega : ¬ j < -(2 ^ 63)), decide_eq_false (by omega : ¬ j ≥ 2 ^ 63)]
    rfl
  have k1 : (us.toArray.isEmpty || j == 1) = false := by
    rw [emp]
    exact beq_eq_false_iff_ne.mpr (by omega)
  have k2 : (decide (j ≤ 0) || us.toArray.isEmpty) = false := by
    rw [emp, decide_eq_false (by omega : ¬ j ≤ 0)]
    rfl
  have k4 : Builtin.Tuple.tupleTooMany (((us.toArray.size : Nat) : Int) * j) = false := by
    unfold Builtin.Tuple.tupleTooMany
    rw [sizeLine_eq, decide_eq_false_iff_not]
    omega
  have mul := tuple_mulW b us.toArray k dc slt j tk k0 k1 k2 (by omega) k4 (by rw [size_rep, List.size_toArray]; exact all)
  have rmul := int_rmul_tuple j tk b us.toArray k dc slt
  have done : wpAny (model X.prog X.w) X.A (PySem.call (.builtin "tuple.__mul__") [.ref b, .int j tk]) (EP X pins st Qq) X.xe sh :=
    call_meets PySem.F.slot_tuple_mul ⟨_, hob, rfl⟩ PySem.F.entry_tuple_mul (PySem.F.args_tuple_mul_2 _ _) mul ⟨hob, by
      rw [size_rep]
      exact laidT Iv (rel.rep j.toNat) all2 fin⟩
  refine wpAny_binaryOp_repeat_ref (T := "tuple") (U := "int") (by decide) ⟨_, hob, rfl⟩ (fun z => typeIs_int z j tk) noFill_tuple_mul PySem.F.fills_int_mul PySem.F.slot_int_rmul repeat_tuple PySem.F.slot_int_index.lookup ?_
  exact call_meets PySem.F.slot_int_rmul (typeIs_int sh j tk) PySem.F.entry_int_rmul (PySem.F.args_int_rmul_2 _ _) rmul ⟨hob, rfl, ⟨_, hob, rfl⟩, done⟩
open PySem.Spec PyProof.Rows in
theorem tuple_mul1 (l : Addr) (items : Array Value) (n : Nat) (dd : Option Addr) (sl : Array (Option Value)) (x : Int) (u : Tok) (c0 : (decide (x < -(2 ^ 63)) || decide (x ≥ 2 ^ 63)) = false) (c1 : (items.isEmpty || x == 1) = true) :
    Meets (Builtin.«tuple.__mul__» ⟨[.ref l, .int x u], []⟩) (fun _ R s => s.heap.get? l = some { cls := .type "tuple", dict := dd, data := .seq items n, slots := sl } ∧ R (.ok (.ret (Value.ref l))) s) :=
  .of_wp fun prog w A R s h => by
    obtain ⟨hp, g, d, tk, os⟩ := s
    obtain ⟨hl, h⟩ := h
    have f1 := AutoSeq1.idx_int
    wp_walk using wpAny_loadPart' hl
    refine wpAny_ite_false (decide_eq_false (by rw [c0]; exact Bool.false_ne_true)) ?_
    wp_walk using wpAny_loadPart' hl
    exact ⟨_, rfl, h⟩
/-- a tuple once: the same tuple -/
def rRep1 (K : PySem.W.Frag) : R2 := fun x y H Q => ∃ (b : Addr) (ws : List V), x = .ref b ∧ y = .int 1 ∧ SqT K H b ws ∧ Q (.ref b) H
theorem op_rep1 : OpR X (binaryOp .Mult) (rRep1 X.K) := by
  intro pins sh st Hh x y vx vy Qq Iv rx ry hyp
  obtain ⟨b, ws, rfl, rfl, hw, fin⟩ := hyp
  cases rx
  obtain ⟨tk, rfl⟩ := ry
  obtain ⟨us, rel, ⟨⟨cl, dc, dat, slt⟩, hob, hcl, k, hda⟩, _⟩ := Iv.tuple hw
  simp only at hcl hda
  subst hcl hda
  have mul := tuple_mul1 b us.toArray k dc slt 1 tk (by decide) (by simp)
  have rmul := int_rmul_tuple 1 tk b us.toArray k dc slt
  have done : wpAny (model X.prog X.w) X.A (PySem.call (.builtin "tuple.__mul__") [.ref b, .int 1 tk]) (EP X pins st Qq) X.xe sh :=
    call_meets PySem.F.slot_tuple_mul ⟨_, hob, rfl⟩ PySem.F.entry_tuple_mul (PySem.F.args_tuple_mul_2 _ _) mul ⟨hob, ⟨.ref b, Hh, Iv, rfl, fin⟩⟩
  refine wpAny_binaryOp_repeat_ref (T := "tuple") (U := "int") (by decide) ⟨_, hob, rfl⟩ (fun z => typeIs_int z 1 tk) noFill_tuple_mul PySem.F.fills_int_mul PySem.F.slot_int_rmul repeat_tuple PySem.F.slot_int_index.lookup ?_
  exact call_meets PySem.F.slot_int_rmul (typeIs_int sh 1 tk) PySem.F.entry_int_rmul (PySem.F.args_int_rmul_2 _ _) rmul ⟨hob, rfl, ⟨_, hob, rfl⟩, done⟩
def fMul : F2 := fun x y k => match x, y with
  | .int i, .int j => CMul i j ∧ k (.int (i * j))
  | .list ds, .int j => -(2 ^ 63) ≤ j ∧ j < 2 ^ 63 ∧ ds.length * j.toNat ≤ sizeLine ∧ k (.list (List.replicate j.toNat ds).flatten)
  | .tuple ds, .int j => ds ≠ [] ∧ 1 ≤ j ∧ ds.length * j.toNat ≤ 1000000 ∧ k (.tuple (List.replicate j.toNat ds).flatten)
  | _, _ => False
def rMulU (K : PySem.W.Frag) : R2 := fun x y H Q => rI CMul (fun i j => V.int (i * j)) x y H Q ∨ (rRep x y H Q ∨ (rRepM K x y H Q ∨ rRep1 K x y H Q))
theorem op_mulU : OpR X (binaryOp .Mult) (rMulU X.K) := op_mul.or (op_rep.or (op_repM.or op_rep1))
theorem dr_mulU : DR2 X.K (rMulU X.K) fMul := fun H P x y dx dy k Q dm bx by_ f kk => by
  unfold fMul at f
  split at f
  · exact .inl ⟨_, _, bx.int, by_.int, f.1, kk _ H _ (Same.refl _) (.int _) f.2⟩
  · obtain ⟨a, vs, rfl, s1, r1⟩ := bx.list fzP_le
    obtain ⟨h1, h2, h3, q⟩ := f
    refine .inr (.inl ⟨a, _, vs, rfl, by_.int, s1, h1, h2, by rw [r1.length]; exact h3, fun p hp => ?_⟩)
    obtain ⟨n1, n2⟩ := new_fz dm (o := .lst (List.replicate _ vs).flatten) hp
    exact kk _ _ _ (same_upd hp) (.lst n1 ((r1.rep _).mono n2)) q
  · next ds j =>
    obtain ⟨a, vs, rfl, s0, s1, r1⟩ := bx.tup fzP_le
    obtain ⟨h0, h1, h3, q⟩ := f
    by_cases hj : j = 1
    · subst hj
      refine .inr (.inr (.inr ⟨a, vs, rfl, by_.int, s1, kk _ H _ (Same.refl _) (.tup s0 r1) ?_⟩))
      simpa using q
    refine .inr (.inr (.inl ⟨a, _, vs, rfl, by_.int, s1, fun z => h0 (r1.nil_iff.mp z), by omega, by rw [r1.length]; exact h3, (List.replicate j.toNat ds).flatten, fun p o hp ho => ?_⟩))
    obtain ⟨n1, n2⟩ := new_fz dm (o := o) hp
    exact kk _ _ _ (same_upd hp) (.tup ⟨o, ho, n1⟩ ((r1.rep _).mono n2)) q
  · exact f.elim
end
/-! ### the list's own methods, as statements -/
section
variable {A : Amb} {X : Cx} {N : Ent} {e : Expr} {te : DE A} {apos cpos pos : Pos} {x : Str} {p : Pos}
end
end Dl
/-! The readings as simp lemmas; loops and comprehensions as lemmas. -/
namespace Dl
open PySem L2
/-- a bool that is looked at -/
def bK (x : D) (P1 P2 : Prop) : Prop := match x with
  | .bool b => if b = true then P1 else P2
  | _ => False
@[simp] theorem bK_bool {b : Bool} {P1 P2 : Prop} : bK (.bool b) P1 P2 = if b = true then P1 else P2 := rfl
def bV (x : D) (k : Bool → Prop) : Prop := match x with
  | .bool b => k b
  | _ => False
@[simp] theorem bV_bool {b : Bool} {k : Bool → Prop} : bV (.bool b) k = k b := rfl
section
variable {A : Amb} {ρ : Rho} {s : A.S} {Q : D → A.S → Prop} {QT : Bool → A.S → Prop} {QA : List D → A.S → Prop} {D0 : DEnds A} {a b c : DE A} {tc t1 t2 : DT A} {t u : DS A} {al : DA A} {f g : F2} {f1 : F1} {fn : FN} {i : Nat} {d : D} {S0 : FS A} {dg : DG A} {dgs : DGs A} {k : Rho → A.S → Prop} {tn : DC A} {QC : Cell → A.S → Prop} {gg : D → D → (Cell → Prop) → Prop} {gn : List D → (Cell → Prop) → Prop}
@[simp] theorem q_dC : dC d ρ s Q = Q d s := rfl
/-- the cell at i, as data -/
def atF (c : Option Cell) (k : D → Prop) : Prop := match c with
  | some (.fz d) => k d
  | _ => False
@[simp] theorem atF_fz {k : D → Prop} : atF (some (.fz d)) k = k d := rfl
@[simp] theorem q_dVar : dVar i ρ s Q = atF ρ[i]? fun d => Q d s := by
  unfold dVar
  generalize ρ[i]? = c
  cases c with
  | none => rfl
  | some c => cases c <;> rfl
def atB (c : Option Cell) (k : D → Prop) : Prop := match c with
  | some (.fz d) => k d
  | some (.ol ds) => k (.list ds)
  | some (.dk kvs) => k (Cell.data (.dk kvs))
  | some (.dt kvs) => k (Cell.data (.dt kvs))
  | _ => False
@[simp] theorem atB_fz {k : D → Prop} : atB (some (.fz d)) k = k d := rfl
@[simp] theorem atB_ol {k : D → Prop} {ds : List D} : atB (some (.ol ds)) k = k (.list ds) := rfl
@[simp] theorem q_dVarB : dVarB i ρ s Q = atB ρ[i]? fun d => Q d s := by
  unfold dVarB
  generalize ρ[i]? = c
  cases c with
  | none => rfl
  | some c => cases c <;> rfl
@[simp] theorem q_dOp : dOp f a b ρ s Q = a ρ s fun x s1 => b ρ s1 fun y s2 => f x y fun z => Q z s2 := rfl
@[simp] theorem q_dUn : dUn f1 a ρ s Q = a ρ s fun x s1 => f1 x fun z => Q z s1 := rfl
@[simp] theorem q_dAnd : dAnd a b ρ s Q = a ρ s fun x s1 => bK x (b ρ s1 Q) (Q (.bool false) s1) := by
  unfold dAnd bK
  congr 1
  funext x s1
  cases x with
  | bool b => cases b <;> simp
  | _ => rfl
@[simp] theorem q_dOr : dOr a b ρ s Q = a ρ s fun x s1 => bK x (Q (.bool true) s1) (b ρ s1 Q) := by
  unfold dOr bK
  congr 1
  funext x s1
  cases x with
  | bool b => cases b <;> simp
  | _ => rfl
@[simp] theorem q_dNot : dNot a ρ s Q = a ρ s fun x s1 => bV x fun b => Q (.bool (!b)) s1 := rfl
@[simp] theorem q_dIf : dIf tc a b ρ s Q = tc ρ s fun k s1 => if k = true then a ρ s1 Q else b ρ s1 Q := by
  unfold dIf
  congr 1
  funext x s1
  cases x <;> simp
@[simp] theorem q_dTest : dTest a ρ s QT = a ρ s fun x s1 => bV x fun b => QT b s1 := rfl
@[simp] theorem q_dAndT : dAndT t1 t2 ρ s QT = t1 ρ s fun k s1 => if k = true then t2 ρ s1 QT else QT false s1 := by
  unfold dAndT
  congr 1
  funext x s1
  cases x <;> simp
@[simp] theorem q_dOrT : dOrT t1 t2 ρ s QT = t1 ρ s fun k s1 => if k = true then QT true s1 else t2 ρ s1 QT := by
  unfold dOrT
  congr 1
  funext x s1
  cases x <;> simp
@[simp] theorem q_dNotT : dNotT tc ρ s QT = tc ρ s fun k s1 => QT (!k) s1 := rfl
@[simp] theorem q_dYes : dYes ρ s QT = QT true s := rfl
@[simp] theorem q_dNil : dNil ρ s QA = QA [] s := rfl
@[simp] theorem q_dCons : dCons a al ρ s QA = a ρ s fun x s1 => al ρ s1 fun xs s2 => QA (x :: xs) s2 := rfl
@[simp] theorem q_dTup : dTup al ρ s Q = al ρ s fun xs s1 => xs.length ≤ sizeLine ∧ Q (.tuple xs) s1 := rfl
@[simp] theorem q_dLst : dLst al ρ s Q = al ρ s fun xs s1 => xs.length ≤ sizeLine ∧ Q (.list xs) s1 := rfl
@[simp] theorem q_dFn : dFn fn al ρ s Q = al ρ s fun xs s1 => fn xs fun z => Q z s1 := rfl
@[simp] theorem q_dChain : dChain f g a b c ρ s Q = a ρ s fun x s1 => b ρ s1 fun y s2 => f x y fun z => bK z (c ρ s2 fun w s3 => g y w fun z => Q z s3) (Q (.bool false) s2) := by
  unfold dChain bK
  congr 1
  funext x s1
  congr 1
  funext y s2
  congr 1
  funext z
  cases z with
  | bool b => cases b <;> simp
  | _ => rfl
@[simp] theorem q_dCall : dCall S0 al ρ s Q = al ρ s fun xs s1 => S0 xs s1 Q := rfl
/-! statements -/
@[simp] theorem q_dNx : dNx D0 ρ s = D0.nx ρ s := rfl
@[simp] theorem q_dSeq : dSeq t u D0 ρ s = t ⟨fun ρ s => u D0 ρ s, D0.rt, D0.bk, D0.ct⟩ ρ s := rfl
@[simp] theorem q_dRet : dRet a D0 ρ s = a ρ s D0.rt := rfl
@[simp] theorem q_dRetN : dRetN D0 ρ s = D0.rt .none s := rfl
@[simp] theorem q_dBrk : dBrk D0 ρ s = D0.bk ρ s := rfl
@[simp] theorem q_dCnt : dCnt D0 ρ s = D0.ct ρ s := rfl
@[simp] theorem q_dDrop : dDrop a D0 ρ s = a ρ s fun _ s' => D0.nx ρ s' := rfl
@[simp] theorem q_dIfS : dIfS tc t u D0 ρ s = tc ρ s fun b s' => if b = true then t D0 ρ s' else u D0 ρ s' := by
  unfold dIfS
  congr 1
  funext x s1
  cases x <;> simp
@[simp] theorem q_dgN : (dgN i : DG A) d ρ s k = k (ρ.set i (.fz d)) s := rfl
@[simp] theorem q_dgs0 {ds : List D} : (dgs0 : DGs A) ds ρ s k = (ds = [] ∧ k ρ s) := rfl
@[simp] theorem q_dgsC {ds : List D} : dgsC dg dgs (d :: ds) ρ s k = dg d ρ s fun ρ' s' => dgs ds ρ' s' k := rfl
@[simp] theorem q_dgT {n : Nat} {ds : List D} : dgT n dgs (.tuple ds) ρ s k = (ds.length = n ∧ dgs ds ρ s k) := rfl
@[simp] theorem q_dAsg : dAsg a dg D0 ρ s = a ρ s fun d s' => dg d ρ s' D0.nx := rfl
@[simp] theorem q_dOfN : dOfN tn ρ s Q = tn ρ s fun c s' => Q c.data s' := rfl
@[simp] theorem q_dSetN : dSetN i tn D0 ρ s = tn ρ s fun c s' => D0.nx (ρ.set i c) s' := rfl
@[simp] theorem q_ol {ds : List D} : Cell.data (.ol ds) = .list ds := rfl
@[simp] theorem q_fz : Cell.data (.fz d) = d := rfl
@[simp] theorem q_frz_ol {ds : List D} : frzC (.ol ds) = .fz (.list ds) := rfl
@[simp] theorem q_frz_fz : frzC (.fz d) = .fz d := rfl
@[simp] theorem q_frz_un : frzC .un = .un := rfl
@[simp] theorem q_nLst : nLst al ρ s QC = al ρ s fun xs s1 => xs.length ≤ sizeLine ∧ QC (.ol xs) s1 := rfl
@[simp] theorem q_nOp : nOp gg a b ρ s QC = a ρ s fun x s1 => b ρ s1 fun y s2 => gg x y fun z => QC z s2 := rfl
@[simp] theorem q_nFn : nFn gn al ρ s QC = al ρ s fun xs s1 => gn xs fun z => QC z s1 := rfl
/-- freezing -/
def frzR (i : Nat) (ρ : Rho) : Rho := match ρ[i]? with
  | some c => ρ.set i (frzC c)
  | none => ρ
@[simp] theorem q_dFrz : dFrz i t D0 ρ s = t D0 (frzR i ρ) s := rfl
theorem frzR_at {c : Cell} (h : ρ[i]? = some c) : frzR i ρ = ρ.set i (frzC c) := by
  unfold frzR
  rw [h]
@[simp] theorem frzR_0 {c : Cell} {r : Rho} : frzR 0 (c :: r) = frzC c :: r := rfl
@[simp] theorem frzR_s {c : Cell} {r : Rho} {n : Nat} : frzR (n + 1) (c :: r) = c :: frzR n r := by
  unfold frzR
  rw [List.getElem?_cons_succ]
  cases e : r[n]? with
  | none => rfl
  | some c' => rfl
/-- a list of the def's own -/
def atO (c : Option Cell) (k : List D → Prop) : Prop := match c with
  | some (.ol ds) => k ds
  | _ => False
@[simp] theorem atO_ol {ds : List D} {k : List D → Prop} : atO (some (.ol ds)) k = k ds := rfl
@[simp] theorem q_dApp : dApp i a D0 ρ s = atO ρ[i]? fun ds => a ρ s fun d s' => ds.length < sizeLine ∧ D0.nx (ρ.set i (.ol (ds ++ [d]))) s' := by
  unfold dApp
  generalize ρ[i]? = c
  cases c with
  | none => rfl
  | some c => cases c <;> rfl
/-- an int -/
def iV (x : D) (k : Int → Prop) : Prop := match x with
  | .int i => k i
  | _ => False
@[simp] theorem iV_int {j : Int} {k : Int → Prop} : iV (.int j) k = k j := rfl
def oV {α : Type} (x : Option α) (k : α → Prop) : Prop := match x with
  | some d => k d
  | none => False
@[simp] theorem oV_some {α : Type} {x : α} {k : α → Prop} : oV (some x) k = k x := rfl
@[simp] theorem oV_none {α : Type} {k : α → Prop} : oV (none : Option α) k = False := rfl
theorem oV_of {α : Type} {o : Option α} {x : α} {k : α → Prop} (h : o = some x) (q : k x) : oV o k := by rw [h]; exact q
@[simp] theorem q_dgIx {ti : DE A} : dgIx i ti d ρ s k = atO ρ[i]? fun ds => ti ρ s fun x s' => iV x fun j => oV (ixN ds.length j) fun m => k (ρ.set i (.ol (ds.set m d))) s' := by
  unfold dgIx
  generalize ρ[i]? = c
  cases c with
  | none => rfl
  | some c =>
    cases c with
    | ol ds =>
      show ti ρ s _ = ti ρ s _
      congr 1
      funext x s'
      cases x with
      | int j =>
        show _ = oV (ixN ds.length j) _
        dsimp only
        cases ixN ds.length j <;> rfl
      | _ => rfl
    | _ => rfl
@[simp] theorem q_oNone {QO : Option Int → A.S → Prop} : (oNone : DO A) ρ s QO = QO none s := rfl
@[simp] theorem q_oSome {QO : Option Int → A.S → Prop} : oSome a ρ s QO = a ρ s fun x s' => iV x fun i => QO (some i) s' := rfl
/-- a cut -/
def slV (x : D) (l u : Option Int) (k : D → Prop) : Prop := match x with
  | .list ds => k (.list (cutD ds l u))
  | .tuple ds => k (.tuple (cutD ds l u))
  | .str z => z.length ≤ sizeLine ∧ k (.str (cutS z l u))
  | _ => False
@[simp] theorem slV_list {ds : List D} {l u : Option Int} {k : D → Prop} : slV (.list ds) l u k = k (.list (cutD ds l u)) := rfl
@[simp] theorem slV_tuple {ds : List D} {l u : Option Int} {k : D → Prop} : slV (.tuple ds) l u k = k (.tuple (cutD ds l u)) := rfl
@[simp] theorem slV_str {z : Str} {l u : Option Int} {k : D → Prop} : slV (.str z) l u k = (z.length ≤ sizeLine ∧ k (.str (cutS z l u))) := rfl
@[simp] theorem q_dSl {tl th : DO A} : dSl a tl th ρ s Q = a ρ s fun x s1 => tl ρ s1 fun l s2 => th ρ s2 fun u s3 => slV x l u fun d => Q d s3 := by
  rfl
/-- what range asks -/
def rgV (x y : D) (k : List D → Prop) : Prop := match x, y with
  | .int i, .int j => RgOk i j ∧ k (rngD i (j - i).toNat)
  | _, _ => False
@[simp] theorem rgV_int {i j : Int} {k : List D → Prop} : rgV (.int i) (.int j) k = (RgOk i j ∧ k (rngD i (j - i).toNat)) := rfl
@[simp] theorem q_dTupRg : dTupRg a b ρ s Q = a ρ s fun x s1 => b ρ s1 fun y s2 => rgV x y fun ds => Q (.tuple ds) s2 := by
  rfl
@[simp] theorem q_nLstRg : nLstRg a b ρ s QC = a ρ s fun x s1 => b ρ s1 fun y s2 => rgV x y fun ds => QC (.ol ds) s2 := by
  rfl
/-- what is walked -/
def itV (x : D) (k : List D → Prop) : Prop := match x with
  | .list ds => k ds
  | .tuple ds => k ds
  | .str z => k (signsD z)
  | _ => False
@[simp] theorem itV_list {ds : List D} {k : List D → Prop} : itV (.list ds) k = k ds := rfl
@[simp] theorem itV_tuple {ds : List D} {k : List D → Prop} : itV (.tuple ds) k = k ds := rfl
@[simp] theorem itV_str {z : Str} {k : List D → Prop} : itV (.str z) k = k (signsD z) := rfl
@[simp] theorem q_dIt : dIt a ρ s QA = a ρ s fun x s' => itV x fun ds => QA ds s' := by
  rfl
@[simp] theorem q_dRg1 : dRg1 al ρ s QA = al ρ s fun xs s' => ∃ j, xs = [.int j] ∧ (-(2 ^ 62) ≤ j ∧ j < 2 ^ 62) ∧ QA (rngD 0 j.toNat) s' := by
  unfold dRg1
  congr 1; funext xs s1
  apply propext
  constructor
  · intro h
    split at h
    · exact ⟨_, rfl, h⟩
    · exact h.elim
  · rintro ⟨j, rfl, h⟩
    exact h
@[simp] theorem q_dRg2 : dRg2 al ρ s QA = al ρ s fun xs s' => ∃ i j, xs = [.int i, .int j] ∧ (-(2 ^ 62) ≤ i ∧ i < 2 ^ 62 ∧ -(2 ^ 62) ≤ j ∧ j < 2 ^ 62) ∧ QA (rngD i (j - i).toNat) s' := by
  unfold dRg2
  congr 1; funext xs s1
  apply propext
  constructor
  · intro h
    split at h
    · exact ⟨_, _, rfl, h⟩
    · exact h.elim
  · rintro ⟨i, j, rfl, h⟩
    exact h
/-! functions on known shapes -/
@[simp] theorem q_addI {i j : Int} {k : D → Prop} : fAdd (.int i) (.int j) k = k (.int (i + j)) := rfl
@[simp] theorem q_addT {xs ys : List D} {k : D → Prop} : fAdd (.tuple xs) (.tuple ys) k = (xs.length + ys.length ≤ sizeLine ∧ k (.tuple (xs ++ ys))) := rfl
@[simp] theorem q_addL {xs ys : List D} {k : D → Prop} : fAdd (.list xs) (.list ys) k = (xs.length + ys.length ≤ sizeLine ∧ k (.list (xs ++ ys))) := rfl
@[simp] theorem q_addS {x y : Str} {k : D → Prop} : fAdd (.str x) (.str y) k = (x.length + y.length ≤ sizeLine ∧ k (.str (x ++ y))) := rfl
@[simp] theorem q_subI {i j : Int} {k : D → Prop} : fSub (.int i) (.int j) k = k (.int (i - j)) := rfl
@[simp] theorem q_mulI {i j : Int} {k : D → Prop} : fMul (.int i) (.int j) k = (CMul i j ∧ k (.int (i * j))) := rfl
@[simp] theorem q_mod {i j : Int} {k : D → Prop} : fMod (.int i) (.int j) k = (0 < j ∧ k (.int (i % j))) := rfl
@[simp] theorem q_div {i j : Int} {k : D → Prop} : fDiv (.int i) (.int j) k = (CDiv i j ∧ k (.int (i / j))) := rfl
@[simp] theorem q_cmpI {p : Int → Int → Bool} {i j : Int} {k : D → Prop} : fCmpI p (.int i) (.int j) k = k (.bool (p i j)) := rfl
@[simp] theorem q_ltI {i j : Int} {k : D → Prop} : fLt (.int i) (.int j) k = k (.bool (decide (i < j))) := rfl
@[simp] theorem q_ltS {a b : Str} {k : D → Prop} : fLt (.str a) (.str b) k = k (.bool (decide (a.cps.toList < b.cps.toList))) := rfl
@[simp] theorem q_neg {i : Int} {k : D → Prop} : fNeg (.int i) k = k (.int (-i)) := rfl
@[simp] theorem q_isi {t : Ty} {x : D} {k : D → Prop} : fIsi t x k = (notDict x ∧ k (.bool (isTy t x))) := rfl
@[simp] theorem q_is {x : D} {k : D → Prop} : fIs x .none k = (notDict x ∧ k (.bool (isN x))) := rfl
@[simp] theorem q_isNot {x : D} {k : D → Prop} : fIsNot x .none k = (notDict x ∧ k (.bool (!isN x))) := rfl
@[simp] theorem q_eqU {x y : D} {k : D → Prop} : fEqU x y k = (eqOk x y ∧ k (.bool (PyData.eqv x y))) := rfl
@[simp] theorem q_neU {x y : D} {k : D → Prop} : fNeU x y k = (eqOk x y ∧ k (.bool (!PyData.eqv x y))) := rfl
@[simp] theorem q_ixT {ds : List D} {i : Int} {k : D → Prop} : fIx (.tuple ds) (.int i) k = oV (atI ds i) k := by
  unfold fIx
  dsimp only
  cases atI ds i <;> rfl
@[simp] theorem q_ixL {ds : List D} {i : Int} {k : D → Prop} : fIx (.list ds) (.int i) k = oV (atI ds i) k := by
  unfold fIx
  dsimp only
  cases atI ds i <;> rfl
@[simp] theorem q_lenT {ds : List D} {k : D → Prop} : fLen [.tuple ds] k = k (.int ds.length) := rfl
@[simp] theorem q_lenL {ds : List D} {k : D → Prop} : fLen [.list ds] k = k (.int ds.length) := rfl
@[simp] theorem q_tupL {ds : List D} {k : D → Prop} : fTuple [.list ds] k = k (.tuple ds) := rfl
@[simp] theorem q_tupT {ds : List D} {k : D → Prop} : fTuple [.tuple ds] k = k (.tuple ds) := rfl
@[simp] theorem q_intI {i : Int} {k : D → Prop} : fInt [.int i] k = k (.int i) := rfl
@[simp] theorem q_intB {i : Bool} {k : D → Prop} : fInt [.bool i] k = k (.int (if i then 1 else 0)) := rfl
@[simp] theorem q_listL {ds : List D} {k : Cell → Prop} : gList [.list ds] k = k (.ol ds) := rfl
@[simp] theorem q_listT {ds : List D} {k : Cell → Prop} : gList [.tuple ds] k = k (.ol ds) := rfl
def sortOk (ds : List D) : Prop := PyData.canLayAll0 ds = true ∧ PySem.W.AllAlike ds ∧ ∀ d ∈ ds, d ≠ .none ∧ d.depth ≤ 60
def sortD (ds : List D) : List D := ds.mergeSort (PySem.W.dataLe false id)
@[simp] theorem q_sortedL {ds : List D} {k : Cell → Prop} : gSorted [.list ds] k = (sortOk ds ∧ k (.ol (sortD ds))) := by
  unfold gSorted sortOk sortD
  simp only [and_assoc]
@[simp] theorem q_sortedT {ds : List D} {k : Cell → Prop} : gSorted [.tuple ds] k = (sortOk ds ∧ k (.ol (sortD ds))) := by
  unfold gSorted sortOk sortD
  simp only [and_assoc]
@[simp] theorem q_repr {d : D} {k : D → Prop} : fRepr [d] k = (d.canLay0 = true ∧ d.showable = true ∧ d.depth ≤ 60 ∧ d.shown.length ≤ sizeLine ∧ k (.str d.shown)) := rfl
def boolsV (ds : List D) (k : List Bool → Prop) : Prop := oV (boolsD ds) k
@[simp] theorem q_all {ds : List D} {k : D → Prop} : fAll [.list ds] k = boolsV ds fun bs => k (.bool (bs.all id)) := by
  unfold fAll boolsV oV
  dsimp only
  cases boolsD ds <;> rfl
@[simp] theorem q_any {ds : List D} {k : D → Prop} : fAny [.list ds] k = boolsV ds fun bs => k (.bool (bs.any id)) := by
  unfold fAny boolsV oV
  dsimp only
  cases boolsD ds <;> rfl
theorem boolsD_map {α : Type} (p : α → Bool) : ∀ xs : List α, boolsD (xs.map fun x => .bool (p x)) = some (xs.map p)
  | [] => rfl
  | x :: xs => by
    rw [List.map_cons, boolsD, boolsD_map p xs]
    rfl
@[simp] theorem boolsV_map {α : Type} {p : α → Bool} {xs : List α} {k : List Bool → Prop} : boolsV (xs.map fun x => .bool (p x)) k = k (xs.map p) := by
  unfold boolsV
  rw [boolsD_map]
  rfl
@[simp] theorem q_in {neg : Bool} {x : D} {ds : List D} {k : D → Prop} : fInG neg x (.list ds) k = (inOk x ds ∧ k (.bool (if neg then !anyEq x ds else anyEq x ds))) := rfl
@[simp] theorem q_inT {neg : Bool} {x : D} {ds : List D} {k : D → Prop} : fInG neg x (.tuple ds) k = (inOk x ds ∧ k (.bool (if neg then !anyEq x ds else anyEq x ds))) := rfl
@[simp] theorem nd_none : notDict .none = True := rfl
@[simp] theorem isN_none : isN .none = true := rfl
@[simp] theorem isTy_int_none : isTy .int .none = false := rfl
@[simp] theorem isTy_bool_none : isTy .bool .none = false := rfl
@[simp] theorem isTy_tuple_none : isTy .tuple .none = false := rfl
@[simp] theorem isTy_list_none : isTy .list .none = false := rfl
@[simp] theorem isTy_str_none : isTy .str .none = false := rfl
@[simp] theorem nd_bool {b : Bool} : notDict (.bool b) = True := rfl
@[simp] theorem isN_bool {b : Bool} : isN (.bool b) = false := rfl
@[simp] theorem isTy_int_bool {b : Bool} : isTy .int (.bool b) = true := rfl
@[simp] theorem isTy_bool_bool {b : Bool} : isTy .bool (.bool b) = true := rfl
@[simp] theorem isTy_tuple_bool {b : Bool} : isTy .tuple (.bool b) = false := rfl
@[simp] theorem isTy_list_bool {b : Bool} : isTy .list (.bool b) = false := rfl
@[simp] theorem isTy_str_bool {b : Bool} : isTy .str (.bool b) = false := rfl
@[simp] theorem nd_int {i : Int} : notDict (.int i) = True := rfl
@[simp] theorem isN_int {i : Int} : isN (.int i) = false := rfl
@[simp] theorem isTy_int_int {i : Int} : isTy .int (.int i) = true := rfl
@[simp] theorem isTy_bool_int {i : Int} : isTy .bool (.int i) = false := rfl
@[simp] theorem isTy_tuple_int {i : Int} : isTy .tuple (.int i) = false := rfl
@[simp] theorem isTy_list_int {i : Int} : isTy .list (.int i) = false := rfl
@[simp] theorem isTy_str_int {i : Int} : isTy .str (.int i) = false := rfl
@[simp] theorem nd_str {z : Str} : notDict (.str z) = True := rfl
@[simp] theorem isN_str {z : Str} : isN (.str z) = false := rfl
@[simp] theorem isTy_int_str {z : Str} : isTy .int (.str z) = false := rfl
@[simp] theorem isTy_bool_str {z : Str} : isTy .bool (.str z) = false := rfl
@[simp] theorem isTy_tuple_str {z : Str} : isTy .tuple (.str z) = false := rfl
@[simp] theorem isTy_list_str {z : Str} : isTy .list (.str z) = false := rfl
@[simp] theorem isTy_str_str {z : Str} : isTy .str (.str z) = true := rfl
@[simp] theorem nd_list {ds : List D} : notDict (.list ds) = True := rfl
@[simp] theorem isN_list {ds : List D} : isN (.list ds) = false := rfl
@[simp] theorem isTy_int_list {ds : List D} : isTy .int (.list ds) = false := rfl
@[simp] theorem isTy_bool_list {ds : List D} : isTy .bool (.list ds) = false := rfl
@[simp] theorem isTy_tuple_list {ds : List D} : isTy .tuple (.list ds) = false := rfl
@[simp] theorem isTy_list_list {ds : List D} : isTy .list (.list ds) = true := rfl
@[simp] theorem isTy_str_list {ds : List D} : isTy .str (.list ds) = false := rfl
@[simp] theorem nd_tuple {ds : List D} : notDict (.tuple ds) = True := rfl
@[simp] theorem isN_tuple {ds : List D} : isN (.tuple ds) = false := rfl
@[simp] theorem isTy_int_tuple {ds : List D} : isTy .int (.tuple ds) = false := rfl
@[simp] theorem isTy_bool_tuple {ds : List D} : isTy .bool (.tuple ds) = false := rfl
@[simp] theorem isTy_tuple_tuple {ds : List D} : isTy .tuple (.tuple ds) = true := rfl
@[simp] theorem isTy_list_tuple {ds : List D} : isTy .list (.tuple ds) = false := rfl
@[simp] theorem isTy_str_tuple {ds : List D} : isTy .str (.tuple ds) = false := rfl
end
/-! ### loops, comprehensions -/
section
variable {A : Amb}
def retE (Q : D → A.S → Prop) : DEnds A := ⟨fun _ s' => Q .none s', Q, fun _ _ => False, fun _ _ => False⟩
@[simp] theorem retE_rt {Q : D → A.S → Prop} : (retE Q).rt = Q := rfl
@[simp] theorem retE_nx {Q : D → A.S → Prop} : (retE Q).nx = fun _ s' => Q .none s' := rfl
@[simp] theorem lawEnds_rt : (lawEnds A).rt = fun d _ => d = .bool true := rfl
theorem compW_pure {S : Type} {f : D → S → (Option D → S → Prop) → Prop} {h : D → Option D} : ∀ {xs : List D} {s : S} {Q : List D → S → Prop}, (∀ x ∈ xs, ∀ s k, k (h x) s → f x s k) → Q (xs.filterMap h) s → compW f xs s Q
  | [], _, _, _, q => q
  | x :: xs, s, Q, hf, q => by
    refine hf x (List.mem_cons_self ..) s _ (compW_pure (fun y m => hf y (List.mem_cons_of_mem _ m)) ?_)
    rw [List.filterMap_cons] at q
    cases e : h x with
    | none => rw [e] at q; exact q
    | some d => rw [e] at q; exact q
/-- a comprehension whose parts are functions of the item -/
theorem comp_pure {it : DI A} {g : DG A} {tt : DT A} {te : DE A} {vs : List Nat} {ρ : Rho} {s : A.S} {QC : Cell → A.S → Prop} {xs : List D} (hi : ∀ k : List D → A.S → Prop, k xs s → it ρ s k) (cl : clean ρ vs) (hn : xs.length ≤ sizeLine) (h : D → Option D)
    (hf : ∀ x ∈ xs, ∀ (s : A.S) (k : Option D → A.S → Prop), k (h x) s → g x (wipeR ρ vs) s fun ρ1 s1 => tt ρ1 s1 fun b s2 => if b = true then te ρ1 s2 fun d s3 => k (some d) s3 else k none s2) (q : QC (.ol (xs.filterMap h)) s) : nComp it g tt te vs ρ s QC := by
  refine hi _ ⟨cl, hn, compW_pure (h := h) (fun x m s k q => ?_) q⟩
  have z := hf x m s k q
  have e : (fun ρ1 s1 => tt ρ1 s1 fun b s2 => match b with
    | true => te ρ1 s2 fun d s3 => k (some d) s3
    | false => k none s2) = fun ρ1 s1 => tt ρ1 s1 fun b s2 => if b = true then te ρ1 s2 fun d s3 => k (some d) s3 else k none s2 := by
    funext ρ1 s1
    congr 1
    funext b s2
    cases b <;> simp
  exact Eq.mpr (congrArg (g x (wipeR ρ vs) s) e) z
@[simp] theorem clean_nil {ρ : Rho} : clean ρ [] = True := rfl
@[simp] theorem wipeR_nil {ρ : Rho} : wipeR ρ [] = ρ := rfl
@[simp] theorem wipeR_cons {ρ : Rho} {v : Nat} {vs : List Nat} : wipeR ρ (v :: vs) = (wipeR ρ vs).set v .un := rfl
/-- a slot that holds no object of the def's own -/
def freeC : Option Cell → Prop
  | some (.ol _) => False
  | some (.dk _) => False
  | some (.dt _) => False
  | _ => True
@[simp] theorem freeC_un : freeC (some .un) = True := rfl
@[simp] theorem freeC_fz {d : D} : freeC (some (.fz d)) = True := rfl
@[simp] theorem freeC_none : freeC none = True := rfl
@[simp] theorem clean_cons {ρ : Rho} {v : Nat} {vs : List Nat} : clean ρ (v :: vs) = (freeC ρ[v]? ∧ clean ρ vs) := by
  show (_ ∧ _) = _
  unfold freeC
  congr 1
/-- a for loop, by an invariant over the items that are left -/
theorem for_inv {f : D → DEnds A → Rho → A.S → Prop} {Dd : DEnds A} (I : List D → Rho → A.S → Prop) : ∀ {xs : List D} {ρ : Rho} {s : A.S}, I xs ρ s →
    (∀ x r ρ s, I (x :: r) ρ s → ∀ D' : DEnds A, D'.rt = Dd.rt → D'.bk = Dd.nx → (∀ ρ' s', I r ρ' s' → D'.nx ρ' s') → (∀ ρ' s', I r ρ' s' → D'.ct ρ' s') → f x D' ρ s) → (∀ ρ s, I [] ρ s → Dd.nx ρ s) → forW f xs Dd ρ s
  | [], _, _, i, _, he => he _ _ i
  | x :: xs, _, _, i, hs, he => hs x xs _ _ i _ rfl rfl (fun _ _ i' => for_inv I i' hs he) (fun _ _ i' => for_inv I i' hs he)
/-- lists related item by item -/
inductive All2 {α β : Type} (R : α → β → Prop) : List α → List β → Prop
  | nil : All2 R [] []
  | cons {a b as bs} : R a b → All2 R as bs → All2 R (a :: as) (b :: bs)
theorem All2.length {α β : Type} {R : α → β → Prop} : ∀ {as : List α} {bs : List β}, All2 R as bs → as.length = bs.length
  | _, _, .nil => rfl
  | _, _, .cons _ t => congrArg (· + 1) t.length
theorem compW_rel {S : Type} {f : D → S → (Option D → S → Prop) → Prop} {R : D → Option D → Prop} : ∀ {xs : List D} {s : S} {Q : List D → S → Prop}, (∀ x ∈ xs, ∀ s k, (∀ r, R x r → k r s) → f x s k) → (∀ rs, All2 R xs rs → Q (rs.filterMap id) s) → compW f xs s Q
  | [], _, _, _, q => q [] .nil
  | x :: xs, s, Q, hf, q => by
    refine hf x (List.mem_cons_self ..) s _ fun r hr => compW_rel (R := R) (fun y m => hf y (List.mem_cons_of_mem _ m)) fun rs h => ?_
    have z := q (r :: rs) (.cons hr h)
    rw [List.filterMap_cons] at z
    cases r with
    | none => exact z
    | some d => exact z
/-- a comprehension whose parts give this or that -/
theorem comp_rel {it : DI A} {g : DG A} {tt : DT A} {te : DE A} {vs : List Nat} {ρ : Rho} {s : A.S} {QC : Cell → A.S → Prop} {xs : List D} (hi : ∀ k : List D → A.S → Prop, k xs s → it ρ s k) (cl : clean ρ vs) (hn : xs.length ≤ sizeLine) (R : D → Option D → Prop)
    (hf : ∀ x ∈ xs, ∀ (s : A.S) (k : Option D → A.S → Prop), (∀ r, R x r → k r s) → g x (wipeR ρ vs) s fun ρ1 s1 => tt ρ1 s1 fun b s2 => if b = true then te ρ1 s2 fun d s3 => k (some d) s3 else k none s2) (q : ∀ rs, All2 R xs rs → QC (.ol (rs.filterMap id)) s) : nComp it g tt te vs ρ s QC := by
  refine hi _ ⟨cl, hn, compW_rel (R := R) (fun x m s k q => ?_) q⟩
  have z := hf x m s k q
  have e : (fun ρ1 s1 => tt ρ1 s1 fun b s2 => match b with
    | true => te ρ1 s2 fun d s3 => k (some d) s3
    | false => k none s2) = fun ρ1 s1 => tt ρ1 s1 fun b s2 => if b = true then te ρ1 s2 fun d s3 => k (some d) s3 else k none s2 := by
    funext ρ1 s1
    congr 1
    funext b s2
    cases b <;> simp
  exact Eq.mpr (congrArg (g x (wipeR ρ vs) s) e) z
/-- a while loop, by an invariant with a measure -/
theorem while_inv {tc : DT A} {b : DS A} {Dd : DEnds A} {ρ : Rho} {s : A.S} (I : Nat → Rho → A.S → Prop) (n : Nat) (i : I n ρ s)
    (h : ∀ n ρ s, I n ρ s → tc ρ s fun k s' => if k = true then b ⟨fun ρ' s' => ∃ m, m < n ∧ I m ρ' s', Dd.rt, Dd.nx, fun ρ' s' => ∃ m, m < n ∧ I m ρ' s'⟩ ρ s' else Dd.nx ρ s') : dWhile tc b Dd ρ s := by
  refine ⟨I, ⟨n, i⟩, fun n ρ s i => ?_⟩
  have z := h n ρ s i
  have e : (fun k s' => match k with
    | true => b ⟨fun ρ' s' => ∃ m, m < n ∧ I m ρ' s', Dd.rt, Dd.nx, fun ρ' s' => ∃ m, m < n ∧ I m ρ' s'⟩ ρ s'
    | false => Dd.nx ρ s') = fun k s' => if k = true then b ⟨fun ρ' s' => ∃ m, m < n ∧ I m ρ' s', Dd.rt, Dd.nx, fun ρ' s' => ∃ m, m < n ∧ I m ρ' s'⟩ ρ s' else Dd.nx ρ s' := by
    funext k s'
    cases k <;> simp
  exact Eq.mpr (congrArg (tc ρ s) e) z
/-- a for loop over data -/
theorem for_of {it : DI A} {g : DG A} {b : DS A} {Dd : DEnds A} {ρ : Rho} {s : A.S} {xs : List D} (hi : ∀ k : List D → A.S → Prop, k xs s → it ρ s k) (I : List D → Rho → A.S → Prop) (i : I xs ρ s)
    (h : ∀ x r ρ s, I (x :: r) ρ s → ∀ D' : DEnds A, D'.rt = Dd.rt → D'.bk = Dd.nx → (∀ ρ' s', I r ρ' s' → D'.nx ρ' s') → (∀ ρ' s', I r ρ' s' → D'.ct ρ' s') → g x ρ s fun ρ' s' => b D' ρ' s') (e : ∀ ρ s, I [] ρ s → Dd.nx ρ s) : dFor it g b Dd ρ s :=
  hi _ (for_inv I i h e)
/-! ### cuts -/
theorem cutD_to {ds : List D} {i : Int} (h : 0 ≤ i) : cutD ds none (some i) = ds.take i.toNat := by
  unfold cutD
  have e : HT.sIx ds.length ds.length (some i) = min i.toNat ds.length := by
    unfold HT.sIx
    dsimp only
    rw [if_neg (by omega)]
  rw [e, HT.sIx_none, List.drop_zero, Nat.sub_zero, ← List.take_eq_take_min]
theorem cutD_from {ds : List D} {i : Int} (h : 0 ≤ i) : cutD ds (some i) none = ds.drop i.toNat := by
  unfold cutD
  have e : HT.sIx ds.length 0 (some i) = min i.toNat ds.length := by
    unfold HT.sIx
    dsimp only
    rw [if_neg (by omega)]
  rw [e, HT.sIx_none]
  by_cases hi : i.toNat ≤ ds.length
  · rw [Nat.min_eq_left hi]
    exact List.take_of_length_le (by rw [List.length_drop]; omega)
  · rw [Nat.min_eq_right (by omega), List.drop_length, List.drop_eq_nil_of_le (by omega)]
    simp
theorem cutD_last {ds : List D} : cutD ds none (some (-1)) = ds.dropLast := by
  unfold cutD
  have e : HT.sIx ds.length ds.length (some (-1)) = ds.length - 1 := by
    unfold HT.sIx
    dsimp only
    rw [if_pos (by omega)]
    omega
  rw [e, HT.sIx_none, List.drop_zero, Nat.sub_zero, List.dropLast_eq_take]
end
end Dl
/-! Backward slices, two targets at once, += and its like. -/
namespace Dl
open PySem L2 PyProof.Rows

/-! ### x[::-1] -/
section
variable {prog : Program} {w : World} {A : Around} {E : Value → Shared → Prop} {s : Shared}
theorem adjust_back (n : Nat) : Builtin.Slice.sliceAdjust none none (-1) (n : Int) = ((n : Int) - 1, -1) := by
  unfold Builtin.Slice.sliceAdjust
  simp
theorem places_back (n : Nat) : Builtin.Slice.slicePlaces ((n : Int) - 1) (-1) (-1) = n := by
  unfold Builtin.Slice.slicePlaces
  simp
  split <;> omega
theorem applied_back {sl : Addr} {vl vu vs : Value} {n : Nat} {Q : Int × Int × Nat → Shared → Prop} (hs : s.heap.IsSliceOf sl vl vu vs) (pl : IsPart vl none) (pu : IsPart vu none) (ps : IsPart vs (some (-1)))
    (h : Q ((n : Int) - 1, -1, n) s) : wpAny (model prog w) A (Builtin.Slice.sliceApplied (.ref sl) (pure (n : Int))) Q E s := by
  obtain ⟨os, hos, hcs, hds⟩ := id hs
  unfold Builtin.Slice.sliceApplied Builtin.Slice.sliceFields
  refine wpAny_bind (wpAny_bind (wpAny_field hos hds (x := vl) rfl (wpAny_bind (wpAny_field hos hds (x := vu) rfl (wpAny_bind (wpAny_field hos hds (x := vs) rfl (wpAny_pure ?_)))))))
  refine wpAny_bind (HT.slicePart_ ps ?_)
  show wpAny _ _ (if ((-1 : Int) == 0) = true then _ else _) _ _ s
  rw [if_neg (by decide)]
  refine wpAny_bind (HT.slicePart_ pl (wpAny_bind (HT.slicePart_ pu (wpAny_bind (wpAny_pure ?_)))))
  show wpAny _ _ (match Builtin.Slice.sliceAdjust none none (-1) (n : Int) with | (lo, hi) => pure (lo, (-1 : Int), Builtin.Slice.slicePlaces lo hi (-1))) _ _ s
  rw [adjust_back n]
  show wpAny _ _ (pure ((n : Int) - 1, (-1 : Int), Builtin.Slice.slicePlaces ((n : Int) - 1) (-1) (-1))) _ _ s
  rw [places_back]
  exact wpAny_pure h
theorem pick_back (xs : Array Value) : ((List.range xs.size).filterMap fun (m : Nat) => xs[(((xs.size : Int) - 1) + (m : Int) * (-1)).toNat]?).toArray = xs.toList.reverse.toArray := by
  have e : ∀ ys : List Value, (List.range ys.length).filterMap (fun (m : Nat) => ys[(((ys.length : Int) - 1) + (m : Int) * (-1)).toNat]?) = ys.reverse := fun ys => by
    have e2 : ∀ l : List Nat, (∀ m ∈ l, m < ys.length) → l.filterMap (fun (m : Nat) => ys[(((ys.length : Int) - 1) + (m : Int) * (-1)).toNat]?) = l.map fun m => ys.getD (ys.length - 1 - m) .none := fun l => by
      induction l with
      | nil => intro _; rfl
      | cons m l ih =>
        intro h
        have hm := h m (List.mem_cons_self ..)
        have e3 : (((ys.length : Int) - 1) + (m : Int) * (-1)).toNat = ys.length - 1 - m := by omega
        rw [List.filterMap_cons, List.map_cons, ih fun x hx => h x (List.mem_cons_of_mem _ hx), e3, List.getD_eq_getElem?_getD, List.getElem?_eq_getElem (show ys.length - 1 - m < ys.length by omega)]
        rfl
    rw [e2 _ fun m hm => List.mem_range.mp hm]
    apply List.ext_getElem?
    intro i
    by_cases hi : i < ys.length
    · rw [List.getElem?_map, List.getElem?_range hi, List.getElem?_reverse hi]
      simp [List.getD_eq_getElem?_getD]
      rw [List.getElem?_eq_getElem (by omega)]
      rfl
    · rw [List.getElem?_eq_none (by simp; omega), List.getElem?_eq_none (by simp; omega)]
  have z := e xs.toList
  simp only [Array.length_toList, Array.getElem?_toList] at z
  rw [z]
theorem getItem_tuple_back {t sl : Addr} {items : Array Value} {vl vu vs : Value} {Q : Value → Shared → Prop} (ht : IsTup s.heap t items) (hs : s.heap.IsSliceOf sl vl vu vs) (pl : IsPart vl none) (pu : IsPart vu none) (ps : IsPart vs (some (-1)))
    (h : Q (.ref s.heap.objs.size) { s with heap := s.heap.push { cls := .type "tuple", data := .seq items.toList.reverse.toArray } }) (hsz : items.size ≤ sizeLine) : wpAny (model prog w) A (getItem (.ref t) (.ref sl)) Q E s := by
  have hok : sizeOk (.seq items.toList.reverse.toArray) := by
    show items.toList.reverse.toArray.size ≤ sizeLine
    rw [List.size_toArray, List.length_reverse, Array.length_toList]
    exact hsz
  obtain ⟨os, hos, hcs, hds⟩ := id hs
  have hTs : s.TypeIs (.ref sl) "slice" := ⟨os, hos, hcs⟩
  unfold getItem
  try with_reducible refine wpAny_holding ?_
  first | refine wpAny_bind (wpAny_pure ?_) | skip
  refine wpAny_bind (wpAny_sequenceKey ht.typeIs (by decide) ?_)
  refine wpAny_bind (wpAny_callSpecial?_slot (name := Str.ofString "__getitem__") ht.typeIs PyProof.Rows.slot_tuple_getitem
    (wpAny_call_entry PyProof.Rows.slot_tuple_getitem ht.typeIs entry_tuple_getitem ?_ (args_tuple_getitem _ _)))
  show wpAny _ _ (Builtin.Tuple.tupleItemsOf (.ref t) >>= _) _ _ s
  refine wpAny_bind (tupleItemsOf_ ht ?_)
  refine wpAny_bind (wpAny_typeOf hTs ?_)
  rw [if_pos (by decide)]
  refine wpAny_bind (applied_back hs pl pu ps ?_)
  have hno : ¬ ((((items.size : Int) - 1) == 0 && (-1 : Int) == 1 && items.size == items.size) = true) := by
    intro q
    rw [Bool.and_eq_true, Bool.and_eq_true] at q
    exact absurd (eq_of_beq q.1.2) (by decide)
  show wpAny _ _ (if (((items.size : Int) - 1) == 0 && (-1 : Int) == 1 && items.size == items.size) = true then _ else _) _ _ s
  rw [if_neg hno, pick_back]
  first
    | exact wpAny_bind (m := Builtin.Tuple.tupleExact _) (wpAny_newObj_type (wpAny_pure ⟨_, rfl, wpAny_pure h⟩) hok)
    | exact wpAny_bind (m := Builtin.Tuple.tupleExact _) (wpAny_newObj_type (wpAny_bind (wpAny_pure (wpAny_pure ⟨_, rfl, wpAny_pure h⟩))) hok)
    | exact wpAny_bind (wpAny_bind (m := Builtin.Tuple.tupleExact _) (wpAny_newObj_type (wpAny_pure (wpAny_pure ⟨_, rfl, wpAny_pure h⟩)) hok))
    | exact wpAny_bind (wpAny_bind (m := Builtin.Tuple.tupleExact _) (wpAny_newObj_type (wpAny_pure ⟨_, rfl, wpAny_pure h⟩) hok))
end
/-- x[::-1], x a list or a tuple -/
def tRevA (K : PySem.W.Frag) (te : TE) : TE := fun σ H Q => te σ H fun x H1 => ∃ a xs, x = .ref a ∧ ((SqL K H1 a xs ∧ ∀ p, H1 p = none → Q (.ref p) (upd H1 p (.lst xs.reverse))) ∨ (SqT K H1 a xs ∧ NewT Q H1 xs.reverse))
theorem pe_revA {X : Cx} {e : Expr} {te : TE} {k : Nat} {p1 p2 p3 pos : Pos} (he : PE X e te) : PE X (.Subscript e (.Slice none none (some (.UnaryOp .USub (.Constant (.int 1) k p1) p2)) p3) pos) (tRevA X.K te) := by
  refine ⟨fun pins s σ H Q I h => ?_⟩
  refine Subscript_ (thn (he.run pins s σ H _ I h) fun v s1 ⟨x, H1, I1, r1, a, xs, ex, q⟩ => ?_)
  subst ex
  cases r1
  have hst : PO X (some (.UnaryOp .USub (.Constant (.int 1) k p1) p2)) (tPart (tUn (rU fun i => .int (-i)) (tC (.int 1)))) := po_some (pe_un un_neg pe_int)
  refine wpAny_Slice (thn (po_none.run pins s1 σ H1 (fun o H2 => o = none ∧ H2 = H1) I1 ⟨rfl, rfl⟩) fun vl s2 ⟨l, H2, I2, pl, el, e2⟩ => ?_)
  subst el e2
  refine thn (po_none.run pins s2 σ H2 (fun o H3 => o = none ∧ H3 = H2) I2 ⟨rfl, rfl⟩) fun vu s3 ⟨u, H3, I3, pu, eu, e3⟩ => ?_
  subst eu e3
  refine thn (hst.run pins s3 σ H3 (fun o H4 => o = some (-1) ∧ H4 = H3) I3 ⟨1, rfl, -1, rfl, rfl, rfl⟩) fun vs s4 ⟨o, H4, I4, ps, eo, e4⟩ => ?_
  subst eo e4
  have I5 : Inv X pins σ H4 { s4 with heap := s4.heap.push { cls := .type "slice", data := .fields #[vl, vu, vs] } } := I4.kept (t' := s4.toks) fun b ob q => Heap.get?_push_of_some _ q
  show wpAny (model X.prog X.w) X.A (subscriptTail e (.Slice none none (some (.UnaryOp .USub (.Constant (.int 1) k p1) p2)) p3) (.ref a) (.ref s4.heap.objs.size)) (EP X pins σ Q) X.xe { s4 with heap := s4.heap.push { cls := .type "slice", data := .fields #[vl, vu, vs] } }
  rcases q with ⟨hx, q⟩ | ⟨hx, q⟩
  · obtain ⟨its, r, ht, hz⟩ := I5.list hx
    have hlen := r.length
    refine tail_any (ops := [.ref a, .ref s4.heap.objs.size]) ht.isList.typeIs (PySem.slot_list_getitem.lookup) ?_ (by with_unfolding_all rfl)
    refine wpAny_getItem_list_slice ht.isList (Heap.IsSliceOf.new _ vl vu vs) pl pu ps (by decide) ?_ (by rw [List.size_toArray]; omega)
    rw [PySem.W.krv_pick]
    refine ⟨.ref _, _, I5.laid (t' := s4.toks) (o := .lst xs.reverse) (fun b ob q => Heap.get?_push_of_some _ q) (Nat.le_refl _) ?_, rfl, q _ (I5.hok.fresh (Nat.le_refl _))⟩
    exact ⟨by rw [List.length_reverse]; exact hz, _, 0, r.reverse, Heap.get?_push_size _ rfl⟩
  · obtain ⟨its, r, ht, hz⟩ := I5.tuple hx
    have hlen := r.length
    refine tail_any (ops := [.ref a, .ref s4.heap.objs.size]) ht.typeIs (PyProof.Rows.slot_tuple_getitem.lookup) ?_ (by with_unfolding_all rfl)
    refine getItem_tuple_back ht (Heap.IsSliceOf.new _ vl vu vs) pl pu ps ?_ (by rw [List.size_toArray]; omega)
    exact laidT I5 r.reverse (by rw [List.length_reverse]; exact hz) q
section
variable {A : Amb} {X : Cx} {N : Ent} {e a b c : Expr} {te ta tb : DE A} {tL : DA A} {pos : Pos}
def revV (x : D) (k : D → Prop) : Prop := match x with
  | .list ds => k (.list ds.reverse)
  | .tuple ds => k (.tuple ds.reverse)
  | _ => False
@[simp] theorem revV_list {ds : List D} {k : D → Prop} : revV (.list ds) k = k (.list ds.reverse) := rfl
@[simp] theorem revV_tuple {ds : List D} {k : D → Prop} : revV (.tuple ds) k = k (.tuple ds.reverse) := rfl
def dRev (te : DE A) : DE A := fun ρ s Q => te ρ s fun x s1 => revV x fun d => Q d s1
@[simp] theorem q_dRev {ρ : Rho} {s : A.S} {Q : D → A.S → Prop} : dRev te ρ s Q = te ρ s fun x s1 => revV x fun d => Q d s1 := rfl
theorem e_rev {k : Nat} {p1 p2 p3 : Pos} (he : PE X e (liftB A X.K N te)) : PE X (.Subscript e (.Slice none none (some (.UnaryOp .USub (.Constant (.int 1) k p1) p2)) p3) pos) (liftE A X.K N (dRev te)) :=
  PE.imp (pe_revA he) fun σ H Q ⟨ρ, s, O, P, R0, q, k⟩ => ⟨ρ, s, O, _, R0, q, fun x s1 vx H1 O1 q1 R1 le1 rx => by
    have b := R1.bh rx
    cases x with
    | list ds =>
      obtain ⟨a, vs, rfl, s1', r1⟩ := b.list fzP_le
      exact ⟨a, vs, rfl, .inl ⟨SqL.of s1', fun p hp => k _ s1 _ _ O1 q1 (R1.alloc (same_upd hp)) (le1.trans (R1.fzle (same_upd hp))) (.lst (fzP_of (R1.fresh hp) upd_same) (r1.reverse.mono (R1.fzle (same_upd hp))))⟩⟩
    | tuple ds =>
      obtain ⟨a, vs, rfl, s0, s1', r1⟩ := b.tup fzP_le
      exact ⟨a, vs, rfl, .inr ⟨s1', _, fun p o hp ho => k _ s1 _ _ O1 q1 (R1.alloc (same_upd hp)) (le1.trans (R1.fzle (same_upd hp))) (.tup ⟨o, ho, fzP_of (R1.fresh hp) upd_same⟩ (r1.reverse.mono (R1.fzle (same_upd hp))))⟩⟩
    | _ => exact q1.elim⟩
/-! ### x += e, x a name that holds data -/
def dAug (i : Nat) (f : F2) (te : DE A) : DS A := fun D ρ s => atF ρ[i]? fun d => te ρ s fun y s' => f d y fun z => D.nx (ρ.set i (.fz z)) s'
@[simp] theorem q_dAug {i : Nat} {f : F2} {D0 : DEnds A} {ρ : Rho} {s : A.S} : dAug i f te D0 ρ s = atF ρ[i]? fun d => te ρ s fun y s' => f d y fun z => D0.nx (ρ.set i (.fz z)) s' := rfl
theorem s_aug {i : Nat} {op : Operator} {r : R2} {f : F2} {x : Str} {p : Pos} (ho : OpR X (inplaceOp op) r) (hR : DR2 X.K r f) (nd : X.N.Nodup) (he : PE X e (liftB A X.K N te)) (hi : X.N[i]? = some x := by rfl) (hx : Loc X.env.scope x := by first | exact Or.inl rfl | exact Or.inr rfl)
    (hf : X.fn x = true ∨ X.env.scope.names.lookup x = some .local := by first | exact .inl rfl | exact .inr rfl) : PS X (.AugAssign (.Name x p) op e pos) (liftS A X.K N (dAug i f te)) :=
  s_imp (ps_aug nd hi hx he (fun pins s σ H x y v u Q I rx ry h => ho pins s σ H x y v u Q I rx ry h) hf) fun D σ H ρ s O Dd R E q => by
    have q : atF ρ[i]? fun d => te ρ s fun y s' => f d y fun z => Dd.nx (ρ.set i (.fz z)) s' := q
    cases e0 : ρ[i]? with
    | none => rw [e0] at q; exact q.elim
    | some c =>
      rw [e0] at q
      cases c with
      | fz d =>
        obtain ⟨v, ev, x, rfl, rd⟩ := R.slot e0
        refine ⟨x, ev, ρ, s, O, _, R, q, fun y s1 vy H1 O1 q1 R1 le1 ry => ?_⟩
        refine hR H1 (Px N σ ρ O1) x vy d y (fun z => Dd.nx (ρ.set i (.fz z)) s1) _ (fun _ z => R1.dom z) (R1.bh (.inl (rd.mono le1))) (R1.bh ry) q1 fun z H' d' sm rz pz => ?_
        have R2 := R1.alloc sm
        have le2 := R1.fzle sm
        have W := R2.setFz (i := i) (v := z) (c := .fz d') (fun z => z) ⟨z, rfl, rz⟩
        exact E.nx _ s1 _ H' O1 W.1 (le1.trans (le2.trans W.2)) pz
      | _ => exact q.elim
def fAddI : F2 := fun x y k => match x, y with
  | .int i, .int j => k (.int (i + j))
  | .str a, .str b => a.length + b.length ≤ sizeLine ∧ k (.str (a ++ b))
  | _, _ => False
@[simp] theorem q_addII {i j : Int} {k : D → Prop} : fAddI (.int i) (.int j) k = k (.int (i + j)) := rfl
@[simp] theorem q_addIS {i j : Str} {k : D → Prop} : fAddI (.str i) (.str j) k = (i.length + j.length ≤ sizeLine ∧ k (.str (i ++ j))) := rfl
def rAddI : R2 := fun x y H Q => rI0 (fun i j => V.int (i + j)) x y H Q ∨ ∃ i j, x = V.str i ∧ y = V.str j ∧ i.length + j.length ≤ sizeLine ∧ Q (.str (i ++ j)) H
theorem iop_addU : OpR X (inplaceOp .Add) rAddI := iop_add.or iop_add_str
theorem dr_addU : DR2 X.K rAddI fAddI := fun H P x y dx dy k Q dm bx by_ f kk => by
  unfold fAddI at f
  split at f
  · exact .inl ⟨_, _, bx.int, by_.int, kk _ H _ (Same.refl _) (.int _) f⟩
  · exact .inr ⟨_, _, bx.str, by_.str, f.1, kk _ H _ (Same.refl _) (.str _) f.2⟩
  · exact f.elim
/-! ### a, b = e1, e2 -/
def dPar (i j : Nat) (t : DA A) : DS A := fun D ρ s => t ρ s fun xs s' => ∃ x y, xs = [x, y] ∧ D.nx ((ρ.set i (.fz x)).set j (.fz y)) s'
def dPar3 (i j l : Nat) (t : DA A) : DS A := fun D ρ s => t ρ s fun xs s' => ∃ x y z, xs = [x, y, z] ∧ D.nx (((ρ.set i (.fz x)).set j (.fz y)).set l (.fz z)) s'
@[simp] theorem q_dPar {i j : Nat} {t : DA A} {D0 : DEnds A} {ρ : Rho} {s : A.S} : dPar i j t D0 ρ s = t ρ s fun xs s' => ∃ x y, xs = [x, y] ∧ D0.nx ((ρ.set i (.fz x)).set j (.fz y)) s' := rfl
@[simp] theorem q_dPar3 {i j l : Nat} {t : DA A} {D0 : DEnds A} {ρ : Rho} {s : A.S} : dPar3 i j l t D0 ρ s = t ρ s fun xs s' => ∃ x y z, xs = [x, y, z] ∧ D0.nx (((ρ.set i (.fz x)).set j (.fz y)).set l (.fz z)) s' := rfl
theorem s_par {st : Stmt} {i j : Nat} {t : DA A} (h : PS X st (tPar i j (liftA A X.K N t))) : PS X st (liftS A X.K N (dPar i j t)) := s_imp h fun D σ H ρ s O Dd R E q =>
  ⟨ρ, s, O, _, R, q, fun xs s1 vs H1 O1 ⟨x, y, e, q1⟩ R1 le1 r => by
    subst e
    obtain ⟨v, u, rfl, r1, r2⟩ := r.two_of
    refine ⟨v, u, rfl, ?_⟩
    have W1 := R1.setFz (i := i) (v := v) (c := .fz x) (fun z => z) ⟨v, rfl, r1⟩
    have W2 := W1.1.setFz (i := j) (v := u) (c := .fz y) (fun z => z) ⟨u, rfl, r2.mono W1.2⟩
    exact E.nx _ s1 _ H1 O1 W2.1 (le1.trans (W1.2.trans W2.2)) q1⟩
theorem RpL.three_of {K : PySem.W.Frag} {F : Hp} {vs : List V} {d1 d2 d3 : D} (r : RpL K F vs [d1, d2, d3]) : ∃ v1 v2 v3, vs = [v1, v2, v3] ∧ Rp K F v1 d1 ∧ Rp K F v2 d2 ∧ Rp K F v3 d3 := by
  cases r with
  | cons r t =>
    obtain ⟨v2, v3, rfl, r2, r3⟩ := t.two_of
    exact ⟨_, _, _, rfl, r, r2, r3⟩
theorem s_par3 {st : Stmt} {i j l : Nat} {t : DA A} (h : PS X st (tPar3 i j l (liftA A X.K N t))) : PS X st (liftS A X.K N (dPar3 i j l t)) := s_imp h fun D σ H ρ s O Dd R E q =>
  ⟨ρ, s, O, _, R, q, fun xs s1 vs H1 O1 ⟨x, y, z, e, q1⟩ R1 le1 r => by
    subst e
    obtain ⟨v, u, w, rfl, r1, r2, r3⟩ := r.three_of
    refine ⟨v, u, w, rfl, ?_⟩
    have W1 := R1.setFz (i := i) (v := v) (c := .fz x) (fun z => z) ⟨v, rfl, r1⟩
    have W2 := W1.1.setFz (i := j) (v := u) (c := .fz y) (fun z => z) ⟨u, rfl, r2.mono W1.2⟩
    have W3 := W2.1.setFz (i := l) (v := w) (c := .fz z) (fun z => z) ⟨w, rfl, r3.mono (W1.2.trans W2.2)⟩
    exact E.nx _ s1 _ H1 O1 W3.1 (le1.trans (W1.2.trans (W2.2.trans W3.2))) q1⟩
end
end Dl
/-! Sets of ints that are made and told at once. -/
namespace Dl
open PySem L2

/-- set(t), t a tuple of ints -/
theorem nodup_le {α : Type} [BEq α] [LawfulBEq α] : ∀ {xs L : List α}, xs.Nodup → (∀ x ∈ xs, x ∈ L) → xs.length ≤ L.length
  | [], _, _, _ => Nat.zero_le _
  | x :: xs, L, nd, h => by
    have hx := h x (List.mem_cons_self ..)
    have nd' := List.nodup_cons.mp nd
    have ih := nodup_le (L := L.erase x) nd'.2 fun y m => by
      refine (List.mem_erase_of_ne fun e => nd'.1 (by rw [← e]; exact m)).mpr (h y (List.mem_cons_of_mem _ m))
    have e := List.length_erase_of_mem hx
    have := List.length_pos_of_mem hx
    rw [List.length_cons]
    omega
def rSetT (K : PySem.W.Frag) (w : World) : List V → Hp → VK → Prop := fun vs H Q => ∃ (l : Addr) (ns L : List Int), vs = [V.ref l] ∧ SqT K H l (ns.map V.int) ∧ ns.length ≤ 1000 ∧ (∀ j ∈ ns, j ∈ L) ∧ L.length ≤ 60 ∧
  ∀ (p : Addr) (c : Nat), c ≤ L.length → H p = none → Q (.ref p) (upd H p (SetO w p (fun j => decide (j ∈ ns)) c))
section
variable {X : Cx}
theorem cr_setT (hc : X.calm = true) : CallR X (.type "set") (rSetT X.K X.w) := by
  intro pins s σ H vs us Q I r h
  obtain ⟨l, ns, L, rfl, hs, hn, hL, hL2, q⟩ := h
  rw [Vals.ref1 r]
  obtain ⟨its, rv, pt, hz⟩ := I.tuple hs
  have hi : PyProof.Rows.IntsAre its.toArray.toList ns := ints_of_vals rv
  refine call_set_tupI ns (I.ok.hd hc) (show s.heap.IsTuple l its.toArray from pt) hi (by unfold scanBound; omega) fun h' tk c R1 hcn k => ?_
  have hcn : c ≤ L.length := by
    obtain ⟨o, es, ep, t, ho, hex, hdt, g, nd, hm2, hb, hf, hn2, hr, hl2⟩ := R1
    have z := nodup_le (L := L) nd fun j m => hL j (of_decide_eq_true ((hm2 j).mpr m))
    rw [List.length_map, Array.length_toList] at z
    omega
  exact ⟨.ref _, upd H s.heap.objs.size (SetO X.w s.heap.objs.size (fun j => decide (j ∈ ns)) c), I.laid (t' := tk) k (Nat.le_refl _) (setO_new R1), rfl, q _ c hcn (I.hok.fresh (Nat.le_refl _))⟩
end
section
variable {A : Amb} {X : Cx} {N : Ent} {a : Expr} {tL : DA A} {p p2 pos pos2 : Pos}
/-- the different numbers in their order -/
def setS (ds : List D) (k : List D → Prop) : Prop := ∃ ns L : List Int, ds = ns.map .int ∧ ns.length ≤ 1000 ∧ (∀ j ∈ ns, j ∈ L) ∧ L.length ≤ 60 ∧ ∀ ms : List Int, ms.Pairwise (· < ·) → (∀ j, j ∈ ms ↔ j ∈ ns) → k (ms.map .int)
def nSortedSet (tL : DA A) : DC A := fun ρ s Q => tL ρ s fun xs s1 => ∃ ds, xs = [.tuple ds] ∧ setS ds fun out => Q (.ol out) s1
@[simp] theorem q_nSortedSet {ρ : Rho} {s : A.S} {Q : Cell → A.S → Prop} : nSortedSet tL ρ s Q = tL ρ s fun xs s1 => ∃ ds, xs = [.tuple ds] ∧ setS ds fun out => Q (.ol out) s1 := rfl
theorem RpL.ints_of {K : PySem.W.Frag} {F : Hp} : ∀ {vs : List V} {ns : List Int}, RpL K F vs (ns.map .int) → vs = ns.map V.int
  | _, [], r => by cases r; rfl
  | _, n :: ns, r => by
    cases r with
    | cons r t =>
      cases r
      rw [RpL.ints_of t]
      rfl
theorem RpL.of_ints {K : PySem.W.Frag} {F : Hp} : ∀ ns : List Int, RpL K F (ns.map V.int) (ns.map .int)
  | [] => .nil
  | n :: ns => .cons (.int n) (RpL.of_ints ns)
theorem n_sortedSet (hc : X.calm = true) (ha : PA X [a] (liftAB A X.K N tL)) (hm : X.mg "sorted" = none) (hm2 : X.mg "set" = none) (hg : Gl X "sorted" := by rfl) (hg2 : Gl X "set" := by rfl)
    (h1 : starEach [.Call (.Name "set" p2) [a] [] pos2] X.env = (false, eval (.Call (.Name "set" p2) [a] [] pos2) X.env) :: starEach [] X.env := by rfl) (h2 : starEach [a] X.env = (false, eval a X.env) :: starEach [] X.env := by rfl) :
    PE X (.Call (.Name "sorted" p) [.Call (.Name "set" p2) [a] [] pos2] [] pos) (liftW A X.K N (nSortedSet tL)) :=
  PE.imp (pe_callB (cr_sortedSet hc) hg hm bt_sorted (pa_cons (pe_callTy (cr_setT hc) hg2 hm2 bt_set ha (by decide) (by decide) h2 rfl) pa_nil h1) (by decide) (by decide) h1 rfl) fun σ H Q ⟨ρ, s, O, P, R0, q, k⟩ =>
    ⟨ρ, s, O, _, R0, q, fun xs s1 vs H1 O1 q1 R1 le1 rx => by
      obtain ⟨ds, rfl, ns, L, rfl, hn, hL, hL2, q1⟩ := q1
      obtain ⟨v, rfl, b1⟩ := (R1.bhL rx).one
      obtain ⟨l, ys, rfl, s0, s1', r1⟩ := b1.tup fzP_le
      have e := r1.ints_of
      subst e
      refine ⟨l, ns, L, rfl, s1', hn, hL, hL2, fun b c hcn hb => ?_⟩
      refine ⟨b, _, c, rfl, upd_same, by omega, fun ms p pw mem len hp => ?_⟩
      have g1 := same_upd (o := SetO X.w b (fun j => decide (j ∈ ns)) c) hb
      have R2 := R1.alloc g1
      have q2 := q1 ms pw fun j => by rw [mem j, decide_eq_true_eq]
      exact k _ s1 p _ _ O1 q2 R2 (le1.trans (R1.fzle g1)) hp (.ol (RpL.of_ints ms))⟩
end
end Dl
namespace Dl
open PySem L2
def t_is_whole {A : Amb} : DS A :=
  (dRet (dAnd (dUn (fIsi .int) (dVarB 0)) (dNot (dUn (fIsi .bool) (dVarB 0)))))
def t_is_from {A : Amb} (S_is_whole : FS A) : DS A :=
  (dRet (dAnd (dCall S_is_whole (dCons (dVar 0) dNil)) (dChain fLe fLe (dVarB 1) (dVarB 0) (dVarB 2))))
def t_is_stage {A : Amb} (S_is_from : FS A) : DS A :=
  (dRet (dCall S_is_from (dCons (dVar 0) (dCons (dC (.int 3)) (dCons (dC (.int 8)) dNil)))))
def t_is_row {A : Amb} (S_is_stage S_is_whole : FS A) : DS A :=
  (dSeq (dIfS (dOrT (dNotT (dTest (dUn (fIsi .tuple) (dVarB 0)))) (dOrT (dNotT (dTest (dCall S_is_stage (dCons (dFn fLen (dCons (dVarB 0) dNil)) dNil)))) (dNotT (dTest (dFn fAll (dCons (dOfN (nComp (dIt (dVar 0)) (dgN 1) dYes (dCall S_is_whole (dCons (dVar 1) dNil)) [1])) dNil))))))
  (dRet (dC (.bool false)))
  dNx)
  (dRet (dOp fEqU (dOfN (nFn gSorted (dCons (dVarB 0) dNil))) (dOfN (nLstRg (dC (.int 1)) (dOp fAdd (dFn fLen (dCons (dVarB 0) dNil)) (dC (.int 1))))))))
def t_rounds {A : Amb} : DS A :=
  (dRet (dTupRg (dC (.int 1)) (dOp fAdd (dVarB 0) (dC (.int 1)))))
def t_L_same {A : Amb} (S_L_same : FS A) : DS A :=
  (dSeq (dIfS (dOrT (dTest (dUn (fIsi .tuple) (dVarB 1))) (dTest (dUn (fIsi .list) (dVarB 1))))
  (dSeq (dIfS (dOrT (dTest (dOp fNeU (dUn (fIsi .tuple) (dVarB 1)) (dUn (fIsi .tuple) (dVarB 0)))) (dOrT (dTest (dOp fNeU (dUn (fIsi .list) (dVarB 1)) (dUn (fIsi .list) (dVarB 0)))) (dTest (dOp fNeU (dFn fLen (dCons (dVarB 0) dNil)) (dFn fLen (dCons (dVarB 1) dNil))))))
  (dRet (dC (.bool false)))
  dNx)
  (dRet (dOp fEqU (dFn fLen (dCons (dOfN (nComp (dRg1 (dCons (dFn fLen (dCons (dVarB 1) dNil)) dNil)) (dgN 2) (dNotT (dTest (dCall S_L_same (dCons (dOp fIx (dVarB 0) (dVarB 2)) (dCons (dOp fIx (dVarB 1) (dVarB 2)) dNil))))) (dVar 2) [2])) dNil)) (dC (.int 0)))))
  dNx)
  (dSeq (dIfS (dTest (dOp fIs (dVarB 1) (dC .none)))
  (dRet (dOp fIs (dVarB 0) (dC .none)))
  dNx)
  (dSeq (dIfS (dOrT (dTest (dUn (fIsi .bool) (dVarB 1))) (dTest (dUn (fIsi .bool) (dVarB 0))))
  (dRet (dAnd (dUn (fIsi .bool) (dVarB 1)) (dAnd (dUn (fIsi .bool) (dVarB 0)) (dOp fEqU (dVarB 0) (dVarB 1)))))
  dNx)
  (dSeq (dIfS (dTest (dUn (fIsi .int) (dVarB 1)))
  (dRet (dAnd (dUn (fIsi .int) (dVarB 0)) (dOp fEqU (dVarB 0) (dVarB 1))))
  dNx)
  (dRet (dAnd (dUn (fIsi .str) (dVarB 0)) (dOp fEqU (dVarB 0) (dVarB 1))))))))
def t_L_is_integer {A : Amb} : DS A :=
  (dRet (dAnd (dUn (fIsi .int) (dVarB 0)) (dNot (dUn (fIsi .bool) (dVarB 0)))))
def t_L_spread {A : Amb} : DS A :=
  (dSeq (dSet 1 (dOp fMod (dFn fInt (dCons (dVarB 0) dNil)) (dC (.int 2147483647))))
  (dSeq (dSet 2 (dC (.int 1)))
  (dSeq (dFor (dRg1 (dCons (dC (.int 4)) dNil)) (dgN 3)
  (dSeq (dSet 1 (dOp fMod (dFn fInt (dCons (dOp fAdd (dOp fAdd (dOp fMul (dVarB 1) (dC (.int 48271))) (dC (.int 12345))) (dVarB 3)) dNil)) (dC (.int 2147483647))))
  (dSet 2 (dOp fAdd (dOp fMul (dVarB 2) (dC (.int 2147483647))) (dVarB 1)))))
  (dRet (dVar 2)))))
def t_L_bent {A : Amb} (S_L_draw S_L_is_integer S_L_bent : FS A) : DS A :=
  (dSeq (dIfS (dAndT (dTest (dUn (fIsi .tuple) (dVarB 1))) (dAndT (dTest (dOp fGt (dFn fLen (dCons (dVarB 1) dNil)) (dC (.int 0)))) (dTest (dOp fGt (dCall S_L_draw (dCons (dVar 0) (dCons (dC (.int 3)) dNil))) (dC (.int 0))))))
  (dSeq (dSet 2 (dCall S_L_draw (dCons (dVar 0) (dCons (dFn fLen (dCons (dVarB 1) dNil)) dNil))))
  (dRet (dOp fAdd (dOp fAdd (dSl (dVarB 1) oNone (oSome (dVarB 2))) (dTup (dCons (dCall S_L_bent (dCons (dVar 0) (dCons (dOp fIx (dVarB 1) (dVarB 2)) dNil))) dNil))) (dSl (dVarB 1) (oSome (dOp fAdd (dVarB 2) (dC (.int 1)))) oNone))))
  dNx)
  (dSeq (dSet 3 (dCall S_L_draw (dCons (dVar 0) (dCons (dC (.int 9)) dNil))))
  (dSeq (dIfS (dTest (dOp fEqU (dVarB 3) (dC (.int 0))))
  (dRet (dOp fIx (dTup (dCons (dC (.str "x")) (dCons (dC (.bool true)) (dCons (dTup dNil) (dCons (dC (.int 0)) (dCons (dUn fNeg (dC (.int 1))) (dCons (dC .none) (dCons (dC (.bool false)) (dCons (dLst dNil) dNil))))))))) (dCall S_L_draw (dCons (dVar 0) (dCons (dC (.int 8)) dNil)))))
  dNx)
  (dSeq (dIfS (dTest (dCall S_L_is_integer (dCons (dVar 1) dNil)))
  (dRet (dOp fAdd (dVarB 1) (dOp fIx (dTup (dCons (dC (.int 1)) (dCons (dUn fNeg (dC (.int 1))) (dCons (dC (.int 2)) (dCons (dC (.int 0)) dNil))))) (dCall S_L_draw (dCons (dVar 0) (dCons (dC (.int 4)) dNil))))))
  dNx)
  (dSeq (dIfS (dTest (dUn (fIsi .str) (dVarB 1)))
  (dRet (dOp fIx (dTup (dCons (dOp fAdd (dVarB 1) (dC (.str "a"))) (dCons (dSl (dVarB 1) (oSome (dC (.int 1))) oNone) (dCons (dOp fAdd (dVarB 1) (dC (.str "A"))) (dCons (dOp fAdd (dVarB 1) (dC (.str " "))) (dCons (dSl (dVarB 1) oNone (oSome (dC (.int 1)))) dNil)))))) (dCall S_L_draw (dCons (dVar 0) (dCons (dC (.int 5)) dNil)))))
  dNx)
  (dSeq (dIfS (dOrT (dNotT (dTest (dUn (fIsi .tuple) (dVarB 1)))) (dTest (dOp fEqU (dFn fLen (dCons (dVarB 1) dNil)) (dC (.int 0)))))
  (dRet (dIf (dTest (dOp fLt (dVarB 3) (dC (.int 5)))) (dTup (dCons (dVar 1) (dCons (dC (.int 0)) dNil))) (dTup dNil)))
  dNx)
  (dSeq (dSet 2 (dCall S_L_draw (dCons (dVar 0) (dCons (dFn fLen (dCons (dVarB 1) dNil)) dNil))))
  (dSeq (dIfS (dTest (dOp fLt (dVarB 3) (dC (.int 3))))
  (dRet (dOp fAdd (dSl (dVarB 1) oNone (oSome (dVarB 2))) (dSl (dVarB 1) (oSome (dOp fAdd (dVarB 2) (dC (.int 1)))) oNone)))
  dNx)
  (dSeq (dIfS (dTest (dOp fLt (dVarB 3) (dC (.int 5))))
  (dRet (dOp fAdd (dOp fAdd (dSl (dVarB 1) oNone (oSome (dVarB 2))) (dTup (dCons (dOp fIx (dVarB 1) (dVarB 2)) dNil))) (dSl (dVarB 1) (oSome (dVarB 2)) oNone)))
  dNx)
  (dSeq (dIfS (dTest (dOp fEqU (dVarB 3) (dC (.int 5))))
  (dRet (dOfN (nFn gList (dCons (dVarB 1) dNil))))
  dNx)
  (dSeq (dSet 4 (dCall S_L_draw (dCons (dVar 0) (dCons (dFn fLen (dCons (dVarB 1) dNil)) dNil))))
  (dSeq (dSetN 5 (nFn gList (dCons (dVarB 1) dNil)))
  (dSeq (dAsg (dOp fIx (dVarB 1) (dVarB 4)) (dgIx 5 (dVarB 2)))
  (dSeq (dAsg (dOp fIx (dVarB 1) (dVarB 2)) (dgIx 5 (dVarB 4)))
  (dRet (dFn fTuple (dCons (dVarB 5) dNil)))))))))))))))))
def t_L_booled {A : Amb} (S_L_is_integer S_L_booled : FS A) : DS A :=
  (dSeq (dIfS (dTest (dUn (fIsi .tuple) (dVarB 0)))
  (dRet (dFn fTuple (dCons (dOfN (nComp (dIt (dVar 0)) (dgN 1) dYes (dCall S_L_booled (dCons (dVar 1) dNil)) [1])) dNil)))
  dNx)
  (dRet (dIf (dAndT (dTest (dCall S_L_is_integer (dCons (dVar 0) dNil))) (dAndT (dTest (dOp fLe (dC (.int 0)) (dVarB 0))) (dTest (dOp fLt (dVarB 0) (dC (.int 2)))))) (dOp fIx (dTup (dCons (dC (.bool false)) (dCons (dC (.bool true)) dNil))) (dVarB 0)) (dVar 0))))
def t_L_shuffled {A : Amb} (S_L_draw : FS A) : DS A :=
  (dSeq (dSet 2 (dOfN (nFn gList (dCons (dVarB 1) dNil))))
  (dSeq (dSetN 3 (nLst dNil))
  (dSeq (dWhile (dTest (dOp fGt (dFn fLen (dCons (dVarB 2) dNil)) (dC (.int 0))))
  (dSeq (dSet 4 (dCall S_L_draw (dCons (dVar 0) (dCons (dFn fLen (dCons (dVarB 2) dNil)) dNil))))
  (dSeq (dApp 3 (dOp fIx (dVarB 2) (dVarB 4)))
  (dSet 2 (dOp fAdd (dSl (dVarB 2) oNone (oSome (dVarB 4))) (dSl (dVarB 2) (oSome (dOp fAdd (dVarB 4) (dC (.int 1)))) oNone))))))
  (dRet (dFn fTuple (dCons (dVarB 3) dNil))))))
def t_L_is_row {A : Amb} (S_L_is_integer : FS A) : DS A :=
  (dSeq (dIfS (dOrT (dNotT (dTest (dUn (fIsi .tuple) (dVarB 0)))) (dOrT (dTest (dOp fLt (dFn fLen (dCons (dVarB 0) dNil)) (dC (.int 3)))) (dOrT (dTest (dOp fGt (dFn fLen (dCons (dVarB 0) dNil)) (dC (.int 8)))) (dTest (dOp fGt (dFn fLen (dCons (dOfN (nComp (dIt (dVar 0)) (dgN 1) (dNotT (dTest (dCall S_L_is_integer (dCons (dVar 1) dNil)))) (dVar 1) [1])) dNil)) (dC (.int 0)))))))
  (dRet (dC (.bool false)))
  dNx)
  (dRet (dOp fEqU (dOfN (nFn gSorted (dCons (dVarB 0) dNil))) (dOfN (nLstRg (dC (.int 1)) (dOp fAdd (dFn fLen (dCons (dVarB 0) dNil)) (dC (.int 1))))))))
def t_L_rounds {A : Amb} : DS A :=
  (dRet (dTupRg (dC (.int 1)) (dOp fAdd (dVarB 0) (dC (.int 1)))))
def t_L_row {A : Amb} (S_L_shuffled S_L_rounds : FS A) : DS A :=
  (dRet (dCall S_L_shuffled (dCons (dVar 0) (dCons (dCall S_L_rounds (dCons (dVar 1) dNil)) dNil))))
def t_L_stage {A : Amb} (S_L_draw : FS A) : DS A :=
  (dRet (dOp fAdd (dC (.int 3)) (dCall S_L_draw (dCons (dVar 0) (dCons (dOp fSub (dVarB 1) (dC (.int 2))) dNil)))))
theorem fm_some {α β : Type} {f : α → β} {xs : List α} : xs.filterMap (fun x => some (f x)) = xs.map f := congrFun List.filterMap_eq_map' xs
theorem fm_if {α : Type} {p : α → Bool} : ∀ {xs : List α}, xs.filterMap (fun x => if p x = true then some x else none) = xs.filter p
  | [] => rfl
  | x :: xs => by
    rw [List.filterMap_cons, List.filter_cons, fm_if]
    cases p x <;> rfl
/-! ### whole numbers -/
def isW : D → Bool
  | .int _ => true
  | _ => false
def intsD (ns : List Int) : List D := ns.map .int
theorem intsD_of {xs : List D} (h : xs.all isW = true) : ∃ ns, xs = intsD ns := by
  induction xs with
  | nil => exact ⟨[], rfl⟩
  | cons x xs ih =>
    rw [List.all_cons, Bool.and_eq_true] at h
    obtain ⟨ns, e⟩ := ih h.2
    cases x with
    | int i => exact ⟨i :: ns, by rw [e]; rfl⟩
    | _ => exact absurd h.1 (by simp [isW])
theorem intsD_isW (ns : List Int) : (intsD ns).all isW = true := by
  unfold intsD
  rw [List.all_map]
  exact List.all_eq_true.mpr fun _ _ => rfl
theorem canLay_ints : ∀ ns : List Int, PyData.canLayAll0 (intsD ns) = true
  | [] => rfl
  | n :: ns => by
    show PyData.canLayAll0 (.int n :: intsD ns) = true
    rw [PyData.canLayAll0, canLay_ints ns]
    rfl
theorem shaped_ints (ns : List Int) : SeqAt.shaped (.list (intsD ns)) = true := by
  unfold SeqAt.shaped
  rw [Bool.and_eq_true, decide_eq_true_eq]
  refine ⟨by simpa [PyData.canLay0] using canLay_ints ns, ?_⟩
  have := PySem.W.depth_ints ns
  simp only [PyData.depth]
  have e : PyData.depthAll (intsD ns) = 0 := this
  omega
theorem shaped_intsT (ns : List Int) : SeqAt.shaped (.tuple (intsD ns)) = true := by
  unfold SeqAt.shaped
  rw [Bool.and_eq_true, decide_eq_true_eq]
  refine ⟨by simpa [PyData.canLay0] using canLay_ints ns, ?_⟩
  have := PySem.W.depth_ints ns
  simp only [PyData.depth]
  have e : PyData.depthAll (intsD ns) = 0 := this
  omega
theorem alike_ints (ns : List Int) : PySem.W.AllAlike (intsD ns) := by
  intro d hd d' hd'
  obtain ⟨i, _, rfl⟩ := List.mem_map.mp hd
  obtain ⟨j, _, rfl⟩ := List.mem_map.mp hd'
  rfl
theorem sortOk_ints (ns : List Int) : ∀ d ∈ intsD ns, d ≠ .none ∧ d.depth ≤ 60 := by
  intro d hd
  obtain ⟨i, _, rfl⟩ := List.mem_map.mp hd
  exact ⟨fun z => (nomatch z), by simp [PyData.depth]⟩
/-- the items of a list of ints in their order -/
theorem sort_ints (ns : List Int) : (intsD ns).mergeSort (PySem.W.dataLe false id) = intsD (ns.mergeSort fun i j => decide (i ≤ j)) := by
  unfold intsD
  rw [List.map_mergeSort (r := fun i j => decide (i ≤ j)) (s := PySem.W.dataLe false id)]
  intro a _ b _
  exact (congrFun (congrFun (PySem.W.dataLe_int fun b : Int => b) a) b).symm
theorem rngD_ints (lo : Int) (n : Nat) : rngD lo n = intsD ((List.range n).map fun i => lo + (i : Nat)) := by
  unfold rngD intsD
  rw [List.map_map]
  rfl

/-! ### checks -/
section
variable {A : Amb} {ds : List D} {s : A.S} {Q : D → A.S → Prop}
def S_is_whole : FS A := fun ds s Q => ∃ d, ds = [d] ∧ notDict d ∧ Q (.bool (isW d)) s
theorem st1 {d : D} : startR 1 [d] = [.fz d] := rfl
theorem p_is_whole (h : S_is_whole ds s Q) : t_is_whole (retE Q) (startR 1 ds) s := by
  obtain ⟨d, rfl, nd, q⟩ := h
  unfold t_is_whole
  simp [st1, nd]
  cases d <;> simpa [isTy, isW] using q
def fromB (d : D) (lo hi : Int) : Bool := match d with
  | .int i => decide (lo ≤ i) && decide (i ≤ hi)
  | _ => false
def S_is_from : FS A := fun ds s Q => ∃ d lo hi, ds = [d, .int lo, .int hi] ∧ notDict d ∧ Q (.bool (fromB d lo hi)) s
theorem p_is_from (h : S_is_from ds s Q) : t_is_from S_is_whole (retE Q) (startR 3 ds) s := by
  obtain ⟨d, lo, hi, rfl, nd, q⟩ := h
  have e : startR 3 [d, .int lo, .int hi] = [.fz d, .fz (.int lo), .fz (.int hi)] := rfl
  unfold t_is_from
  simp [e, S_is_whole, nd]
  cases d with
  | int i =>
    simp [isW]
    by_cases h1 : lo ≤ i <;> simpa [fromB, h1] using q
  | _ => simpa [isW, fromB] using q
def S_is_stage : FS A := fun ds s Q => ∃ d, ds = [d] ∧ notDict d ∧ Q (.bool (fromB d 3 8)) s
theorem p_is_stage (h : S_is_stage ds s Q) : t_is_stage S_is_from (retE Q) (startR 1 ds) s := by
  obtain ⟨d, rfl, nd, q⟩ := h
  unfold t_is_stage
  simp [st1]
  exact ⟨_, _, _, rfl, nd, q⟩
/-! ### rows -/
/-- a permutation of 1 .. n, as the program asks it -/
def permB (xs : List D) : Bool := PyData.eqv (.list (sortD xs)) (.list (rngD 1 xs.length))
def rowB : D → Bool
  | .tuple xs => decide (3 ≤ xs.length) && decide (xs.length ≤ 8) && xs.all isW && permB xs
  | _ => false
/-- nothing here nor in it is a dict -/
def flat1 : D → Prop
  | .tuple xs => ∀ x ∈ xs, notDict x
  | .dict _ => False
  | _ => True
theorem flat1.nd {d : D} (h : flat1 d) : notDict d := by cases d <;> first | exact h | trivial
def S_is_row : FS A := fun ds s Q => ∃ d, ds = [d] ∧ flat1 d ∧ Q (.bool (rowB d)) s
theorem sortOk_ints' (ns : List Int) : sortOk (intsD ns) := ⟨canLay_ints ns, alike_ints ns, sortOk_ints ns⟩
theorem perm_ok {xs : List D} (h : xs.all isW = true) : sortOk xs ∧ ∀ n, eqOk (.list (sortD xs)) (.list (rngD 1 n)) := by
  obtain ⟨ns, rfl⟩ := intsD_of h
  refine ⟨sortOk_ints' ns, fun n => ?_⟩
  unfold eqOk sortD
  rw [sort_ints, rngD_ints, shaped_ints, shaped_ints]
  simp
theorem rgOk1 {n : Nat} (h : n ≤ 1000) : RgOk 1 ((n : Int) + 1) := .of_le (by omega) (by omega) (by omega) (by omega)
theorem p_is_row (h : S_is_row ds s Q) : t_is_row S_is_stage S_is_whole (retE Q) (startR 2 ds) s := by
  obtain ⟨d, rfl, fl, q⟩ := h
  have e : startR 2 [d] = [.fz d, .un] := rfl
  unfold t_is_row
  simp [e, fl.nd]
  cases d with
  | tuple xs =>
    simp [isTy, S_is_stage, fromB, notDict]
    by_cases h3 : 3 ≤ xs.length
    · by_cases h8 : xs.length ≤ 8
      · have h3' : (3 : Int) ≤ xs.length := by omega
        have h8' : (xs.length : Int) ≤ 8 := by omega
        simp [h3', h8']
        refine comp_pure (xs := xs) (by simp) (by simp) (Nat.le_trans h8 (by decide)) (fun x => some (.bool (isW x))) (fun x m s k q => ?_) ?_
        · simpa [S_is_whole, fl x m] using q
        · rw [fm_some]
          simp [e]
          by_cases hw : xs.all isW = true
          · have hz : ¬ ∃ a, a ∈ xs ∧ isW a = false := fun ⟨a, m, z⟩ => by
              have := List.all_eq_true.mp hw a m
              rw [z] at this
              cases this
            rw [if_neg hz]
            obtain ⟨o1, o2⟩ := perm_ok hw
            refine ⟨o1, rgOk1 (by omega), o2 _, ?_⟩
            simpa [rowB, permB, h3, h8, hw] using q
          · have hz : ∃ a, a ∈ xs ∧ isW a = false := by simpa using hw
            rw [if_pos hz]
            have hw' : xs.all isW = false := by simpa using hw
            simpa only [rowB, hw', Bool.and_false, Bool.false_and] using q
      · have h8' : ¬ (xs.length : Int) ≤ 8 := by omega
        simp [h8']
        simpa [rowB, h8] using q
    · have h3' : ¬ (3 : Int) ≤ xs.length := by omega
      simp [h3']
      simpa [rowB, h3] using q
  | _ => simpa [isTy, rowB] using q
def S_rounds : FS A := fun ds s Q => ∃ n : Int, ds = [.int n] ∧ 0 ≤ n ∧ n ≤ 1000 ∧ Q (.tuple (rngD 1 n.toNat)) s
theorem p_rounds (h : S_rounds ds s Q) : t_rounds (retE Q) (startR 1 ds) s := by
  obtain ⟨n, rfl, h0, h1, q⟩ := h
  unfold t_rounds
  simp [st1]
  exact ⟨.of_le (by omega) (by omega) (by omega) (by omega), q⟩
theorem p_L_rounds (h : S_rounds ds s Q) : t_L_rounds (retE Q) (startR 1 ds) s := p_rounds h
theorem p_L_is_integer (h : S_is_whole ds s Q) : t_L_is_integer (retE Q) (startR 1 ds) s := p_is_whole h
theorem p_L_is_row (h : S_is_row ds s Q) : t_L_is_row S_is_whole (retE Q) (startR 2 ds) s := by
  obtain ⟨d, rfl, fl, q⟩ := h
  have e : startR 2 [d] = [.fz d, .un] := rfl
  unfold t_L_is_row
  simp [e, fl.nd]
  cases d with
  | tuple xs =>
    simp [isTy]
    by_cases h3 : 3 ≤ xs.length
    · by_cases h8 : xs.length ≤ 8
      · have h3' : ¬ (xs.length : Int) < 3 := by omega
        have h8' : ¬ (8 < (xs.length : Int)) := by omega
        simp [h3', h8']
        refine comp_pure (xs := xs) (by simp) (by simp) (Nat.le_trans h8 (by decide)) (fun x => if (!isW x) = true then some x else none) (fun x m s k q => ?_) ?_
        · simp
          refine ⟨x, rfl, fl x m, ?_⟩
          simp at q ⊢
          cases hx : isW x <;> simpa [hx] using q
        · rw [fm_if]
          simp [e]
          by_cases hw : xs.all isW = true
          · have hz : ¬ ∃ a, a ∈ xs ∧ isW a = false := fun ⟨a, m, z⟩ => by
              have := List.all_eq_true.mp hw a m
              rw [z] at this
              cases this
            rw [if_neg hz]
            obtain ⟨o1, o2⟩ := perm_ok hw
            refine ⟨o1, rgOk1 (by omega), o2 _, ?_⟩
            simpa [rowB, permB, h3, h8, hw] using q
          · have hz : ∃ a, a ∈ xs ∧ isW a = false := by simpa using hw
            rw [if_pos hz]
            have hw' : xs.all isW = false := by simpa using hw
            simpa only [rowB, hw', Bool.and_false, Bool.false_and] using q
      · have h3' : ¬ (xs.length : Int) < 3 := by omega
        have h8' : (8 < (xs.length : Int)) := by omega
        simp [h3', h8']
        simpa [rowB, h8] using q
    · have h3' : (xs.length : Int) < 3 := by omega
      simp [h3']
      simpa [rowB, h3] using q
  | _ => simpa [isTy, rowB] using q
/-! ### _law_same -/
open Classical in
noncomputable def sameB (a d : D) : Bool := decide (a = d)
mutual
/-- no dict anywhere, all texts of proper signs; at most n deep -/
def plainB : Nat → D → Bool
  | _, .dict _ => false
  | _, .str x => (PyData.str x).canLay0
  | 0, .list _ => false
  | 0, .tuple _ => false
  | n + 1, .list xs => decide (xs.length ≤ 100000) && plainAllB n xs
  | n + 1, .tuple xs => decide (xs.length ≤ 100000) && plainAllB n xs
  | _, _ => true
def plainAllB : Nat → List D → Bool
  | _, [] => true
  | n, x :: xs => plainB n x && plainAllB n xs
end
theorem plainAll_mem {n : Nat} : ∀ {xs : List D}, plainAllB n xs = true → ∀ x ∈ xs, plainB n x = true
  | [], _, x, m => by cases m
  | y :: ys, h, x, m => by
    unfold plainAllB at h
    rw [Bool.and_eq_true] at h
    rcases List.mem_cons.mp m with rfl | m
    · exact h.1
    · exact plainAll_mem h.2 x m
theorem plainB_nd {n : Nat} {d : D} (h : plainB n d = true) : notDict d := by
  cases d with
  | dict _ => cases n <;> simp [plainB] at h
  | _ => trivial
/-- what both are compared by: n deep at most -/
def S_same (l : Nat) : FS A := fun ds s Q => ∃ a d n, ds = [a, d] ∧ l = n + 1 ∧ (∃ m, plainB m a = true) ∧ plainB n d = true ∧ Q (.bool (sameB a d)) s
@[simp] theorem eqOk_int {i j : Int} : eqOk (.int i) (.int j) = True := by
  apply eq_true
  simp [eqOk, twoS, SeqAt.shaped, PyData.canLay0, PyData.depth]
@[simp] theorem eqOk_bool {i j : Bool} : eqOk (.bool i) (.bool j) = True := by
  apply eq_true
  simp [eqOk, twoS, SeqAt.shaped, PyData.canLay0, PyData.depth]
@[simp] theorem eqOk_str {i j : Str} : eqOk (.str i) (.str j) = True := by
  apply eq_true
  simp [eqOk, twoS]
@[simp] theorem eqv_int {i j : Int} : PyData.eqv (.int i) (.int j) = decide (i = j) := by
  rw [Bool.eq_iff_iff]
  simp [PyData.eqv]
@[simp] theorem eqv_bool {i j : Bool} : PyData.eqv (.bool i) (.bool j) = (i == j) := by
  rw [Bool.eq_iff_iff]
  cases i <;> cases j <;> simp [PyData.eqv]
@[simp] theorem eqv_str' {i j : Str} : PyData.eqv (.str i) (.str j) = decide (i = j) := by
  rw [Bool.eq_iff_iff]
  simp [PyData.eqv]
theorem sameB_ne {a d : D} (h : a ≠ d) : sameB a d = false := by simp [sameB, h]
theorem sameB_eq {a : D} : sameB a a = true := by simp [sameB]
theorem rngD_get {n i : Nat} (h : i < n) : (rngD 0 n)[i]? = some (.int (i : Nat)) := by
  unfold rngD
  rw [List.getElem?_map, List.getElem?_range h]
  simp
theorem mem_rngD {n : Nat} {x : D} (h : x ∈ rngD 0 n) : ∃ i : Nat, i < n ∧ x = .int (i : Nat) := by
  unfold rngD at h
  obtain ⟨i, m, rfl⟩ := List.mem_map.mp h
  exact ⟨i, List.mem_range.mp m, by simp⟩
@[simp] theorem rngD_length {lo : Int} {n : Nat} : (rngD lo n).length = n := by
  unfold rngD
  simp
/-- places where two lists differ -/
noncomputable def diffs (as ds : List D) : List D := (rngD 0 ds.length).filter fun x => match x with
  | .int k => !sameB (as.getD k.toNat .none) (ds.getD k.toNat .none)
  | _ => false
theorem diffs_nil {as ds : List D} (h : as.length = ds.length) : ((diffs as ds).length == 0) = sameB (.tuple as) (.tuple ds) := by
  rw [Bool.eq_iff_iff]
  unfold diffs
  simp only [beq_iff_eq, List.length_eq_zero_iff, List.filter_eq_nil_iff]
  constructor
  · intro z
    have e : as = ds := by
      apply List.ext_getElem? 
      intro i
      by_cases hi : i < ds.length
      · have q := z (.int (i : Nat)) (List.mem_of_getElem? (rngD_get hi))
        simp only [Int.toNat_natCast, List.getD_eq_getElem?_getD] at q
        rw [List.getElem?_eq_getElem hi, List.getElem?_eq_getElem (by omega)] at q ⊢
        simp [sameB] at q
        rw [q]
      · rw [List.getElem?_eq_none (by omega), List.getElem?_eq_none (by omega)]
    rw [e]
    exact sameB_eq
  · intro z x m
    have e : as = ds := by simpa [sameB] using z
    subst e
    obtain ⟨i, hi, rfl⟩ := mem_rngD m
    simp [sameB_eq]
theorem sameB_list {as ds : List D} : sameB (.list as) (.list ds) = sameB (.tuple as) (.tuple ds) := by
  unfold sameB
  simp
theorem p_same_seq {n : Nat} {as ds : List D} {m : Nat} (pa : plainAllB m as = true) (pd : plainAllB n ds = true) (hl : as.length = ds.length) (hz : ds.length ≤ 100000) {a d : D} (ha : ∀ i : Int, ∀ k : D → Prop, fIx a (.int i) k = oV (atI as i) k) (hd : ∀ i : Int, ∀ k : D → Prop, fIx d (.int i) k = oV (atI ds i) k)
    (hld : ∀ k : D → Prop, fLen [d] k = k (.int ds.length)) (q : Q (.bool (sameB (.tuple as) (.tuple ds))) s) :
    dRet (dOp fEqU (dFn fLen (dCons (dOfN (nComp (dRg1 (dCons (dFn fLen (dCons (dVarB 1) dNil)) dNil)) (dgN 2) (dNotT (dTest (dCall (S_same (n + 1)) (dCons (dOp fIx (dVarB 0) (dVarB 2)) (dCons (dOp fIx (dVarB 1) (dVarB 2)) dNil))))) (dVar 2) [2])) dNil)) (dC (.int 0))) (retE Q) [.fz a, .fz d, .un] s := by
  simp
  refine comp_pure (xs := rngD 0 ds.length) (fun k q => ?_) (by simp) (by rw [rngD_length]; exact Nat.le_trans hz (by decide)) (fun x => if (match x with
    | .int k => !sameB (as.getD k.toNat .none) (ds.getD k.toNat .none)
    | _ => false) = true then some x else none) (fun x mx s k q => ?_) ?_
  · simp [hld]
    exact ⟨by omega, q⟩
  · obtain ⟨i, hi, rfl⟩ := mem_rngD mx
    simp [ha, hd]
    have h1 : atI as (i : Int) = some as[i] := atI_nat (List.getElem?_eq_getElem (by omega))
    have h2 : atI ds (i : Int) = some ds[i] := atI_nat (List.getElem?_eq_getElem hi)
    rw [h1, h2]
    simp
    refine ⟨_, _, n, rfl, rfl, ⟨m, plainAll_mem pa _ (List.getElem_mem _)⟩, plainAll_mem pd _ (List.getElem_mem _), ?_⟩
    simp only [Int.toNat_natCast, List.getD_eq_getElem?_getD, List.getElem?_eq_getElem hi, List.getElem?_eq_getElem (show i < as.length by omega), Option.getD_some] at q
    simp
    cases hx : sameB as[i] ds[i] <;> simpa [hx] using q
  · rw [fm_if]
    have z := diffs_nil hl
    show fLen [.list (diffs as ds)] fun z => eqOk z (.int 0) ∧ Q (.bool (PyData.eqv z (.int 0))) s
    rw [← z] at q
    simp only [q_lenL, eqOk_int, true_and, eqv_int]
    rw [show decide (((diffs as ds).length : Int) = 0) = ((diffs as ds).length == 0) from by rw [Bool.eq_iff_iff]; simp]
    exact q
/-- what kind of data -/
def kd : D → Nat
  | .none => 0
  | .bool _ => 1
  | .int _ => 2
  | .str _ => 3
  | .list _ => 4
  | .tuple _ => 5
  | .dict _ => 6
/-- the answer of _law_same -/
theorem p_L_same {n : Nat} (h : S_same (n + 1) ds s Q) : t_L_same (S_same n) (retE Q) (startR 3 ds) s := by
  obtain ⟨a, d, n', rfl, hn, ⟨m, pa⟩, pd, q⟩ := h
  cases hn
  have e : startR 3 [a, d] = [.fz a, .fz d, .un] := rfl
  have na := plainB_nd pa
  have nd := plainB_nd pd
  unfold t_L_same
  rw [e]
  have q' : kd a ≠ kd d → Q (.bool false) s := fun h => by
    rw [sameB_ne fun z => h (by rw [z])] at q
    exact q
  cases d with
  | tuple ds =>
    obtain ⟨n, rfl, pd'⟩ : ∃ n', n = n' + 1 ∧ ds.length ≤ 100000 ∧ plainAllB n' ds = true := by
      cases n with
      | zero => simp [plainB] at pd
      | succ n => exact ⟨n, rfl, by simpa [plainB] using pd⟩
    cases ha : isTy .tuple a with
    | true =>
      cases a with
      | tuple as =>
        have pa' : ∃ m, plainAllB m as = true := by
          cases m with
          | zero => simp [plainB] at pa
          | succ m => exact ⟨m, (by simpa [plainB] using pa : _ ∧ _).2⟩
        obtain ⟨m', pa'⟩ := pa'
        by_cases hl : as.length = ds.length
        · have := p_same_seq pa' pd'.2 hl pd'.1 (fun _ _ => q_ixT) (fun _ _ => q_ixT) (fun _ => q_lenT) q
          simp [-q_dRet, hl]
          exact this
        · have hl' : ¬ (as.length : Int) = ds.length := by omega
          rw [sameB_ne (fun z => hl (by injection z with z; rw [z]))] at q
          simpa [hl'] using q
      | _ => simp [isTy] at ha
    | false =>
      have q := q' (by cases a <;> simp [kd, isTy] at ha ⊢)
      simpa [na, ha] using q
  | list ds =>
    obtain ⟨n, rfl, pd'⟩ : ∃ n', n = n' + 1 ∧ ds.length ≤ 100000 ∧ plainAllB n' ds = true := by
      cases n with
      | zero => simp [plainB] at pd
      | succ n => exact ⟨n, rfl, by simpa [plainB] using pd⟩
    cases ha : isTy .list a with
    | true =>
      cases a with
      | list as =>
        have pa' : ∃ m, plainAllB m as = true := by
          cases m with
          | zero => simp [plainB] at pa
          | succ m => exact ⟨m, (by simpa [plainB] using pa : _ ∧ _).2⟩
        obtain ⟨m', pa'⟩ := pa'
        rw [sameB_list] at q
        by_cases hl : as.length = ds.length
        · have := p_same_seq pa' pd'.2 hl pd'.1 (fun _ _ => q_ixL) (fun _ _ => q_ixL) (fun _ => q_lenL) q
          simp [-q_dRet, hl]
          exact this
        · have hl' : ¬ (as.length : Int) = ds.length := by omega
          rw [sameB_ne (fun z => hl (by injection z with z; rw [z]))] at q
          simpa [hl'] using q
      | _ => simp [isTy] at ha
    | false =>
      have q := q' (by cases a <;> simp [kd, isTy] at ha ⊢)
      cases ht : isTy .tuple a <;> simpa [na, ha, ht] using q
  | none =>
    have q2 : Q (.bool (isN a)) s := by
      cases a with
      | none => rw [sameB_eq] at q; exact q
      | _ => exact q' (by simp [kd])
    simpa [na, ] using q2
  | bool b =>
    have e : sameB a (.bool b) = (isTy .bool a && PyData.eqv a (.bool b)) := by
      cases a with
      | bool c => cases c <;> cases b <;> simp [sameB, isTy]
      | dict _ => exact na.elim
      | _ => simp [sameB]
    rw [e] at q
    cases a with
    | bool c => simpa [] using q
    | dict _ => exact na.elim
    | _ => simpa [] using q
  | int i =>
    cases ha : isTy .int a with
    | false =>
      have q := q' (by cases a <;> simp [kd, isTy] at ha ⊢)
      have hb : isTy .bool a = false := by cases a <;> simp [isTy] at ha ⊢
      simpa [na, ha, hb, ] using q
    | true =>
      cases a with
      | int j =>
        have e : sameB (.int j) (.int i) = decide (j = i) := by unfold sameB; simp
        rw [e] at q
        simpa [] using q
      | bool c =>
        have q := q' (by simp [kd])
        simpa [] using q
      | _ => simp [isTy] at ha
  | str i =>
    cases ha : isTy .str a with
    | false =>
      have q := q' (by cases a <;> simp [kd, isTy] at ha ⊢)
      cases hb : isTy .bool a <;> simpa [na, ha, hb, ] using q
    | true =>
      cases a with
      | str j =>
        have e : sameB (.str j) (.str i) = decide (j = i) := by unfold sameB; simp
        rw [e] at q
        simpa [] using q
      | _ => simp [isTy] at ha
  | dict _ => exact nd.elim
end
end Dl
/-! Draws, what is drawn. -/
namespace Dl
open PySem L2
@[simp] theorem cmul_r {i : Int} {n : Nat} (h : (n : Int) < 2 ^ 64 := by decide) : CMul i n = True := eq_true (.inr ⟨by omega, h⟩)
/-! ### _law_spread -/
theorem ints_rngD (lo : Int) (n : Nat) : ∀ x ∈ rngD lo n, ∃ k : Int, x = .int k := fun x m => by
  unfold rngD at m
  obtain ⟨i, _, rfl⟩ := List.mem_map.mp m
  exact ⟨_, rfl⟩
theorem p_L_spread {ds : List D} {s : amb0.S} {Q : D → amb0.S → Prop} (h : S_spread ds s Q) : t_L_spread (retE Q) (startR 4 ds) s := by
  obtain ⟨i, rfl, q⟩ := h
  have e : startR 4 [.int i] = [.fz (.int i), .un, .un, .un] := rfl
  unfold t_L_spread
  simp [e]
  refine for_of (xs := rngD 0 4) (fun k z => by simpa using z) (fun r ρ s' => s' = s ∧ (∀ x ∈ r, ∃ k : Int, x = .int k) ∧ ∃ m t c, ρ = [.fz (.int i), .fz (.int m), .fz (.int t), c]) ⟨rfl, ints_rngD _ _, _, _, _, rfl⟩ ?_ ?_
  · rintro x r ρ s ⟨rfl, hx, m, t, c, rfl⟩ D' hr hb hn hc
    obtain ⟨k, rfl⟩ := hx x (List.mem_cons_self ..)
    simp
    refine ⟨.inr ⟨by decide, by decide⟩, .inr ⟨by decide, by decide⟩, ?_⟩
    exact hn _ _ ⟨rfl, fun y m => hx y (List.mem_cons_of_mem _ m), _, _, _, rfl⟩
  · rintro ρ s ⟨rfl, _, m, t, c, rfl⟩
    simpa using q t
/-! ### draws -/
theorem pick_perm {α : Type} {l : List α} {i : Nat} (f : List α) (h : i < l.length) : ((f ++ [l[i]]) ++ (l.take i ++ l.drop (i + 1))).Perm (f ++ l) := by
  rw [List.append_assoc]
  refine List.Perm.append_left f ?_
  have e : l = l.take i ++ l[i] :: l.drop (i + 1) := by
    rw [← List.drop_eq_getElem_cons h, List.take_append_drop]
  calc [l[i]] ++ (l.take i ++ l.drop (i + 1)) = l[i] :: (l.take i ++ l.drop (i + 1)) := rfl
    _ |>.Perm (l.take i ++ l[i] :: l.drop (i + 1)) := List.perm_middle.symm
    _ = l := e.symm
section
variable {a : Addr} {ds : List D} {s : (poolA a).S} {Q : D → (poolA a).S → Prop}
/-- any order of the items -/
def S_shuffled (a : Addr) : FS (poolA a) := fun ds s Q => ∃ v xs, ds = [refD a, v] ∧ seqOf v = some xs ∧ xs.length ≤ 100000 ∧ ∀ ys : List D, ys.Perm xs → Q (.tuple ys) s
theorem gList_seq {v : D} {xs : List D} {k : Cell → Prop} (h : seqOf v = some xs) : gList [v] k = k (.ol xs) := by
  cases v <;> cases h <;> rfl
theorem p_L_shuffled (h : S_shuffled a ds s Q) : t_L_shuffled (S_draw a) (retE Q) (startR 5 ds) s := by
  obtain ⟨v, xs, rfl, hv, hz, q⟩ := h
  have e : startR 5 [refD a, v] = [.fz (refD a), .fz v, .un, .un, .un] := rfl
  unfold t_L_shuffled
  simp [e, gList_seq hv]
  refine while_inv (fun n ρ s' => s' = s ∧ ∃ left found c, n = left.length ∧ ρ = [.fz (refD a), .fz v, .fz (.list left), .ol found, c] ∧ (found ++ left).Perm xs) xs.length ⟨rfl, xs, [], .un, rfl, rfl, by simp⟩ ?_
  rintro n ρ s' ⟨rfl, left, found, c, rfl, rfl, hp⟩
  have hl := hp.length_eq
  rw [List.length_append] at hl
  simp
  cases left with
  | nil =>
    simp
    exact q _ (by simpa using hp)
  | cons y r =>
    rw [if_pos (by simp)]
    refine ⟨((y :: r).length : Nat), rfl, by simp, by simp at hl ⊢; omega, fun v h0 h1 => ?_⟩
    have hv : v.toNat < (y :: r).length := by omega
    have at_ : atI (y :: r) v = some (y :: r)[v.toNat] := by
      have z := atI_nat (xs := y :: r) (j := v.toNat) (List.getElem?_eq_getElem hv)
      rwa [Int.toNat_of_nonneg h0] at z
    simp
    rw [at_]
    simp
    refine ⟨Nat.lt_of_le_of_lt (m := 100000) (by omega) (by decide), ?_⟩
    rw [cutD_to h0, cutD_from (by omega)]
    have hn : (v + 1).toNat = v.toNat + 1 := by omega
    have hlen : (List.take v.toNat (y :: r)).length + (List.drop (v + 1).toNat (y :: r)).length = r.length := by
      rw [List.length_take, List.length_drop]
      simp at hv ⊢
      omega
    refine ⟨by rw [hlen]; simp at hl; exact Nat.le_trans (m := 100000) (by omega) (by decide), r.length, by omega, _, ?_, _, ⟨rfl, rfl⟩, ?_⟩
    · rw [List.length_append, hlen]
    · rw [hn]
      exact (pick_perm found hv).trans hp
/-- a row: 1 .. n in any order -/
def S_row (a : Addr) : FS (poolA a) := fun ds s Q => ∃ n : Int, ds = [refD a, .int n] ∧ 0 ≤ n ∧ n ≤ 1000 ∧ ∀ ys : List D, ys.Perm (rngD 1 n.toNat) → Q (.tuple ys) s
theorem p_L_row (h : S_row a ds s Q) : t_L_row (S_shuffled a) S_rounds (retE Q) (startR 2 ds) s := by
  obtain ⟨n, rfl, h0, h1, q⟩ := h
  have e : startR 2 [refD a, .int n] = [.fz (refD a), .fz (.int n)] := rfl
  unfold t_L_row
  simp [e]
  exact ⟨n, rfl, h0, h1, _, _, rfl, rfl, by rw [rngD_length]; omega, q⟩
/-- a stage from 3 to most -/
def S_stage (a : Addr) : FS (poolA a) := fun ds s Q => ∃ m : Int, ds = [refD a, .int m] ∧ 3 ≤ m ∧ m ≤ 1000 ∧ ∀ v : Int, 3 ≤ v → v ≤ m → Q (.int v) s
theorem p_L_stage (h : S_stage a ds s Q) : t_L_stage (S_draw a) (retE Q) (startR 2 ds) s := by
  obtain ⟨m, rfl, h0, h1, q⟩ := h
  have e : startR 2 [refD a, .int m] = [.fz (refD a), .fz (.int m)] := rfl
  unfold t_L_stage
  simp [e]
  exact ⟨_, rfl, by omega, by omega, fun v v0 v1 => by simpa using q (3 + v) (by omega) (by omega)⟩
end
/-! ### how much data holds -/
mutual
def wt : D → Nat
  | .none => 1
  | .bool _ => 1
  | .int i => i.natAbs + 1
  | .str x => x.length + 1
  | .list xs => wtL xs + 1
  | .tuple xs => wtL xs + 1
  | .dict _ => 1
def wtL : List D → Nat
  | [] => 0
  | x :: xs => wt x + wtL xs
end
theorem wtL_append : ∀ xs ys : List D, wtL (xs ++ ys) = wtL xs + wtL ys
  | [], ys => by simp [wtL]
  | x :: xs, ys => by
    rw [List.cons_append, wtL, wtL, wtL_append xs ys, Nat.add_assoc]
theorem wt_pos (d : D) : 1 ≤ wt d := by cases d <;> simp [wt]
theorem len_wt : ∀ xs : List D, xs.length ≤ wtL xs
  | [] => by simp
  | x :: xs => by
    have := len_wt xs
    have := wt_pos x
    rw [wtL, List.length_cons]
    omega
theorem wtL_cut {xs : List D} {i : Nat} (h : i < xs.length) : wtL (xs.take i) + wt xs[i] + wtL (xs.drop (i + 1)) = wtL xs := by
  have e : xs = xs.take i ++ xs[i] :: xs.drop (i + 1) := by
    rw [← List.drop_eq_getElem_cons h, List.take_append_drop]
  have q := congrArg wtL e
  rw [wtL_append, wtL] at q
  omega
theorem wtL_perm {xs ys : List D} (h : xs.Perm ys) : wtL xs = wtL ys := by
  induction h with
  | nil => rfl
  | cons x _ ih => rw [wtL, wtL, ih]
  | swap x y l => simp only [wtL]; omega
  | trans _ _ h1 h2 => exact h1.trans h2
theorem plainAll_iff {n : Nat} : ∀ {xs : List D}, plainAllB n xs = true ↔ ∀ x ∈ xs, plainB n x = true
  | [] => by simp [plainAllB]
  | x :: xs => by
    rw [plainAllB, Bool.and_eq_true, plainAll_iff]
    simp
mutual
theorem plain_up {n : Nat} : ∀ {d : D}, plainB n d = true → plainB (n + 1) d = true
  | .none, _ => by simp [plainB]
  | .bool _, _ => by simp [plainB]
  | .int _, _ => by simp [plainB]
  | .str x, h => by
    cases n <;> simpa [plainB] using h
  | .list xs, h => by
    cases n with
    | zero => simp [plainB] at h
    | succ n =>
      rw [plainB, Bool.and_eq_true] at h ⊢
      exact ⟨h.1, plainAll_up h.2⟩
  | .tuple xs, h => by
    cases n with
    | zero => simp [plainB] at h
    | succ n =>
      rw [plainB, Bool.and_eq_true] at h ⊢
      exact ⟨h.1, plainAll_up h.2⟩
  | .dict _, h => by cases n <;> simp [plainB] at h
theorem plainAll_up {n : Nat} : ∀ {xs : List D}, plainAllB n xs = true → plainAllB (n + 1) xs = true
  | [], _ => by simp [plainAllB]
  | x :: xs, h => by
    rw [plainAllB, Bool.and_eq_true] at h ⊢
    exact ⟨plain_up h.1, plainAll_up h.2⟩
end
/-- plain, n deep at most, of weight k at most -/
def okD (n k : Nat) (d : D) : Prop := plainB n d = true ∧ wt d ≤ k
theorem okD.up {n k k' : Nat} {d : D} (h : okD n k d) (hk : k ≤ k') : okD (n + 1) k' d := ⟨plain_up h.1, Nat.le_trans h.2 hk⟩
theorem plain_tuple {n : Nat} {xs : List D} (h : ∀ x ∈ xs, plainB n x = true) (hl : xs.length ≤ 100000) : plainB (n + 1) (.tuple xs) = true := by
  rw [plainB, Bool.and_eq_true, decide_eq_true_eq]
  exact ⟨hl, plainAll_iff.mpr h⟩
theorem plain_list {n : Nat} {xs : List D} (h : ∀ x ∈ xs, plainB n x = true) (hl : xs.length ≤ 100000) : plainB (n + 1) (.list xs) = true := by
  rw [plainB, Bool.and_eq_true, decide_eq_true_eq]
  exact ⟨hl, plainAll_iff.mpr h⟩
theorem plain_items {n : Nat} {xs : List D} (h : plainB n (.tuple xs) = true) : ∃ m, n = m + 1 ∧ (∀ x ∈ xs, plainB m x = true) ∧ xs.length ≤ 100000 := by
  cases n with
  | zero => simp [plainB] at h
  | succ n =>
    rw [plainB, Bool.and_eq_true, decide_eq_true_eq] at h
    exact ⟨n, rfl, plainAll_iff.mp h.2, h.1⟩
/-- the items of what comes of a tuple with items are little heavier than its items -/
def itemsOf (v w : D) : Prop := ∀ xs, v = .tuple xs → xs ≠ [] → ∀ M, (∀ x ∈ xs, wt x ≤ M) → ∀ ys, seqOf w = some ys → ∀ y ∈ ys, wt y ≤ 2 * M + 10
theorem itS {v w : D} (h : seqOf w = none) : itemsOf v w := fun _ _ _ _ _ ys e => by rw [h] at e; cases e
theorem itN {v w : D} (h : ∀ xs, v = .tuple xs → xs = []) : itemsOf v w := fun xs e n => (n (h xs e)).elim
theorem itX {xs ys : List D} {w : D} (hw : seqOf w = some ys) (h : ∀ y ∈ ys, y ∈ xs) : itemsOf (.tuple xs) w := fun xs' e _ M hM ys' e' y m => by
  cases e
  rw [hw] at e'
  cases e'
  have := hM y (h y m)
  omega
theorem itE {v w : D} (h : seqOf w = some []) : itemsOf v w := fun _ _ _ _ _ ys e y m => by rw [h] at e; cases e; cases m
theorem itR {v : D} : itemsOf v v := fun xs e _ M hM ys e' y m => by
  subst e
  cases e'
  have := hM y m
  omega
/-- item by item -/
theorem itAll {xs ys : List D} {w : D} (hw : seqOf w = some ys) (h : ∀ y ∈ ys, ∃ x ∈ xs, wt y ≤ wt x) : itemsOf (.tuple xs) w := fun xs' e _ M hM ys' e' y m => by
  cases e
  rw [hw] at e'
  cases e'
  obtain ⟨x, hx, l⟩ := h y m
  have := hM x hx
  omega
theorem all2_items {n : Nat} : ∀ {xs : List D} {rs : List (Option D)}, All2 (fun x r => ∃ d', r = some d' ∧ okD n (wt x) d') xs rs → ∀ y ∈ rs.filterMap id, ∃ x ∈ xs, wt y ≤ wt x := fun {xs rs} h => by
  induction h with
  | nil => intro y m; cases m
  | @cons x r xs rs h0 t ih =>
    obtain ⟨d', rfl, ok⟩ := h0
    rw [show (some d' :: rs : List (Option D)).filterMap id = d' :: List.filterMap id rs from rfl]
    intro y m
    rcases List.mem_cons.mp m with rfl | m
    · exact ⟨x, List.mem_cons_self .., ok.2⟩
    · obtain ⟨z, hz, l⟩ := ih y m
      exact ⟨z, List.mem_cons_of_mem _ hz, l⟩
/-! ### _law_booled -/
section
variable {A : Amb} {ds : List D} {s : A.S} {Q : D → A.S → Prop}
/-- some numbers are bools now -/
def S_booled (l : Nat) : FS A := fun ds s Q => ∃ d n, ds = [d] ∧ l = n + 1 ∧ plainB n d = true ∧ ∀ d', okD n (wt d) d' → itemsOf d d' → Q d' s
theorem p_L_booled {n : Nat} (h : S_booled (n + 1) ds s Q) : t_L_booled S_is_whole (S_booled n) (retE Q) (startR 2 ds) s := by
  obtain ⟨d, n', rfl, hn, pd, q⟩ := h
  cases hn
  have e : startR 2 [d] = [.fz d, .un] := rfl
  have nd := plainB_nd pd
  unfold t_L_booled
  simp [e, nd]
  cases d with
  | tuple xs =>
    obtain ⟨n, rfl, px, hl⟩ := plain_items pd
    simp
    refine comp_rel (xs := xs) (fun k z => by simpa using z) (by simp) (Nat.le_trans hl (by decide)) (fun x r => ∃ d', r = some d' ∧ okD n (wt x) d') (fun x m s k q => ?_) (fun rs hr => ?_)
    · simp
      exact ⟨x, n, rfl, rfl, px x m, fun d' ok _ => q _ ⟨d', rfl, ok⟩⟩
    · simp
      have all : ∀ (xs : List D) (rs : List (Option D)), All2 (fun x r => ∃ d', r = some d' ∧ okD n (wt x) d') xs rs → (∀ x ∈ rs.filterMap id, plainB n x = true) ∧ (rs.filterMap id).length = xs.length ∧ wtL (rs.filterMap id) ≤ wtL xs := fun xs rs h => by
        induction h with
        | nil => simp
        | cons r t ih =>
          obtain ⟨d', rfl, ok⟩ := r
          rw [show (some d' :: _ : List (Option D)).filterMap id = d' :: List.filterMap id _ from rfl]
          refine ⟨fun x m => ?_, by simpa using ih.2.1, by rw [wtL, wtL]; have := ok.2; have := ih.2.2; omega⟩
          rcases List.mem_cons.mp m with rfl | m
          · exact ok.1
          · exact ih.1 x m
      obtain ⟨a1, a2, a3⟩ := all xs rs hr
      exact q _ ⟨plain_tuple a1 (by omega), by rw [wt, wt]; omega⟩ (itAll rfl (all2_items hr))
  | int i =>
    simp [S_is_whole]
    by_cases h0 : 0 ≤ i
    · by_cases h1 : i < 2
      · simp [h0, h1, isW]
        refine ⟨by decide, ?_⟩
        rcases (by omega : i = 0 ∨ i = 1) with rfl | rfl
        · exact q _ ⟨by simp [plainB], by simp [wt]⟩ (itS rfl)
        · exact q _ ⟨by simp [plainB], by simp [wt]⟩ (itS rfl)
      · simp [h0, h1, isW]
        exact q _ ⟨pd, Nat.le_refl _⟩ itR
    · simp [h0, isW]
      exact q _ ⟨pd, Nat.le_refl _⟩ itR
  | dict _ => exact nd.elim
  | _ => 
    simp [S_is_whole, isW]
    exact q _ ⟨pd, Nat.le_refl _⟩ itR
end
end Dl
/-! Bent copies. -/
namespace Dl
open PySem L2
section
variable {A : Amb} {c : DT A} {t u : DS A} {D0 : DEnds A} {ρ : Rho} {s : A.S}
theorem seq_if (hu : u D0 ρ s) (h : ∀ U : Rho → A.S → Prop, U ρ s → c ρ s fun b s' => if b = true then t ⟨U, D0.rt, D0.bk, D0.ct⟩ ρ s' else U ρ s') : dSeq (dIfS c t dNx) u D0 ρ s := by
  rw [q_dSeq, q_dIfS]
  exact h (fun ρ s => u D0 ρ s) hu
/-- .. where the rest is reached only if so -/
theorem seq_ifH (hyp : Prop) (hu : hyp → u D0 ρ s) (h : ∀ U : Rho → A.S → Prop, (hyp → U ρ s) → c ρ s fun b s' => if b = true then t ⟨U, D0.rt, D0.bk, D0.ct⟩ ρ s' else U ρ s') : dSeq (dIfS c t dNx) u D0 ρ s := by
  rw [q_dSeq, q_dIfS]
  exact h (fun ρ s => u D0 ρ s) hu
end
theorem wtL_set {xs : List D} {i : Nat} {v : D} (h : i < xs.length) : wtL (xs.set i v) + wt xs[i] = wtL xs + wt v := by
  have e : xs.set i v = xs.take i ++ v :: xs.drop (i + 1) := List.set_eq_take_append_cons_drop.trans (by rw [if_pos h])
  have c := wtL_cut h
  rw [e, wtL_append, wtL]
  omega
theorem atI_of {α : Type} {xs : List α} {v : Int} (h0 : 0 ≤ v) (h1 : v < xs.length) : ∃ h : v.toNat < xs.length, atI xs v = some xs[v.toNat] := by
  have hv : v.toNat < xs.length := by omega
  refine ⟨hv, ?_⟩
  have z := atI_nat (xs := xs) (j := v.toNat) (List.getElem?_eq_getElem hv)
  rwa [Int.toNat_of_nonneg h0] at z
theorem atI_mem {xs : List D} {v : Int} (h0 : 0 ≤ v) (h1 : v < xs.length) {k : D → Prop} (q : ∀ x ∈ xs, k x) : oV (atI xs v) k := by
  obtain ⟨h, e⟩ := atI_of h0 h1
  rw [e]
  exact q _ (List.getElem_mem h)
theorem okT {n k : Nat} {xs : List D} (h : ∀ x ∈ xs, plainB n x = true) (hk : wtL xs + 1 ≤ k) (hz : k ≤ 100000) : okD (n + 1) k (.tuple xs) :=
  ⟨plain_tuple h (by have := len_wt xs; omega), hk⟩
theorem okL {n k : Nat} {xs : List D} (h : ∀ x ∈ xs, plainB n x = true) (hk : wtL xs + 1 ≤ k) (hz : k ≤ 100000) : okD (n + 1) k (.list xs) :=
  ⟨plain_list h (by have := len_wt xs; omega), hk⟩
theorem strOk_iff {x : Str} : PyData.strOk x = true ↔ ∀ c ∈ x.cps.toList, c < 0x110000 := by
  unfold PyData.strOk
  rw [← Array.all_toList, List.all_eq_true]
  simp
theorem strOk_append {x y : Str} (hx : PyData.strOk x = true) (hy : PyData.strOk y = true) : PyData.strOk (x ++ y) = true := by
  rw [strOk_iff] at *
  intro c m
  have e : (x ++ y).cps.toList = x.cps.toList ++ y.cps.toList := Array.toList_append
  rw [e] at m
  rcases List.mem_append.mp m with m | m
  · exact hx c m
  · exact hy c m
theorem strOk_cut {x : Str} {l u : Option Int} (hx : PyData.strOk x = true) : PyData.strOk (cutS x l u) = true := by
  rw [strOk_iff] at *
  intro c m
  exact hx c (List.mem_of_mem_drop (List.mem_of_mem_take m))
theorem len_append {x y : Str} : (x ++ y).length = x.length + y.length := by
  show (x.cps ++ y.cps).size = _
  rw [Array.size_append]
  rfl
theorem len_cut {x : Str} {l u : Option Int} : (cutS x l u).length ≤ x.length := by
  show (List.toArray _).size ≤ x.cps.size
  rw [List.size_toArray, List.length_take, List.length_drop, Array.length_toList]
  omega
section
variable {a : Addr} {ds : List D} {s : (poolA a).S} {Q : D → (poolA a).S → Prop}
/-- anything a little heavier -/
def S_bent (a : Addr) (l : Nat) : FS (poolA a) := fun ds s Q => ∃ v n, ds = [refD a, v] ∧ l = n + 1 ∧ plainB n v = true ∧ wt v ≤ 10000 ∧ ∀ w, okD (n + 1) (2 * wt v + 10) w → itemsOf v w → Q w s
theorem p_L_bent {l : Nat} (h : S_bent a (l + 1) ds s Q) : t_L_bent (S_draw a) S_is_whole (S_bent a l) (retE Q) (startR 6 ds) s := by
  obtain ⟨v, n, rfl, hn, pv, hz, q⟩ := h
  cases hn
  have e : startR 6 [refD a, v] = [.fz (refD a), .fz v, .un, .un, .un, .un] := rfl
  have nd := plainB_nd pv
  have hw := wt_pos v
  unfold t_L_bent
  rw [e]
  refine seq_if ?_ fun U hU => ?_
  · -- the turn
    rw [q_dSeq]
    simp [-q_dSeq, -q_dIfS]
    refine ⟨9, rfl, by omega, by omega, fun turn t0 t9 => ?_⟩
    refine seq_if ?_ fun U hU => ?_
    · refine seq_if ?_ fun U hU => ?_
      · refine seq_if ?_ fun U hU => ?_
        · refine seq_ifH (∃ xs, v = .tuple xs ∧ xs ≠ []) ?_ fun U hU => ?_
          · -- a tuple with items is left
            rintro ⟨xs, rfl, hx⟩
            obtain ⟨n, rfl, px, hl⟩ := plain_items pv
            have hlw := len_wt xs
            have hwx : wt (.tuple xs) = wtL xs + 1 := by rw [wt]
            rw [hwx] at hz q
            have hx0 := List.length_pos_iff.mpr hx
            have hs : 100000 ≤ sizeLine := by decide
            rw [q_dSeq]
            simp [-q_dSeq, -q_dIfS]
            refine ⟨xs.length, rfl, by omega, by omega, fun i i0 i1 => ?_⟩
            obtain ⟨hi, ei⟩ := atI_of i0 i1
            have hc := wtL_cut hi
            have hn1 : (i + 1).toNat = i.toNat + 1 := by omega
            have h1 : (xs.take i.toNat).length ≤ xs.length := by rw [List.length_take]; omega
            have h2 : (xs.drop (i.toNat + 1)).length ≤ xs.length := by rw [List.length_drop]; omega
            have h3 : (xs.drop i.toNat).length ≤ xs.length := by rw [List.length_drop]; omega
            have plT : ∀ k, ∀ x ∈ xs.take k, plainB (n + 1) x = true := fun k x m => plain_up (px x (List.mem_of_mem_take m))
            have plD : ∀ k, ∀ x ∈ xs.drop k, plainB (n + 1) x = true := fun k x m => plain_up (px x (List.mem_of_mem_drop m))
            have plI : plainB (n + 1) xs[i.toNat] = true := plain_up (px _ (List.getElem_mem hi))
            refine seq_if ?_ fun U hU => ?_
            · refine seq_if ?_ fun U hU => ?_
              · refine seq_if ?_ fun U hU => ?_
                · simp
                  refine ⟨xs.length, rfl, by omega, by omega, fun j j0 j1 => ?_⟩
                  obtain ⟨hj, ej⟩ := atI_of j0 j1
                  have xi : ixN xs.length i = some i.toNat := by
                    unfold ixN
                    rw [if_pos i0, if_pos i1]
                  have xj : ixN xs.length j = some j.toNat := by
                    unfold ixN
                    rw [if_pos j0, if_pos j1]
                  have hcj := wtL_cut hj
                  simp
                  rw [ej]
                  simp
                  rw [xi]
                  simp
                  rw [ei]
                  simp
                  rw [xj]
                  simp
                  refine q _ (okT (fun x m => ?_) ?_ (by omega)) (itX rfl fun y m => ?_)
                  · rcases List.mem_or_eq_of_mem_set m with m | rfl
                    · rcases List.mem_or_eq_of_mem_set m with m | rfl
                      · exact plain_up (px x m)
                      · exact plain_up (px _ (List.getElem_mem hj))
                    · exact plI
                  · have s1 := wtL_set (v := xs[j.toNat]) hi
                    have s2 := wtL_set (xs := xs.set i.toNat xs[j.toNat]) (i := j.toNat) (v := xs[i.toNat]) (by rw [List.length_set]; exact hj)
                    omega
                  · rcases List.mem_or_eq_of_mem_set m with m | rfl
                    · rcases List.mem_or_eq_of_mem_set m with m | rfl
                      · exact m
                      · exact List.getElem_mem hj
                    · exact List.getElem_mem hi
                · simp
                  split
                  · exact q _ (okL (fun x m => plain_up (px x m)) (by omega) (by omega)) (itX rfl fun _ m => m)
                  · exact hU
              · simp
                split
                · rw [ei]
                  simp
                  rw [cutD_to i0, cutD_from i0]
                  refine ⟨by omega, by omega, by omega, q _ (okT (fun x m => ?_) ?_ (by omega)) (itX rfl fun y m => ?_)⟩
                  · rcases List.mem_append.mp m with m | m
                    · exact plT _ x m
                    · rcases List.mem_cons.mp m with rfl | m
                      · exact plI
                      · exact plD _ x m
                  · rw [wtL_append, wtL]
                    have := congrArg wtL (List.take_append_drop i.toNat xs)
                    rw [wtL_append] at this
                    omega
                  · rcases List.mem_append.mp m with m | m
                    · exact List.mem_of_mem_take m
                    · rcases List.mem_cons.mp m with rfl | m
                      · exact List.getElem_mem hi
                      · exact List.mem_of_mem_drop m
                · exact hU
            · simp
              split
              · rw [cutD_to i0, cutD_from (by omega), hn1]
                refine ⟨by omega, q _ (okT (fun x m => ?_) ?_ (by omega)) (itX rfl fun y m => ?_)⟩
                · rcases List.mem_append.mp m with m | m
                  · exact plT _ x m
                  · exact plD _ x m
                · rw [wtL_append]
                  omega
                · rcases List.mem_append.mp m with m | m
                  · exact List.mem_of_mem_take m
                  · exact List.mem_of_mem_drop m
              · exact hU
          · have two : okD (l + 1) (2 * wt v + 10) (.tuple [v, .int 0]) := by
              refine okT (n := l) (fun x m => ?_) (by simp [wtL, wt]; omega) (by omega)
              simp at m
              rcases m with rfl | rfl
              · exact pv
              · simp [plainB]
            have nil : okD (l + 1) (2 * wt v + 10) (.tuple []) := okT (fun x m => by cases m) (by simp [wtL]) (by omega)
            have hs : 100000 ≤ sizeLine := by decide
            have alt : (∀ xs, v = .tuple xs → xs = []) → (if turn < 5 then 2 ≤ sizeLine ∧ Q (.tuple [v, .int 0]) s else Q (.tuple []) s) := fun no => by
              split
              · exact ⟨by omega, q _ two (itN no)⟩
              · exact q _ nil (itN no)
            simp [nd]
            cases v with
            | tuple xs =>
              simp
              by_cases hx : xs = []
              · subst hx
                simpa using alt
              · simpa [hx] using hU ⟨xs, rfl, hx⟩
            | dict _ => exact nd.elim
            | _ => simpa using alt fun _ z => nomatch z
        · simp [nd]
          cases v with
          | str z =>
            have hzl : wt (.str z) = z.length + 1 := by rw [wt]
            rw [hzl] at hz q
            have hs : 100000 ≤ sizeLine := by decide
            have hz1 : ∀ x : String, (Str.ofString x).length = 1 → z.length + (Str.ofString x).length ≤ sizeLine := fun x e => by omega
            have ha : (Str.ofString "a").length = 1 := by decide +kernel
            have hA : (Str.ofString "A").length = 1 := by decide +kernel
            have hb : (Str.ofString " ").length = 1 := by decide +kernel
            have oka : PyData.strOk (Str.ofString "a") = true := by decide +kernel
            have okA : PyData.strOk (Str.ofString "A") = true := by decide +kernel
            have okb : PyData.strOk (Str.ofString " ") = true := by decide +kernel
            have pz : PyData.strOk z = true := by
              cases l <;> simpa [plainB, PyData.canLay0] using pv
            have fin : ∀ y : Str, PyData.strOk y = true → y.length ≤ z.length + 1 → Q (.str y) s := fun y h1 h2 => q _ ⟨by simpa [plainB, PyData.canLay0] using h1, by rw [wt]; omega⟩ (itS rfl)
            simp
            refine ⟨hz1 _ ha, by omega, hz1 _ hA, hz1 _ hb, by omega, by omega, 5, rfl, by omega, by omega, fun j j0 j5 => ?_⟩
            dsimp only
            rw [q_ixT]
            refine atI_mem j0 (by simpa using j5) fun x m => ?_
            simp at m
            rcases m with rfl | rfl | rfl | rfl | rfl
            · exact fin _ (strOk_append pz oka) (by rw [len_append]; omega)
            · exact fin _ (strOk_cut pz) (Nat.le_trans len_cut (by omega))
            · exact fin _ (strOk_append pz okA) (by rw [len_append]; omega)
            · exact fin _ (strOk_append pz okb) (by rw [len_append]; omega)
            · exact fin _ (strOk_cut pz) (Nat.le_trans len_cut (by omega))
          | dict _ => exact nd.elim
          | _ => simpa using hU
      · simp
        refine ⟨v, rfl, nd, ?_⟩
        cases v with
        | int i =>
          simp [isW]
          refine ⟨by decide, 4, rfl, by omega, by omega, fun j j0 j4 => ?_⟩
          dsimp only
          rw [q_ixT]
          refine atI_mem j0 (by simpa using j4) fun x m => ?_
          simp at m
          rcases m with rfl | rfl | rfl | rfl <;> simp <;> refine q _ ⟨by simp [plainB], by simp [wt]; omega⟩ (itS rfl)
        | dict _ => exact nd.elim
        | _ => simpa [isW] using hU
    · simp
      by_cases h0 : turn = 0
      · simp [h0]
        have hs : 100000 ≤ sizeLine := by decide
        refine ⟨by omega, 8, rfl, by omega, by omega, fun j j0 j8 => ?_⟩
        dsimp only
        rw [q_ixT]
        refine atI_mem j0 (by simpa using j8) fun x m => ?_
        simp at m
        rcases m with rfl | rfl | rfl | rfl | rfl | rfl | rfl | rfl <;> refine q _ ⟨?_, ?_⟩ (by first | exact itS rfl | exact itE rfl) <;> simp [plainB, plainAllB, wt, wtL, PyData.canLay0] <;> first | decide +kernel | omega | exact Nat.le_trans (show (Str.ofString "x").length ≤ 1 by decide +kernel) (by omega)
      · simp [h0]
        exact hU
  · simp [nd]
    cases v with
    | tuple xs =>
      simp
      by_cases hx : 0 < xs.length
      · rw [if_pos (by omega)]
        refine ⟨3, rfl, by omega, by omega, fun b b0 b1 => ?_⟩
        by_cases hb : 0 < b
        · simp [hb]
          have hlw := len_wt xs
          have hwx : wt (.tuple xs) = wtL xs + 1 := by rw [wt]
          rw [hwx] at hz q
          refine ⟨xs.length, rfl, by omega, by omega, fun i i0 i1 => ?_⟩
          obtain ⟨n, rfl, px, hl⟩ := plain_items pv
          obtain ⟨hi, ei⟩ := atI_of i0 i1
          have hc := wtL_cut hi
          have hn1 : (i + 1).toNat = i.toNat + 1 := by omega
          simp
          rw [ei]
          simp
          refine ⟨xs[i.toNat], n, rfl, rfl, px _ (List.getElem_mem hi), by omega, fun w ok _ => ?_⟩
          have hs : 100000 ≤ sizeLine := by decide
          simp
          rw [cutD_to i0, cutD_from (by omega), hn1]
          have h1 : (xs.take i.toNat).length ≤ xs.length := by rw [List.length_take]; omega
          have h2 : (xs.drop (i.toNat + 1)).length ≤ xs.length := by rw [List.length_drop]; omega
          refine ⟨by omega, by omega, by omega, ?_⟩
          refine q _ (okT (fun x m => ?_) ?_ (by omega)) ?_
          · rcases List.mem_append.mp m with m | m
            · exact plain_up (px x (List.mem_of_mem_take m))
            · rcases List.mem_cons.mp m with rfl | m
              · exact ok.1
              · exact plain_up (px x (List.mem_of_mem_drop m))
          · rw [wtL_append, wtL]
            have := ok.2
            omega
          · intro xs' e' _ M hM ys' e2 y m
            cases e'
            cases e2
            rcases List.mem_append.mp m with m | m
            · have := hM y (List.mem_of_mem_take m)
              omega
            · rcases List.mem_cons.mp m with rfl | m
              · have a := ok.2
                have b := hM _ (List.getElem_mem hi)
                omega
              · have := hM y (List.mem_of_mem_drop m)
                omega
        · simp [hb]
          exact hU
      · rw [if_neg (by omega)]
        exact hU
    | dict _ => exact nd.elim
    | _ => simpa using hU
end
end Dl
/-! What repr asks, for small data. -/
namespace Dl
open PySem L2
mutual
theorem plain_lay {n : Nat} : ∀ {d : D}, plainB n d = true → d.canLay0 = true
  | .none, _ => rfl
  | .bool _, _ => rfl
  | .int _, _ => rfl
  | .str x, h => by cases n <;> simpa [plainB] using h
  | .list xs, h => by
    cases n with
    | zero => simp [plainB] at h
    | succ n =>
      rw [plainB, Bool.and_eq_true] at h
      simpa [PyData.canLay0] using plainAll_lay h.2
  | .tuple xs, h => by
    cases n with
    | zero => simp [plainB] at h
    | succ n =>
      rw [plainB, Bool.and_eq_true] at h
      simpa [PyData.canLay0] using plainAll_lay h.2
  | .dict _, h => by cases n <;> simp [plainB] at h
theorem plainAll_lay {n : Nat} : ∀ {xs : List D}, plainAllB n xs = true → PyData.canLayAll0 xs = true
  | [], _ => rfl
  | x :: xs, h => by
    rw [plainAllB, Bool.and_eq_true] at h
    rw [PyData.canLayAll0, plain_lay h.1, plainAll_lay h.2]
    rfl
end
mutual
theorem plain_depth {n : Nat} : ∀ {d : D}, plainB n d = true → d.depth ≤ n
  | .none, _ => by simp [PyData.depth]
  | .bool _, _ => by simp [PyData.depth]
  | .int _, _ => by simp [PyData.depth]
  | .str x, h => by simp [PyData.depth]
  | .list xs, h => by
    cases n with
    | zero => simp [plainB] at h
    | succ n =>
      rw [plainB, Bool.and_eq_true] at h
      have := plainAll_depth h.2
      rw [PyData.depth]
      omega
  | .tuple xs, h => by
    cases n with
    | zero => simp [plainB] at h
    | succ n =>
      rw [plainB, Bool.and_eq_true] at h
      have := plainAll_depth h.2
      rw [PyData.depth]
      omega
  | .dict _, h => by cases n <;> simp [plainB] at h
theorem plainAll_depth {n : Nat} : ∀ {xs : List D}, plainAllB n xs = true → PyData.depthAll xs ≤ n
  | [], _ => by simp [PyData.depthAll]
  | x :: xs, h => by
    rw [plainAllB, Bool.and_eq_true] at h
    have a := plain_depth h.1
    have b := plainAll_depth h.2
    rw [PyData.depthAll]
    omega
end
theorem log2_small {n : Nat} (h : n < 1000000) : n.log2 < 1920 := by
  by_cases z : n = 0
  · subst z; decide
  · have := (Nat.log2_lt z).mpr (show n < 2 ^ 1920 from Nat.lt_of_lt_of_le (m := 2 ^ 20) (by omega) (Nat.pow_le_pow_right (by decide) (by decide)))
    exact this
mutual
theorem plain_show {n : Nat} : ∀ {d : D}, plainB n d = true → wt d ≤ 10000 → d.showable = true
  | .none, _, _ => rfl
  | .bool _, _, _ => rfl
  | .int i, _, h => by
    rw [wt] at h
    rw [PyData.showable, decide_eq_true_eq]
    exact log2_small (by omega)
  | .str x, _, _ => rfl
  | .list xs, h, hw => by
    cases n with
    | zero => simp [plainB] at h
    | succ n =>
      rw [plainB, Bool.and_eq_true] at h
      rw [wt] at hw
      rw [PyData.showable]
      exact plainAll_show h.2 (by omega)
  | .tuple xs, h, hw => by
    cases n with
    | zero => simp [plainB] at h
    | succ n =>
      rw [plainB, Bool.and_eq_true] at h
      rw [wt] at hw
      rw [PyData.showable]
      exact plainAll_show h.2 (by omega)
  | .dict _, h, _ => by cases n <;> simp [plainB] at h
theorem plainAll_show {n : Nat} : ∀ {xs : List D}, plainAllB n xs = true → wtL xs ≤ 10000 → PyData.showableAll xs = true
  | [], _, _ => rfl
  | x :: xs, h, hw => by
    rw [plainAllB, Bool.and_eq_true] at h
    rw [wtL] at hw
    rw [PyData.showableAll, plain_show h.1 (by omega), plainAll_show h.2 (by omega)]
    rfl
end
mutual
theorem weight_wt {n : Nat} : ∀ {d : D}, plainB n d = true → PyData.weight d + 1 ≤ 2 * wt d
  | .none, _ => by simp [PyData.weight, wt]
  | .bool _, _ => by simp [PyData.weight, wt]
  | .int i, _ => by
    rw [PyData.weight, wt]
    split
    · omega
    · have : i.natAbs.log2 ≤ i.natAbs := Nat.log2_le_self _
      omega
  | .str x, _ => by
    rw [PyData.weight, wt]
    show x.cps.size + 1 ≤ 2 * (x.cps.size + 1)
    omega
  | .list xs, h => by
    cases n with
    | zero => simp [plainB] at h
    | succ n =>
      rw [plainB, Bool.and_eq_true] at h
      have := weightAll_wt h.2
      rw [PyData.weight, wt]
      omega
  | .tuple xs, h => by
    cases n with
    | zero => simp [plainB] at h
    | succ n =>
      rw [plainB, Bool.and_eq_true] at h
      have := weightAll_wt h.2
      rw [PyData.weight, wt]
      omega
  | .dict _, h => by cases n <;> simp [plainB] at h
theorem weightAll_wt {n : Nat} : ∀ {xs : List D}, plainAllB n xs = true → PyData.weightAll xs ≤ 2 * wtL xs
  | [], _ => by simp [PyData.weightAll]
  | x :: xs, h => by
    rw [plainAllB, Bool.and_eq_true] at h
    have a := weight_wt h.1
    have b := weightAll_wt h.2
    rw [PyData.weightAll, wtL]
    omega
end
theorem int_short {i : Int} (h : i.natAbs < 1000000) : (PyData.shown (.int i)).length ≤ 22 := by
  have l : i.natAbs.log2 < 21 := by
    by_cases z : i.natAbs = 0
    · rw [z]; decide
    · exact (Nat.log2_lt z).mpr (Nat.lt_of_lt_of_le (m := 2 ^ 20) (by omega) (by decide))
  have e := int_text_length_le (by decide) l
  have e2 : (PyData.shown (.int i)).length = (toString i).length := by
    show (Str.ofString (toString i)).length = _
    rw [ofString_length]
  omega
mutual
theorem plain_short {n : Nat} : ∀ {d : D}, plainB n d = true → wt d ≤ 10000 → d.leavesShort 22 = true
  | .none, _, _ => rfl
  | .bool _, _, _ => rfl
  | .int i, _, h => by
    rw [wt] at h
    rw [PyData.leavesShort, decide_eq_true_eq]
    exact int_short (by omega)
  | .str x, h, _ => by
    have h : PyData.strOk x = true := by cases n <;> simpa [plainB, PyData.canLay0] using h
    rw [PyData.leavesShort, List.all_eq_true]
    intro c m
    have := strOk_iff.mp h c m
    exact decide_eq_true (by omega)
  | .list xs, h, hw => by
    cases n with
    | zero => simp [plainB] at h
    | succ n =>
      rw [plainB, Bool.and_eq_true] at h
      rw [wt] at hw
      rw [PyData.leavesShort]
      exact plainAll_short h.2 (by omega)
  | .tuple xs, h, hw => by
    cases n with
    | zero => simp [plainB] at h
    | succ n =>
      rw [plainB, Bool.and_eq_true] at h
      rw [wt] at hw
      rw [PyData.leavesShort]
      exact plainAll_short h.2 (by omega)
  | .dict _, h, _ => by cases n <;> simp [plainB] at h
theorem plainAll_short {n : Nat} : ∀ {xs : List D}, plainAllB n xs = true → wtL xs ≤ 10000 → PyData.leavesShortAll 22 xs = true
  | [], _, _ => rfl
  | x :: xs, h, hw => by
    rw [plainAllB, Bool.and_eq_true] at h
    rw [wtL] at hw
    rw [PyData.leavesShortAll, plain_short h.1 (by omega), plainAll_short h.2 (by omega)]
    rfl
end
/-- small data can be shown -/
theorem repr_ok {n k : Nat} {d : D} (h : okD n k d) (hn : n ≤ 60) (hk : k ≤ 10000) : d.canLay0 = true ∧ d.showable = true ∧ d.depth ≤ 60 ∧ d.shown.length ≤ sizeLine := by
  have hw : wt d ≤ 10000 := Nat.le_trans h.2 hk
  refine ⟨plain_lay h.1, plain_show h.1 hw, Nat.le_trans (plain_depth h.1) hn, ?_⟩
  have a := PyData.shown_le 22 (by decide) d (plain_short h.1 hw)
  have b := weight_wt h.1
  exact Nat.le_trans (m := 1000000) (by omega) (by decide)
theorem okD.flat {n k : Nat} {d : D} (h : okD n k d) : flat1 d := by
  cases d with
  | tuple xs =>
    obtain ⟨m, _, p, _⟩ := plain_items h.1
    exact fun x hx => plainB_nd (p x hx)
  | dict _ => exact (plainB_nd h.1).elim
  | _ => trivial
end Dl
/-! The law k01 over data. -/
namespace Dl
open PySem L2
def t_law_k01 {A : Amb} (S_L_stage S_L_row S_L_same S_L_booled S_L_is_row S_rounds S_L_rounds S_L_bent S_is_row : FS A) : DS A :=
  (dSeq (dSet 2 (dCall S_L_stage (dCons (dVar 1) (dCons (dC (.int 8)) dNil))))
  (dSeq (dSet 3 (dCall S_L_row (dCons (dVar 1) (dCons (dVar 2) dNil))))
  (dSeq (dIfS (dNotT (dTest (dCall S_L_same (dCons (dCall S_rounds (dCons (dVar 2) dNil)) (dCons (dCall S_L_rounds (dCons (dVar 2) dNil)) dNil)))))
  (dRet (dC (.bool false)))
  dNx)
  (dSeq (dSet 4 (dLst (dCons (dVar 3) (dCons (dOfN (nFn gList (dCons (dVarB 3) dNil))) (dCons (dCall S_L_booled (dCons (dVar 3) dNil)) (dCons (dSl (dVarB 3) (oSome (dC (.int 1))) oNone) (dCons (dOp fAdd (dVarB 3) (dSl (dVarB 3) oNone (oSome (dC (.int 1))))) (dCons (dOp fAdd (dVarB 3) (dTup (dCons (dOp fAdd (dVarB 2) (dC (.int 1))) dNil))) (dCons (dOp fAdd (dSl (dVarB 3) oNone (oSome (dUn fNeg (dC (.int 1))))) (dTup (dCons (dC (.int 0)) dNil))) (dCons (dOp fAdd (dSl (dVarB 3) oNone (oSome (dUn fNeg (dC (.int 1))))) (dTup (dCons (dOp fAdd (dVarB 2) (dC (.int 1))) dNil))) (dCons (dTup (dCons (dC (.int 1)) (dCons (dC (.int 2)) dNil))) (dCons (dTupRg (dC (.int 1)) (dC (.int 10))) dNil))))))))))))
  (dSeq (dSet 4 (dOp fAdd (dVarB 4) (dLst (dCons (dTupRg (dC (.int 1)) (dC (.int 9))) (dCons (dTup (dCons (dC (.int 1)) (dCons (dC (.int 2)) (dCons (dC (.int 3)) dNil)))) (dCons (dTup (dCons (dC (.bool true)) (dCons (dC (.int 2)) (dCons (dC (.int 3)) dNil)))) (dCons (dC .none) (dCons (dTup dNil) (dCons (dC (.str "123")) (dCons (dTup (dCons (dC (.str "1")) (dCons (dC (.str "2")) (dCons (dC (.str "3")) dNil)))) dNil))))))))))
  (dSeq (dFor (dIt (dOp fAdd (dVarB 4) (dOfN (nComp (dRg1 (dCons (dC (.int 8)) dNil)) (dgN 6) dYes (dCall S_L_bent (dCons (dVar 1) (dCons (dVar 3) dNil))) [6])))) (dgN 5)
  (dSeq (dSet 7 (dCall S_L_is_row (dCons (dVar 5) dNil)))
  (dSeq (dSet 8 (dFn fRepr (dCons (dVarB 5) dNil)))
  (dIfS (dOrT (dNotT (dTest (dCall S_L_same (dCons (dCall S_is_row (dCons (dVar 5) dNil)) (dCons (dVar 7) dNil))))) (dTest (dOp fNeU (dFn fRepr (dCons (dVarB 5) dNil)) (dVarB 8))))
  (dRet (dC (.bool false)))
  dNx))))
  (dRet (dC (.bool true)))))))))
theorem rng_ok {n : Nat} (h : n ≤ 8) : (∀ x ∈ rngD 1 n, plainB 0 x = true) ∧ wtL (rngD 1 n) ≤ 100 := by
  refine ⟨fun x m => ?_, ?_⟩
  · obtain ⟨k, rfl⟩ := ints_rngD _ _ x m
    simp [plainB]
  · rcases (by omega : n = 0 ∨ n = 1 ∨ n = 2 ∨ n = 3 ∨ n = 4 ∨ n = 5 ∨ n = 6 ∨ n = 7 ∨ n = 8) with rfl | rfl | rfl | rfl | rfl | rfl | rfl | rfl | rfl <;> decide +kernel
theorem okD.mono {n m k k' : Nat} {d : D} (h : okD n k d) (hn : n ≤ m) (hk : k ≤ k') : okD m k' d := by
  induction hn with
  | refl => exact ⟨h.1, Nat.le_trans h.2 hk⟩
  | step _ ih => exact ⟨plain_up ih.1, ih.2⟩
theorem mem_cutD {ds : List D} {l u : Option Int} {x : D} (m : x ∈ cutD ds l u) : x ∈ ds := List.mem_of_mem_drop (List.mem_of_mem_take m)
theorem wtL_take (ds : List D) (n : Nat) : wtL (ds.take n) ≤ wtL ds := by
  have := congrArg wtL (List.take_append_drop n ds)
  rw [wtL_append] at this
  omega
theorem wtL_drop (ds : List D) (n : Nat) : wtL (ds.drop n) ≤ wtL ds := by
  have := congrArg wtL (List.take_append_drop n ds)
  rw [wtL_append] at this
  omega
theorem wtL_cutD {ds : List D} {l u : Option Int} : wtL (cutD ds l u) ≤ wtL ds := Nat.le_trans (wtL_take _ _) (wtL_drop _ _)
theorem len_cutD {ds : List D} {l u : Option Int} : (cutD ds l u).length ≤ ds.length := by
  unfold cutD
  rw [List.length_take, List.length_drop]
  omega
theorem okI {xs : List D} (h : ∀ x ∈ xs, plainB 0 x = true) (w : wtL xs ≤ 299) : okD 10 300 (.tuple xs) := (okT h (by omega) (by omega) : okD 1 300 _).mono (by omega) (Nat.le_refl _)
theorem okJ {xs : List D} (h : ∀ x ∈ xs, plainB 0 x = true) (w : wtL xs ≤ 299) : okD 10 300 (.list xs) := (okL h (by omega) (by omega) : okD 1 300 _).mono (by omega) (Nat.le_refl _)
/-- the loop's body -/
theorem p_law_k01 (a : Addr) (s : (poolA a).S) : t_law_k01 (S_stage a) (S_row a) (S_same 10) (S_booled 10) S_is_row S_rounds S_rounds (S_bent a 10) S_is_row (lawEnds _) (ρLaw a 7) s := by
  have e : ρLaw a 7 = [.un, .fz (refD a), .un, .un, .un, .un, .un, .un, .un] := rfl
  have hs : 100000 ≤ sizeLine := by decide
  unfold t_law_k01
  rw [e, q_dSeq]
  simp [-q_dSeq, -q_dIfS]
  refine ⟨8, rfl, by omega, by omega, fun st s3 s8 => ?_⟩
  dsimp only
  rw [q_dSeq]
  simp [-q_dSeq, -q_dIfS]
  refine ⟨st, rfl, by omega, by omega, fun ys hp => ?_⟩
  dsimp only
  have hlen : ys.length = st.toNat := by rw [hp.length_eq, rngD_length]
  have hr := rng_ok (n := st.toNat) (by omega)
  have py : ∀ x ∈ ys, plainB 0 x = true := fun x m => hr.1 x (hp.mem_iff.mp m)
  have wy : wtL ys ≤ 100 := by rw [wtL_perm hp]; exact hr.2
  refine seq_if ?_ fun U hU => ?_
  · rw [q_dSeq]
    simp [-q_dSeq, -q_dIfS]
    refine ⟨.tuple ys, 9, rfl, rfl, (okI py (by omega)).1 |> fun z => ((okT py (by omega) (by omega) : okD 1 300 _).mono (show 1 ≤ 9 by omega) (Nat.le_refl _)).1, fun w ok _ => ?_⟩
    dsimp only
    have hw : wt (.tuple ys) ≤ 101 := by rw [wt]; omega
    have l1 : (cutD ys none (some 1)).length ≤ 8 := Nat.le_trans len_cutD (by omega)
    have l2 : (cutD ys none (some (-1))).length ≤ 8 := Nat.le_trans len_cutD (by omega)
    have wi : wt (.int (st + 1)) ≤ 10 := by rw [wt]; omega
    refine ⟨by omega, by omega, by omega, by omega, by omega, by omega, by omega, by omega, .of_le (by omega) (by omega) (by omega) (by omega), by omega, ?_⟩
    have ok1 : ∀ x ∈ [PyData.tuple ys, PyData.list ys, w, PyData.tuple (cutD ys (some 1) none),
                                  PyData.tuple (ys ++ cutD ys none (some 1)),
                                  PyData.tuple (ys ++ [PyData.int (st + 1)]),
                                  PyData.tuple (cutD ys none (some (-1)) ++ [PyData.int 0]),
                                  PyData.tuple (cutD ys none (some (-1)) ++ [PyData.int (st + 1)]),
                                  PyData.tuple [PyData.int 1, PyData.int 2], PyData.tuple (rngD 1 9)], okD 10 300 x := by
      have pa : ∀ (l u : Option Int) (j : Int), ∀ x ∈ cutD ys l u ++ [PyData.int j], plainB 0 x = true := fun l u j x m => by
        rcases List.mem_append.mp m with m | m
        · exact py x (mem_cutD m)
        · rw [List.mem_singleton.mp m]; simp [plainB]
      have wa : ∀ (l u : Option Int) (j : Int), wt (.int j) ≤ 10 → wtL (cutD ys l u ++ [PyData.int j]) ≤ 299 := fun l u j h => by
        rw [wtL_append, wtL, wtL]
        have := wtL_cutD (ds := ys) (l := l) (u := u)
        omega
      intro x m
      simp only [List.mem_cons, List.not_mem_nil, or_false] at m
      rcases m with rfl | rfl | rfl | rfl | rfl | rfl | rfl | rfl | rfl | rfl
      · exact okI py (by omega)
      · exact okJ py (by omega)
      · exact ok.mono (by omega) (by omega)
      · exact okI (fun x m => py x (mem_cutD m)) (Nat.le_trans wtL_cutD (by omega))
      · refine okI (fun x m => ?_) ?_
        · rcases List.mem_append.mp m with m | m
          · exact py x m
          · exact py x (mem_cutD m)
        · rw [wtL_append]
          have := wtL_cutD (ds := ys) (l := none) (u := some 1)
          omega
      · refine okI (fun x m => ?_) ?_
        · rcases List.mem_append.mp m with m | m
          · exact py x m
          · rw [List.mem_singleton.mp m]; simp [plainB]
        · rw [wtL_append, wtL, wtL]
          omega
      · exact okI (pa _ _ _) (wa _ _ _ (by decide))
      · exact okI (pa _ _ _) (wa _ _ _ wi)
      · exact okI (fun x m => by simp at m; rcases m with rfl | rfl <;> simp [plainB]) (by decide)
      · refine okI (fun x m => ?_) (by decide +kernel)
        obtain ⟨k, rfl⟩ := ints_rngD _ _ x m
        simp [plainB]
    have lenT : [PyData.tuple ys, PyData.list ys, w, PyData.tuple (cutD ys (some 1) none),
                                  PyData.tuple (ys ++ cutD ys none (some 1)),
                                  PyData.tuple (ys ++ [PyData.int (st + 1)]),
                                  PyData.tuple (cutD ys none (some (-1)) ++ [PyData.int 0]),
                                  PyData.tuple (cutD ys none (some (-1)) ++ [PyData.int (st + 1)]),
                                  PyData.tuple [PyData.int 1, PyData.int 2], PyData.tuple (rngD 1 9)].length = 10 := rfl
    generalize [PyData.tuple ys, PyData.list ys, w, PyData.tuple (cutD ys (some 1) none),
                                  PyData.tuple (ys ++ cutD ys none (some 1)),
                                  PyData.tuple (ys ++ [PyData.int (st + 1)]),
                                  PyData.tuple (cutD ys none (some (-1)) ++ [PyData.int 0]),
                                  PyData.tuple (cutD ys none (some (-1)) ++ [PyData.int (st + 1)]),
                                  PyData.tuple [PyData.int 1, PyData.int 2], PyData.tuple (rngD 1 9)] = T at ok1 lenT ⊢
    rw [q_dSeq]
    simp [-q_dSeq, -q_dIfS]
    refine ⟨.of_le (by omega) (by omega) (by omega) (by omega), by omega, by omega, by omega, ?_⟩
    have ok2 : ∀ x ∈ T ++ [PyData.tuple (rngD 1 8), PyData.tuple [PyData.int 1, PyData.int 2, PyData.int 3],
                      PyData.tuple [PyData.bool true, PyData.int 2, PyData.int 3], PyData.none, PyData.tuple [],
                      PyData.str (Str.ofString "123"),
                      PyData.tuple
                        [PyData.str (Str.ofString "1"), PyData.str (Str.ofString "2"),
                          PyData.str (Str.ofString "3")]], okD 10 300 x := by
      intro x m
      rcases List.mem_append.mp m with m | m
      · exact ok1 x m
      · simp only [List.mem_cons, List.not_mem_nil, or_false] at m
        rcases m with rfl | rfl | rfl | rfl | rfl | rfl | rfl
        · refine okI (fun x m => ?_) (by decide +kernel)
          obtain ⟨k, rfl⟩ := ints_rngD _ _ x m
          simp [plainB]
        all_goals exact ⟨by decide +kernel, by decide +kernel⟩
    have lenU : (T ++ [PyData.tuple (rngD 1 8), PyData.tuple [PyData.int 1, PyData.int 2, PyData.int 3],
                      PyData.tuple [PyData.bool true, PyData.int 2, PyData.int 3], PyData.none, PyData.tuple [],
                      PyData.str (Str.ofString "123"),
                      PyData.tuple
                        [PyData.str (Str.ofString "1"), PyData.str (Str.ofString "2"),
                          PyData.str (Str.ofString "3")]]).length = 17 := by
      rw [List.length_append, lenT]
      rfl
    generalize T ++ [PyData.tuple (rngD 1 8), PyData.tuple [PyData.int 1, PyData.int 2, PyData.int 3],
                      PyData.tuple [PyData.bool true, PyData.int 2, PyData.int 3], PyData.none, PyData.tuple [],
                      PyData.str (Str.ofString "123"),
                      PyData.tuple
                        [PyData.str (Str.ofString "1"), PyData.str (Str.ofString "2"),
                          PyData.str (Str.ofString "3")]] = T2 at ok2 lenU ⊢
    rw [q_dSeq]
    -- the items of the loop
    show dIt _ _ s _
    simp [-q_dSeq, -q_dIfS]
    refine comp_rel (xs := rngD 0 8) (fun k z => by simpa using z) (by simp) (by rw [rngD_length]; omega) (fun x r => ∃ d', r = some d' ∧ okD 10 300 d') (fun x m s k q => ?_) (fun rs hr2 => ?_)
    · simp
      refine ⟨.tuple ys, 9, rfl, rfl, ((okT py (by omega) (by omega) : okD 1 300 _).mono (show 1 ≤ 9 by omega) (Nat.le_refl _)).1, by omega, fun w ok _ => q _ ⟨w, rfl, ok.mono (Nat.le_refl _) (by omega)⟩⟩
    · have ok3 : ∀ x ∈ rs.filterMap id, okD 10 300 x := by
        have all : ∀ (xs : List D) (rs : List (Option D)), All2 (fun _ r => ∃ d', r = some d' ∧ okD 10 300 d') xs rs → ∀ x ∈ rs.filterMap id, okD 10 300 x := fun xs rs h => by
          induction h with
          | nil => simp
          | cons r t ih =>
            obtain ⟨d', rfl, ok⟩ := r
            rw [show (some d' :: _ : List (Option D)).filterMap id = d' :: List.filterMap id _ from rfl]
            intro x m
            rcases List.mem_cons.mp m with rfl | m
            · exact ok
            · exact ih x m
        exact all _ _ hr2
      have len3 : (rs.filterMap id).length ≤ 8 := by
        have := hr2.length
        rw [rngD_length] at this
        exact Nat.le_trans (List.length_filterMap_le _ _) (by omega)
      generalize rs.filterMap id = T3 at ok3 len3 ⊢
      simp [-q_dSeq, -q_dIfS]
      refine ⟨by omega, ?_⟩
      have ok4 : ∀ x ∈ T2 ++ T3, okD 10 300 x := fun x m => (List.mem_append.mp m).elim (ok2 x) (ok3 x)
      generalize T2 ++ T3 = T4 at ok4 ⊢
      refine for_inv (fun r ρ s' => s' = s ∧ (∀ x ∈ r, okD 10 300 x) ∧ ∃ c5 c7 c8, ρ = [.un, .fz (refD a), .fz (.int st), .fz (.tuple ys), .fz (.list T2), c5, .un, c7, c8]) ⟨rfl, ok4, _, _, _, rfl⟩ ?_ ?_
      · rintro x r ρ s' ⟨rfl, okr, c5, c7, c8, rfl⟩ D' hr hb hn hc
        have okx := okr x (List.mem_cons_self ..)
        have rx := repr_ok okx (by omega) (by omega)
        simp
        refine ⟨x, rfl, okx.flat, ?_⟩
        simp [rx]
        refine ⟨x, rfl, okx.flat, _, _, 9, rfl, rfl, ⟨0, by simp [plainB]⟩, by simp [plainB], ?_⟩
        rw [sameB_eq]
        simp
        exact hn _ _ ⟨rfl, fun y m => okr y (List.mem_cons_of_mem _ m), _, _, _, rfl⟩
      · rintro ρ s' ⟨rfl, _, c5, c7, c8, rfl⟩
        simp
  · simp
    refine ⟨st, rfl, by omega, by omega, st, rfl, by omega, by omega, ?_⟩
    refine ⟨_, _, 9, rfl, rfl, ⟨9, ?_⟩, ?_, ?_⟩
    · exact ((okT hr.1 (by omega) (by omega) : okD 1 300 _).mono (show 1 ≤ 9 by omega) (Nat.le_refl _)).1
    · exact ((okT hr.1 (by omega) (by omega) : okD 1 300 _).mono (show 1 ≤ 9 by omega) (Nat.le_refl _)).1
    · rw [sameB_eq]
      simpa using hU
end Dl
/-! How many arguments each promise has. -/
namespace Dl
open PySem L2
section
variable {A : Amb} {ds : List D} {s : A.S} {Q : D → A.S → Prop}
theorem len_is_whole (h : S_is_whole ds s Q) : ds.length = 1 := by obtain ⟨_, e, _⟩ := h; rw [e]; rfl
theorem len_L_is_integer (h : S_is_whole ds s Q) : ds.length = 1 := len_is_whole h
theorem len_is_from (h : S_is_from ds s Q) : ds.length = 3 := by obtain ⟨_, _, _, e, _⟩ := h; rw [e]; rfl
theorem len_is_stage (h : S_is_stage ds s Q) : ds.length = 1 := by obtain ⟨_, e, _⟩ := h; rw [e]; rfl
theorem len_is_row (h : S_is_row ds s Q) : ds.length = 1 := by obtain ⟨_, e, _⟩ := h; rw [e]; rfl
theorem len_L_is_row (h : S_is_row ds s Q) : ds.length = 1 := len_is_row h
theorem len_rounds (h : S_rounds ds s Q) : ds.length = 1 := by obtain ⟨_, e, _⟩ := h; rw [e]; rfl
theorem len_L_rounds (h : S_rounds ds s Q) : ds.length = 1 := len_rounds h
theorem len_L_same {n : Nat} (h : S_same n ds s Q) : ds.length = 2 := by obtain ⟨_, _, _, e, _⟩ := h; rw [e]; rfl
theorem no_L_same (h : S_same 0 ds s Q) : False := by obtain ⟨_, _, _, _, e, _⟩ := h; cases e
theorem len_L_booled {n : Nat} (h : S_booled n ds s Q) : ds.length = 1 := by obtain ⟨_, _, e, _⟩ := h; rw [e]; rfl
theorem no_L_booled (h : S_booled 0 ds s Q) : False := by obtain ⟨_, _, _, e, _⟩ := h; cases e
end
theorem len_spread {ds : List D} {s : amb0.S} {Q : D → amb0.S → Prop} (h : S_spread ds s Q) : ds.length = 1 := by obtain ⟨_, e, _⟩ := h; rw [e]; rfl
section
variable {a : Addr} {ds : List D} {s : (poolA a).S} {Q : D → (poolA a).S → Prop}
theorem len_L_bent {n : Nat} (h : S_bent a n ds s Q) : ds.length = 2 := by obtain ⟨_, _, e, _⟩ := h; rw [e]; rfl
theorem no_L_bent (h : S_bent a 0 ds s Q) : False := by obtain ⟨_, _, _, e, _⟩ := h; cases e
theorem len_L_shuffled (h : S_shuffled a ds s Q) : ds.length = 2 := by obtain ⟨_, _, e, _⟩ := h; rw [e]; rfl
theorem len_L_row (h : S_row a ds s Q) : ds.length = 2 := by obtain ⟨_, e, _⟩ := h; rw [e]; rfl
theorem len_L_stage (h : S_stage a ds s Q) : ds.length = 2 := by obtain ⟨_, e, _⟩ := h; rw [e]; rfl
end
end Dl
/-! Changes: the checks. -/
namespace Dl
open PySem L2
def t_is_ascending {A : Amb} : DS A :=
  (dRet (dFn fAll (dCons (dOfN (nComp (dRg1 (dCons (dOp fSub (dFn fLen (dCons (dVarB 0) dNil)) (dC (.int 1))) dNil)) (dgN 1) dYes (dOp fLt (dOp fIx (dVarB 0) (dVarB 1)) (dOp fIx (dVarB 0) (dOp fAdd (dVarB 1) (dC (.int 1))))) [1])) dNil)))
def t_is_change {A : Amb} (S_is_ascending S_is_from : FS A) : DS A :=
  (dSeq (dIfS (dOrT (dNotT (dTest (dUn (fIsi .tuple) (dVarB 1)))) (dNotT (dTest (dFn fAll (dCons (dOfN (nComp (dIt (dVar 1)) (dgN 2) dYes (dCall S_is_from (dCons (dVar 2) (dCons (dC (.int 1)) (dCons (dVar 0) dNil)))) [2])) dNil)))))
  (dRet (dC (.bool false)))
  dNx)
  (dSeq (dIfS (dOrT (dNotT (dTest (dCall S_is_ascending (dCons (dVar 1) dNil)))) (dTest (dOp fEqU (dFn fLen (dCons (dVarB 1) dNil)) (dVarB 0))))
  (dRet (dC (.bool false)))
  dNx)
  (dSeq (dSet 3 (dOp fAdd (dOp fAdd (dLst (dCons (dC (.int 0)) dNil)) (dOfN (nFn gList (dCons (dVarB 1) dNil)))) (dLst (dCons (dOp fAdd (dVarB 0) (dC (.int 1))) dNil))))
  (dRet (dFn fAll (dCons (dOfN (nComp (dRg1 (dCons (dOp fSub (dFn fLen (dCons (dVarB 3) dNil)) (dC (.int 1))) dNil)) (dgN 4) dYes (dOp fEqU (dOp fMod (dOp fSub (dOp fIx (dVarB 3) (dOp fAdd (dVarB 4) (dC (.int 1)))) (dOp fIx (dVarB 3) (dVarB 4))) (dC (.int 2))) (dC (.int 1))) [4])) dNil))))))
def t_changes_from {A : Amb} (S_changes_from : FS A) : DS A :=
  (dSeq (dIfS (dTest (dOp fGt (dVarB 0) (dVarB 1)))
  (dRet (dLst (dCons (dTup dNil) dNil)))
  dNx)
  (dSeq (dSetN 2 (nComp (dIt (dCall S_changes_from (dCons (dOp fAdd (dVarB 0) (dC (.int 1))) (dCons (dVar 1) dNil)))) (dgN 3) dYes (dOp fAdd (dTup (dCons (dVar 0) dNil)) (dVarB 3)) [3]))
  (dSeq (dIfS (dTest (dOp fLt (dVarB 0) (dVarB 1)))
  (dExt 2 (dCall S_changes_from (dCons (dOp fAdd (dVarB 0) (dC (.int 2))) (dCons (dVar 1) dNil))))
  dNx)
  (dFrz 2 (dRet (dVar 2))))))
def t_changes_of {A : Amb} (S_changes_from : FS A) : DS A :=
  (dRet (dOfN (nFn gSorted (dCons (dOfN (nComp (dIt (dCall S_changes_from (dCons (dC (.int 1)) (dCons (dVar 0) dNil)))) (dgN 1) (dTest (dOp fLt (dFn fLen (dCons (dVarB 1) dNil)) (dVarB 0))) (dVar 1) [1])) dNil))))
def t_L_pick {A : Amb} (S_L_draw : FS A) : DS A :=
  (dRet (dOp fIx (dVarB 1) (dCall S_L_draw (dCons (dVar 0) (dCons (dFn fLen (dCons (dVarB 1) dNil)) dNil)))))
def t_L_is_number {A : Amb} (S_L_is_integer : FS A) : DS A :=
  (dRet (dAnd (dCall S_L_is_integer (dCons (dVar 0) dNil)) (dAnd (dOp fLe (dC (.int 0)) (dVarB 0)) (dOp fLe (dVarB 0) (dVarB 1)))))
def t_L_is_change {A : Amb} (S_L_is_number : FS A) : DS A :=
  (dSeq (dIfS (dOrT (dNotT (dTest (dUn (fIsi .tuple) (dVarB 1)))) (dTest (dOp fGt (dFn fLen (dCons (dOfN (nComp (dIt (dVar 1)) (dgN 2) (dOrT (dNotT (dTest (dCall S_L_is_number (dCons (dVar 2) (dCons (dVar 0) dNil))))) (dTest (dOp fLt (dVarB 2) (dC (.int 1))))) (dVar 2) [2])) dNil)) (dC (.int 0)))))
  (dRet (dC (.bool false)))
  dNx)
  (dSeq (dIfS (dOrT (dTest (dOp fNeU (dOfN (nFn gList (dCons (dVarB 1) dNil))) (dOfN (nSortedSet (dCons (dVarB 1) dNil))))) (dTest (dOp fEqU (dFn fLen (dCons (dVarB 1) dNil)) (dVarB 0))))
  (dRet (dC (.bool false)))
  dNx)
  (dSeq (dSet 3 (dC (.int 0)))
  (dSeq (dFor (dRg2 (dCons (dC (.int 1)) (dCons (dOp fAdd (dVarB 0) (dC (.int 2))) dNil))) (dgN 2)
  (dIfS (dOrT (dTest (dOp fIn (dVarB 2) (dVarB 1))) (dTest (dOp fGt (dVarB 2) (dVarB 0))))
  (dSeq (dIfS (dTest (dOp fEqU (dOp fMod (dFn fInt (dCons (dVarB 3) dNil)) (dC (.int 2))) (dC (.int 1))))
  (dRet (dC (.bool false)))
  dNx)
  (dSet 3 (dC (.int 0))))
  (dSet 3 (dOp fAdd (dVarB 3) (dC (.int 1))))))
  (dRet (dC (.bool true)))))))
def t_L_changes {A : Amb} (S_L_is_change : FS A) : DS A :=
  (dSeq (dSet 1 (dLst (dCons (dTup dNil) dNil)))
  (dSeq (dFor (dRg2 (dCons (dC (.int 1)) (dCons (dOp fAdd (dVarB 0) (dC (.int 1))) dNil))) (dgN 2)
  (dSet 1 (dOp fAdd (dVarB 1) (dOfN (nComp (dIt (dVar 1)) (dgN 3) dYes (dOp fAdd (dVarB 3) (dTup (dCons (dVar 2) dNil))) [3])))))
  (dRet (dOfN (nFn gSorted (dCons (dOfN (nComp (dIt (dVar 1)) (dgN 3) (dTest (dCall S_L_is_change (dCons (dVar 0) (dCons (dVar 3) dNil)))) (dVar 3) [3])) dNil))))))
/-! ### lists of ints -/
theorem eqv_ints (a b : List Int) : PyData.eqv (.list (intsD a)) (.list (intsD b)) = decide (a = b) := by
  show PyData.eqvAll (intsD a) (intsD b) = decide (a = b)
  induction a generalizing b with
  | nil => cases b <;> simp [intsD, PyData.eqvAll]
  | cons x a ih =>
    cases b with
    | nil => simp [intsD, PyData.eqvAll]
    | cons y b =>
      show (PyData.eqv (.int x) (.int y) && PyData.eqvAll (intsD a) (intsD b)) = _
      rw [ih, eqv_int, Bool.eq_iff_iff]
      simp
/-- adjacent items -/
def adjB (p : Int → Int → Bool) : List Int → Bool
  | x :: y :: r => p x y && adjB p (y :: r)
  | _ => true
theorem adj_all (p : Int → Int → Bool) : ∀ ns : List Int, (List.range (ns.length - 1)).all (fun k => p (ns.getD k 0) (ns.getD (k + 1) 0)) = adjB p ns
  | [] => rfl
  | [x] => rfl
  | x :: y :: r => by
    have ih := adj_all p (y :: r)
    simp only [List.length_cons, Nat.add_sub_cancel] at ih ⊢
    rw [adjB, ← ih, List.range_succ_eq_map, List.all_cons, List.all_map]
    rfl
def numD : D → Int
  | .int i => i
  | _ => 0
theorem all_rng (p : D → Bool) (n : Nat) : ((rngD 0 n).map p).all id = (List.range n).all fun k => p (.int (k : Nat)) := by
  unfold rngD
  rw [List.map_map, List.all_map]
  congr 1
  funext k
  simp
theorem ints_get {ns : List Int} {k : Nat} (h : k < ns.length) : atI (intsD ns) (k : Int) = some (.int (ns.getD k 0)) := by
  refine atI_nat ?_
  unfold intsD
  rw [List.getElem?_map, List.getElem?_eq_getElem h, List.getD_eq_getElem?_getD, List.getElem?_eq_getElem h]
  rfl
@[simp] theorem intsD_length {ns : List Int} : (intsD ns).length = ns.length := by unfold intsD; simp
section
variable {A : Amb} {ds : List D} {s : A.S} {Q : D → A.S → Prop}
def S_is_ascending : FS A := fun ds s Q => ∃ ns : List Int, ds = [.tuple (intsD ns)] ∧ ns.length ≤ 100000 ∧ Q (.bool (adjB (fun x y => decide (x < y)) ns)) s
theorem p_is_ascending (h : S_is_ascending ds s Q) : t_is_ascending (retE Q) (startR 2 ds) s := by
  obtain ⟨ns, rfl, hn, q⟩ := h
  have e : startR 2 [.tuple (intsD ns)] = [.fz (.tuple (intsD ns)), .un] := rfl
  have hs : 100000 ≤ sizeLine := by decide
  unfold t_is_ascending
  simp [e]
  refine comp_pure (xs := rngD 0 (ns.length - 1)) (fun k q => ?_) (by simp) (by rw [rngD_length]; omega) (fun x => some (.bool ((fun x => decide (ns.getD (numD x).toNat 0 < ns.getD ((numD x).toNat + 1) 0)) x))) (fun x m s k q => ?_) ?_
  · simp
    exact ⟨⟨by omega, by omega⟩, q⟩
  · obtain ⟨i, hi, rfl⟩ := mem_rngD m
    have h1 := ints_get (ns := ns) (k := i) (by omega)
    have h2 := ints_get (ns := ns) (k := i + 1) (by omega)
    simp
    rw [h1]
    have e2 : ((i : Int) + 1) = ((i + 1 : Nat) : Int) := by omega
    rw [e2, h2]
    simpa [numD] using q
  · rw [fm_some]
    rw [← adj_all] at q
    show fAll [.list _] _
    rw [q_all, boolsV_map, all_rng]
    simpa [numD] using q
/-! ### is_change -/
def inB (st : Int) (d : D) : Bool := fromB d 1 st
def changeN (st : Int) (ns : List Int) : Bool := adjB (fun x y => decide (x < y)) ns && !decide ((ns.length : Int) = st) && adjB (fun x y => decide ((y - x) % 2 = 1)) (0 :: (ns ++ [st + 1]))
def changeB (st : Int) : D → Bool
  | .tuple xs => xs.all (inB st) && changeN st (xs.map numD)
  | _ => false
def lenOk : D → Prop
  | .tuple xs => xs.length ≤ 1000
  | _ => True
theorem numD_ints (ns : List Int) : (intsD ns).map numD = ns := by
  unfold intsD
  rw [List.map_map]
  exact List.map_id'' (fun _ => rfl) ns
theorem inB_ints {st : Int} {xs : List D} (h : xs.all (inB st) = true) : ∃ ns : List Int, xs = intsD ns ∧ ∀ j ∈ ns, 1 ≤ j ∧ j ≤ st := by
  have hw : xs.all isW = true := List.all_eq_true.mpr fun x m => by
    have q := List.all_eq_true.mp h x m
    unfold inB fromB at q
    cases x <;> first | rfl | (simp at q)
  obtain ⟨ns, rfl⟩ := intsD_of hw
  refine ⟨ns, rfl, fun j m => ?_⟩
  have q := List.all_eq_true.mp h (.int j) (List.mem_map.mpr ⟨j, m, rfl⟩)
  simpa [inB, fromB] using q
def S_is_change : FS A := fun ds s Q => ∃ (st : Int) (v : D), ds = [.int st, v] ∧ flat1 v ∧ lenOk v ∧ Q (.bool (changeB st v)) s
theorem p_is_change (h : S_is_change ds s Q) : t_is_change S_is_ascending S_is_from (retE Q) (startR 5 ds) s := by
  obtain ⟨st, v, rfl, fl, hl, q⟩ := h
  have e : startR 5 [.int st, v] = [.fz (.int st), .fz v, .un, .un, .un] := rfl
  have hs : 100000 ≤ sizeLine := by decide
  unfold t_is_change
  simp [e, fl.nd]
  cases v with
  | tuple xs =>
    have hl : xs.length ≤ 1000 := hl
    simp
    refine comp_pure (xs := xs) (fun k q => by simpa using q) (by simp) (by omega) (fun x => some (.bool (inB st x))) (fun x m s k q => ?_) ?_
    · simp
      exact ⟨x, 1, st, rfl, fl x m, q⟩
    · rw [fm_some]
      rw [q_ol, q_all, boolsV_map]
      by_cases hw : xs.all (inB st) = true
      · obtain ⟨ns, rfl, hb⟩ := inB_ints hw
        rw [intsD_length] at hl
        have hw2 : ((intsD ns).map (inB st)).all id = true := by rw [List.all_map]; exact hw
        rw [hw2]
        simp
        refine ⟨ns, rfl, by omega, ?_⟩
        simp
        have qq : Q (.bool (changeN st ns)) s := by
          have e : changeB st (.tuple (intsD ns)) = changeN st ns := by
            rw [changeB, hw, numD_ints]
            rfl
          rw [← e]
          exact q
        unfold changeN at qq
        cases ha : adjB (fun x y => decide (x < y)) ns with
        | false => simpa [ha] using qq
        | true =>
          by_cases hst : (ns.length : Int) = st
          · simpa [ha, hst] using qq
          · simp [ha, hst] at qq ⊢
            refine ⟨by omega, by omega, by omega, by omega, ?_⟩
            have e2 : PyData.int 0 :: (intsD ns ++ [PyData.int (st + 1)]) = intsD (0 :: (ns ++ [st + 1])) := by
              unfold intsD
              simp
            rw [e2]
            generalize hE : (0 :: (ns ++ [st + 1])) = E at qq
            have hEl : E.length = ns.length + 2 := by rw [← hE]; simp
            refine comp_pure (xs := rngD 0 (E.length - 1)) (fun k q => ?_) (by simp) (by rw [rngD_length]; omega) (fun x => some (.bool ((fun x => decide ((E.getD ((numD x).toNat + 1) 0 - E.getD (numD x).toNat 0) % 2 = 1)) x))) (fun x m s k q => ?_) ?_
            · simp
              exact ⟨⟨by omega, by omega⟩, q⟩
            · obtain ⟨i, hi, rfl⟩ := mem_rngD m
              have h1 := ints_get (ns := E) (k := i) (by omega)
              have h2 := ints_get (ns := E) (k := i + 1) (by omega)
              have e2 : ((i : Int) + 1) = ((i + 1 : Nat) : Int) := by omega
              simp
              rw [e2, h2]
              simp
              rw [h1]
              simpa [numD] using q
            · rw [fm_some]
              rw [← adj_all] at qq
              show fAll [.list _] _
              rw [q_all, boolsV_map, all_rng]
              simpa [numD] using qq
      · have hw2 : (xs.map (inB st)).all id = false := by
          rw [List.all_map]
          simpa using hw
        have hw3 : xs.all (inB st) = false := by simpa using hw
        rw [hw2]
        simp
        have e : changeB st (.tuple xs) = false := by rw [changeB, hw3]; rfl
        rw [e] at q
        exact q
  | dict _ => exact fl.elim
  | _ => simpa [changeB] using q
end
end Dl
/-! Changes as the laws tell them. -/
namespace Dl
open PySem L2
theorem asc_iff : ∀ {ns : List Int}, adjB (fun x y => decide (x < y)) ns = true ↔ ns.Pairwise (· < ·)
  | [] => by simp [adjB]
  | [x] => by simp [adjB]
  | x :: y :: r => by
    rw [adjB, Bool.and_eq_true, asc_iff, List.pairwise_cons (a := x), decide_eq_true_eq]
    constructor
    · rintro ⟨h1, h2⟩
      refine ⟨fun z m => ?_, h2⟩
      rcases List.mem_cons.mp m with rfl | m
      · exact h1
      · exact Int.lt_trans h1 ((List.pairwise_cons.mp h2).1 z m)
    · rintro ⟨h1, h2⟩
      exact ⟨h1 y (List.mem_cons_self ..), h2⟩
theorem asc_unique : ∀ {ms ns : List Int}, ms.Pairwise (· < ·) → ns.Pairwise (· < ·) → (∀ j, j ∈ ms ↔ j ∈ ns) → ms = ns
  | [], [], _, _, _ => rfl
  | [], n :: ns, _, _, h => by have := (h n).mpr (List.mem_cons_self ..); cases this
  | m :: ms, [], _, _, h => by have := (h m).mp (List.mem_cons_self ..); cases this
  | m :: ms, n :: ns, h1, h2, h => by
    have a := List.pairwise_cons.mp h1
    have b := List.pairwise_cons.mp h2
    have e : m = n := by
      rcases List.mem_cons.mp ((h m).mp (List.mem_cons_self ..)) with e | x
      · exact e
      · rcases List.mem_cons.mp ((h n).mpr (List.mem_cons_self ..)) with e | y
        · exact e.symm
        · have := a.1 n y
          have := b.1 m x
          omega
    subst e
    rw [asc_unique a.2 b.2 fun j => ?_]
    constructor
    · intro x
      rcases List.mem_cons.mp ((h j).mp (List.mem_cons_of_mem _ x)) with rfl | y
      · exact absurd (a.1 j x) (Int.lt_irrefl _)
      · exact y
    · intro x
      rcases List.mem_cons.mp ((h j).mpr (List.mem_cons_of_mem _ x)) with rfl | y
      · exact absurd (b.1 j x) (Int.lt_irrefl _)
      · exact y
/-- the loop of _law_is_change -/
def looseB (ns : List Int) (st : Int) : Nat → Int → Int → Bool
  | 0, _, _ => true
  | n + 1, p, l => if p ∈ ns ∨ st < p then (if l % 2 = 1 then false else looseB ns st n (p + 1) 0) else looseB ns st n (p + 1) (l + 1)
theorem loose_gaps (ns : List Int) (st : Int) : ∀ (n : Nat) (p l e : Int) (ns' : List Int), p + n = st + 2 → 1 ≤ n → l = p - 1 - e → 0 ≤ l → (∀ j, p ≤ j → (j ∈ ns ↔ j ∈ ns')) → ns'.Pairwise (· < ·) → (∀ j ∈ ns', p ≤ j ∧ j ≤ st) →
    looseB ns st n p l = adjB (fun x y => decide ((y - x) % 2 = 1)) (e :: (ns' ++ [st + 1]))
  | 0, _, _, _, _, _, h, _, _, _, _, _ => by omega
  | 1, p, l, e, ns', hp, _, hl, h0, hm, pw, hb => by
    have hp : p = st + 1 := by omega
    subst hp
    have hn : ns' = [] := by
      cases ns' with
      | nil => rfl
      | cons j r => have := hb j (List.mem_cons_self ..); omega
    subst hn
    rw [looseB, if_pos (.inr (by omega))]
    simp only [List.nil_append, adjB, Bool.and_true, looseB]
    by_cases c : l % 2 = 1
    · rw [if_pos c]
      symm
      apply decide_eq_false
      omega
    · rw [if_neg c]
      symm
      apply decide_eq_true
      omega
  | n + 2, p, l, e, ns', hp, _, hl, h0, hm, pw, hb => by
    rw [looseB]
    by_cases c : p ∈ ns
    · rw [if_pos (.inl c)]
      have hin := (hm p (Int.le_refl _)).mp c
      cases ns' with
      | nil => cases hin
      | cons j r =>
        have pw' := List.pairwise_cons.mp pw
        have e1 : j = p := by
          have b1 := hb j (List.mem_cons_self ..)
          rcases List.mem_cons.mp hin with z | z
          · exact z.symm
          · have := pw'.1 p z
            omega
        subst e1
        rw [List.cons_append, adjB, ← loose_gaps ns st (n + 1) (j + 1) 0 j r (by omega) (by omega) (by omega) (by omega) (fun i hi => ?_) pw'.2 fun i m => ?_]
        · by_cases o : l % 2 = 1
          · rw [if_pos o, decide_eq_false (by omega)]
            rfl
          · rw [if_neg o, decide_eq_true (by omega)]
            rfl
        · rw [hm i (by omega), List.mem_cons]
          constructor
          · rintro (z | z)
            · omega
            · exact z
          · exact .inr
        · have := pw'.1 i m
          have := (hb i (List.mem_cons_of_mem _ m)).2
          omega
    · rw [if_neg (by rintro (z | z); exact c z; omega)]
      refine loose_gaps ns st (n + 1) (p + 1) (l + 1) e ns' (by omega) (by omega) (by omega) (by omega) (fun i hi => hm i (by omega)) pw fun i m => ?_
      have b := hb i m
      have : i ≠ p := fun z => c ((hm p (Int.le_refl _)).mpr (z ▸ m))
      omega
theorem rngD_succ (p : Int) (n : Nat) : rngD p (n + 1) = .int p :: rngD (p + 1) n := by
  unfold rngD
  rw [List.range_succ_eq_map, List.map_cons, List.map_map]
  congr 1
  · simp
  · apply List.map_congr_left
    intro i _
    show PyData.int (p + ((i + 1 : Nat) : Int)) = .int (p + 1 + (i : Nat))
    congr 1
    omega
section
variable {A : Amb} {ds : List D} {s : A.S} {Q : D → A.S → Prop}
def S_L_is_number : FS A := fun ds s Q => ∃ v top, ds = [v, .int top] ∧ notDict v ∧ Q (.bool (fromB v 0 top)) s
theorem p_L_is_number (h : S_L_is_number ds s Q) : t_L_is_number S_is_whole (retE Q) (startR 2 ds) s := by
  obtain ⟨v, top, rfl, nd, q⟩ := h
  have e : startR 2 [v, .int top] = [.fz v, .fz (.int top)] := rfl
  unfold t_L_is_number
  simp [e]
  refine ⟨v, rfl, nd, ?_⟩
  cases v with
  | int i =>
    simp [isW]
    by_cases h1 : 0 ≤ i <;> simpa [fromB, h1] using q
  | _ => simpa [isW, fromB] using q
def S_L_is_change : FS A := fun ds s Q => ∃ (st : Int) (v : D), ds = [.int st, v] ∧ 0 ≤ st ∧ st ≤ 50 ∧ flat1 v ∧ lenOk v ∧ Q (.bool (changeB st v)) s
theorem any_ints (j : Int) (ns : List Int) : anyEq (.int j) (intsD ns) = decide (j ∈ ns) := by
  unfold anyEq intsD
  rw [List.any_map, Bool.eq_iff_iff, List.any_eq_true, decide_eq_true_eq]
  constructor
  · rintro ⟨x, m, e⟩
    have e : x = j := by simpa using e
    exact e ▸ m
  · intro m
    exact ⟨j, m, by simp⟩
theorem in_ok (j : Int) (ns : List Int) : inOk (.int j) (intsD ns) := ⟨canLay_ints ns, rfl, by simp [PyData.depth]⟩
theorem eqOk_intsL (a b : List Int) : eqOk (.list (intsD a)) (.list (intsD b)) := by
  unfold eqOk
  rw [shaped_ints, shaped_ints]
  simp
theorem p_L_is_change (h : S_L_is_change ds s Q) : t_L_is_change S_L_is_number (retE Q) (startR 4 ds) s := by
  obtain ⟨st, v, rfl, s0, s1, fl, hl, q⟩ := h
  have e : startR 4 [.int st, v] = [.fz (.int st), .fz v, .un, .un] := rfl
  have hs : 100000 ≤ sizeLine := by decide
  unfold t_L_is_change
  cases v with
  | tuple xs =>
    have hl : xs.length ≤ 1000 := hl
    simp [e]
    refine comp_pure (xs := xs) (fun k q => by simpa using q) (by simp) (by omega) (fun x => if (!inB st x) = true then some x else none) (fun x m s k q => ?_) ?_
    · simp
      refine ⟨x, st, rfl, fl x m, ?_⟩
      unfold inB at q
      cases x with
      | int j =>
        simp [fromB] at q ⊢
        by_cases h0 : 0 ≤ j
        · by_cases h1 : j ≤ st
          · by_cases h2 : j < 1
            · rw [if_pos (.inl h2)] at q
              simpa [h0, h1, h2] using q
            · rw [if_neg (by omega)] at q
              simpa [h0, h1, h2] using q
          · rw [if_pos (.inr (by omega))] at q
            simpa [h0, h1] using q
        · rw [if_pos (.inl (by omega))] at q
          simpa [h0] using q
      | _ => simpa [fromB] using q
    · rw [fm_if]
      simp
      by_cases hw : xs.all (inB st) = true
      · have hz : ¬ ∃ a, a ∈ xs ∧ inB st a = false := fun ⟨a, m, z⟩ => by
          have := List.all_eq_true.mp hw a m
          rw [z] at this
          cases this
        rw [if_neg hz]
        obtain ⟨ns, rfl, hb⟩ := inB_ints hw
        rw [intsD_length] at hl
        have qq : Q (.bool (changeN st ns)) s := by
          have e : changeB st (.tuple (intsD ns)) = changeN st ns := by
            rw [changeB, hw, numD_ints]
            rfl
          rw [← e]
          exact q
        refine ⟨ns, (List.range st.toNat).map fun i => ((i : Nat) : Int) + 1, rfl, hl, fun j m => ?_, by rw [List.length_map, List.length_range]; omega, fun ms pw mem => ?_⟩
        · have := hb j m
          exact List.mem_map.mpr ⟨(j - 1).toNat, List.mem_range.mpr (by omega), by omega⟩
        have ms_ns : (ns = ms) ↔ adjB (fun x y => decide (x < y)) ns = true := by
          rw [asc_iff]
          constructor
          · rintro rfl; exact pw
          · intro a; exact (asc_unique pw a mem).symm
        simp
        refine ⟨eqOk_intsL ns ms, ?_⟩
        rw [show PyData.eqv (.list (intsD ns)) (.list (ms.map .int)) = decide (ns = ms) from eqv_ints ns ms]
        unfold changeN at qq
        by_cases ha : ns = ms
        · have ha' := ms_ns.mp ha
          by_cases hst : (ns.length : Int) = st
          · rw [decide_eq_true ha]
            simpa [ha', hst] using qq
          · rw [decide_eq_true ha]
            simp [ha', hst] at qq ⊢
            rw [← loose_gaps ns st (st + 1).toNat 1 0 0 ns (by omega) (by omega) (by omega) (by omega) (fun _ _ => Iff.rfl) (asc_iff.mp ha') hb] at qq
            refine for_of (xs := rngD 1 (st + 1).toNat) (fun k q => ?_) (fun r ρ s' => s' = s ∧ ∃ (p : Int) (n : Nat) (l : Int) (c : Cell), r = rngD p n ∧ ρ = [.fz (.int st), .fz (.tuple (intsD ns)), c, .fz (.int l)] ∧ Q (.bool (looseB ns st n p l)) s) ⟨rfl, 1, _, 0, .un, rfl, rfl, qq⟩ ?_ ?_
            · simp
              have e : (st + 2 - 1).toNat = (st + 1).toNat := by omega
              exact ⟨_, _, ⟨rfl, rfl⟩, ⟨by omega, by omega, by omega, by omega⟩, by rw [e]; exact q⟩
            · rintro x r ρ s' ⟨rfl, p, n, l, c, hr, rfl, qq⟩ D' hrt hbk hn hc
              cases n with
              | zero => cases hr
              | succ n =>
                rw [rngD_succ] at hr
                obtain ⟨rfl, rfl⟩ := List.cons.inj hr
                rw [looseB] at qq
                simp
                refine ⟨in_ok p ns, ?_⟩
                rw [any_ints]
                by_cases c1 : p ∈ ns
                · rw [if_pos (.inl c1)] at qq
                  by_cases c2 : l % 2 = 1
                  · rw [if_pos c2] at qq
                    simpa [c1, c2, hrt] using qq
                  · rw [if_neg c2] at qq
                    simp [c1, c2]
                    exact hn _ _ ⟨rfl, _, n, 0, _, rfl, rfl, qq⟩
                · by_cases c3 : st < p
                  · rw [if_pos (.inr c3)] at qq
                    by_cases c2 : l % 2 = 1
                    · rw [if_pos c2] at qq
                      simpa [c1, c2, c3, hrt] using qq
                    · rw [if_neg c2] at qq
                      simp [c1, c2, c3]
                      exact hn _ _ ⟨rfl, _, n, 0, _, rfl, rfl, qq⟩
                  · rw [if_neg (by rintro (z | z); exact c1 z; exact c3 z)] at qq
                    simp [c1, c3]
                    exact hn _ _ ⟨rfl, _, n, l + 1, _, rfl, rfl, qq⟩
            · rintro ρ s' ⟨rfl, p, n, l, c, hr, rfl, qq⟩
              cases n with
              | succ n => rw [rngD_succ] at hr; cases hr
              | zero =>
                rw [looseB] at qq
                simpa using qq
        · have ha' : adjB (fun x y => decide (x < y)) ns = false := by
            cases h : adjB (fun x y => decide (x < y)) ns with
            | false => rfl
            | true => exact (ha (ms_ns.mpr h)).elim
          rw [decide_eq_false ha]
          simpa [ha'] using qq
      · have hz : ∃ a, a ∈ xs ∧ inB st a = false := by simpa using hw
        rw [if_pos hz]
        have hw3 : xs.all (inB st) = false := by simpa using hw
        have e : changeB st (.tuple xs) = false := by rw [changeB, hw3]; rfl
        rw [e] at q
        exact q
  | dict _ => exact fl.elim
  | _ => simpa [e, changeB] using q
end
end Dl
/-! All changes of a stage. -/
namespace Dl
open PySem L2
def tupI (ns : List Int) : D := .tuple (intsD ns)
theorem dataLt_tupI (a b : List Int) : PySem.W.dataLt (tupI a) (tupI b) = decide (a < b) := by
  unfold tupI
  rw [PySem.W.dataLt_tuple]
  exact PySem.W.dataLt_ints a b
theorem le_tupI (a b : List Int) : PySem.W.dataLe false id (tupI a) (tupI b) = !decide (b < a) := by
  rw [← dataLt_tupI]
  rfl
theorem sortD_tupI (L : List (List Int)) : sortD (L.map tupI) = (L.mergeSort fun a b => !decide (b < a)).map tupI := by
  unfold sortD
  rw [List.map_mergeSort (r := fun a b => !decide (b < a)) (s := PySem.W.dataLe false id)]
  intro a _ b _
  exact (le_tupI a b).symm
theorem sort_unique {A B : List (List Int)} (h : A.Perm B) : A.mergeSort (fun a b => !decide (b < a)) = B.mergeSort fun a b => !decide (b < a) := by
  have tr : ∀ a b c : List Int, (!decide (b < a)) = true → (!decide (c < b)) = true → (!decide (c < a)) = true := fun a b c h1 h2 => by
    simp at h1 h2 ⊢
    exact List.le_trans h1 h2
  have tot : ∀ a b : List Int, ((!decide (b < a)) || (!decide (a < b))) = true := fun a b => by
    simp
    exact List.le_total a b
  refine List.Perm.eq_of_pairwise (le := fun a b => (!decide (b < a)) = true) (fun a b _ _ h1 h2 => ?_) (List.pairwise_mergeSort tr tot A) (List.pairwise_mergeSort tr tot B) ((List.mergeSort_perm _ _).trans (h.trans (List.mergeSort_perm _ _).symm))
  simp at h1 h2
  exact List.le_antisymm h1 h2
theorem sort_perm {A B : List (List Int)} (h : A.Perm B) : sortD (A.map tupI) = sortD (B.map tupI) := by
  rw [sortD_tupI, sortD_tupI, sort_unique h]
/-! ### two ways to find all changes -/
def chF (st : Int) : Nat → Int → List (List Int)
  | 0, _ => [[]]
  | n + 1, p => if st < p then [[]] else (chF st n (p + 1)).map (p :: ·) ++ (if p < st then chF st n (p + 2) else [])
def chL (st : Int) : List (List Int) := (chF st 10 1).filter fun ns => decide ((ns.length : Int) < st)
def subsN : Nat → List (List Int)
  | 0 => [[]]
  | n + 1 => subsN n ++ (subsN n).map (· ++ [((n : Nat) : Int) + 1])
def chS (st : Int) : List (List Int) := (subsN st.toNat).filter fun ns => changeB st (tupI ns)
theorem ch_perm {st : Int} (h3 : 3 ≤ st) (h8 : st ≤ 8) : (chL st).Perm (chS st) := by
  rcases (by omega : st = 3 ∨ st = 4 ∨ st = 5 ∨ st = 6 ∨ st = 7 ∨ st = 8) with rfl | rfl | rfl | rfl | rfl | rfl <;> exact List.isPerm_iff.mp (by decide +kernel)
/-- all changes of a stage, in their order -/
def changesD (st : Int) : List D := sortD ((chS st).map tupI)
theorem ch_same {st : Int} (h3 : 3 ≤ st) (h8 : st ≤ 8) : sortD ((chL st).map tupI) = changesD st := sort_perm (ch_perm h3 h8)
end Dl
/-! All changes of a stage, as the defs find them. -/
namespace Dl
open PySem L2
theorem chF_len (st : Int) : ∀ (n : Nat) (p : Int), (chF st n p).length ≤ 2 ^ n
  | 0, _ => by simp [chF]
  | n + 1, p => by
    rw [chF]
    split
    · simp
      exact Nat.one_le_two_pow
    · have a := chF_len st n (p + 1)
      have b := chF_len st n (p + 2)
      rw [List.length_append, List.length_map, Nat.pow_succ]
      split
      · omega
      · simp
        omega
theorem chF_low (st : Int) : ∀ (n : Nat) (p : Int) (ns : List Int), ns ∈ chF st n p → ns.length ≤ n
  | 0, _, ns, m => by simp [chF] at m; subst m; simp
  | n + 1, p, ns, m => by
    rw [chF] at m
    split at m
    · simp at m; subst m; simp
    · rcases List.mem_append.mp m with m | m
      · obtain ⟨r, hr, rfl⟩ := List.mem_map.mp m
        have := chF_low st n (p + 1) r hr
        simp
        omega
      · split at m
        · have := chF_low st n (p + 2) ns m
          omega
        · cases m
section
variable {A : Amb} {ds : List D} {s : A.S} {Q : D → A.S → Prop}
def S_changes_from (l : Nat) : FS A := fun ds s Q => ∃ p st : Int, ds = [.int p, .int st] ∧ l ≤ 12 ∧ st + 1 - p < l ∧ p ≤ st + 1 ∧ Q (.list ((chF st l p).map tupI)) s
theorem mem_tupI {x : D} {L : List (List Int)} (m : x ∈ L.map tupI) : ∃ ns, ns ∈ L ∧ x = .tuple (intsD ns) := by
  obtain ⟨ns, h, rfl⟩ := List.mem_map.mp m
  exact ⟨ns, h, rfl⟩
theorem p_changes_from {l : Nat} (h : S_changes_from (l + 1) ds s Q) : t_changes_from (S_changes_from l) (retE Q) (startR 4 ds) s := by
  obtain ⟨p, st, rfl, h12, hl, hp, q⟩ := h
  have e : startR 4 [.int p, .int st] = [.fz (.int p), .fz (.int st), .un, .un] := rfl
  have hs : 100000 ≤ sizeLine := by decide
  unfold t_changes_from
  simp [e]
  rw [chF] at q
  by_cases c : st < p
  · rw [if_pos c] at q
    simp [c]
    exact ⟨by omega, by simpa [tupI, intsD] using q⟩
  · rw [if_neg c] at q
    simp [c]
    have l1 := chF_len st l (p + 1)
    have l2 := chF_len st l (p + 2)
    have pw : 2 ^ l ≤ 2 ^ 12 := Nat.pow_le_pow_right (by decide) (by omega)
    have e12 : (2 : Nat) ^ 12 = 4096 := by decide
    rw [e12] at pw
    have lens : ∀ x ∈ chF st l (p + 1), x.length ≤ 12 := fun x m => Nat.le_trans (chF_low st l (p + 1) x m) (by omega)
    refine comp_pure (xs := (chF st l (p + 1)).map tupI) (fun k z => ?_) (by simp) (by rw [List.length_map]; omega) (fun x => some (match x with
      | .tuple r => .tuple (.int p :: r)
      | x => x)) (fun x m s k z => ?_) ?_
    · simp
      exact ⟨p + 1, st, rfl, by omega, by omega, by omega, z⟩
    · obtain ⟨ns, hn, rfl⟩ := mem_tupI m
      have := lens ns hn
      simp
      refine ⟨by omega, by omega, z⟩
    · rw [fm_some, List.map_map]
      have e2 : ((chF st l (p + 1)).map ((fun x => match x with
        | .tuple r => PyData.tuple (.int p :: r)
        | x => x) ∘ tupI)) = ((chF st l (p + 1)).map (p :: ·)).map tupI := by
        rw [List.map_map]
        rfl
      rw [e2]
      by_cases c2 : p < st
      · simp [c2]
        rw [if_pos c2, List.map_append] at q
        refine ⟨p + 2, st, rfl, by omega, by omega, by omega, ?_⟩
        dsimp only
        refine ⟨by simp; omega, ?_⟩
        simpa using q
      · simp [c2]
        rw [if_neg c2, List.append_nil] at q
        simpa using q
/-- lists of tuples of ints can be sorted -/
theorem sortOk_tupI (L : List (List Int)) : sortOk (L.map tupI) := by
  refine ⟨?_, ?_, ?_⟩
  · induction L with
    | nil => rfl
    | cons a L ih =>
      rw [List.map_cons, PyData.canLayAll0, ih]
      simp [tupI, PyData.canLay0, canLay_ints]
  · intro d hd d' hd'
    obtain ⟨a, _, rfl⟩ := List.mem_map.mp hd
    obtain ⟨b, _, rfl⟩ := List.mem_map.mp hd'
    simp only [tupI, PySem.W.alike]
    exact PySem.W.alike_ints a b
  · intro d hd
    obtain ⟨a, _, rfl⟩ := List.mem_map.mp hd
    refine ⟨(fun z => nomatch z), ?_⟩
    have : PyData.depthAll (intsD a) = 0 := PySem.W.depth_ints a
    simp [tupI, PyData.depth, this]
def S_changes_of : FS A := fun ds s Q => ∃ st : Int, ds = [.int st] ∧ 3 ≤ st ∧ st ≤ 8 ∧ Q (.list (changesD st)) s
theorem filter_tupI (p : List Int → Bool) (L : List (List Int)) (h : D → Bool) (hh : ∀ ns, h (tupI ns) = p ns) : (L.map tupI).filterMap (fun x => if h x = true then some x else none) = (L.filter p).map tupI := by
  rw [fm_if, List.filter_map]
  congr 1
  apply List.filter_congr
  intro x _
  exact hh x
theorem p_changes_of (h : S_changes_of ds s Q) : t_changes_of (S_changes_from 10) (retE Q) (startR 2 ds) s := by
  obtain ⟨st, rfl, h3, h8, q⟩ := h
  have e : startR 2 [.int st] = [.fz (.int st), .un] := rfl
  have hs : 100000 ≤ sizeLine := by decide
  unfold t_changes_of
  simp [e]
  have l1 := chF_len st 10 1
  have e10 : (2 : Nat) ^ 10 = 1024 := by decide
  rw [e10] at l1
  refine comp_pure (xs := (chF st 10 1).map tupI) (fun k z => ?_) (by simp) (by rw [List.length_map]; omega) (fun x => if (match x with
    | .tuple r => decide ((r.length : Int) < st)
    | _ => false) = true then some x else none) (fun x m s k z => ?_) ?_
  · simp
    exact ⟨1, st, rfl, by omega, by omega, by omega, z⟩
  · obtain ⟨ns, hn, rfl⟩ := mem_tupI m
    simp at z ⊢
    by_cases c : (ns.length : Int) < st <;> simpa [c] using z
  · rw [filter_tupI (fun ns => decide ((ns.length : Int) < st)) _ _ fun ns => by simp [tupI]]
    simp
    refine ⟨sortOk_tupI _, ?_⟩
    rw [← ch_same h3 h8] at q
    exact q
def subsI : Nat → List (List Int) := subsN
theorem subsN_len : ∀ n, (subsN n).length = 2 ^ n
  | 0 => rfl
  | n + 1 => by
    rw [subsN, List.length_append, List.length_map, subsN_len n, Nat.pow_succ]
    omega
theorem subsN_low : ∀ (n : Nat) (ns : List Int), ns ∈ subsN n → ns.length ≤ n
  | 0, ns, m => by simp [subsN] at m; subst m; simp
  | n + 1, ns, m => by
    rcases List.mem_append.mp m with m | m
    · have := subsN_low n ns m
      omega
    · obtain ⟨r, hr, rfl⟩ := List.mem_map.mp m
      have := subsN_low n r hr
      simp
      omega
theorem p_L_changes (h : S_changes_of ds s Q) : t_L_changes S_L_is_change (retE Q) (startR 4 ds) s := by
  obtain ⟨st, rfl, h3, h8, q⟩ := h
  have e : startR 4 [.int st] = [.fz (.int st), .un, .un, .un] := rfl
  have hs : 100000 ≤ sizeLine := by decide
  unfold t_L_changes
  simp [e]
  refine ⟨by omega, ?_⟩
  refine for_of (xs := rngD 1 st.toNat) (fun k z => ?_) (fun r ρ s' => s' = s ∧ ∃ (n m : Nat) (c : Cell), r = rngD ((n : Nat) + 1) m ∧ n + m = st.toNat ∧ ρ = [.fz (.int st), .fz (.list ((subsN n).map tupI)), c, .un]) ⟨rfl, 0, st.toNat, .un, by simp, by omega, by simp [subsN, tupI, intsD]⟩ ?_ ?_
  · simp
    have e : (st + 1 - 1).toNat = st.toNat := by omega
    exact ⟨_, _, ⟨rfl, rfl⟩, ⟨by omega, by omega, by omega, by omega⟩, by rw [e]; exact z⟩
  · rintro x r ρ s' ⟨rfl, n, m, c, hr, hn, rfl⟩ D' hrt hbk hnx hc
    cases m with
    | zero => cases hr
    | succ m =>
      rw [rngD_succ] at hr
      obtain ⟨rfl, rfl⟩ := List.cons.inj hr
      have ln := subsN_len n
      have pw : 2 ^ n ≤ 2 ^ 8 := Nat.pow_le_pow_right (by decide) (by omega)
      have e8 : (2 : Nat) ^ 8 = 256 := by decide
      rw [e8] at pw
      simp
      refine comp_pure (xs := (subsN n).map tupI) (fun k z => by simpa using z) (by simp) (by rw [List.length_map]; omega) (fun x => some (match x with
        | .tuple r => .tuple (r ++ [.int ((n : Nat) + 1)])
        | x => x)) (fun x m s k z => ?_) ?_
      · obtain ⟨ns, hn2, rfl⟩ := mem_tupI m
        have := subsN_low n ns hn2
        simp
        exact ⟨by omega, by omega, z⟩
      · rw [fm_some, List.map_map]
        have e2 : ((subsN n).map ((fun x => match x with
          | .tuple r => PyData.tuple (r ++ [.int ((n : Nat) + 1)])
          | x => x) ∘ tupI)) = ((subsN n).map (· ++ [((n : Nat) : Int) + 1])).map tupI := by
          rw [List.map_map]
          apply List.map_congr_left
          intro a _
          simp [tupI, intsD]
        rw [e2]
        simp
        refine ⟨by omega, ?_⟩
        refine hnx _ _ ⟨rfl, n + 1, m, .fz (.int ((n : Nat) + 1)), by rw [show ((n + 1 : Nat) : Int) + 1 = ((n : Nat) : Int) + 1 + 1 by omega], by omega, ?_⟩
        rw [subsN, List.map_append]
        simp
  · rintro ρ s' ⟨rfl, n, m, c, hr, hn, rfl⟩
    cases m with
    | succ m => rw [rngD_succ] at hr; cases hr
    | zero =>
      have hn : n = st.toNat := by omega
      subst hn
      have ln := subsN_len st.toNat
      have pw : 2 ^ st.toNat ≤ 2 ^ 8 := Nat.pow_le_pow_right (by decide) (by omega)
      have e8 : (2 : Nat) ^ 8 = 256 := by decide
      rw [e8] at pw
      simp
      refine comp_pure (xs := (subsN st.toNat).map tupI) (fun k z => by simpa using z) (by simp) (by rw [List.length_map]; omega) (fun x => if changeB st x = true then some x else none) (fun x m s k z => ?_) ?_
      · obtain ⟨ns, hn2, rfl⟩ := mem_tupI m
        have := subsN_low st.toNat ns hn2
        simp
        refine ⟨st, _, rfl, by omega, by omega, fun x m => by obtain ⟨j, _, rfl⟩ := List.mem_map.mp m; trivial, by simp [lenOk]; omega, ?_⟩
        cases c2 : changeB st (.tuple (intsD ns)) <;> simpa [c2] using z
      · rw [filter_tupI (fun ns => changeB st (tupI ns)) _ _ fun ns => rfl]
        simp
        exact ⟨sortOk_tupI _, q⟩
end
section
variable {a : Addr} {ds : List D} {s : (poolA a).S} {Q : D → (poolA a).S → Prop}
/-- any item -/
def S_L_pick (a : Addr) : FS (poolA a) := fun ds s Q => ∃ v xs, ds = [refD a, v] ∧ seqOf v = some xs ∧ xs ≠ [] ∧ xs.length ≤ 100000 ∧ ∀ x ∈ xs, Q x s
theorem p_L_pick (h : S_L_pick a ds s Q) : t_L_pick (S_draw a) (retE Q) (startR 2 ds) s := by
  obtain ⟨v, xs, rfl, hv, hx, hl, q⟩ := h
  have e : startR 2 [refD a, v] = [.fz (refD a), .fz v] := rfl
  have h0 := List.length_pos_iff.mpr hx
  unfold t_L_pick
  cases v with
  | list ys =>
    cases hv
    simp [e]
    refine ⟨_, rfl, by omega, by omega, fun i i0 i1 => ?_⟩
    simp
    exact atI_mem i0 i1 q
  | tuple ys =>
    cases hv
    simp [e]
    refine ⟨_, rfl, by omega, by omega, fun i i0 i1 => ?_⟩
    simp
    exact atI_mem i0 i1 q
  | _ => cases hv
end
end Dl
/-! The law k03 over data. -/
namespace Dl
open PySem L2
def t_law_k03 {A : Amb} (S_L_stage S_L_changes S_L_pick S_L_same S_L_booled S_L_is_change S_changes_of S_L_bent S_is_change S_L_draw : FS A) : DS A :=
  (dSeq (dSet 2 (dCall S_L_stage (dCons (dVar 1) (dCons (dC (.int 8)) dNil))))
  (dSeq (dSet 3 (dCall S_L_changes (dCons (dVar 2) dNil)))
  (dSeq (dIfS (dNotT (dTest (dCall S_L_same (dCons (dCall S_changes_of (dCons (dVar 2) dNil)) (dCons (dVar 3) dNil)))))
  (dRet (dC (.bool false)))
  dNx)
  (dSeq (dSet 4 (dCall S_L_pick (dCons (dVar 1) (dCons (dVar 3) dNil))))
  (dSeq (dSetN 5 (nLst (dCons (dVar 4) (dCons (dOfN (nFn gList (dCons (dVarB 4) dNil))) (dCons (dCall S_L_booled (dCons (dVar 4) dNil)) (dCons (dOp fAdd (dVarB 4) (dSl (dVarB 4) (oSome (dUn fNeg (dC (.int 1)))) oNone)) (dCons (dRev (dVarB 4)) (dCons (dTup (dCons (dC (.int 0)) dNil)) (dCons (dTup (dCons (dOp fAdd (dVarB 2) (dC (.int 1))) dNil)) (dCons (dTupRg (dC (.int 1)) (dOp fAdd (dVarB 2) (dC (.int 1)))) (dCons (dTup dNil) (dCons (dC .none) (dCons (dTup (dCons (dC (.bool true)) dNil)) (dCons (dTup (dCons (dC (.str "1")) dNil)) dNil))))))))))))))
  (dSeq (dFor (dRg1 (dCons (dC (.int 12)) dNil)) (dgN 6)
  (dApp 5 (dFn fTuple (dCons (dOfN (nComp (dRg2 (dCons (dC (.int 1)) (dCons (dOp fAdd (dVarB 2) (dC (.int 1))) dNil))) (dgN 7) (dTest (dOp fEqU (dCall S_L_draw (dCons (dVar 1) (dCons (dC (.int 2)) dNil))) (dC (.int 0)))) (dVar 7) [7])) dNil))))
  (dSeq (dFor (dIt (dOp fAdd (dVarB 5) (dOfN (nComp (dRg1 (dCons (dC (.int 6)) dNil)) (dgN 6) dYes (dCall S_L_bent (dCons (dVar 1) (dCons (dVar 4) dNil))) [6])))) (dgN 8)
  (dSeq (dSet 9 (dCall S_L_is_change (dCons (dVar 2) (dCons (dVar 8) dNil))))
  (dSeq (dSet 10 (dFn fRepr (dCons (dVarB 8) dNil)))
  (dIfS (dOrT (dNotT (dTest (dCall S_L_same (dCons (dCall S_is_change (dCons (dVar 2) (dCons (dVar 8) dNil))) (dCons (dVar 9) dNil))))) (dTest (dOp fNeU (dFn fRepr (dCons (dVarB 8) dNil)) (dVarB 10))))
  (dRet (dC (.bool false)))
  dNx))))
  (dRet (dC (.bool true))))))))))
theorem ch_wt {st : Int} (h3 : 3 ≤ st) (h8 : st ≤ 8) : ∀ ns ∈ chS st, wtL (intsD ns) ≤ 100 ∧ ns.length ≤ 8 := by
  have h : (chS st).all (fun ns => decide (wtL (intsD ns) ≤ 100 ∧ ns.length ≤ 8)) = true := by
    rcases (by omega : st = 3 ∨ st = 4 ∨ st = 5 ∨ st = 6 ∨ st = 7 ∨ st = 8) with rfl | rfl | rfl | rfl | rfl | rfl <;> decide +kernel
  intro ns m
  exact of_decide_eq_true (List.all_eq_true.mp h ns m)
theorem ch_some {st : Int} (h3 : 3 ≤ st) (h8 : st ≤ 8) : changesD st ≠ [] ∧ (changesD st).length ≤ 300 := by
  have h : chS st ≠ [] ∧ (chS st).length ≤ 300 := by
    rcases (by omega : st = 3 ∨ st = 4 ∨ st = 5 ∨ st = 6 ∨ st = 7 ∨ st = 8) with rfl | rfl | rfl | rfl | rfl | rfl <;> decide +kernel
  have e : (changesD st).length = (chS st).length := by
    unfold changesD sortD
    rw [(List.mergeSort_perm _ _).length_eq, List.length_map]
  refine ⟨fun z => h.1 (List.length_eq_zero_iff.mp ?_), by rw [e]; exact h.2⟩
  rw [← e, z]
  rfl
theorem mem_changesD {st : Int} {x : D} (m : x ∈ changesD st) : ∃ ns, ns ∈ chS st ∧ x = .tuple (intsD ns) := mem_tupI ((List.mergeSort_perm _ _).mem_iff.mp m)
theorem plain_ints (ns : List Int) : ∀ x ∈ intsD ns, plainB 0 x = true := fun x m => by
  obtain ⟨j, _, rfl⟩ := List.mem_map.mp m
  simp [plainB]
theorem plain_mono {n m : Nat} {d : D} (h : plainB n d = true) (hn : n ≤ m) : plainB m d = true := by
  induction hn with
  | refl => exact h
  | step _ ih => exact plain_up ih
theorem ch_plain {st : Int} (h3 : 3 ≤ st) (h8 : st ≤ 8) : plainB 9 (.list (changesD st)) = true := by
  refine plain_mono (n := 2) (plain_list (fun x m => ?_) (by have := (ch_some h3 h8).2; omega)) (by omega)
  obtain ⟨ns, hn, rfl⟩ := mem_changesD m
  exact plain_tuple (plain_ints ns) (by have := (ch_wt h3 h8 ns hn).2; rw [intsD_length]; omega)
theorem wtL_rev (xs : List D) : wtL xs.reverse = wtL xs := wtL_perm (List.reverse_perm xs)
theorem p_law_k03 (a : Addr) (s : (poolA a).S) : t_law_k03 (S_stage a) S_changes_of (S_L_pick a) (S_same 10) (S_booled 10) S_L_is_change S_changes_of (S_bent a 10) S_is_change (S_draw a) (lawEnds _) (ρLaw a 9) s := by
  have e : ρLaw a 9 = [.un, .fz (refD a), .un, .un, .un, .un, .un, .un, .un, .un, .un] := rfl
  have hs : 100000 ≤ sizeLine := by decide
  unfold t_law_k03
  rw [e, q_dSeq]
  simp [-q_dSeq, -q_dIfS]
  refine ⟨8, rfl, by omega, by omega, fun st s3 s8 => ?_⟩
  dsimp only
  rw [q_dSeq]
  simp [-q_dSeq, -q_dIfS]
  refine ⟨st, rfl, s3, s8, ?_⟩
  try dsimp only
  refine seq_if ?_ fun U hU => ?_
  · rw [q_dSeq]
    simp [-q_dSeq, -q_dIfS]
    obtain ⟨c1, c2⟩ := ch_some s3 s8
    refine ⟨_, _, rfl, rfl, c1, by omega, fun x hx => ?_⟩
    obtain ⟨ns, hns, rfl⟩ := mem_changesD hx
    obtain ⟨hw, hl⟩ := ch_wt s3 s8 ns hns
    have py := plain_ints ns
    generalize intsD ns = ys at hw py
    have hl2 := len_wt ys
    try dsimp only
    rw [q_dSeq]
    simp [-q_dSeq, -q_dIfS]
    refine ⟨.tuple ys, 9, rfl, rfl, ((okT py (by omega) (by omega) : okD 1 300 _).mono (show 1 ≤ 9 by omega) (Nat.le_refl _)).1, fun w ok _ => ?_⟩
    have hwy : wt (.tuple ys) ≤ 101 := by rw [wt]; omega
    have l1 : (cutD ys (some (-1)) none).length ≤ 100 := Nat.le_trans len_cutD (by omega)
    simp [-q_dSeq, -q_dIfS]
    have hr := rng_ok (n := st.toNat) (by omega)
    refine ⟨by omega, by omega, .of_le (by omega) (by omega) (by omega) (by omega), by omega, by omega, ?_⟩
    have ok1 : ∀ x ∈ [PyData.tuple ys, PyData.list ys, w, PyData.tuple (ys ++ cutD ys (some (-1)) none),
                    PyData.tuple ys.reverse, PyData.tuple [PyData.int 0], PyData.tuple [PyData.int (st + 1)],
                    PyData.tuple (rngD 1 st.toNat), PyData.tuple [], PyData.none, PyData.tuple [PyData.bool true],
                    PyData.tuple [PyData.str (Str.ofString "1")]], okD 10 300 x := by
      intro x m
      simp only [List.mem_cons, List.not_mem_nil, or_false] at m
      rcases m with rfl | rfl | rfl | rfl | rfl | rfl | rfl | rfl | rfl | rfl | rfl | rfl
      · exact okI py (by omega)
      · exact okJ py (by omega)
      · exact ok.mono (by omega) (by omega)
      · refine okI (fun x m => ?_) ?_
        · rcases List.mem_append.mp m with m | m
          · exact py x m
          · exact py x (mem_cutD m)
        · rw [wtL_append]
          have := wtL_cutD (ds := ys) (l := some (-1)) (u := none)
          omega
      · exact okI (fun x m => py x (List.mem_reverse.mp m)) (by rw [wtL_rev]; omega)
      · exact ⟨by decide +kernel, by decide +kernel⟩
      · refine okI (fun x m => ?_) ?_
        · rw [List.mem_singleton.mp m]; simp [plainB]
        · simp [wtL, wt]
          omega
      · exact okI hr.1 (by omega)
      all_goals exact ⟨by decide +kernel, by decide +kernel⟩
    have lenT : ([PyData.tuple ys, PyData.list ys, w, PyData.tuple (ys ++ cutD ys (some (-1)) none),
                    PyData.tuple ys.reverse, PyData.tuple [PyData.int 0], PyData.tuple [PyData.int (st + 1)],
                    PyData.tuple (rngD 1 st.toNat), PyData.tuple [], PyData.none, PyData.tuple [PyData.bool true],
                    PyData.tuple [PyData.str (Str.ofString "1")]]).length = 12 := rfl
    generalize [PyData.tuple ys, PyData.list ys, w, PyData.tuple (ys ++ cutD ys (some (-1)) none),
                    PyData.tuple ys.reverse, PyData.tuple [PyData.int 0], PyData.tuple [PyData.int (st + 1)],
                    PyData.tuple (rngD 1 st.toNat), PyData.tuple [], PyData.none, PyData.tuple [PyData.bool true],
                    PyData.tuple [PyData.str (Str.ofString "1")]] = T at ok1 lenT ⊢
    rw [q_dSeq]
    refine for_of (xs := rngD 0 12) (fun k z => by simpa using z) (fun r ρ s' => s' = s ∧ ∃ (T : List D) (c6 c7 : Cell), T.length + r.length = 24 ∧ (∀ x ∈ T, okD 10 300 x) ∧ freeC (some c6) ∧ freeC (some c7) ∧ ρ = [.un, .fz (refD a), .fz (.int st), .fz (.list (changesD st)), .fz (.tuple ys), .ol T, c6, c7, .un, .un, .un]) ⟨rfl, T, .un, .un, by rw [rngD_length]; omega, ok1, trivial, trivial, rfl⟩ ?_ ?_
    · rintro x r ρ s' ⟨rfl, T, c6, c7, hT, okT1, fc6, fc, rfl⟩ D' hrt hbk hnx hc
      rw [List.length_cons] at hT
      simp
      refine comp_rel (xs := rngD 1 st.toNat) (fun k z => ?_) (by simpa using fc) (by rw [rngD_length]; omega) (fun x r => r = none ∨ r = some x) (fun x m s k q => ?_) (fun rs hr2 => ?_)
      · simp
        exact ⟨1, st + 1, ⟨rfl, rfl⟩, ⟨by omega, by omega, by omega, by omega⟩, by rw [show (st + 1 - 1).toNat = st.toNat by omega]; exact z⟩
      · simp
        refine ⟨2, rfl, by omega, by omega, fun v v0 v2 => ?_⟩
        simp
        split
        · exact q _ (.inr rfl)
        · exact q _ (.inl rfl)
      · have sub : ∀ (xs : List D) (rs : List (Option D)), All2 (fun x r => r = none ∨ r = some x) xs rs → (∀ x ∈ rs.filterMap id, x ∈ xs) ∧ wtL (rs.filterMap id) ≤ wtL xs := fun xs rs h => by
          induction h with
          | nil => simp
          | @cons x r xs rs h0 t ih =>
            rcases h0 with rfl | rfl
            · rw [show (none :: rs : List (Option D)).filterMap id = rs.filterMap id from rfl]
              exact ⟨fun y m => List.mem_cons_of_mem _ (ih.1 y m), by rw [wtL]; omega⟩
            · rw [show (some x :: rs : List (Option D)).filterMap id = x :: rs.filterMap id from rfl]
              refine ⟨fun y m => ?_, by rw [wtL, wtL]; omega⟩
              rcases List.mem_cons.mp m with rfl | m
              · exact List.mem_cons_self ..
              · exact List.mem_cons_of_mem _ (ih.1 y m)
        obtain ⟨b1, b2⟩ := sub _ _ hr2
        generalize rs.filterMap id = ps at b1 b2
        simp
        refine ⟨by omega, ?_⟩
        refine hnx _ _ ⟨rfl, T ++ [.tuple ps], .fz x, c7, by simp; omega, fun y m => ?_, trivial, fc, rfl⟩
        · rcases List.mem_append.mp m with m | m
          · exact okT1 y m
          · rw [List.mem_singleton.mp m]
            exact okI (fun z mz => hr.1 z (b1 z mz)) (by omega)
    · rintro ρ s' ⟨rfl, T, c6, c7, hT, okT1, fc6, fc, rfl⟩
      dsimp only
      rw [q_dSeq]
      show dIt _ _ s' _
      simp [-q_dSeq, -q_dIfS]
      refine comp_rel (xs := rngD 0 6) (fun k z => by simpa using z) (by simpa using fc6) (by rw [rngD_length]; omega) (fun x r => ∃ d', r = some d' ∧ okD 10 300 d') (fun x m s k q => ?_) (fun rs hr2 => ?_)
      · simp
        refine ⟨.tuple ys, 9, rfl, rfl, ((okT py (by omega) (by omega) : okD 1 300 _).mono (show 1 ≤ 9 by omega) (Nat.le_refl _)).1, by omega, fun w ok _ => q _ ⟨w, rfl, ok.mono (Nat.le_refl _) (by omega)⟩⟩
      · have ok3 : ∀ x ∈ rs.filterMap id, okD 10 300 x := by
          have all : ∀ (xs : List D) (rs : List (Option D)), All2 (fun _ r => ∃ d', r = some d' ∧ okD 10 300 d') xs rs → ∀ x ∈ rs.filterMap id, okD 10 300 x := fun xs rs h => by
            induction h with
            | nil => simp
            | cons r t ih =>
              obtain ⟨d', rfl, ok⟩ := r
              rw [show (some d' :: _ : List (Option D)).filterMap id = d' :: List.filterMap id _ from rfl]
              intro x m
              rcases List.mem_cons.mp m with rfl | m
              · exact ok
              · exact ih x m
          exact all _ _ hr2
        have len3 : (rs.filterMap id).length ≤ 6 := by
          have := hr2.length
          rw [rngD_length] at this
          exact Nat.le_trans (List.length_filterMap_le _ _) (by omega)
        generalize rs.filterMap id = T3 at ok3 len3 ⊢
        simp [-q_dSeq, -q_dIfS]
        rw [List.length_nil] at hT
        refine ⟨by omega, ?_⟩
        have ok4 : ∀ x ∈ T ++ T3, okD 10 300 x := fun x m => (List.mem_append.mp m).elim (okT1 x) (ok3 x)
        generalize T ++ T3 = T4 at ok4 ⊢
        refine for_inv (fun r ρ s'' => s'' = s' ∧ (∀ x ∈ r, okD 10 300 x) ∧ ∃ c8 c9 c10, ρ = [.un, .fz (refD a), .fz (.int st), .fz (.list (changesD st)), .fz (.tuple ys), .ol T, c6, c7, c8, c9, c10]) ⟨rfl, ok4, _, _, _, rfl⟩ ?_ ?_
        · rintro x r ρ s'' ⟨rfl, okr, c8, c9, c10, rfl⟩ D' hr hb hn hc
          have okx := okr x (List.mem_cons_self ..)
          have rx := repr_ok okx (by omega) (by omega)
          have lx : lenOk x := by
            have w := okx.2
            cases x with
            | tuple xs => rw [wt] at w; have := len_wt xs; simp only [lenOk]; omega
            | _ => trivial
          simp
          refine ⟨st, x, rfl, by omega, by omega, okx.flat, lx, ?_⟩
          simp [rx]
          refine ⟨st, x, rfl, okx.flat, lx, _, _, 9, rfl, rfl, ⟨0, by simp [plainB]⟩, by simp [plainB], ?_⟩
          rw [sameB_eq]
          simp
          exact hn _ _ ⟨rfl, fun y m => okr y (List.mem_cons_of_mem _ m), _, _, _, rfl⟩
        · rintro ρ s'' ⟨rfl, _, c8, c9, c10, rfl⟩
          simp
  · simp
    refine ⟨st, rfl, by omega, by omega, ?_⟩
    refine ⟨_, _, 9, rfl, rfl, ⟨9, ch_plain s3 s8⟩, ch_plain s3 s8, ?_⟩
    rw [sameB_eq]
    simpa using hU
end Dl
/-! How many arguments each promise has: changes. -/
namespace Dl
open PySem L2
section
variable {A : Amb} {ds : List D} {s : A.S} {Q : D → A.S → Prop}
theorem len_is_ascending (h : S_is_ascending ds s Q) : ds.length = 1 := by obtain ⟨_, e, _⟩ := h; rw [e]; rfl
theorem len_is_change (h : S_is_change ds s Q) : ds.length = 2 := by obtain ⟨_, _, e, _⟩ := h; rw [e]; rfl
theorem len_changes_from {n : Nat} (h : S_changes_from n ds s Q) : ds.length = 2 := by obtain ⟨_, _, e, _⟩ := h; rw [e]; rfl
theorem no_changes_from (h : S_changes_from 0 ds s Q) : False := by obtain ⟨_, _, _, _, h1, h2, _⟩ := h; omega
theorem len_changes_of (h : S_changes_of ds s Q) : ds.length = 1 := by obtain ⟨_, e, _⟩ := h; rw [e]; rfl
theorem len_L_changes (h : S_changes_of ds s Q) : ds.length = 1 := len_changes_of h
theorem len_L_is_number (h : S_L_is_number ds s Q) : ds.length = 2 := by obtain ⟨_, _, e, _⟩ := h; rw [e]; rfl
theorem len_L_is_change (h : S_L_is_change ds s Q) : ds.length = 2 := by obtain ⟨_, _, e, _⟩ := h; rw [e]; rfl
end
theorem len_L_pick {a : Addr} {ds : List D} {s : (poolA a).S} {Q : D → (poolA a).S → Prop} (h : S_L_pick a ds s Q) : ds.length = 2 := by obtain ⟨_, _, e, _⟩ := h; rw [e]; rfl
end Dl
/-! Ringing a change. -/
namespace Dl
open PySem L2
def t_rung {A : Amb} : DS A :=
  (dSeq (dSetN 2 (nFn gList (dCons (dVarB 0) dNil)))
  (dSeq (dSet 3 (dC (.int 1)))
  (dSeq (dWhile (dTest (dOp fLt (dVarB 3) (dFn fLen (dCons (dVarB 0) dNil))))
  (dIfS (dTest (dOp fIn (dVarB 3) (dVarB 1)))
  (dAug 3 fAddI (dC (.int 1)))
  (dSeq (dAsg (dTup (dCons (dOp fIx (dVarB 2) (dVarB 3)) (dCons (dOp fIx (dVarB 2) (dOp fSub (dVarB 3) (dC (.int 1)))) dNil))) (dgT 2 (dgsC (dgIx 2 (dOp fSub (dVarB 3) (dC (.int 1)))) (dgsC (dgIx 2 (dVarB 3)) dgs0))))
  (dAug 3 fAddI (dC (.int 2))))))
  (dRet (dFn fTuple (dCons (dVarB 2) dNil))))))
def t_change_between {A : Amb} (S_is_change S_rung : FS A) : DS A :=
  (dSeq (dSet 2 (dFn fTuple (dCons (dOfN (nComp (dRg1 (dCons (dFn fLen (dCons (dVarB 0) dNil)) dNil)) (dgN 3) (dTest (dOp fEqU (dOp fIx (dVarB 0) (dVarB 3)) (dOp fIx (dVarB 1) (dVarB 3)))) (dOp fAdd (dVarB 3) (dC (.int 1))) [3])) dNil)))
  (dRet (dIf (dAndT (dTest (dCall S_is_change (dCons (dFn fLen (dCons (dVarB 0) dNil)) (dCons (dVar 2) dNil)))) (dTest (dOp fEqU (dCall S_rung (dCons (dVar 0) (dCons (dVar 2) dNil))) (dVarB 1)))) (dVar 2) (dC .none))))
def t_mirrored {A : Amb} : DS A :=
  (dRet (dFn fTuple (dCons (dOfN (nFn gSorted (dCons (dOfN (nComp (dIt (dVar 1)) (dgN 2) dYes (dOp fSub (dOp fAdd (dVarB 0) (dC (.int 1))) (dVarB 2)) [2])) dNil))) dNil)))
def t_L_rung {A : Amb} : DS A :=
  (dSeq (dSet 2 (dTup dNil))
  (dSeq (dSet 3 (dVar 0))
  (dSeq (dSet 4 (dC (.int 1)))
  (dSeq (dWhile (dTest (dOp fGt (dFn fLen (dCons (dVarB 3) dNil)) (dC (.int 0))))
  (dIfS (dTest (dOp fIn (dVarB 4) (dVarB 1)))
  (dSeq (dSet 2 (dOp fAdd (dVarB 2) (dSl (dVarB 3) oNone (oSome (dC (.int 1))))))
  (dSeq (dSet 3 (dSl (dVarB 3) (oSome (dC (.int 1))) oNone))
  (dSet 4 (dOp fAdd (dVarB 4) (dC (.int 1))))))
  (dSeq (dSet 2 (dOp fAdd (dVarB 2) (dRev (dSl (dVarB 3) oNone (oSome (dC (.int 2)))))))
  (dSeq (dSet 3 (dSl (dVarB 3) (oSome (dC (.int 2))) oNone))
  (dSet 4 (dOp fAdd (dVarB 4) (dC (.int 2))))))))
  (dRet (dVar 2))))))
/-! ### what a change does -/
def rungG {α : Type} (cs : List Int) : List α → Int → List α
  | [], _ => []
  | [x], _ => [x]
  | x :: y :: r, p => if p ∈ cs then x :: rungG cs (y :: r) (p + 1) else y :: x :: rungG cs r (p + 2)
theorem rungG_len {α : Type} (cs : List Int) : ∀ (n : Nat) (xs : List α) (p : Int), xs.length ≤ n → (rungG cs xs p).length = xs.length
  | _, [], _, _ => by simp [rungG]
  | _, [x], _, _ => by simp [rungG]
  | 0, x :: y :: r, _, h => by simp at h
  | n + 1, x :: y :: r, p, h => by
    rw [rungG]
    simp at h
    split
    · simp [rungG_len cs n (y :: r) (p + 1) (by simp; omega)]
    · simp [rungG_len cs n r (p + 2) (by omega)]
theorem rungG_length {α : Type} (cs : List Int) (xs : List α) (p : Int) : (rungG cs xs p).length = xs.length := rungG_len cs _ xs p (Nat.le_refl _)
theorem rungG_map {α β : Type} (f : α → β) (cs : List Int) : ∀ (n : Nat) (xs : List α) (p : Int), xs.length ≤ n → rungG cs (xs.map f) p = (rungG cs xs p).map f
  | _, [], _, _ => by simp [rungG]
  | _, [x], _, _ => by simp [rungG]
  | 0, x :: y :: r, _, h => by simp at h
  | n + 1, x :: y :: r, p, h => by
    simp at h
    have a := rungG_map f cs n (y :: r) (p + 1) (by simp; omega)
    have b := rungG_map f cs n r (p + 2) (by omega)
    rw [List.map_cons] at a
    rw [List.map_cons, List.map_cons, rungG, rungG, a, b]
    split <;> simp
theorem rungG_perm {α : Type} (cs : List Int) : ∀ (n : Nat) (xs : List α) (p : Int), xs.length ≤ n → (rungG cs xs p).Perm xs
  | _, [], _, _ => by simp [rungG]
  | _, [x], _, _ => by simp [rungG]
  | 0, x :: y :: r, _, h => by simp at h
  | n + 1, x :: y :: r, p, h => by
    simp at h
    rw [rungG]
    split
    · exact List.Perm.cons x (rungG_perm cs n (y :: r) (p + 1) (by simp; omega))
    · exact (List.Perm.swap x y _).trans (List.Perm.cons x (List.Perm.cons y (rungG_perm cs n r (p + 2) (by omega))))
/-- twice is nothing -/
theorem rungG_twice {α : Type} (cs : List Int) : ∀ (n : Nat) (xs : List α) (p : Int), xs.length ≤ n → rungG cs (rungG cs xs p) p = xs
  | _, [], _, _ => by simp [rungG]
  | _, [x], _, _ => by simp [rungG]
  | 0, x :: y :: r, _, h => by simp at h
  | n + 1, x :: y :: r, p, h => by
    simp at h
    rw [rungG]
    split
    · next hp =>
      have a := rungG_twice cs n (y :: r) (p + 1) (by simp; omega)
      have l := rungG_length cs (y :: r) (p + 1)
      cases h2 : rungG cs (y :: r) (p + 1) with
      | nil => rw [h2] at l; simp at l
      | cons z w =>
        rw [rungG, if_pos hp, ← h2, a]
    · next hp =>
      have b := rungG_twice cs n r (p + 2) (by omega)
      rw [rungG, if_neg hp, b]
section
variable {A : Amb} {ds : List D} {s : A.S} {Q : D → A.S → Prop}
def S_rung : FS A := fun ds s Q => ∃ (xs : List D) (cs : List Int), ds = [.tuple xs, .tuple (intsD cs)] ∧ xs.length ≤ 1000 ∧ Q (.tuple (rungG cs xs 1)) s
theorem p_L_rung (h : S_rung ds s Q) : t_L_rung (retE Q) (startR 5 ds) s := by
  obtain ⟨xs, cs, rfl, hl, q⟩ := h
  have e : startR 5 [.tuple xs, .tuple (intsD cs)] = [.fz (.tuple xs), .fz (.tuple (intsD cs)), .un, .un, .un] := rfl
  have hs : 100000 ≤ sizeLine := by decide
  unfold t_L_rung
  simp [e]
  refine while_inv (fun n ρ s' => s' = s ∧ ∃ (found left : List D) (p : Int), n = left.length ∧ found.length + left.length = xs.length ∧ ρ = [.fz (.tuple xs), .fz (.tuple (intsD cs)), .fz (.tuple found), .fz (.tuple left), .fz (.int p)] ∧ Q (.tuple (found ++ rungG cs left p)) s) xs.length ⟨rfl, [], xs, 1, rfl, by simp, rfl, by simpa using q⟩ ?_
  rintro n ρ s' ⟨rfl, found, left, p, rfl, hlen, rfl, qq⟩
  simp
  cases left with
  | nil => simpa [rungG] using qq
  | cons x r =>
    rw [if_pos (by simp)]
    refine ⟨in_ok p cs, ?_⟩
    rw [any_ints]
    simp at hlen
    by_cases hp : p ∈ cs
    · simp [hp, cutD_to, cutD_from]
      refine ⟨by omega, r.length, by omega, found ++ [x], r, rfl, by simp; omega, p + 1, ⟨rfl, rfl, rfl⟩, ?_⟩
      cases r with
      | nil => simpa [rungG] using qq
      | cons y r => simpa [rungG, hp] using qq
    · simp [hp, cutD_to, cutD_from]
      cases r with
      | nil =>
        simp at hlen ⊢
        refine ⟨by omega, found ++ [x], [], rfl, by simp; omega, p + 2, ⟨rfl, rfl, rfl⟩, ?_⟩
        simpa [rungG] using qq
      | cons y r =>
        simp at hlen ⊢
        refine ⟨by omega, r.length, by omega, found ++ [y, x], r, rfl, by simp; omega, p + 2, ⟨rfl, rfl, rfl⟩, ?_⟩
        simpa [rungG, hp] using qq
theorem atI_app {done : List D} {x y : D} {r : List D} {p : Int} (h : (done.length : Int) = p - 1) : atI (done ++ x :: y :: r) p = some y ∧ atI (done ++ x :: y :: r) (p - 1) = some x ∧ ixN (done ++ x :: y :: r).length p = some (done.length + 1) ∧ ixN (done ++ x :: y :: r).length (p - 1) = some done.length := by
  have e1 : p = ((done.length + 1 : Nat) : Int) := by omega
  have e2 : p - 1 = ((done.length : Nat) : Int) := by omega
  have b : (done ++ x :: y :: r).length = done.length + (r.length + 2) := by simp
  refine ⟨?_, ?_, ?_, ?_⟩
  · rw [e1]
    exact atI_nat (by rw [List.getElem?_append_right (by omega)]; simp)
  · rw [e2]
    exact atI_nat (by rw [List.getElem?_append_right (by omega)]; simp)
  · rw [b, e1]
    unfold ixN
    rw [if_pos (by omega), if_pos (by omega)]
    simp
  · rw [b, e2]
    unfold ixN
    rw [if_pos (by omega), if_pos (by omega)]
    simp
/-- where the loop of rung stands -/
def RungI (xs : List D) (cs : List Int) (q : D → Prop) (s0 : A.S) (n : Nat) (ρ : Rho) (s' : A.S) : Prop :=
  s' = s0 ∧ ∃ (done left : List D) (p : Int), n = left.length ∧ done.length + left.length = xs.length ∧ (p = (done.length : Nat) + 1 ∨ (left = [] ∧ p = (done.length : Nat) + 2)) ∧ ρ = [.fz (.tuple xs), .fz (.tuple (intsD cs)), .ol (done ++ left), .fz (.int p)] ∧ q (.tuple (done ++ rungG cs left p))
theorem p_rung (h : S_rung ds s Q) : t_rung (retE Q) (startR 4 ds) s := by
  obtain ⟨xs, cs, rfl, hl, q⟩ := h
  have e : startR 4 [.tuple xs, .tuple (intsD cs)] = [.fz (.tuple xs), .fz (.tuple (intsD cs)), .un, .un] := rfl
  have hs : 100000 ≤ sizeLine := by decide
  unfold t_rung
  simp [e]
  refine while_inv (RungI xs cs (fun d => Q d s) s) xs.length ⟨rfl, [], xs, 1, rfl, by simp, .inl (by simp), rfl, by simpa using q⟩ ?_
  rintro n ρ s' ⟨rfl, done, left, p, rfl, hlen, hp1, rfl, qq⟩
  simp
  by_cases hlt : p < (xs.length : Int)
  · rw [if_pos hlt]
    have hp2 : p = (done.length : Nat) + 1 := by
      rcases hp1 with z | ⟨rfl, z⟩
      · exact z
      · simp at hlen; omega
    obtain ⟨x, y, r, rfl⟩ : ∃ x y r, left = x :: y :: r := by
      match left, hlen with
      | [], hlen => simp at hlen; omega
      | [x], hlen => simp at hlen; omega
      | x :: y :: r, _ => exact ⟨x, y, r, rfl⟩
    refine ⟨in_ok p cs, ?_⟩
    rw [any_ints]
    simp at hlen
    by_cases hp : p ∈ cs
    · simp [hp]
      refine ⟨(y :: r).length, by simp, rfl, done ++ [x], y :: r, p + 1, rfl, by simp; omega, .inl (by simp; omega), by simp, ?_⟩
      simpa [rungG, hp] using qq
    · obtain ⟨a1, a2, a3, a4⟩ := atI_app (done := done) (x := x) (y := y) (r := r) (p := p) (by omega)
      simp [hp]
      rw [a1]
      simp
      rw [a2]
      simp
      have e1 : done.length + (r.length + 1 + 1) = (done ++ x :: y :: r).length := by simp
      rw [e1, a4]
      simp
      have e2 : done.length + (r.length + 1 + 1) = (done ++ x :: y :: r).length := by simp
      rw [e2, a3]
      simp
      refine ⟨by omega, r.length, by omega, rfl, done ++ [y, x], r, p + 2, rfl, by simp; omega, .inl (by simp; omega), by simp, ?_⟩
      simpa [rungG, hp] using qq
  · rw [if_neg hlt]
    have z : rungG cs left p = left := by
      rcases hp1 with z | ⟨rfl, z⟩
      · match left, hlen with
        | [], _ => simp [rungG]
        | [x], _ => simp [rungG]
        | x :: y :: r, hlen => simp at hlen; omega
      · simp [rungG]
    rw [z] at qq
    exact qq
end
end Dl
/-! Between rows. -/
namespace Dl
open PySem L2
abbrev oddB : Int → Int → Bool := fun x y => decide ((y - x) % 2 = 1)
theorem change_ok {st : Int} {cs : List Int} (h : changeB st (tupI cs) = true) : cs.Pairwise (· < ·) ∧ (∀ j ∈ cs, 1 ≤ j ∧ j ≤ st) ∧ adjB oddB (0 :: (cs ++ [st + 1])) = true := by
  unfold tupI changeB at h
  rw [Bool.and_eq_true, numD_ints] at h
  obtain ⟨h1, h2⟩ := h
  obtain ⟨ns, e, hb⟩ := inB_ints h1
  have e2 : cs = ns := by
    have := congrArg (List.map numD) e
    rwa [numD_ints, numD_ints] at this
  subst e2
  unfold changeN at h2
  rw [Bool.and_eq_true, Bool.and_eq_true] at h2
  exact ⟨asc_iff.mp h2.1.1, hb, h2.2⟩
/-- the places at which two rows are alike -/
def sameP : Int → List Int → List Int → List Int
  | p, x :: xs, y :: ys => if x = y then p :: sameP (p + 1) xs ys else sameP (p + 1) xs ys
  | _, _, _ => []
theorem sameP_in : ∀ (p : Int) (xs ys : List Int), ∀ j ∈ sameP p xs ys, p ≤ j ∧ j < p + xs.length
  | p, [], _, j, m => by simp [sameP] at m
  | p, _ :: _, [], j, m => by simp [sameP] at m
  | p, x :: xs, y :: ys, j, m => by
    rw [sameP] at m
    have ih := sameP_in (p + 1) xs ys j
    simp only [List.length_cons]
    split at m
    · rcases List.mem_cons.mp m with rfl | m
      · omega
      · have := ih m
        omega
    · have := ih m
      omega
theorem sameP_asc : ∀ (p : Int) (xs ys : List Int), (sameP p xs ys).Pairwise (· < ·)
  | p, [], _ => by simp [sameP]
  | p, _ :: _, [] => by simp [sameP]
  | p, x :: xs, y :: ys => by
    rw [sameP]
    have ih := sameP_asc (p + 1) xs ys
    split
    · refine List.pairwise_cons.mpr ⟨fun j m => ?_, ih⟩
      have := sameP_in (p + 1) xs ys j m
      omega
    · exact ih
/-- a change that leads from a row of different bells is told by the bells that stay -/
theorem same_rung (cs : List Int) : ∀ (n : Nat) (xs : List Int) (p : Int) (cs' : List Int), xs.length ≤ n → xs.Nodup → (∀ j, p ≤ j → (j ∈ cs ↔ j ∈ cs')) → cs'.Pairwise (· < ·) → (∀ j ∈ cs', p ≤ j ∧ j < p + xs.length) →
    adjB oddB ((p - 1) :: (cs' ++ [p + xs.length])) = true → sameP p xs (rungG cs xs p) = cs'
  | _, [], p, cs', _, _, _, _, hb, _ => by
    have : cs' = [] := by
      cases cs' with
      | nil => rfl
      | cons j r => have := hb j (List.mem_cons_self ..); simp at this; omega
    subst this
    simp [sameP, rungG]
  | _, [x], p, cs', _, _, _, pw, hb, ho => by
    have : cs' = [p] := by
      cases cs' with
      | nil => simp [adjB] at ho; omega
      | cons j r =>
        have b := hb j (List.mem_cons_self ..)
        simp at b
        cases r with
        | nil => simp; omega
        | cons k r =>
          have b2 := hb k (by simp)
          have := (List.pairwise_cons.mp pw).1 k (List.mem_cons_self ..)
          simp at b2
          omega
    subst this
    simp [sameP, rungG]
  | 0, x :: y :: r, _, _, h, _, _, _, _, _ => by simp at h
  | n + 1, x :: y :: r, p, cs', h, nd, hm, pw, hb, ho => by
    have nd' := List.nodup_cons.mp nd
    have nd2 := List.nodup_cons.mp nd'.2
    simp only [List.length_cons] at h hb ho
    rw [rungG]
    by_cases hp : p ∈ cs
    · rw [if_pos hp, sameP, if_pos rfl]
      have hin := (hm p (Int.le_refl _)).mp hp
      cases cs' with
      | nil => cases hin
      | cons j cs'' =>
        have pw' := List.pairwise_cons.mp pw
        have e1 : j = p := by
          have b1 := hb j (List.mem_cons_self ..)
          rcases List.mem_cons.mp hin with z | z
          · exact z.symm
          · have := pw'.1 p z
            omega
        subst e1
        have hm2 : ∀ i, j + 1 ≤ i → (i ∈ cs ↔ i ∈ cs'') := fun i hi => by
          rw [hm i (by omega), List.mem_cons]
          constructor
          · rintro (z | z)
            · omega
            · exact z
          · exact .inr
        have hb2 : ∀ i ∈ cs'', j + 1 ≤ i ∧ i < j + 1 + ((y :: r).length : Nat) := fun i m => by
          have a := pw'.1 i m
          have b := hb i (List.mem_cons_of_mem _ m)
          simp only [List.length_cons]
          omega
        rw [List.cons_append, adjB, Bool.and_eq_true] at ho
        have e2 : j + 1 - 1 = j := by omega
        have e3 : j + 1 + ((y :: r).length : Nat) = j + ((r.length + 1 + 1 : Nat) : Int) := by simp only [List.length_cons]; omega
        rw [same_rung cs n (y :: r) (j + 1) cs'' (by simp; omega) nd'.2 hm2 pw'.2 hb2 (by rw [e2, e3]; exact ho.2)]
    · rw [if_neg hp]
      have hxy : ¬ x = y := fun z => nd'.1 (z ▸ List.mem_cons_self ..)
      have hyx : ¬ y = x := fun z => hxy z.symm
      have b2 : ∀ j ∈ cs', p + 2 ≤ j := fun j m => by
        have b := hb j m
        have n1 : j ≠ p := fun z => hp ((hm p (Int.le_refl _)).mpr (z ▸ m))
        have n2 : j ≠ p + 1 := fun z => by
          -- the first place would leave two bells before it
          cases cs' with
          | nil => cases m
          | cons k cs'' =>
            have pk := List.pairwise_cons.mp pw
            have bk := hb k (List.mem_cons_self ..)
            have nk : k ≠ p := fun z => hp ((hm p (Int.le_refl _)).mpr (z ▸ List.mem_cons_self ..))
            have ek : k = p + 1 := by
              rcases List.mem_cons.mp m with z' | z'
              · omega
              · have := pk.1 j z'
                omega
            rw [List.cons_append, adjB, Bool.and_eq_true] at ho
            have := of_decide_eq_true ho.1
            omega
        omega
      rw [sameP, if_neg hxy, sameP, if_neg hyx]
      have e1 : p + 1 + 1 = p + 2 := by omega
      rw [e1]
      refine same_rung cs n r (p + 2) cs' (by omega) nd2.2 (fun i hi => hm i (by omega)) pw (fun i m => ?_) ?_
      · have := b2 i m
        have := hb i m
        omega
      · have e3 : p + 2 + (r.length : Nat) = p + ((r.length + 1 + 1 : Nat) : Int) := by omega
        have e4 : p + 2 - 1 = p + 1 := by omega
        rw [e3, e4]
        cases cs' with
        | nil =>
          simp only [List.nil_append, adjB, Bool.and_true, decide_eq_true_eq] at ho ⊢
          omega
        | cons k cs'' =>
          rw [List.cons_append, adjB, Bool.and_eq_true, decide_eq_true_eq] at ho ⊢
          exact ⟨by omega, ho.2⟩
/-- every ascending list of places is among those looked at -/
theorem mem_subsN : ∀ (n : Nat) (ns : List Int), ns.Pairwise (· < ·) → (∀ j ∈ ns, 1 ≤ j ∧ j ≤ n) → ns ∈ subsN n
  | 0, ns, _, h => by
    cases ns with
    | nil => simp [subsN]
    | cons j r => have := h j (List.mem_cons_self ..); omega
  | n + 1, ns, pw, h => by
    rw [subsN]
    rcases List.eq_nil_or_concat ns with rfl | ⟨r, l, rfl⟩
    · exact List.mem_append_left _ (mem_subsN n [] (by simp) (by simp))
    · rw [List.concat_eq_append] at pw h ⊢
      have pw' := List.pairwise_append.mp pw
      have hl := h l (by simp)
      have hr : ∀ j ∈ r, 1 ≤ j ∧ j ≤ n := fun j m => by
        have a := h j (by simp [m])
        have b := pw'.2.2 j m l (by simp)
        omega
      have ih := mem_subsN n r pw'.1 hr
      by_cases e : l = ((n : Nat) : Int) + 1
      · subst e
        exact List.mem_append_right _ (List.mem_map.mpr ⟨r, ih, rfl⟩)
      · refine List.mem_append_left _ (mem_subsN n _ pw fun j m => ?_)
        rcases List.mem_append.mp m with m | m
        · exact hr j m
        · rw [List.mem_singleton.mp m]
          omega
theorem mem_chS {st : Int} {cs : List Int} (h0 : 0 ≤ st) : cs ∈ chS st ↔ changeB st (tupI cs) = true := by
  unfold chS
  rw [List.mem_filter]
  constructor
  · exact fun z => z.2
  · intro z
    obtain ⟨a, b, _⟩ := change_ok z
    refine ⟨mem_subsN _ _ a fun j m => ?_, z⟩
    have := b j m
    omega
/-- what lies between two rows -/
def betwD (xs ys : List Int) : D := if changeB xs.length (tupI (sameP 1 xs ys)) = true ∧ rungG (sameP 1 xs ys) xs 1 = ys then tupI (sameP 1 xs ys) else .none
theorem betw_rung {cs xs : List Int} (nd : xs.Nodup) (h : changeB xs.length (tupI cs) = true) : sameP 1 xs (rungG cs xs 1) = cs := by
  obtain ⟨a, b, c⟩ := change_ok h
  refine same_rung cs _ xs 1 cs (Nat.le_refl _) nd (fun _ _ => Iff.rfl) a (fun j m => by have := b j m; omega) ?_
  have e : (1 : Int) + (xs.length : Nat) = (xs.length : Int) + 1 := by omega
  rw [e]
  exact c
theorem betwD_rung {cs xs : List Int} (nd : xs.Nodup) (h : changeB xs.length (tupI cs) = true) : betwD xs (rungG cs xs 1) = tupI cs := by
  unfold betwD
  rw [betw_rung nd h, if_pos ⟨h, rfl⟩]
/-- .. is found among all changes -/
theorem betw_find {st : Int} {xs ys : List Int} (hst : (xs.length : Int) = st) (nd : xs.Nodup) : ((changesD st).filter fun d => match d with
    | .tuple r => decide (rungG (r.map numD) xs 1 = ys)
    | _ => false).head?.getD .none = betwD xs ys := by
  have e : (changesD st).filter (fun d => match d with
    | .tuple r => decide (rungG (r.map numD) xs 1 = ys)
    | _ => false) = (((chS st).mergeSort fun a b => !decide (b < a)).filter fun cs => decide (rungG cs xs 1 = ys)).map tupI := by
    unfold changesD
    rw [sortD_tupI, List.filter_map]
    congr 1
    apply List.filter_congr
    intro cs _
    simp only [Function.comp, tupI, numD_ints]
  rw [e]
  have mem : ∀ cs, cs ∈ (chS st).mergeSort (fun a b => !decide (b < a)) ↔ changeB xs.length (tupI cs) = true := fun cs => by
    rw [(List.mergeSort_perm _ _).mem_iff, mem_chS (by omega), hst]
  generalize (chS st).mergeSort (fun a b => !decide (b < a)) = L at mem
  cases hF : L.filter (fun cs => decide (rungG cs xs 1 = ys)) with
  | nil =>
    unfold betwD
    rw [if_neg]
    · rfl
    · rintro ⟨h1, h2⟩
      have m : sameP 1 xs ys ∈ L.filter (fun cs => decide (rungG cs xs 1 = ys)) := List.mem_filter.mpr ⟨(mem _).mpr h1, decide_eq_true h2⟩
      rw [hF] at m
      cases m
  | cons c r =>
    have m : c ∈ L.filter (fun cs => decide (rungG cs xs 1 = ys)) := by rw [hF]; exact List.mem_cons_self ..
    obtain ⟨m1, m2⟩ := List.mem_filter.mp m
    have e2 : rungG c xs 1 = ys := of_decide_eq_true m2
    rw [← e2, betwD_rung nd ((mem c).mp m1)]
    rfl
end Dl
/-! change_between, mirrored. -/
namespace Dl
open PySem L2
theorem sameP_range : ∀ (xs ys : List Int) (p : Int), ys.length = xs.length → (List.range xs.length).filterMap (fun k => if xs.getD k 0 = ys.getD k 0 then some (p + (k : Nat)) else none) = sameP p xs ys
  | [], ys, p, h => by
    cases ys <;> simp [sameP]
  | x :: xs, [], p, h => by simp at h
  | x :: xs, y :: ys, p, h => by
    have ih := sameP_range xs ys (p + 1) (by simpa using h)
    rw [sameP, ← ih, List.length_cons, List.range_succ_eq_map, List.filterMap_cons, List.filterMap_map]
    have e : List.filterMap ((fun k => if (x :: xs).getD k 0 = (y :: ys).getD k 0 then some (p + (k : Nat)) else none) ∘ Nat.succ) (List.range xs.length) = List.filterMap (fun k => if xs.getD k 0 = ys.getD k 0 then some (p + 1 + (k : Nat)) else none) (List.range xs.length) := by
      congr 1
      funext k
      simp only [Function.comp, List.getD_cons_succ]
      split
      · congr 1
        omega
      · rfl
    rw [e]
    by_cases c : x = y
    · simp [c]
    · simp [c]
theorem sameP_len (xs ys : List Int) (p : Int) (h : ys.length = xs.length) : (sameP p xs ys).length ≤ xs.length := by
  rw [← sameP_range xs ys p h]
  exact Nat.le_trans (List.length_filterMap_le _ _) (by rw [List.length_range]; omega)
/-- the comprehension's items -/
def sameH (xs ys : List Int) (x : D) : Option D := if xs.getD (numD x).toNat 0 = ys.getD (numD x).toNat 0 then some (.int (numD x + 1)) else none
theorem sameH_all (xs ys : List Int) (h : ys.length = xs.length) : (rngD 0 xs.length).filterMap (sameH xs ys) = intsD (sameP 1 xs ys) := by
  rw [← sameP_range xs ys 1 h]
  unfold intsD rngD
  rw [List.filterMap_map, List.map_filterMap]
  congr 1
  funext k
  show sameH xs ys (.int (0 + ((k : Nat) : Int))) = _
  have e : (numD (.int (0 + ((k : Nat) : Int)))).toNat = k := by simp [numD]
  by_cases c : xs.getD k 0 = ys.getD k 0
  · have c' : xs.getD (numD (.int (0 + ((k : Nat) : Int)))).toNat 0 = ys.getD (numD (.int (0 + ((k : Nat) : Int)))).toNat 0 := by rw [e]; exact c
    rw [sameH, if_pos c', if_pos c]
    simp [numD]
    omega
  · have c' : ¬ xs.getD (numD (.int (0 + ((k : Nat) : Int)))).toNat 0 = ys.getD (numD (.int (0 + ((k : Nat) : Int)))).toNat 0 := by rw [e]; exact c
    rw [sameH, if_neg c', if_neg c]
    rfl
theorem eqOk_intsT (a b : List Int) : eqOk (.tuple (intsD a)) (.tuple (intsD b)) := by
  unfold eqOk
  rw [shaped_intsT, shaped_intsT]
  simp
theorem eqv_intsT (a b : List Int) : PyData.eqv (.tuple (intsD a)) (.tuple (intsD b)) = decide (a = b) := eqv_ints a b
theorem flat_ints (ns : List Int) : flat1 (.tuple (intsD ns)) := fun x m => by
  obtain ⟨j, _, rfl⟩ := List.mem_map.mp m
  trivial
theorem rung_ints (cs xs : List Int) (p : Int) : rungG cs (intsD xs) p = intsD (rungG cs xs p) := rungG_map PyData.int cs _ xs p (Nat.le_refl _)
section
variable {A : Amb} {ds : List D} {s : A.S} {Q : D → A.S → Prop}
def S_change_between : FS A := fun ds s Q => ∃ xs ys : List Int, ds = [.tuple (intsD xs), .tuple (intsD ys)] ∧ ys.length = xs.length ∧ xs.length ≤ 1000 ∧ Q (betwD xs ys) s
theorem p_change_between (h : S_change_between ds s Q) : t_change_between S_is_change S_rung (retE Q) (startR 4 ds) s := by
  obtain ⟨xs, ys, rfl, hl, hn, q⟩ := h
  have e : startR 4 [.tuple (intsD xs), .tuple (intsD ys)] = [.fz (.tuple (intsD xs)), .fz (.tuple (intsD ys)), .un, .un] := rfl
  have hs : 100000 ≤ sizeLine := by decide
  unfold t_change_between
  simp [e]
  refine comp_pure (xs := rngD 0 xs.length) (fun k z => ?_) (by simp) (by rw [rngD_length]; omega) (sameH xs ys) (fun x m s k z => ?_) ?_
  · simp
    exact ⟨by omega, z⟩
  · obtain ⟨i, hi, rfl⟩ := mem_rngD m
    have h1 := ints_get (ns := xs) (k := i) hi
    have h2 := ints_get (ns := ys) (k := i) (by omega)
    simp
    rw [h1]
    simp
    rw [h2]
    simp
    unfold sameH at z
    simp only [numD, Int.toNat_natCast, List.getD_eq_getElem?_getD] at z
    by_cases c : xs[i]?.getD 0 = ys[i]?.getD 0
    · rw [if_pos c] at z ⊢
      exact z
    · rw [if_neg c] at z ⊢
      exact z
  · rw [sameH_all xs ys hl]
    have l2 := sameP_len xs ys 1 hl
    simp
    refine ⟨_, _, rfl, flat_ints _, by simp only [lenOk, intsD_length]; omega, ?_⟩
    unfold betwD tupI at q
    cases hc : changeB xs.length (.tuple (intsD (sameP 1 xs ys))) with
    | false => simpa [hc] using q
    | true =>
      simp
      refine ⟨_, _, rfl, by rw [intsD_length]; exact hn, ?_⟩
      rw [rung_ints]
      simp
      refine ⟨eqOk_intsT _ _, ?_⟩
      rw [eqv_intsT]
      by_cases hr : rungG (sameP 1 xs ys) xs 1 = ys <;> simpa [hc, hr] using q
def S_mirrored : FS A := fun ds s Q => ∃ (st : Int) (cs : List Int), ds = [.int st, .tuple (intsD cs)] ∧ cs.length ≤ 1000 ∧ Q (.tuple (sortD (intsD (cs.map fun c => st + 1 - c)))) s
theorem p_mirrored (h : S_mirrored ds s Q) : t_mirrored (retE Q) (startR 3 ds) s := by
  obtain ⟨st, cs, rfl, hn, q⟩ := h
  have e : startR 3 [.int st, .tuple (intsD cs)] = [.fz (.int st), .fz (.tuple (intsD cs)), .un] := rfl
  have hs : 100000 ≤ sizeLine := by decide
  unfold t_mirrored
  simp [e]
  refine comp_pure (xs := intsD cs) (fun k z => by simpa using z) (by simp) (by rw [intsD_length]; omega) (fun x => some (.int (st + 1 - numD x))) (fun x m s k z => ?_) ?_
  · obtain ⟨j, _, rfl⟩ := List.mem_map.mp m
    simpa [numD] using z
  · rw [fm_some]
    have e2 : (intsD cs).map (fun x => PyData.int (st + 1 - numD x)) = intsD (cs.map fun c => st + 1 - c) := by
      unfold intsD
      rw [List.map_map, List.map_map]
      rfl
    rw [e2]
    simp
    exact ⟨sortOk_ints' _, q⟩
theorem len_rung (h : S_rung ds s Q) : ds.length = 2 := by obtain ⟨_, _, e, _⟩ := h; rw [e]; rfl
theorem len_L_rung (h : S_rung ds s Q) : ds.length = 2 := len_rung h
theorem len_change_between (h : S_change_between ds s Q) : ds.length = 2 := by obtain ⟨_, _, e, _⟩ := h; rw [e]; rfl
theorem len_mirrored (h : S_mirrored ds s Q) : ds.length = 2 := by obtain ⟨_, _, e, _⟩ := h; rw [e]; rfl
end
end Dl
/-! The law k04 over data. -/
namespace Dl
open PySem L2
def t_law_k04 {A : Amb} (S_L_stage S_L_row S_L_changes S_L_rung S_rung S_change_between S_mirrored S_L_same S_L_draw S_L_pick : FS A) : DS A :=
  (dSeq (dSet 2 (dCall S_L_stage (dCons (dVar 1) (dCons (dC (.int 8)) dNil))))
  (dSeq (dSet 3 (dCall S_L_row (dCons (dVar 1) (dCons (dVar 2) dNil))))
  (dSeq (dSet 4 (dCall S_L_changes (dCons (dVar 2) dNil)))
  (dSeq (dFor (dIt (dVar 4)) (dgN 5)
  (dSeq (dSet 6 (dCall S_L_rung (dCons (dVar 3) (dCons (dVar 5) dNil))))
  (dSeq (dSet 7 (dLst (dCons (dCall S_rung (dCons (dVar 3) (dCons (dVar 5) dNil))) (dCons (dCall S_rung (dCons (dVar 6) (dCons (dVar 5) dNil))) (dCons (dCall S_change_between (dCons (dVar 3) (dCons (dVar 6) dNil))) (dCons (dCall S_mirrored (dCons (dVar 2) (dCons (dVar 5) dNil))) dNil))))))
  (dIfS (dNotT (dTest (dCall S_L_same (dCons (dVar 7) (dCons (dLst (dCons (dVar 6) (dCons (dVar 3) (dCons (dVar 5) (dCons (dFn fTuple (dCons (dOfN (nFn gSorted (dCons (dOfN (nComp (dIt (dVar 5)) (dgN 8) dYes (dOp fSub (dOp fAdd (dVarB 2) (dC (.int 1))) (dVarB 8)) [8])) dNil))) dNil)) dNil))))) dNil)))))
  (dRet (dC (.bool false)))
  dNx))))
  (dSeq (dFor (dRg1 (dCons (dC (.int 8)) dNil)) (dgN 9)
  (dSeq (dSet 10 (dOp fIx (dTup (dCons (dCall S_L_row (dCons (dVar 1) (dCons (dVar 2) dNil))) (dCons (dCall S_L_rung (dCons (dCall S_L_rung (dCons (dVar 3) (dCons (dCall S_L_pick (dCons (dVar 1) (dCons (dVar 4) dNil))) dNil))) (dCons (dCall S_L_pick (dCons (dVar 1) (dCons (dVar 4) dNil))) dNil))) (dCons (dVar 3) dNil)))) (dCall S_L_draw (dCons (dVar 1) (dCons (dC (.int 3)) dNil)))))
  (dSeq (dSet 11 (dOfN (nComp (dIt (dVar 4)) (dgN 5) (dTest (dOp fEqU (dCall S_L_rung (dCons (dVar 3) (dCons (dVar 5) dNil))) (dVarB 10))) (dVar 5) [5])))
  (dIfS (dNotT (dTest (dCall S_L_same (dCons (dCall S_change_between (dCons (dVar 3) (dCons (dVar 10) dNil))) (dCons (dIf (dTest (dOp fGt (dFn fLen (dCons (dVarB 11) dNil)) (dC (.int 0)))) (dOp fIx (dVarB 11) (dC (.int 0))) (dC .none)) dNil)))))
  (dRet (dC (.bool false)))
  dNx))))
  (dRet (dC (.bool true))))))))
theorem row_ints {ys : List D} {n : Nat} (h : ys.Perm (rngD 1 n)) : ∃ ns : List Int, ys = intsD ns ∧ ns.Nodup ∧ ns.length = n ∧ ∀ j ∈ ns, 1 ≤ j ∧ j ≤ n := by
  rw [rngD_ints] at h
  have hw : ys.all isW = true := List.all_eq_true.mpr fun x m => by
    obtain ⟨j, _, rfl⟩ := List.mem_map.mp (h.mem_iff.mp m)
    rfl
  obtain ⟨ns, rfl⟩ := intsD_of hw
  have p : ns.Perm ((List.range n).map fun i => (1 : Int) + (i : Nat)) := by
    have z := h.map numD
    rwa [numD_ints, numD_ints] at z
  refine ⟨ns, rfl, p.nodup_iff.mpr ?_, by rw [p.length_eq]; simp, fun j m => ?_⟩
  · refine List.pairwise_map.mpr (List.nodup_range.imp fun {a b} hab e => hab (by omega))
  · obtain ⟨i, hi, rfl⟩ := List.mem_map.mp (p.mem_iff.mp m)
    have := List.mem_range.mp hi
    omega
theorem plain_tupI {ns : List Int} {n : Nat} (h : ns.length ≤ 1000) : plainB (n + 1) (.tuple (intsD ns)) = true := plain_mono (n := 1) (plain_tuple (plain_ints ns) (by rw [intsD_length]; omega)) (by omega)
theorem plain_betw {xs ys : List Int} {n : Nat} (hl : ys.length = xs.length) (h : xs.length ≤ 1000) : plainB (n + 1) (betwD xs ys) = true := by
  unfold betwD
  split
  · exact plain_tupI (Nat.le_trans (sameP_len xs ys 1 hl) h)
  · simp [plainB]
theorem plain_sorted {ns : List Int} {n : Nat} (h : ns.length ≤ 1000) : plainB (n + 1) (.tuple (sortD (intsD ns))) = true := by
  unfold sortD
  rw [sort_ints]
  exact plain_tupI (by rw [(List.mergeSort_perm _ _).length_eq]; exact h)
theorem plain_listOf {n : Nat} {xs : List D} (h : ∀ x ∈ xs, plainB n x = true) (hl : xs.length ≤ 1000) : plainB (n + 1) (.list xs) = true := plain_list h (by omega)
/-- a change that leads from one row to the other -/
def leadsB (ns os : List Int) (d : D) : Bool := match d with
  | .tuple r => decide (rungG (r.map numD) ns 1 = os)
  | _ => false
theorem leadsB_tup (ns os cs : List Int) : leadsB ns os (.tuple (intsD cs)) = decide (rungG cs ns 1 = os) := by
  unfold leadsB
  dsimp only
  rw [numD_ints]
theorem betw_find2 {st : Int} {xs ys : List Int} (hst : (xs.length : Int) = st) (nd : xs.Nodup) : ((changesD st).filter (leadsB xs ys)).head?.getD .none = betwD xs ys := betw_find hst nd
def K4I (a : Addr) (st : Int) (ns : List Int) (s0 : (poolA a).S) (r : List D) (ρ : Rho) (s' : (poolA a).S) : Prop :=
  s' = s0 ∧ (∀ x ∈ r, x ∈ changesD st) ∧ ∃ c5 c6 c7, freeC (some c5) ∧ ρ = [.un, .fz (refD a), .fz (.int st), .fz (.tuple (intsD ns)), .fz (.list (changesD st)), c5, c6, c7, .un, .un, .un, .un]
def K4J (a : Addr) (st : Int) (ns : List Int) (s0 : (poolA a).S) (c5 c6 c7 : Cell) (r : List D) (ρ : Rho) (s' : (poolA a).S) : Prop :=
  s' = s0 ∧ ∃ c9 c10 c11, ρ = [.un, .fz (refD a), .fz (.int st), .fz (.tuple (intsD ns)), .fz (.list (changesD st)), c5, c6, c7, .un, c9, c10, c11]
theorem p_law_k04 (a : Addr) (s : (poolA a).S) : t_law_k04 (S_stage a) (S_row a) S_changes_of S_rung S_rung S_change_between S_mirrored (S_same 10) (S_draw a) (S_L_pick a) (lawEnds _) (ρLaw a 10) s := by
  have e : ρLaw a 10 = [.un, .fz (refD a), .un, .un, .un, .un, .un, .un, .un, .un, .un, .un] := rfl
  have hs : 100000 ≤ sizeLine := by decide
  unfold t_law_k04
  rw [e, q_dSeq]
  simp [-q_dSeq, -q_dIfS]
  refine ⟨8, rfl, by omega, by omega, fun st s3 s8 => ?_⟩
  dsimp only
  rw [q_dSeq]
  simp [-q_dSeq, -q_dIfS]
  refine ⟨st, rfl, by omega, by omega, fun ys hp => ?_⟩
  dsimp only
  obtain ⟨ns, rfl, nd, hl, hb⟩ := row_ints hp
  rw [q_dSeq]
  simp [-q_dSeq, -q_dIfS]
  refine ⟨st, rfl, s3, s8, ?_⟩
  try dsimp only
  obtain ⟨c1, c2⟩ := ch_some s3 s8
  have hst : (ns.length : Int) = st := by omega
  rw [q_dSeq]
  refine for_of (xs := changesD st) (fun k z => by simpa using z) (K4I a st ns s) ⟨rfl, fun _ m => m, .un, .un, .un, trivial, rfl⟩ ?_ ?_
  · rintro x r ρ s' ⟨rfl, hx, c5, c6, c7, f5, rfl⟩ D' hrt hbk hnx hct
    obtain ⟨cs, hcs, rfl⟩ := mem_changesD (hx x (List.mem_cons_self ..))
    obtain ⟨cw, cl⟩ := ch_wt s3 s8 cs hcs
    have cok : changeB ns.length (tupI cs) = true := by rw [hst]; exact (mem_chS (by omega)).mp hcs
    have lr := rungG_length cs ns 1
    simp
    refine ⟨_, _, rfl, by rw [intsD_length]; omega, ?_⟩
    rw [rung_ints]
    simp
    refine ⟨_, _, rfl, by rw [intsD_length]; omega, ?_⟩
    rw [rung_ints]
    refine ⟨_, _, rfl, by rw [intsD_length]; omega, ?_⟩
    rw [rung_ints, rungG_twice cs _ ns 1 (Nat.le_refl _)]
    refine ⟨_, _, rfl, lr, by omega, ?_⟩
    rw [betwD_rung nd cok, show tupI cs = .tuple (intsD cs) from rfl]
    refine ⟨_, _, rfl, by omega, ?_⟩
    refine ⟨by omega, ?_⟩
    refine comp_pure (xs := intsD cs) (fun k z => by simpa using z) (by simp) (by rw [intsD_length]; omega) (fun x => some (.int (st + 1 - numD x))) (fun x m s k z => ?_) ?_
    · obtain ⟨j, _, rfl⟩ := List.mem_map.mp m
      simpa [numD] using z
    · rw [fm_some]
      have e2 : (intsD cs).map (fun x => PyData.int (st + 1 - numD x)) = intsD (cs.map fun c => st + 1 - c) := by
        unfold intsD
        rw [List.map_map, List.map_map]
        rfl
      rw [e2]
      simp
      refine ⟨sortOk_ints' _, by omega, ?_⟩
      have pl : plainB 9 (.list [.tuple (intsD (rungG cs ns 1)), .tuple (intsD ns), .tuple (intsD cs), .tuple (sortD (intsD (cs.map fun c => st + 1 - c)))]) = true := by
        refine plain_listOf (n := 8) (fun x m => ?_) (by simp)
        simp only [List.mem_cons, List.not_mem_nil, or_false] at m
        rcases m with rfl | rfl | rfl | rfl
        · exact plain_tupI (by omega)
        · exact plain_tupI (by omega)
        · exact plain_tupI (by omega)
        · exact plain_sorted (by rw [List.length_map]; omega)
      refine ⟨_, _, 9, rfl, rfl, ⟨9, pl⟩, pl, ?_⟩
      rw [sameB_eq]
      simp
      exact hnx _ _ ⟨rfl, fun y m => hx y (List.mem_cons_of_mem _ m), .fz (.tuple (intsD cs)), _, _, trivial, rfl⟩
  · rintro ρ s' ⟨rfl, _, c5, c6, c7, f5, rfl⟩
    dsimp only
    rw [q_dSeq]
    refine for_of (xs := rngD 0 8) (fun k z => by simpa using z) (K4J a st ns s' c5 c6 c7) ⟨rfl, .un, .un, .un, rfl⟩ ?_ ?_
    · rintro x r ρ s'' ⟨rfl, c9, c10, c11, rfl⟩ D' hrt hbk hnx hct
      simp
      refine ⟨st, rfl, by omega, by omega, fun zs hz => ?_⟩
      obtain ⟨ms, rfl, nd2, hl2, hb2⟩ := row_ints hz
      refine ⟨_, _, rfl, rfl, c1, by omega, fun x1 m1 => ?_⟩
      obtain ⟨cs1, hc1, rfl⟩ := mem_changesD m1
      have lr1 := rungG_length cs1 ns 1
      refine ⟨_, _, rfl, by rw [intsD_length]; omega, ?_⟩
      rw [rung_ints]
      refine ⟨_, _, rfl, rfl, c1, by omega, fun x2 m2 => ?_⟩
      obtain ⟨cs2, hc2, rfl⟩ := mem_changesD m2
      have lr2 := rungG_length cs2 (rungG cs1 ns 1) 1
      refine ⟨_, _, rfl, by rw [intsD_length]; omega, ?_⟩
      rw [rung_ints]
      refine ⟨by omega, ?_⟩
      refine ⟨3, rfl, by omega, by omega, fun v v0 v3 => ?_⟩
      dsimp only
      rw [q_ixT]
      refine atI_mem v0 (by simpa using v3) fun d md => ?_
      obtain ⟨os, rfl, hos⟩ : ∃ os : List Int, d = .tuple (intsD os) ∧ os.length = ns.length := by
        simp only [List.mem_cons, List.not_mem_nil, or_false] at md
        rcases md with rfl | rfl | rfl
        · exact ⟨ms, rfl, by omega⟩
        · exact ⟨_, rfl, by omega⟩
        · exact ⟨ns, rfl, rfl⟩
      try simp
      refine comp_pure (xs := changesD st) (fun k z => by simpa using z) (by simpa using f5) (by omega) (fun x => if leadsB ns os x = true then some x else none) (fun x m s k z => ?_) ?_
      · obtain ⟨cs, hcs, rfl⟩ := mem_changesD m
        simp
        refine ⟨_, _, rfl, by rw [intsD_length]; omega, ?_⟩
        rw [rung_ints]
        simp
        refine ⟨eqOk_intsT _ _, ?_⟩
        rw [eqv_intsT]
        rw [leadsB_tup] at z
        by_cases c : rungG cs ns 1 = os <;> simpa [c] using z
      · rw [fm_if]
        have bf := betw_find2 (st := st) (xs := ns) (ys := os) hst nd
        generalize (changesD st).filter (leadsB ns os) = F at bf
        simp
        refine ⟨_, _, rfl, hos, by omega, ?_⟩
        have pb : plainB 9 (betwD ns os) = true := plain_betw hos (by omega)
        cases F with
        | nil =>
          have bf : PyData.none = betwD ns os := bf
          rw [← bf]
          simp
          refine ⟨_, _, 9, rfl, rfl, ⟨0, by simp [plainB]⟩, by simp [plainB], ?_⟩
          rw [sameB_eq]
          simp
          exact hnx _ _ ⟨rfl, _, _, _, rfl⟩
        | cons c r =>
          have bf : c = betwD ns os := bf
          subst bf
          simp
          rw [show atI (betwD ns os :: r) (0 : Int) = some (betwD ns os) from atI_nat (j := 0) rfl]
          simp
          refine ⟨_, _, 9, rfl, rfl, ⟨9, pb⟩, pb, ?_⟩
          rw [sameB_eq]
          simp
          exact hnx _ _ ⟨rfl, _, _, _, rfl⟩
    · rintro ρ s'' ⟨rfl, c9, c10, c11, rfl⟩
      simp
end Dl
/-! Pieces. -/
namespace Dl
open PySem L2
def t_is_piece {A : Amb} (S_is_change : FS A) : DS A :=
  (dSeq (dIfS (dOrT (dNotT (dTest (dUn (fIsi .tuple) (dVarB 1)))) (dNotT (dTest (dChain fLe fLe (dC (.int 1)) (dFn fLen (dCons (dVarB 1) dNil)) (dC (.int 5040))))))
  (dRet (dC (.bool false)))
  dNx)
  (dRet (dFn fAll (dCons (dOfN (nComp (dIt (dVar 1)) (dgN 2) dYes (dCall S_is_change (dCons (dVar 0) (dCons (dVar 2) dNil))) [2])) dNil))))
def t_rows_of {A : Amb} (S_rung : FS A) : DS A :=
  (dSeq (dSetN 2 (nLst (dCons (dVar 1) dNil)))
  (dSeq (dFor (dIt (dVar 0)) (dgN 3)
  (dApp 2 (dCall S_rung (dCons (dOp fIx (dVarB 2) (dUn fNeg (dC (.int 1)))) (dCons (dVar 3) dNil)))))
  (dFrz 2 (dRet (dVar 2)))))
def t_head_of {A : Amb} (S_rows_of S_rounds : FS A) : DS A :=
  (dRet (dOp fIx (dCall S_rows_of (dCons (dVar 1) (dCons (dCall S_rounds (dCons (dVar 0) dNil)) dNil))) (dUn fNeg (dC (.int 1)))))
def t_L_listed {A : Amb} (S_L_listed : FS A) : DS A :=
  (dSeq (dIfS (dNotT (dTest (dUn (fIsi .tuple) (dVarB 0))))
  (dRet (dVar 0))
  dNx)
  (dRet (dIf (dTest (dOp fEqU (dVarB 1) (dC (.int 0)))) (dOfN (nFn gList (dCons (dVarB 0) dNil))) (dFn fTuple (dCons (dOfN (nComp (dIt (dVar 0)) (dgN 2) dYes (dCall S_L_listed (dCons (dVar 2) (dCons (dOp fSub (dVarB 1) (dC (.int 1))) dNil))) [2])) dNil)))))
def t_L_rows {A : Amb} (S_L_rung : FS A) : DS A :=
  (dSeq (dSetN 2 (nLst (dCons (dVar 1) dNil)))
  (dSeq (dFor (dIt (dVar 0)) (dgN 3)
  (dApp 2 (dCall S_L_rung (dCons (dOp fIx (dVarB 2) (dUn fNeg (dC (.int 1)))) (dCons (dVar 3) dNil)))))
  (dFrz 2 (dRet (dVar 2)))))
def t_L_head {A : Amb} (S_L_rows S_L_rounds : FS A) : DS A :=
  (dRet (dOp fIx (dCall S_L_rows (dCons (dVar 1) (dCons (dCall S_L_rounds (dCons (dVar 0) dNil)) dNil))) (dUn fNeg (dC (.int 1)))))
def t_L_piece {A : Amb} (S_L_changes S_L_draw S_L_pick : FS A) : DS A :=
  (dSeq (dSet 3 (dCall S_L_changes (dCons (dVar 1) dNil)))
  (dSeq (dSet 4 (dCall S_L_draw (dCons (dVar 0) (dCons (dC (.int 4)) dNil))))
  (dSeq (dIfS (dTest (dOp fEqU (dVarB 4) (dC (.int 0))))
  (dSeq (dSet 5 (dOfN (nComp (dRg1 (dCons (dOp fAdd (dC (.int 1)) (dCall S_L_draw (dCons (dVar 0) (dCons (dOp fDiv (dVarB 2) (dC (.int 2))) dNil)))) dNil)) (dgN 6) dYes (dCall S_L_pick (dCons (dVar 0) (dCons (dVar 3) dNil))) [6])))
  (dRet (dFn fTuple (dCons (dSl (dOp fAdd (dOp fAdd (dOp fAdd (dVarB 5) (dLst (dCons (dCall S_L_pick (dCons (dVar 0) (dCons (dVar 3) dNil))) dNil))) (dRev (dVarB 5))) (dLst (dCons (dCall S_L_pick (dCons (dVar 0) (dCons (dVar 3) dNil))) dNil))) oNone (oSome (dVarB 2))) dNil))))
  dNx)
  (dSeq (dIfS (dTest (dOp fEqU (dVarB 4) (dC (.int 1))))
  (dSeq (dSet 7 (dIf (dTest (dOp fEqU (dOp fMod (dFn fInt (dCons (dVarB 1) dNil)) (dC (.int 2))) (dC (.int 1)))) (dLst (dCons (dTup (dCons (dC (.int 1)) dNil)) (dCons (dTup (dCons (dVar 1) dNil)) dNil))) (dLst (dCons (dTup dNil) (dCons (dTup (dCons (dC (.int 1)) (dCons (dVar 1) dNil))) dNil)))))
  (dSeq (dSet 8 (dOp fMul (dC (.int 2)) (dVarB 1)))
  (dRet (dSl (dFn fTuple (dCons (dOp fAdd (dSl (dOp fMul (dVarB 7) (dVarB 1)) oNone (oSome (dOp fSub (dVarB 8) (dC (.int 1))))) (dLst (dCons (dCall S_L_pick (dCons (dVar 0) (dCons (dVar 3) dNil))) dNil))) dNil)) oNone (oSome (dVarB 2))))))
  dNx)
  (dRet (dFn fTuple (dCons (dOfN (nComp (dRg1 (dCons (dOp fAdd (dC (.int 1)) (dCall S_L_draw (dCons (dVar 0) (dCons (dVar 2) dNil)))) dNil)) (dgN 6) dYes (dCall S_L_pick (dCons (dVar 0) (dCons (dVar 3) dNil))) [6])) dNil)))))))
/-! ### is_piece -/
def pieceB (st : Int) : D → Bool
  | .tuple xs => decide (1 ≤ xs.length) && decide (xs.length ≤ 5040) && xs.all (changeB st)
  | _ => false
/-- what is asked of the items of what may be a piece -/
def itemsOk : D → Prop
  | .tuple xs => xs.length ≤ 5040 → ∀ x ∈ xs, flat1 x ∧ lenOk x
  | _ => True
section
variable {A : Amb} {ds : List D} {s : A.S} {Q : D → A.S → Prop}
def S_is_piece : FS A := fun ds s Q => ∃ (st : Int) (v : D), ds = [.int st, v] ∧ notDict v ∧ itemsOk v ∧ Q (.bool (pieceB st v)) s
theorem p_is_piece (h : S_is_piece ds s Q) : t_is_piece S_is_change (retE Q) (startR 3 ds) s := by
  obtain ⟨st, v, rfl, nd, ok, q⟩ := h
  have e : startR 3 [.int st, v] = [.fz (.int st), .fz v, .un] := rfl
  have hs : 100000 ≤ sizeLine := by decide
  unfold t_is_piece
  simp [e, nd]
  cases v with
  | tuple xs =>
    simp
    by_cases h1 : 1 ≤ xs.length
    · by_cases h2 : xs.length ≤ 5040
      · have h1' : (1 : Int) ≤ xs.length := by omega
        have h2' : (xs.length : Int) ≤ 5040 := by omega
        simp [h1', h2']
        refine comp_pure (xs := xs) (fun k z => by simpa using z) (by simp) (by omega) (fun x => some (.bool (changeB st x))) (fun x m s k z => ?_) ?_
        · have o := ok h2 x m
          simp
          exact ⟨st, x, rfl, o.1, o.2, z⟩
        · rw [fm_some]
          show fAll [.list _] _
          rw [q_all, boolsV_map, List.all_map]
          simpa [pieceB, h1, h2] using q
      · have h1' : (1 : Int) ≤ xs.length := by omega
        have h2' : ¬ (xs.length : Int) ≤ 5040 := by omega
        simp [h1', h2']
        simpa [pieceB, h1, h2] using q
    · have h1' : ¬ (1 : Int) ≤ xs.length := by omega
      simp [h1']
      simpa [pieceB, h1] using q
  | dict _ => exact nd.elim
  | _ => simpa [pieceB] using q
/-! ### rows -/
def rowsG {α : Type} : List (List Int) → List α → List (List α)
  | [], xs => [xs]
  | c :: r, xs => xs :: rowsG r (rungG c xs 1)
def lastG {α : Type} : List (List Int) → List α → List α
  | [], xs => xs
  | c :: r, xs => lastG r (rungG c xs 1)
theorem rowsG_len {α : Type} : ∀ (cs : List (List Int)) (xs : List α), (rowsG cs xs).length = cs.length + 1
  | [], _ => rfl
  | c :: r, xs => by rw [rowsG, List.length_cons, List.length_cons, rowsG_len r]
theorem rowsG_ne {α : Type} (cs : List (List Int)) (xs : List α) : rowsG cs xs ≠ [] := by cases cs <;> simp [rowsG]
theorem rowsG_last {α : Type} : ∀ (cs : List (List Int)) (xs : List α), (rowsG cs xs).getLast? = some (lastG cs xs)
  | [], _ => rfl
  | c :: r, xs => by
    rw [rowsG, lastG, ← rowsG_last r]
    cases h : rowsG r (rungG c xs 1) with
    | nil => exact (rowsG_ne _ _ h).elim
    | cons y z => rfl
theorem lastG_len {α : Type} : ∀ (cs : List (List Int)) (xs : List α), (lastG cs xs).length = xs.length
  | [], _ => rfl
  | c :: r, xs => by rw [lastG, lastG_len r, rungG_length]
theorem atI_last {xs : List D} {d : D} (h : xs.getLast? = some d) : atI xs (-1) = some d := by
  have ne : xs ≠ [] := fun z => by rw [z] at h; cases h
  have hp := List.length_pos_iff.mpr ne
  unfold atI ixN
  rw [if_neg (by omega), if_pos (by omega)]
  have e : ((-1 : Int) + (xs.length : Nat)).toNat = xs.length - 1 := by omega
  rw [e]
  show xs[xs.length - 1]? = some d
  rw [← List.getLast?_eq_getElem?]
  exact h
def S_rows_of : FS A := fun ds s Q => ∃ (cs : List (List Int)) (xs : List D), ds = [.tuple (cs.map tupI), .tuple xs] ∧ cs.length ≤ 50000 ∧ xs.length ≤ 1000 ∧ Q (.list ((rowsG cs xs).map .tuple)) s
/-- where the loop stands -/
def RowsI (c0 : List (List Int)) (x0 : List D) (q : D → Prop) (s0 : A.S) (r : List D) (ρ : Rho) (s' : A.S) : Prop :=
  s' = s0 ∧ ∃ (cs : List (List Int)) (found : List D) (xs : List D) (c : Cell), r = cs.map tupI ∧ found.length + cs.length ≤ c0.length ∧ xs.length ≤ 1000 ∧ ρ = [.fz (.tuple (c0.map tupI)), .fz (.tuple x0), .ol (found ++ [.tuple xs]), c] ∧ q (.list (found ++ (rowsG cs xs).map .tuple))
theorem p_rows_of (h : S_rows_of ds s Q) : t_rows_of S_rung (retE Q) (startR 4 ds) s := by
  obtain ⟨cs, xs, rfl, hc, hx, q⟩ := h
  have e : startR 4 [.tuple (cs.map tupI), .tuple xs] = [.fz (.tuple (cs.map tupI)), .fz (.tuple xs), .un, .un] := rfl
  have hs : 100000 ≤ sizeLine := by decide
  unfold t_rows_of
  simp [e]
  refine ⟨by omega, ?_⟩
  refine for_of (xs := cs.map tupI) (fun k z => by simpa using z) (RowsI cs xs (fun d => Q d s) s) ⟨rfl, cs, [], xs, .un, rfl, by simp, hx, rfl, q⟩ ?_ ?_
  · rintro x r ρ s' ⟨rfl, cs', found, ys, c, hr, hl, hy, rfl, qq⟩ D' hrt hbk hnx hct
    cases cs' with
    | nil => cases hr
    | cons c1 cs' =>
      obtain ⟨rfl, rfl⟩ := List.cons.inj hr
      simp at hl
      simp
      rw [atI_last (xs := found ++ [PyData.tuple ys]) (d := PyData.tuple ys) (by simp)]
      simp
      refine ⟨ys, c1, rfl, hy, by omega, ?_⟩
      refine hnx _ _ ⟨rfl, cs', found ++ [.tuple ys], rungG c1 ys 1, .fz (tupI c1), rfl, by simp; omega, by rw [rungG_length]; exact hy, by simp, ?_⟩
      simpa [rowsG] using qq
  · rintro ρ s' ⟨rfl, cs', found, ys, c, hr, hl, hy, rfl, qq⟩
    cases cs' with
    | cons _ _ => cases hr
    | nil => simpa [rowsG] using qq
theorem p_L_rows (h : S_rows_of ds s Q) : t_L_rows S_rung (retE Q) (startR 4 ds) s := p_rows_of h
def S_head_of : FS A := fun ds s Q => ∃ (st : Int) (cs : List (List Int)), ds = [.int st, .tuple (cs.map tupI)] ∧ 0 ≤ st ∧ st ≤ 1000 ∧ cs.length ≤ 50000 ∧ Q (.tuple (lastG cs (rngD 1 st.toNat))) s
theorem p_head_of (h : S_head_of ds s Q) : t_head_of S_rows_of S_rounds (retE Q) (startR 2 ds) s := by
  obtain ⟨st, cs, rfl, h0, h1, hc, q⟩ := h
  have e : startR 2 [.int st, .tuple (cs.map tupI)] = [.fz (.int st), .fz (.tuple (cs.map tupI))] := rfl
  unfold t_head_of
  simp [e]
  refine ⟨st, rfl, h0, h1, cs, _, rfl, hc, by rw [rngD_length]; omega, ?_⟩
  simp
  rw [atI_last (d := .tuple (lastG cs (rngD 1 st.toNat)))]
  · exact q
  · rw [List.getLast?_map, rowsG_last]
    rfl
theorem p_L_head (h : S_head_of ds s Q) : t_L_head S_rows_of S_rounds (retE Q) (startR 2 ds) s := p_head_of h
/-! ### _law_listed -/
def S_listed (l : Nat) : FS A := fun ds s Q => ∃ (d : D) (k : Int) (n : Nat), ds = [d, .int k] ∧ l = n + 1 ∧ plainB n d = true ∧ ∀ d', okD n (wt d) d' → itemsOf d d' → Q d' s
theorem p_L_listed {l : Nat} (h : S_listed (l + 1) ds s Q) : t_L_listed (S_listed l) (retE Q) (startR 3 ds) s := by
  obtain ⟨d, k, n', rfl, hn, pd, q⟩ := h
  cases hn
  have e : startR 3 [d, .int k] = [.fz d, .fz (.int k), .un] := rfl
  have nd := plainB_nd pd
  unfold t_L_listed
  simp [e, nd]
  cases d with
  | tuple xs =>
    obtain ⟨n, rfl, px, hl⟩ := plain_items pd
    simp
    by_cases hk : k = 0
    · simp [hk]
      exact q _ ⟨plain_list px hl, by rw [wt, wt]; omega⟩ (itAll rfl fun y m => ⟨y, m, Nat.le_refl _⟩)
    · simp [hk]
      refine comp_rel (xs := xs) (fun k z => by simpa using z) (by simp) (Nat.le_trans hl (by decide)) (fun x r => ∃ d', r = some d' ∧ okD n (wt x) d') (fun x m s k' z => ?_) (fun rs hr => ?_)
      · simp
        exact ⟨x, k - 1, n, rfl, rfl, px x m, fun d' ok _ => z _ ⟨d', rfl, ok⟩⟩
      · simp
        have all : ∀ (xs : List D) (rs : List (Option D)), All2 (fun x r => ∃ d', r = some d' ∧ okD n (wt x) d') xs rs → (∀ x ∈ rs.filterMap id, plainB n x = true) ∧ (rs.filterMap id).length = xs.length ∧ wtL (rs.filterMap id) ≤ wtL xs := fun xs rs h => by
          induction h with
          | nil => simp
          | cons r t ih =>
            obtain ⟨d', rfl, ok⟩ := r
            rw [show (some d' :: _ : List (Option D)).filterMap id = d' :: List.filterMap id _ from rfl]
            refine ⟨fun x m => ?_, by simpa using ih.2.1, by rw [wtL, wtL]; have := ok.2; have := ih.2.2; omega⟩
            rcases List.mem_cons.mp m with rfl | m
            · exact ok.1
            · exact ih.1 x m
        obtain ⟨a1, a2, a3⟩ := all xs rs hr
        exact q _ ⟨plain_tuple a1 (by omega), by rw [wt, wt]; omega⟩ (itAll rfl (all2_items hr))
  | dict _ => exact nd.elim
  | _ =>
    simp
    exact q _ ⟨pd, Nat.le_refl _⟩ itR
end
end Dl
/-! Drawn pieces. -/
namespace Dl
open PySem L2
theorem changes_list {st : Int} {L : List D} (h : ∀ x ∈ L, x ∈ changesD st) : ∃ pcs : List (List Int), L = pcs.map tupI ∧ ∀ c ∈ pcs, c ∈ chS st := by
  induction L with
  | nil => exact ⟨[], rfl, fun c m => by cases m⟩
  | cons x r ih =>
    obtain ⟨pcs, e, hp⟩ := ih fun y m => h y (List.mem_cons_of_mem _ m)
    obtain ⟨c, hc, rfl⟩ := mem_changesD (h x (List.mem_cons_self ..))
    refine ⟨c :: pcs, by rw [e]; rfl, fun c' m => ?_⟩
    rcases List.mem_cons.mp m with rfl | m
    · exact hc
    · exact hp c' m
theorem in_changesD {st : Int} {c : List Int} (h : c ∈ chS st) : tupI c ∈ changesD st := (List.mergeSort_perm _ _).mem_iff.mpr (List.mem_map.mpr ⟨c, h, rfl⟩)
theorem hunt_ok {st : Int} (h3 : 3 ≤ st) (h8 : st ≤ 8) : (st % 2 = 1 → [1] ∈ chS st ∧ [st] ∈ chS st) ∧ (¬ st % 2 = 1 → [] ∈ chS st ∧ [1, st] ∈ chS st) := by
  rcases (by omega : st = 3 ∨ st = 4 ∨ st = 5 ∨ st = 6 ∨ st = 7 ∨ st = 8) with rfl | rfl | rfl | rfl | rfl | rfl <;> decide +kernel
/-- what is walked is told first -/
theorem comp_it {A : Amb} {it : DI A} {g : DG A} {tt : DT A} {te : DE A} {vs : List Nat} {ρ : Rho} {s : A.S} {QC : Cell → A.S → Prop} (h : it ρ s fun xs s' => nComp (fun _ s Q => Q xs s) g tt te vs ρ s' QC) : nComp it g tt te vs ρ s QC := h
section
variable {a : Addr} {ds : List D} {s : (poolA a).S} {Q : D → (poolA a).S → Prop}
/-- so many picks -/
theorem picks {st : Int} (h3 : 3 ≤ st) (h8 : st ≤ 8) {n : Nat} (hn : n ≤ 10000) {ρ : Rho} {it : DI (poolA a)} {QC : Cell → (poolA a).S → Prop} {i : Nat} (hi : ∀ k : List D → (poolA a).S → Prop, k (rngD 0 n) s → it ρ s k) (cl : clean ρ [i]) (i3 : i ≠ 3) (i0 : i ≠ 0) (hρ0 : ρ[0]? = some (.fz (refD a))) (hρ3 : ρ[3]? = some (.fz (.list (changesD st))))
    (q : ∀ L : List D, (∀ x ∈ L, x ∈ changesD st) → L.length = n → QC (.ol L) s) : nComp it (dgN i) dYes (dCall (S_L_pick a) (dCons (dVar 0) (dCons (dVar 3) dNil))) [i] ρ s QC := by
  have hs : 100000 ≤ sizeLine := by decide
  obtain ⟨c1, c2⟩ := ch_some h3 h8
  refine comp_rel (xs := rngD 0 n) hi cl (by rw [rngD_length]; omega) (fun x r => ∃ d', r = some d' ∧ d' ∈ changesD st) (fun x m s k z => ?_) (fun rs hr => ?_)
  · simp
    rw [List.getElem?_set_ne i0, hρ0]
    simp
    rw [List.getElem?_set_ne i3, hρ3]
    simp
    exact ⟨_, _, rfl, rfl, c1, by omega, fun d hd => z _ ⟨d, rfl, hd⟩⟩
  · have all : ∀ (xs : List D) (rs : List (Option D)), All2 (fun _ r => ∃ d', r = some d' ∧ d' ∈ changesD st) xs rs → (∀ x ∈ rs.filterMap id, x ∈ changesD st) ∧ (rs.filterMap id).length = xs.length := fun xs rs h => by
      induction h with
      | nil => simp
      | cons r t ih =>
        obtain ⟨d', rfl, ok⟩ := r
        rw [show (some d' :: _ : List (Option D)).filterMap id = d' :: List.filterMap id _ from rfl]
        refine ⟨fun x m => ?_, by simpa using ih.2⟩
        rcases List.mem_cons.mp m with rfl | m
        · exact ok
        · exact ih.1 x m
    obtain ⟨a1, a2⟩ := all _ _ hr
    exact q _ a1 (by rw [a2, rngD_length])
def S_L_piece (a : Addr) : FS (poolA a) := fun ds s Q => ∃ st m : Int, ds = [refD a, .int st, .int m] ∧ 3 ≤ st ∧ st ≤ 8 ∧ 2 ≤ m ∧ m ≤ 1000 ∧ ∀ L : List D, (∀ x ∈ L, x ∈ changesD st) → 1 ≤ L.length → L.length ≤ m.toNat → Q (.tuple L) s
theorem cut_ok {st m : Int} {L : List D} (hm : 2 ≤ m) (h : ∀ x ∈ L, x ∈ changesD st) (h1 : 1 ≤ L.length) : (∀ x ∈ cutD L none (some m), x ∈ changesD st) ∧ 1 ≤ (cutD L none (some m)).length ∧ (cutD L none (some m)).length ≤ m.toNat := by
  refine ⟨fun x hx => h x (mem_cutD hx), ?_, ?_⟩
  · rw [cutD_to (by omega), List.length_take]
    omega
  · rw [cutD_to (by omega), List.length_take]
    omega
theorem p_L_piece (h : S_L_piece a ds s Q) : t_L_piece S_changes_of (S_draw a) (S_L_pick a) (retE Q) (startR 9 ds) s := by
  obtain ⟨st, m, rfl, h3, h8, m2, mz, q⟩ := h
  have e : startR 9 [refD a, .int st, .int m] = [.fz (refD a), .fz (.int st), .fz (.int m), .un, .un, .un, .un, .un, .un] := rfl
  have hs : 100000 ≤ sizeLine := by decide
  obtain ⟨c1, c2⟩ := ch_some h3 h8
  obtain ⟨hu1, hu2⟩ := hunt_ok h3 h8
  unfold t_L_piece
  rw [e, q_dSeq]
  simp [-q_dSeq, -q_dIfS]
  refine ⟨st, rfl, h3, h8, ?_⟩
  try dsimp only
  rw [q_dSeq]
  simp [-q_dSeq, -q_dIfS]
  refine ⟨4, rfl, by omega, by omega, fun turn t0 t4 => ?_⟩
  dsimp only
  refine seq_if ?_ fun U hU => ?_
  · refine seq_if ?_ fun U hU => ?_
    · rw [q_dRet, q_dFn, q_dCons, q_dOfN]
      refine comp_it ?_
      simp
      refine ⟨m, rfl, by omega, by omega, fun v v0 v1 => ?_⟩
      refine ⟨_, rfl, ⟨by omega, by omega⟩, ?_⟩
      refine picks (i := 6) h3 h8 (n := (1 + v).toNat) (by omega) (fun k z => z) ?_ (by decide) (by decide) ?_ ?_ fun L hL hl => ?_
      · simp
      · rfl
      · rfl
      · simp
        exact q _ hL (by omega) (by omega)
    · have hunt : ∀ T : List D, (∀ x ∈ T, x ∈ changesD st) → T.length = 2 → CMul 2 st ∧
          fMul (PyData.list T) (PyData.int st) fun z => slV z none (some (2 * st - 1)) fun d => S_L_pick a [refD a, PyData.list (changesD st)] s fun x s1 => 1 ≤ sizeLine ∧ fAdd d (PyData.list [x]) fun z => fTuple [z] fun z => slV z none (some m) fun d => Q d s1 := fun T hT lT => by
        refine ⟨.inl ⟨by decide, by decide⟩, ?_⟩
        have fl : (List.replicate st.toNat T).flatten.length ≤ 16 := by
          rw [List.length_flatten]
          simp [lT]
          omega
        refine ⟨by omega, by omega, by rw [lT]; omega, ?_⟩
        simp
        refine ⟨_, _, rfl, rfl, c1, by omega, fun x hx => ?_⟩
        have ml : ∀ y ∈ cutD (List.replicate st.toNat T).flatten none (some (2 * st - 1)) ++ [x], y ∈ changesD st := fun y my => by
          rcases List.mem_append.mp my with my | my
          · obtain ⟨r, hr, hy⟩ := List.mem_flatten.mp (mem_cutD my)
            rw [List.eq_of_mem_replicate hr] at hy
            exact hT y hy
          · rw [List.mem_singleton.mp my]; exact hx
        obtain ⟨p1, p2, p3⟩ := cut_ok m2 ml (by simp)
        have lc := len_cutD (ds := (List.replicate st.toNat T).flatten) (l := none) (u := some (2 * st - 1))
        simp
        exact ⟨by omega, by omega, q _ p1 p2 p3⟩
      simp
      split
      · rename_i ht
        by_cases ho : st % 2 = 1
        · obtain ⟨k1, k2⟩ := hu1 ho
          simp [ho]
          have hh : ∀ x ∈ [PyData.tuple [PyData.int 1], PyData.tuple [PyData.int st]], x ∈ changesD st := fun x mx => by
            simp only [List.mem_cons, List.not_mem_nil, or_false] at mx
            rcases mx with rfl | rfl
            · exact in_changesD k1
            · exact in_changesD k2
          exact ⟨by omega, by omega, hunt _ hh rfl⟩
        · obtain ⟨k1, k2⟩ := hu2 ho
          simp [ho]
          have hh : ∀ x ∈ [PyData.tuple [], PyData.tuple [PyData.int 1, PyData.int st]], x ∈ changesD st := fun x mx => by
            simp only [List.mem_cons, List.not_mem_nil, or_false] at mx
            rcases mx with rfl | rfl
            · exact in_changesD k1
            · exact in_changesD k2
          exact ⟨by omega, hunt _ hh rfl⟩
      · exact hU
  · simp
    split
    · refine comp_it ?_
      simp
      refine ⟨⟨by decide, by decide⟩, m / 2, rfl, by omega, by omega, fun v v0 v1 => ?_⟩
      refine ⟨_, rfl, ⟨by omega, by omega⟩, ?_⟩
      refine picks (i := 6) h3 h8 (n := (1 + v).toNat) (by omega) (fun k z => z) ?_ (by decide) (by decide) ?_ ?_ fun L hL hl => ?_
      · simp
      · rfl
      · rfl
      · simp
        refine ⟨_, _, rfl, rfl, c1, by omega, fun x hx => ?_⟩
        simp
        refine ⟨by omega, by omega, by omega, _, _, rfl, rfl, c1, by omega, fun y hy => ?_⟩
        have ml : ∀ z ∈ L ++ x :: (L.reverse ++ [y]), z ∈ changesD st := fun z mz => by
          rcases List.mem_append.mp mz with mz | mz
          · exact hL z mz
          · rcases List.mem_cons.mp mz with rfl | mz
            · exact hx
            · rcases List.mem_append.mp mz with mz | mz
              · exact hL z (List.mem_reverse.mp mz)
              · rw [List.mem_singleton.mp mz]; exact hy
        obtain ⟨p1, p2, p3⟩ := cut_ok m2 ml (by simp; omega)
        simp
        exact ⟨by omega, by omega, q _ p1 p2 p3⟩
    · exact hU
end
end Dl
/-! The law k05 over data. -/
namespace Dl
open PySem L2
def t_law_k05 {A : Amb} (S_L_stage S_L_piece S_L_row S_L_same S_L_booled S_L_listed S_L_bent S_rows_of S_head_of S_L_rows S_L_head S_is_piece S_L_is_change : FS A) : DS A :=
  (dSeq (dSet 2 (dCall S_L_stage (dCons (dVar 1) (dCons (dC (.int 8)) dNil))))
  (dSeq (dSet 3 (dCall S_L_piece (dCons (dVar 1) (dCons (dVar 2) (dCons (dC (.int 60)) dNil)))))
  (dSeq (dSet 4 (dCall S_L_row (dCons (dVar 1) (dCons (dVar 2) dNil))))
  (dSeq (dIfS (dNotT (dTest (dCall S_L_same (dCons (dLst (dCons (dCall S_rows_of (dCons (dVar 3) (dCons (dVar 4) dNil))) (dCons (dCall S_head_of (dCons (dVar 2) (dCons (dVar 3) dNil))) dNil))) (dCons (dLst (dCons (dCall S_L_rows (dCons (dVar 3) (dCons (dVar 4) dNil))) (dCons (dCall S_L_head (dCons (dVar 2) (dCons (dVar 3) dNil))) dNil))) dNil)))))
  (dRet (dC (.bool false)))
  dNx)
  (dSeq (dSet 5 (dLst (dCons (dVar 3) (dCons (dOfN (nFn gList (dCons (dVarB 3) dNil))) (dCons (dCall S_L_booled (dCons (dVar 3) dNil)) (dCons (dCall S_L_listed (dCons (dVar 3) (dCons (dC (.int 1)) dNil))) (dCons (dOp fAdd (dVarB 3) (dTup (dCons (dTup (dCons (dC (.int 0)) dNil)) dNil))) (dCons (dOp fAdd (dVarB 3) (dTup (dCons (dC .none) dNil))) (dCons (dOp fAdd (dVarB 3) (dTup (dCons (dTupRg (dC (.int 1)) (dOp fAdd (dVarB 2) (dC (.int 1)))) dNil))) (dCons (dTup dNil) (dCons (dC .none) dNil)))))))))))
  (dSeq (dSet 5 (dOp fAdd (dVarB 5) (dLst (dCons (dTup (dCons (dTup dNil) dNil)) (dCons (dOp fMul (dVarB 3) (dC (.int 84))) (dCons (dOp fMul (dVarB 3) (dC (.int 5040))) (dCons (dOp fMul (dSl (dVarB 3) oNone (oSome (dC (.int 1)))) (dC (.int 5040))) (dCons (dOp fMul (dSl (dVarB 3) oNone (oSome (dC (.int 1)))) (dC (.int 5041))) dNil))))))))
  (dSeq (dFor (dIt (dOp fAdd (dVarB 5) (dOfN (nComp (dRg1 (dCons (dC (.int 6)) dNil)) (dgN 7) dYes (dCall S_L_bent (dCons (dVar 1) (dCons (dVar 3) dNil))) [7])))) (dgN 6)
  (dSeq (dSet 8 (dAnd (dUn (fIsi .tuple) (dVarB 6)) (dAnd (dOp fGt (dFn fLen (dCons (dVarB 6) dNil)) (dC (.int 0))) (dAnd (dOp fLt (dFn fLen (dCons (dVarB 6) dNil)) (dC (.int 5041))) (dOp fEqU (dFn fLen (dCons (dOfN (nComp (dIt (dVar 6)) (dgN 9) (dNotT (dTest (dCall S_L_is_change (dCons (dVar 2) (dCons (dVar 9) dNil))))) (dVar 9) [9])) dNil)) (dC (.int 0)))))))
  (dIfS (dNotT (dTest (dCall S_L_same (dCons (dCall S_is_piece (dCons (dVar 2) (dCons (dVar 6) dNil))) (dCons (dVar 8) dNil)))))
  (dRet (dC (.bool false)))
  dNx)))
  (dRet (dC (.bool true))))))))))
theorem rowsG_plain : ∀ (cs : List (List Int)) (xs : List D), (∀ x ∈ xs, plainB 0 x = true) → xs.length ≤ 1000 → ∀ y ∈ (rowsG cs xs).map PyData.tuple, plainB 1 y = true
  | [], xs, h, hl, y, m => by
    simp [rowsG] at m
    subst m
    exact plain_tuple h (by omega)
  | c :: r, xs, h, hl, y, m => by
    rw [rowsG, List.map_cons] at m
    rcases List.mem_cons.mp m with rfl | m
    · exact plain_tuple h (by omega)
    · exact rowsG_plain r (rungG c xs 1) (fun x hx => h x ((rungG_perm c _ xs 1 (Nat.le_refl _)).mem_iff.mp hx)) (by rw [rungG_length]; exact hl) y m
theorem lastG_plain : ∀ (cs : List (List Int)) (xs : List D), (∀ x ∈ xs, plainB 0 x = true) → xs.length ≤ 1000 → plainB 1 (.tuple (lastG cs xs)) = true
  | [], xs, h, hl => by
    rw [lastG]
    exact plain_tuple h (by omega)
  | c :: r, xs, h, hl => lastG_plain r (rungG c xs 1) (fun x hx => h x ((rungG_perm c _ xs 1 (Nat.le_refl _)).mem_iff.mp hx)) (by rw [rungG_length]; exact hl)
theorem ch_items {st : Int} (h3 : 3 ≤ st) (h8 : st ≤ 8) {x : D} (m : x ∈ changesD st) : plainB 1 x = true ∧ wt x ≤ 101 ∧ flat1 x ∧ lenOk x := by
  obtain ⟨cs, hc, rfl⟩ := mem_changesD m
  obtain ⟨w, l⟩ := ch_wt h3 h8 cs hc
  exact ⟨plain_tuple (plain_ints cs) (by rw [intsD_length]; omega), by rw [wt]; omega, flat_ints cs, by simp only [lenOk, intsD_length]; omega⟩
/-- what the law asks of each thing tried -/
def triedOk (x : D) : Prop := notDict x ∧ itemsOk x
theorem tried_tuple {xs : List D} (h : ∀ x ∈ xs, flat1 x ∧ lenOk x) : triedOk (.tuple xs) := ⟨trivial, fun _ => h⟩
theorem lenOk_wt {x : D} (h : wt x ≤ 1000) : lenOk x := by
  cases x with
  | tuple xs => rw [wt] at h; have := len_wt xs; simp only [lenOk]; omega
  | _ => trivial
/-- what comes of a piece by bending and its like -/
theorem tried_of {n k : Nat} {xs : List D} {w : D} (ne : xs ≠ []) (hM : ∀ x ∈ xs, wt x ≤ 101) (ok : okD (n + 1) k w) (it : itemsOf (.tuple xs) w) : triedOk w := by
  refine ⟨plainB_nd ok.1, ?_⟩
  cases w with
  | tuple ys =>
    intro _ y m
    obtain ⟨m', e, p, _⟩ := plain_items ok.1
    have b := it xs rfl ne 101 hM ys rfl y m
    refine ⟨?_, lenOk_wt (by omega)⟩
    have py := p y m
    cases y with
    | tuple zs =>
      obtain ⟨m2, e2, p2, _⟩ := plain_items py
      exact fun z hz => plainB_nd (p2 z hz)
    | dict _ => exact (plainB_nd py).elim
    | _ => trivial
  | _ => trivial
theorem sum_wt {B : Nat} : ∀ {xs : List D}, (∀ x ∈ xs, wt x ≤ B) → wtL xs ≤ xs.length * B
  | [], _ => by simp [wtL]
  | x :: xs, h => by
    have a := h x (List.mem_cons_self ..)
    have b := sum_wt fun y m => h y (List.mem_cons_of_mem _ m)
    rw [wtL, List.length_cons, Nat.add_mul]
    omega
theorem rep_mem {n : Nat} {xs : List D} {x : D} (m : x ∈ (List.replicate n xs).flatten) : x ∈ xs := by
  obtain ⟨r, hr, hx⟩ := List.mem_flatten.mp m
  rw [List.eq_of_mem_replicate hr] at hx
  exact hx
theorem rep_any {xs : List D} {j : Int} {k : D → Prop} (ne : xs ≠ []) (h2 : 2 ≤ j) (h : xs.length * j.toNat ≤ 1000000) (q : ∀ zs : List D, (∀ z ∈ zs, z ∈ xs) → k (.tuple zs)) : fMul (.tuple xs) (.int j) k :=
  ⟨ne, by omega, h, q _ fun _ m => rep_mem m⟩
def K5I (a : Addr) (st : Int) (L ys T : List D) (s0 : (poolA a).S) (r : List D) (ρ : Rho) (s' : (poolA a).S) : Prop :=
  s' = s0 ∧ (∀ x ∈ r, triedOk x) ∧ ∃ c6 c8, ρ = [.un, .fz (refD a), .fz (.int st), .fz (.tuple L), .fz (.tuple ys), .fz (.list T), c6, .un, c8, .un]
theorem p_law_k05 (a : Addr) (s : (poolA a).S) : t_law_k05 (S_stage a) (S_L_piece a) (S_row a) (S_same 10) (S_booled 10) (S_listed 10) (S_bent a 10) S_rows_of S_head_of S_rows_of S_head_of S_is_piece S_L_is_change (lawEnds _) (ρLaw a 8) s := by
  have e : ρLaw a 8 = [.un, .fz (refD a), .un, .un, .un, .un, .un, .un, .un, .un] := rfl
  have hs : 1000000 ≤ sizeLine := by decide
  unfold t_law_k05
  rw [e, q_dSeq]
  simp [-q_dSeq, -q_dIfS]
  refine ⟨8, rfl, by omega, by omega, fun st s3 s8 => ?_⟩
  dsimp only
  rw [q_dSeq]
  simp [-q_dSeq, -q_dIfS]
  refine ⟨st, 60, rfl, s3, s8, by omega, by omega, fun L hL l1 l60 => ?_⟩
  dsimp only
  rw [q_dSeq]
  simp [-q_dSeq, -q_dIfS]
  refine ⟨st, rfl, by omega, by omega, fun ys hp => ?_⟩
  dsimp only
  obtain ⟨pcs, rfl, hpc⟩ := changes_list hL
  rw [List.length_map] at l1 l60
  have l60 : pcs.length ≤ 60 := l60
  have hr := rng_ok (n := st.toNat) (by omega)
  have py : ∀ x ∈ ys, plainB 0 x = true := fun x m => hr.1 x (hp.mem_iff.mp m)
  have ly : ys.length = st.toNat := by rw [hp.length_eq, rngD_length]
  have lr : (rngD 1 st.toNat).length = st.toNat := rngD_length
  have ci : ∀ x ∈ pcs.map tupI, plainB 1 x = true ∧ wt x ≤ 101 ∧ flat1 x ∧ lenOk x := fun x m => ch_items s3 s8 (hL x m)
  have ne : pcs.map tupI ≠ [] := fun z => by
    have := congrArg List.length z
    rw [List.length_map] at this
    simp at this
    rw [this] at l1
    simp at l1
  refine seq_if ?_ fun U hU => ?_
  · rw [q_dSeq]
    simp [-q_dSeq, -q_dIfS]
    have pp : plainB 9 (.tuple (pcs.map tupI)) = true := plain_mono (plain_tuple (n := 1) (fun x m => (ci x m).1) (by rw [List.length_map]; omega)) (by omega)
    have pw : wt (.tuple (pcs.map tupI)) ≤ 10000 := by
      have := sum_wt (B := 101) fun x m => (ci x m).2.1
      rw [List.length_map] at this
      rw [wt]
      omega
    have cw : ∀ x ∈ pcs.map tupI, wt x ≤ 101 := fun x m => (ci x m).2.1
    have cf : ∀ x ∈ pcs.map tupI, flat1 x ∧ lenOk x := fun x m => (ci x m).2.2
    refine ⟨_, 9, rfl, rfl, pp, fun w1 ok1 it1 => ?_⟩
    refine ⟨_, 1, 9, rfl, rfl, pp, fun w2 ok2 it2 => ?_⟩
    refine ⟨by omega, by omega, by omega, by omega, ?_, by omega, by omega, by omega, ?_⟩
    · exact (.of_le (by omega) (by omega) (by omega) (by omega) : RgOk 1 (st + 1))
    rw [q_dSeq]
    simp [-q_dSeq, -q_dIfS]
    have lc : (cutD (pcs.map tupI) none (some 1)).length = 1 := by
      rw [cutD_to (by omega), List.length_take, List.length_map]
      have : (1 : Int).toNat = 1 := rfl
      omega
    have nc : cutD (pcs.map tupI) none (some 1) ≠ [] := fun z => by rw [z] at lc; cases lc
    have lp : (pcs.map tupI).length ≤ 60 := by rw [List.length_map]; exact l60
    have cc : ∀ x ∈ cutD (pcs.map tupI) none (some 1), flat1 x ∧ lenOk x := fun x m => cf x (mem_cutD m)
    refine ⟨by omega, ?_⟩
    refine rep_any ne (by decide) (Nat.le_trans (Nat.mul_le_mul_right _ lp) (by decide)) fun z1 m1 => ?_
    refine rep_any ne (by decide) (Nat.le_trans (Nat.mul_le_mul_right _ lp) (by decide)) fun z2 m2 => ?_
    refine rep_any nc (by decide) (by rw [lc]; decide) fun z3 m3 => ?_
    refine rep_any nc (by decide) (by rw [lc]; decide) fun z4 m4 => ?_
    refine ⟨by omega, by omega, ?_⟩
    have ok : ∀ x ∈ [PyData.tuple (List.map tupI pcs), PyData.list (List.map tupI pcs), w1, w2, PyData.tuple (List.map tupI pcs ++ [PyData.tuple [PyData.int 0]]), PyData.tuple (List.map tupI pcs ++ [PyData.none]), PyData.tuple (List.map tupI pcs ++ [PyData.tuple (rngD 1 st.toNat)]), PyData.tuple [], PyData.none, PyData.tuple [PyData.tuple []], .tuple z1, .tuple z2, .tuple z3, .tuple z4], triedOk x := by
      have more : ∀ x : D, flat1 x ∧ lenOk x → triedOk (.tuple (List.map tupI pcs ++ [x])) := fun x hx => tried_tuple fun y m => by
        rcases List.mem_append.mp m with m | m
        · exact cf y m
        · rw [List.mem_singleton.mp m]
          exact hx
      intro x m
      simp only [List.mem_cons, List.not_mem_nil, or_false] at m
      rcases m with rfl | rfl | rfl | rfl | rfl | rfl | rfl | rfl | rfl | rfl | rfl | rfl | rfl | rfl
      · exact tried_tuple cf
      · exact ⟨trivial, trivial⟩
      · exact tried_of ne cw ok1 it1
      · exact tried_of ne cw ok2 it2
      · exact more _ ⟨fun z hz => by rw [List.mem_singleton.mp hz]; trivial, by simp [lenOk]⟩
      · exact more _ ⟨trivial, trivial⟩
      · exact more _ ⟨fun z hz => plainB_nd (hr.1 z hz), by simp only [lenOk]; omega⟩
      · exact tried_tuple fun y m => nomatch m
      · exact ⟨trivial, trivial⟩
      · exact tried_tuple fun y m => by rw [List.mem_singleton.mp m]; exact ⟨fun _ h => (nomatch h), by simp [lenOk]⟩
      · exact tried_tuple fun y m => cf y (m1 y m)
      · exact tried_tuple fun y m => cf y (m2 y m)
      · exact tried_tuple fun y m => cc y (m3 y m)
      · exact tried_tuple fun y m => cc y (m4 y m)
    have lenT : ([PyData.tuple (List.map tupI pcs), PyData.list (List.map tupI pcs), w1, w2, PyData.tuple (List.map tupI pcs ++ [PyData.tuple [PyData.int 0]]), PyData.tuple (List.map tupI pcs ++ [PyData.none]), PyData.tuple (List.map tupI pcs ++ [PyData.tuple (rngD 1 st.toNat)]), PyData.tuple [], PyData.none, PyData.tuple [PyData.tuple []], .tuple z1, .tuple z2, .tuple z3, .tuple z4] : List D).length = 14 := rfl
    generalize [PyData.tuple (List.map tupI pcs), PyData.list (List.map tupI pcs), w1, w2, PyData.tuple (List.map tupI pcs ++ [PyData.tuple [PyData.int 0]]), PyData.tuple (List.map tupI pcs ++ [PyData.none]), PyData.tuple (List.map tupI pcs ++ [PyData.tuple (rngD 1 st.toNat)]), PyData.tuple [], PyData.none, PyData.tuple [PyData.tuple []], .tuple z1, .tuple z2, .tuple z3, .tuple z4] = T at ok lenT ⊢
    rw [q_dSeq]
    show dIt _ _ s _
    simp [-q_dSeq, -q_dIfS]
    refine comp_rel (xs := rngD 0 6) (fun k z => by simpa using z) (by simp) (by rw [rngD_length]; omega) (fun x r => ∃ d', r = some d' ∧ triedOk d') (fun x m s k q => ?_) (fun rs hr2 => ?_)
    · simp
      exact ⟨_, 9, rfl, rfl, pp, pw, fun w ok3 it3 => q _ ⟨w, rfl, tried_of ne cw ok3 it3⟩⟩
    · have ok3 : ∀ x ∈ rs.filterMap id, triedOk x := by
        have all : ∀ (xs : List D) (rs : List (Option D)), All2 (fun _ r => ∃ d', r = some d' ∧ triedOk d') xs rs → ∀ x ∈ rs.filterMap id, triedOk x := fun xs rs h => by
          induction h with
          | nil => simp
          | cons r t ih =>
            obtain ⟨d', rfl, ok⟩ := r
            rw [show (some d' :: _ : List (Option D)).filterMap id = d' :: List.filterMap id _ from rfl]
            intro x m
            rcases List.mem_cons.mp m with rfl | m
            · exact ok
            · exact ih x m
        exact all _ _ hr2
      have len3 : (rs.filterMap id).length ≤ 6 := by
        have := hr2.length
        rw [rngD_length] at this
        exact Nat.le_trans (List.length_filterMap_le _ _) (by omega)
      generalize rs.filterMap id = T3 at ok3 len3 ⊢
      simp [-q_dSeq, -q_dIfS]
      refine ⟨by omega, ?_⟩
      have ok4 : ∀ x ∈ T ++ T3, triedOk x := fun x m => (List.mem_append.mp m).elim (ok x) (ok3 x)
      generalize T ++ T3 = T4 at ok4 ⊢
      refine for_inv (K5I a st (pcs.map tupI) ys T s) ⟨rfl, ok4, .un, .un, rfl⟩ ?_ ?_
      · rintro x r ρ s' ⟨rfl, okr, c6, c8, rfl⟩ D' hrt hbk hnx hct
        have okx := okr x (List.mem_cons_self ..)
        have nx := okx.1
        have fin : ∀ b, b = pieceB st x → ∀ ρ', K5I a st (pcs.map tupI) ys T s' r ρ' s' → S_is_piece [PyData.int st, x] s' fun x_1 s1 => S_same 10 [x_1, PyData.bool b] s1 fun x_2 s1 => bV x_2 fun b => if b = true then D'.nx ρ' s1 else D'.rt (PyData.bool false) s1 := fun b hb ρ' i => by
          refine ⟨_, _, rfl, okx.1, okx.2, _, _, 9, rfl, rfl, ⟨0, by simp [plainB]⟩, by simp [plainB], ?_⟩
          rw [hb, sameB_eq]
          simp
          exact hnx _ _ i
        have nxt : ∀ c8', K5I a st (pcs.map tupI) ys T s' r [.un, .fz (refD a), .fz (.int st), .fz (.tuple (pcs.map tupI)), .fz (.tuple ys), .fz (.list T), .fz x, .un, c8', .un] s' := fun c8' => ⟨rfl, fun y m => okr y (List.mem_cons_of_mem _ m), _, _, rfl⟩
        simp [nx]
        cases x with
        | tuple xs =>
          simp
          by_cases h1 : 0 < xs.length
          · have h1' : (0 : Int) < xs.length := by omega
            by_cases h2 : xs.length < 5041
            · have h2' : (xs.length : Int) < 5041 := by omega
              simp [h1, h2, h1', h2']
              refine comp_pure (xs := xs) (fun k z => by simpa using z) (by simp) (by omega) (fun x => if (!changeB st x) = true then some x else none) (fun x m s k z => ?_) ?_
              · have o := okx.2 (by omega) x m
                simp
                refine ⟨st, x, rfl, by omega, by omega, o.1, o.2, ?_⟩
                simp
                cases hc : changeB st x <;> simpa [hc] using z
              · rw [fm_if]
                simp
                refine fin _ ?_ _ (nxt _)
                have a1 : 1 ≤ xs.length := h1
                have a2 : xs.length ≤ 5040 := by omega
                rw [pieceB, decide_eq_true a1, decide_eq_true a2, Bool.true_and, Bool.true_and, Bool.eq_iff_iff, List.all_eq_true, decide_eq_true_eq]
            · have h2' : ¬ (xs.length : Int) < 5041 := by omega
              simp [h1, h2, h1', h2']
              exact fin _ (by simp [pieceB]; omega) _ (nxt _)
          · have h1' : ¬ (0 : Int) < xs.length := by omega
            simp [h1, h1']
            exact fin _ (by simp [pieceB]; omega) _ (nxt _)
        | dict _ => exact nx.elim
        | _ =>
          exact fin _ rfl _ (nxt _)
      · rintro ρ s' ⟨rfl, _, c6, c8, rfl⟩
        simp
  · simp
    refine ⟨pcs, ys, rfl, by omega, by omega, ?_⟩
    refine ⟨st, pcs, rfl, by omega, by omega, by omega, ?_⟩
    refine ⟨by omega, pcs, ys, rfl, by omega, by omega, ?_⟩
    refine ⟨st, pcs, rfl, by omega, by omega, by omega, ?_⟩
    have pl : plainB 9 (.list [.list ((rowsG pcs ys).map .tuple), .tuple (lastG pcs (rngD 1 st.toNat))]) = true := by
      refine plain_listOf (n := 8) (fun x m => ?_) (by simp)
      simp only [List.mem_cons, List.not_mem_nil, or_false] at m
      rcases m with rfl | rfl
      · exact plain_mono (plain_list (n := 1) (rowsG_plain pcs ys py (by omega)) (by rw [List.length_map, rowsG_len]; omega)) (by omega)
      · exact plain_mono (lastG_plain pcs _ hr.1 (by omega)) (by omega)
    refine ⟨by omega, _, _, 9, rfl, rfl, ⟨9, pl⟩, pl, ?_⟩
    rw [sameB_eq]
    simpa using hU
end Dl
/-! How many arguments each promise has: pieces. -/
namespace Dl
open PySem L2
section
variable {A : Amb} {ds : List D} {s : A.S} {Q : D → A.S → Prop}
theorem len_is_piece (h : S_is_piece ds s Q) : ds.length = 2 := by obtain ⟨_, _, e, _⟩ := h; rw [e]; rfl
theorem len_rows_of (h : S_rows_of ds s Q) : ds.length = 2 := by obtain ⟨_, _, e, _⟩ := h; rw [e]; rfl
theorem len_L_rows (h : S_rows_of ds s Q) : ds.length = 2 := len_rows_of h
theorem len_head_of (h : S_head_of ds s Q) : ds.length = 2 := by obtain ⟨_, _, e, _⟩ := h; rw [e]; rfl
theorem len_L_head (h : S_head_of ds s Q) : ds.length = 2 := len_head_of h
theorem len_L_listed {n : Nat} (h : S_listed n ds s Q) : ds.length = 2 := by obtain ⟨_, _, _, e, _⟩ := h; rw [e]; rfl
theorem no_L_listed (h : S_listed 0 ds s Q) : False := by obtain ⟨_, _, _, _, e, _⟩ := h; cases e
end
theorem len_L_piece {a : Addr} {ds : List D} {s : (poolA a).S} {Q : D → (poolA a).S → Prop} (h : S_L_piece a ds s Q) : ds.length = 3 := by obtain ⟨_, _, e, _⟩ := h; rw [e]; rfl
end Dl
/-! Own dicts whose keys are tuples of whole numbers and texts. -/
namespace Dl
open PySem L2
def keysOf : D → Option (List Key)
  | .tuple ds => keyAll ds
  | _ => none
section
variable {κ : Type} [DecidableEq κ]
def valD (kvs : List (κ × D)) (k : κ) : Option D := (kvs.find? fun kv => decide (kv.1 = k)).map (·.2)
def putD (kvs : List (κ × D)) (k : κ) (v : D) : List (κ × D) :=
  if (kvs.any fun kv => decide (kv.1 = k)) = true then kvs.map (fun kv => if kv.1 = k then (kv.1, v) else kv) else kvs ++ [(k, v)]
variable {K : PySem.W.Frag} {F H : Hp}
inductive ValR (K : PySem.W.Frag) (F : Hp) : Option V → Option D → Prop
  | no : ValR K F none none
  | yes {v d} : Rp K F v d → ValR K F (some v) (some d)
theorem ValR.isSome {o : Option V} {d : Option D} (h : ValR K F o d) : o.isSome = d.isSome := by cases h <;> rfl
theorem val_rel : ∀ {kv : List (κ × V)} {kvs : List (κ × D)} {k : κ}, kv.map (·.1) = kvs.map (·.1) → RpL K F (kv.map (·.2)) (kvs.map (·.2)) → ValR K F (valV kv k) (valD kvs k)
  | [], [], k, _, _ => .no
  | [], _ :: _, _, h, _ => by simp at h
  | _ :: _, [], _, h, _ => by simp at h
  | (a, v) :: kv, (b, d) :: kvs, k, h, r => by
    simp only [List.map_cons, List.cons.injEq] at h
    obtain ⟨rfl, h2⟩ := h
    cases r with
    | cons r1 r2 =>
      by_cases e : a = k
      · have e1 : valV ((a, v) :: kv) k = some v := by simp [valV, List.find?_cons, e]
        have e2 : valD ((a, d) :: kvs) k = some d := by simp [valD, List.find?_cons, e]
        rw [e1, e2]
        exact .yes r1
      · have e1 : valV ((a, v) :: kv) k = valV kv k := by simp [valV, List.find?_cons, e]
        have e2 : valD ((a, d) :: kvs) k = valD kvs k := by simp [valD, List.find?_cons, e]
        rw [e1, e2]
        exact val_rel h2 r2
theorem any_rel {kv : List (κ × V)} {kvs : List (κ × D)} (k : κ) (h : kv.map (·.1) = kvs.map (·.1)) : (kv.any fun p => decide (p.1 = k)) = kvs.any fun p => decide (p.1 = k) := by
  have a : (kv.any fun p => decide (p.1 = k)) = (kv.map (·.1)).any fun x => decide (x = k) := by rw [List.any_map]; rfl
  have b : (kvs.any fun p => decide (p.1 = k)) = (kvs.map (·.1)).any fun x => decide (x = k) := by rw [List.any_map]; rfl
  rw [a, b, h]
theorem put_map : ∀ {kv : List (κ × V)} {kvs : List (κ × D)} {k : κ} {v : V} {d : D}, kv.map (·.1) = kvs.map (·.1) → RpL K F (kv.map (·.2)) (kvs.map (·.2)) → Rp K F v d →
    (kv.map fun p => if p.1 = k then (p.1, v) else p).map (·.1) = (kvs.map fun p => if p.1 = k then (p.1, d) else p).map (·.1) ∧ RpL K F ((kv.map fun p => if p.1 = k then (p.1, v) else p).map (·.2)) ((kvs.map fun p => if p.1 = k then (p.1, d) else p).map (·.2))
  | [], [], _, _, _, _, _, _ => ⟨rfl, .nil⟩
  | [], _ :: _, _, _, _, h, _, _ => by simp at h
  | _ :: _, [], _, _, _, h, _, _ => by simp at h
  | (a, w) :: kv, (b, e) :: kvs, k, v, d, h, r, rv => by
    simp only [List.map_cons, List.cons.injEq] at h
    obtain ⟨rfl, h2⟩ := h
    cases r with
    | cons r1 r2 =>
      obtain ⟨i1, i2⟩ := put_map (k := k) h2 r2 rv
      by_cases q : a = k
      · simp only [List.map_cons, q, if_true]
        exact ⟨by rw [i1], .cons rv i2⟩
      · simp only [List.map_cons, q, if_false]
        exact ⟨by rw [i1], .cons r1 i2⟩
theorem put_rel {kv : List (κ × V)} {kvs : List (κ × D)} {k : κ} {v : V} {d : D} (h : kv.map (·.1) = kvs.map (·.1)) (r : RpL K F (kv.map (·.2)) (kvs.map (·.2))) (rv : Rp K F v d) :
    (putK kv k v).map (·.1) = (putD kvs k d).map (·.1) ∧ RpL K F ((putK kv k v).map (·.2)) ((putD kvs k d).map (·.2)) := by
  unfold putK putD
  rw [any_rel k h]
  split
  · exact put_map h r rv
  · rw [List.map_append, List.map_append, List.map_append, List.map_append, h]
    exact ⟨rfl, r.append (.one rv)⟩
end
section
variable {K : PySem.W.Frag} {F H : Hp}
theorem keyOne_rp {v : V} {d : D} {k : Key} (r : Rp K F v d) (h : keyOne d = some k) : v = kV k := by
  cases r with
  | int i => cases h; rfl
  | str x => cases h; rfl
  | obj a => exact nomatch (show keyOne (refD a) = none from rfl) ▸ h
  | _ => cases h
theorem keyAll_rp : ∀ {vs : List V} {ds : List D} {ks : List Key}, RpL K F vs ds → keyAll ds = some ks → vs = ks.map kV
  | [], [], _, _, h => by simp [keyAll] at h; subst h; rfl
  | _, _ :: _, ks, .cons r1 r2, h => by
    unfold keyAll at h
    split at h
    · next k ks' e1 e2 =>
      cases h
      rw [keyOne_rp r1 e1, keyAll_rp r2 e2]
      rfl
    · cases h
theorem keysOf_rp {v : V} {d : D} {ks : List Key} (r : Rp K F v d) (h : keysOf d = some ks) : ∃ b, v = .ref b ∧ F b = some (.tup (ks.map kV)) := by
  cases d with
  | tuple ds =>
    cases r with
    | tup s t =>
      have z := s.key h
      rw [keyAll_rp t h] at z
      exact ⟨_, rfl, z⟩
  | _ => cases h
end
theorem u1 {n m : Nat} (h : n + 65 < m) : n + 1 < m := by omega
/-! ### the readings -/
section
variable {A : Amb} {X : Cx} {N : Ent} {st : Stmt} {e c : Expr} {te tk : DE A} {pos pos' : Pos}
def nDct : DC A := fun _ s Q => Q (.dt []) s
theorem n_dct : PE X (.Dict [] [] pos) (liftW A X.K N nDct) :=
  PE.imp pe_dnewT fun σ H Q ⟨ρ, s, O, P, R0, q, k⟩ p hp => k _ s p _ H O q R0 (Hle.refl _) hp (.dt rfl .nil)
/-- k in d -/
def dDIn (t : DE A) (i : Nat) : DE A := fun ρ s Q => t ρ s fun d s' => match ρ[i]?, keysOf d with
  | some (.dt kvs), some ks => Q (.bool (valD kvs ks).isSome) s'
  | _, _ => False
def dDNot (t : DE A) (i : Nat) : DE A := fun ρ s Q => t ρ s fun d s' => match ρ[i]?, keysOf d with
  | some (.dt kvs), some ks => Q (.bool (!(valD kvs ks).isSome)) s'
  | _, _ => False
theorem dt_get {s : A.S} {σ : St} {H : Hp} {ρ : Rho} {O : Addr → Prop} {i : Nat} {kvs : List (List Key × D)} {ks : List Key} {v : V} {d : D} (R : Rel A X.K N s σ H ρ O) (hd : ρ[i]? = some (.dt kvs)) (hk : keysOf d = some ks) (r : Rp X.K (fzP H (Px N σ ρ O)) v d) :
    ∃ (a : Addr) (o : Option V), σ[i]? = some (some (.ref a)) ∧ DGet H a v o ∧ ValR X.K (fzP H (Px N σ ρ O)) o (valD kvs ks) := by
  obtain ⟨w, e1, p, kv, rfl, hp, hm, rl⟩ := R.slot hd
  obtain ⟨b, rfl, hb⟩ := keysOf_rp r hk
  exact ⟨p, _, e1, .t hp (fzP_le _ _ hb), val_rel hm rl⟩
theorem i_din {i : Nat} : ∀ σ H Q, liftE A X.K N (dDIn te i) σ H Q → tDIn (liftE A X.K N te) (tVar i) σ H Q := fun σ H Q ⟨ρ, s, O, P, R0, q, k⟩ => ⟨ρ, s, O, _, R0, q, fun d s1 v H1 O1 q1 R1 le1 r => by
    split at q1
    · next kvs ks e1 e2 =>
      obtain ⟨a, o, ea, g, vr⟩ := dt_get R1 e1 e2 r
      refine ⟨_, ea, a, o, rfl, g, ?_⟩
      have z : o.isSome = (valD kvs ks).isSome := vr.isSome
      exact k _ s1 _ H1 O1 q1 R1 le1 (by rw [z]; exact .bl _)
    · exact q1.elim⟩
theorem e_din {i : Nat} (hu : X.A.units + 1 < cLine) (he : PE X e (liftE A X.K N te)) (hv : PE X c (tVar i)) (h1 : behindInMarks .In c = false := by first | exact nobehind _ (by decide) (by decide) | rfl) : PE X (.Compare e [.In] [c] pos) (liftE A X.K N (dDIn te i)) :=
  PE.imp (pe_cmp (pc_din hu he hv) h1) i_din
theorem t_din {i : Nat} (hu : X.A.units + 1 < cLine) (he : PE X e (liftE A X.K N te)) (hv : PE X c (tVar i)) (h1 : behindInMarks .In c = false := by first | exact nobehind _ (by decide) (by decide) | rfl) : PT X (.Compare e [.In] [c] pos) (liftT A X.K N (dTest (dDIn te i))) :=
  PT.imp (pt_cmp (pc_din hu he hv) h1) fun σ H Q ⟨ρ, s, O, P, R0, q, k⟩ => i_din σ H _ ⟨ρ, s, O, _, R0, q, fun x s1 vx H1 O1 q1 R1 le1 rx => by
    split at q1
    · cases rx.bl_of
      exact ⟨_, rfl, k _ s1 H1 O1 q1 R1 le1⟩
    · exact q1.elim⟩
theorem i_dnot {i : Nat} : ∀ σ H Q, liftE A X.K N (dDNot te i) σ H Q → tDNotIn (liftE A X.K N te) (tVar i) σ H Q := fun σ H Q ⟨ρ, s, O, P, R0, q, k⟩ => ⟨ρ, s, O, _, R0, q, fun d s1 v H1 O1 q1 R1 le1 r => by
    split at q1
    · next kvs ks e1 e2 =>
      obtain ⟨a, o, ea, g, vr⟩ := dt_get R1 e1 e2 r
      refine ⟨_, ea, a, o, rfl, g, ?_⟩
      have z : o.isSome = (valD kvs ks).isSome := vr.isSome
      exact k _ s1 _ H1 O1 q1 R1 le1 (by rw [z]; exact .bl _)
    · exact q1.elim⟩
theorem e_dnot {i : Nat} (hu : X.A.units + 1 < cLine) (he : PE X e (liftE A X.K N te)) (hv : PE X c (tVar i)) (h1 : behindInMarks .NotIn c = false := by first | exact nobehind _ (by decide) (by decide) | rfl) : PE X (.Compare e [.NotIn] [c] pos) (liftE A X.K N (dDNot te i)) :=
  PE.imp (pe_cmp (pc_dnotin hu he hv) h1) i_dnot
theorem t_dnot {i : Nat} (hu : X.A.units + 1 < cLine) (he : PE X e (liftE A X.K N te)) (hv : PE X c (tVar i)) (h1 : behindInMarks .NotIn c = false := by first | exact nobehind _ (by decide) (by decide) | rfl) : PT X (.Compare e [.NotIn] [c] pos) (liftT A X.K N (dTest (dDNot te i))) :=
  PT.imp (pt_cmp (pc_dnotin hu he hv) h1) fun σ H Q ⟨ρ, s, O, P, R0, q, k⟩ => i_dnot σ H _ ⟨ρ, s, O, _, R0, q, fun x s1 vx H1 O1 q1 R1 le1 rx => by
    split at q1
    · cases rx.bl_of
      exact ⟨_, rfl, k _ s1 H1 O1 q1 R1 le1⟩
    · exact q1.elim⟩
/-- x[k] -/
def dDGet (i : Nat) (t : DE A) : DE A := fun ρ s Q => match ρ[i]? with
  | some (.dt kvs) => t ρ s fun d s' => match keysOf d with
    | some ks => ∃ x, valD kvs ks = some x ∧ Q x s'
    | none => False
  | _ => False
theorem ValR.get {K : PySem.W.Frag} {F : Hp} {o : Option V} {x : D} (h : ValR K F o (some x)) : ∃ v, o = some v ∧ Rp K F v x := by
  cases h with
  | yes r => exact ⟨_, rfl, r⟩
theorem e_dget {i : Nat} (hu : X.A.units + 1 < cLine) (hv : PE X c (tVar i)) (he : PE X e (liftE A X.K N te)) (hs : NoSl e := by intro _ _; rfl) : PE X (.Subscript c e pos) (liftE A X.K N (dDGet i te)) :=
  PE.imp (pe_dget hu hv he hs) fun σ H Q ⟨ρ, s, O, P, R0, q, k⟩ => by
    unfold dDGet at q
    split at q
    · next kvs hd =>
      obtain ⟨w, e1, p, kv, rfl, hp, hm, rl⟩ := R0.slot hd
      refine ⟨_, e1, ρ, s, O, _, R0, q, fun d s1 v H1 O1 q1 R1 le1 r => ?_⟩
      split at q1
      · next ks hk =>
        obtain ⟨x, hx, q1⟩ := q1
        obtain ⟨a, o, ea, g, vr⟩ := dt_get R1 hd hk r
        rw [e1] at ea
        cases ea
        rw [hx] at vr
        obtain ⟨y, rfl, ry⟩ := vr.get
        exact ⟨_, y, rfl, g, k _ s1 _ H1 O1 q1 R1 le1 ry⟩
      · exact q1.elim
    · exact q.elim
/-- x[k] = v -/
def dDPut (i : Nat) (t tv : DE A) : DS A := fun D ρ s => match ρ[i]? with
  | some (.dt kvs) => tv ρ s fun v s1 => t ρ s1 fun d s2 => match keysOf d with
    | some ks => kvs.length < sizeLine ∧ D.nx (ρ.set i (.dt (putD kvs ks v))) s2
    | none => False
  | _ => False
theorem s_dput {i : Nat} {tv : DE A} {value : Expr} (hu : X.A.units + 1 < cLine) (ho : PE X c (tVar i)) (hi : PE X e (liftE A X.K N te)) (hv : PE X value (liftE A X.K N tv)) (hs : swapsWith value (some (.Subscript c e pos')) pos.line X.env = pure false := by rfl) :
    PS X (.Assign [.Subscript c e pos'] value pos) (liftS A X.K N (dDPut i te tv)) :=
  s_imp (ps_dput hu ho hi hv hs) fun D σ H ρ s O Dd R E q => by
    unfold dDPut at q
    split at q
    · next kvs hd =>
      refine ⟨ρ, s, O, _, R, q, fun v s1 w H1 O1 q1 R1 le1 rv => ?_⟩
      obtain ⟨w1, e1, p, kv, rfl, hp, hm, rl⟩ := R1.slot hd
      refine ⟨_, e1, ρ, s1, O1, _, R1, q1, fun d s2 y H2 O2 q2 R2 le2 r => ?_⟩
      split at q2
      · next ks hk =>
        obtain ⟨w2, e2, p', kv', z, hp', hm', rl'⟩ := R2.slot hd
        rw [e1] at e2
        cases e2
        cases z
        obtain ⟨b, rfl, hb⟩ := keysOf_rp r hk
        obtain ⟨m1, m2⟩ := put_rel (k := ks) hm' rl' (rv.mono le2)
        have W := R2.write (c' := .dt (putD kvs ks v)) hd trivial e1 (.dt m1 m2)
        have hl : kv'.length < sizeLine := by
          have := congrArg List.length hm'
          rw [List.length_map, List.length_map] at this
          rw [this]
          exact q2.1
        exact ⟨_, _, rfl, .t hp' (fzP_le _ _ hb) hl, E.nx _ s2 σ _ O2 W.1 ((le1.trans le2).trans W.2) q2.2⟩
      · exact q2.elim
    · exact q.elim
end
end Dl
/-! Own dicts: the readings as rules of simp, what a look-up gives behind a store. -/
namespace Dl
open PySem L2
def atD (c : Option Cell) (k : List (List Key × D) → Prop) : Prop := match c with
  | some (.dt kvs) => k kvs
  | _ => False
@[simp] theorem atD_dt {kvs : List (List Key × D)} {k : List (List Key × D) → Prop} : atD (some (.dt kvs)) k = k kvs := rfl
def keyV (d : D) (k : List Key → Prop) : Prop := match keysOf d with
  | some ks => k ks
  | none => False
section
variable {A : Amb} {ρ : Rho} {s : A.S} {Q : D → A.S → Prop} {QC : Cell → A.S → Prop} {D0 : DEnds A} {i : Nat} {a t tv : DE A}
@[simp] theorem q_nDct : nDct ρ s QC = QC (.dt []) s := rfl
@[simp] theorem q_dDIn : dDIn a i ρ s Q = a ρ s fun d s' => atD ρ[i]? fun kvs => keyV d fun ks => Q (.bool (valD kvs ks).isSome) s' := by
  unfold dDIn
  congr 1
  funext d s'
  unfold atD keyV
  split
  · next e1 e2 => simp only [e1, e2]
  · next h =>
    split
    · next kvs e1 =>
      split
      · next ks e2 => exact (h kvs ks e1 e2).elim
      · rfl
    · rfl
@[simp] theorem q_dDNot : dDNot a i ρ s Q = a ρ s fun d s' => atD ρ[i]? fun kvs => keyV d fun ks => Q (.bool (!(valD kvs ks).isSome)) s' := by
  unfold dDNot
  congr 1
  funext d s'
  unfold atD keyV
  split
  · next e1 e2 => simp only [e1, e2]
  · next h =>
    split
    · next kvs e1 =>
      split
      · next ks e2 => exact (h kvs ks e1 e2).elim
      · rfl
    · rfl
@[simp] theorem q_dDGet : dDGet i t ρ s Q = atD ρ[i]? fun kvs => t ρ s fun d s' => keyV d fun ks => ∃ x, valD kvs ks = some x ∧ Q x s' := by
  unfold dDGet atD keyV
  rfl
@[simp] theorem q_dDPut : dDPut i t tv D0 ρ s = atD ρ[i]? fun kvs => tv ρ s fun v s1 => t ρ s1 fun d s2 => keyV d fun ks => kvs.length < sizeLine ∧ D0.nx (ρ.set i (.dt (putD kvs ks v))) s2 := by
  unfold dDPut atD keyV
  rfl
end
theorem keyAll_ints : ∀ ns : List Int, keyAll (intsD ns) = some (ns.map Sum.inl)
  | [] => rfl
  | n :: ns => by
    show keyAll (.int n :: intsD ns) = _
    rw [keyAll, keyAll_ints ns]
    rfl
@[simp] theorem keyV_ints {ns : List Int} {k : List Key → Prop} : keyV (.tuple (intsD ns)) k = k (ns.map Sum.inl) := by
  have e : keysOf (.tuple (intsD ns)) = some (ns.map Sum.inl) := keyAll_ints ns
  unfold keyV
  rw [e]
section
variable {κ : Type} [DecidableEq κ]
theorem valD_nil {k : κ} : valD ([] : List (κ × D)) k = none := rfl
theorem valD_isSome {kvs : List (κ × D)} {k : κ} : (valD kvs k).isSome = kvs.any fun p => decide (p.1 = k) := by
  unfold valD
  rw [Option.isSome_map, Bool.eq_iff_iff, List.find?_isSome, List.any_eq_true]
/-- a new key goes to the end -/
theorem putD_new {kvs : List (κ × D)} {k : κ} {v : D} (h : valD kvs k = none) : putD kvs k v = kvs ++ [(k, v)] := by
  unfold putD
  rw [← valD_isSome, h]
  rfl
theorem valD_snoc {kvs : List (κ × D)} {k j : κ} {v : D} : valD (kvs ++ [(k, v)]) j = (valD kvs j).or (if k = j then some v else none) := by
  unfold valD
  rw [List.find?_append, Option.map_or]
  by_cases e : k = j <;> simp [e]
end
end Dl
/-! The first repeat. -/
namespace Dl
open PySem L2
def t_first_repeat {A : Amb} : DS A :=
  (dSeq (dSetN 1 nDct)
  (dSeq (dFor (dRg1 (dCons (dFn fLen (dCons (dVarB 0) dNil)) dNil)) (dgN 2)
  (dSeq (dIfS (dTest (dDIn (dOp fIx (dVarB 0) (dVarB 2)) 1))
  (dRet (dTup (dCons (dDGet 1 (dOp fIx (dVarB 0) (dVarB 2))) (dCons (dVar 2) dNil))))
  dNx)
  (dDPut 1 (dOp fIx (dVarB 0) (dVarB 2)) (dVar 2))))
  (dRet (dC .none))))
def t_L_repeat {A : Amb} : DS A :=
  (dSeq (dSetN 1 nDct)
  (dSeq (dFor (dRg1 (dCons (dFn fLen (dCons (dVarB 0) dNil)) dNil)) (dgN 2)
  (dSeq (dIfS (dTest (dDIn (dOp fIx (dVarB 0) (dVarB 2)) 1))
  (dRet (dTup (dCons (dDGet 1 (dOp fIx (dVarB 0) (dVarB 2))) (dCons (dVar 2) dNil))))
  dNx)
  (dDPut 1 (dOp fIx (dVarB 0) (dVarB 2)) (dVar 2))))
  (dRet (dC .none))))

def keyI (c : List Int) : List Key := c.map Sum.inl
/-- the first repeat, as the loop finds it -/
def repD (kvs : List (List Key × D)) (j : Nat) : List (List Int) → D
  | [] => .none
  | c :: r => match valD kvs (keyI c) with
    | some d => .tuple [d, .int (j : Nat)]
    | none => repD (putD kvs (keyI c) (.int (j : Nat))) (j + 1) r
theorem putD_length {κ : Type} [DecidableEq κ] {kvs : List (κ × D)} {k : κ} {v : D} : (putD kvs k v).length ≤ kvs.length + 1 := by
  unfold putD
  split
  · rw [List.length_map]; omega
  · rw [List.length_append]; exact Nat.le_refl _
@[simp] theorem keyV_tupI {c : List Int} {k : List Key → Prop} : keyV (tupI c) k = k (keyI c) := keyV_ints
section
variable {A : Amb} {ds : List D} {s : A.S} {Q : D → A.S → Prop}
def S_first_repeat : FS A := fun ds s Q => ∃ rs : List (List Int), ds = [.list (rs.map tupI)] ∧ rs.length ≤ 50000 ∧ Q (repD [] 0 rs) s
def RepI (rs : List (List Int)) (s0 : A.S) (r : List D) (ρ : Rho) (s' : A.S) : Prop :=
  s' = s0 ∧ ∃ (j : Nat) (kvs : List (List Key × D)) (c : Cell), r = rngD j (rs.length - j) ∧ j ≤ rs.length ∧ kvs.length ≤ j ∧ repD kvs j (rs.drop j) = repD [] 0 rs ∧ ρ = [.fz (.list (rs.map tupI)), .dt kvs, c]
theorem p_first_repeat (h : S_first_repeat ds s Q) : t_first_repeat (retE Q) (startR 3 ds) s := by
  obtain ⟨rs, rfl, hl, q⟩ := h
  have e : startR 3 [.list (rs.map tupI)] = [.fz (.list (rs.map tupI)), .un, .un] := rfl
  have hs : 100000 ≤ sizeLine := by decide
  unfold t_first_repeat
  simp [e, -q_dSeq]
  rw [q_dSeq]
  simp [-q_dSeq]
  rw [q_dSeq]
  refine for_of (xs := rngD 0 rs.length) (fun k z => by simpa using ⟨by omega, z⟩) (RepI rs s) ⟨rfl, 0, [], .un, rfl, by omega, Nat.le_refl _, rfl, rfl⟩ ?_ ?_
  · rintro x r ρ s' ⟨rfl, j, kvs, c, hr, hj, hk, hq, rfl⟩ D' hrt hbk hnx hct
    have lt : j < rs.length := by
      have := congrArg List.length hr
      rw [List.length_cons, rngD_length] at this
      omega
    rw [show rs.length - j = (rs.length - (j + 1)) + 1 by omega, rngD_succ] at hr
    obtain ⟨rfl, rfl⟩ := List.cons.inj hr
    have at1 : atI (rs.map tupI) (j : Int) = some (tupI rs[j]) := atI_nat (by rw [List.getElem?_map, List.getElem?_eq_getElem lt]; rfl)
    have hd : rs.drop j = rs[j] :: rs.drop (j + 1) := List.drop_eq_getElem_cons lt
    rw [hd, repD] at hq
    have lz := putD_length (kvs := kvs) (k := keyI rs[j]) (v := .int (j : Nat))
    simp [at1]
    cases hv : valD kvs (keyI rs[j]) with
    | some d =>
      rw [hv] at hq
      simp
      refine ⟨by omega, ?_⟩
      rw [hrt, show PyData.tuple [d, PyData.int j] = repD [] 0 rs from hq]
      simpa using q
    | none =>
      rw [hv] at hq
      simp
      refine ⟨by omega, hnx _ _ ⟨rfl, j + 1, _, _, by simp, by omega, by omega, hq, rfl⟩⟩
  · rintro ρ s' ⟨rfl, j, kvs, c, hr, hj, hk, hq, rfl⟩
    have ge : rs.length ≤ j := by
      have := congrArg List.length hr
      rw [List.length_nil, rngD_length] at this
      omega
    rw [List.drop_eq_nil_of_le ge, repD] at hq
    rw [← hq] at q
    simpa using q
theorem p_L_repeat (h : S_first_repeat ds s Q) : t_L_repeat (retE Q) (startR 3 ds) s := p_first_repeat h
end
end Dl
/-! Named papers. -/
namespace Dl
open PySem L2
def t_is_named {A : Amb} : DS A :=
  (dRet (dAnd (dUn (fIsi .tuple) (dVarB 0)) (dAnd (dOp fEqU (dFn fLen (dCons (dVarB 0) dNil)) (dVarB 2)) (dAnd (dUn (fIsi .str) (dOp fIx (dVarB 0) (dC (.int 0)))) (dOp fEqU (dOp fIx (dVarB 0) (dC (.int 0))) (dVarB 1))))))
def t_L_named {A : Amb} : DS A :=
  (dRet (dAnd (dUn (fIsi .tuple) (dVarB 0)) (dAnd (dOp fEqU (dFn fLen (dCons (dVarB 0) dNil)) (dVarB 2)) (dAnd (dUn (fIsi .str) (dOp fIx (dVarB 0) (dC (.int 0)))) (dOp fEqU (dOp fIx (dVarB 0) (dC (.int 0))) (dVarB 1))))))

def namedB (n : Str) (m : Int) : D → Bool
  | .tuple xs => decide ((xs.length : Int) = m) && match xs with
    | .str x :: _ => decide (x = n)
    | _ => false
  | _ => false
section
variable {A : Amb} {ds : List D} {s : A.S} {Q : D → A.S → Prop}
def S_is_named : FS A := fun ds s Q => ∃ (v : D) (n : Str) (m : Int), ds = [v, .str n, .int m] ∧ flat1 v ∧ 1 ≤ m ∧ Q (.bool (namedB n m v)) s
theorem p_is_named (h : S_is_named ds s Q) : t_is_named (retE Q) (startR 3 ds) s := by
  obtain ⟨v, n, m, rfl, fl, hm, q⟩ := h
  have e : startR 3 [v, .str n, .int m] = [.fz v, .fz (.str n), .fz (.int m)] := rfl
  have nd := fl.nd
  unfold t_is_named
  simp [e, nd]
  cases v with
  | tuple xs =>
    simp
    by_cases hl : (xs.length : Int) = m
    · simp [hl]
      cases xs with
      | nil => simp at hl; omega
      | cons x r =>
        have at0 : atI (x :: r) 0 = some x := atI_nat (j := 0) rfl
        have ndx : notDict x := fl x (List.mem_cons_self ..)
        have hl' : (r.length : Int) + 1 = m := by simpa using hl
        rw [at0]
        simp [ndx]
        cases x with
        | str z => simpa [namedB, hl'] using q
        | dict _ => exact ndx.elim
        | _ => simpa [namedB, hl'] using q
    · simp [hl]
      simpa [namedB, hl] using q
  | dict _ => exact nd.elim
  | _ => simpa [namedB] using q
theorem p_L_named (h : S_is_named ds s Q) : t_L_named (retE Q) (startR 3 ds) s := p_is_named h
end
end Dl
/-! Truth of pieces. -/
namespace Dl
open PySem L2
def t_truth {A : Amb} (S_first_repeat S_rows_of S_rounds : FS A) : DS A :=
  (dSeq (dSet 2 (dCall S_first_repeat (dCons (dSl (dCall S_rows_of (dCons (dVar 1) (dCons (dCall S_rounds (dCons (dVar 0) dNil)) dNil))) oNone (oSome (dUn fNeg (dC (.int 1))))) dNil)))
  (dRet (dIf (dTest (dOp fIs (dVarB 2) (dC .none))) (dTup (dCons (dC (.str "true")) dNil)) (dOp fAdd (dTup (dCons (dC (.str "false")) dNil)) (dVarB 2)))))
def t_true_length {A : Amb} (S_first_repeat S_rows_of S_rounds : FS A) : DS A :=
  (dSeq (dSet 2 (dCall S_first_repeat (dCons (dSl (dCall S_rows_of (dCons (dVar 1) (dCons (dCall S_rounds (dCons (dVar 0) dNil)) dNil))) oNone (oSome (dUn fNeg (dC (.int 1))))) dNil)))
  (dRet (dIf (dTest (dOp fIs (dVarB 2) (dC .none))) (dFn fLen (dCons (dVarB 1) dNil)) (dOp fIx (dVarB 2) (dC (.int 1))))))

/-- what repD may be -/
theorem repD_form : ∀ (rs : List (List Int)) (kvs : List (List Key × D)) (j : Nat), (∀ k d, valD kvs k = some d → ∃ i : Nat, i < j ∧ d = .int (i : Nat)) → repD kvs j rs = .none ∨ ∃ i t : Nat, i < t ∧ t < j + rs.length ∧ repD kvs j rs = .tuple [.int (i : Nat), .int (t : Nat)]
  | [], _, _, _ => .inl rfl
  | c :: r, kvs, j, h => by
    rw [repD]
    cases hv : valD kvs (keyI c) with
    | some d =>
      obtain ⟨i, hi, rfl⟩ := h _ _ hv
      exact .inr ⟨i, j, hi, by rw [List.length_cons]; omega, rfl⟩
    | none =>
      rw [putD_new hv]
      rcases repD_form r (kvs ++ [(keyI c, .int (j : Nat))]) (j + 1) (fun k d hd => by
        rw [valD_snoc] at hd
        cases hk : valD kvs k with
        | some d' =>
          rw [hk] at hd
          cases hd
          obtain ⟨i, hi, rfl⟩ := h _ _ hk
          exact ⟨i, by omega, rfl⟩
        | none =>
          rw [hk] at hd
          simp at hd
          exact ⟨j, by omega, hd.2.symm⟩) with e | ⟨i, t, h1, h2, e⟩
      · exact .inl e
      · exact .inr ⟨i, t, h1, by rw [List.length_cons]; omega, e⟩
theorem rows_ints : ∀ (cs : List (List Int)) (ns : List Int), (rowsG cs (intsD ns)).map PyData.tuple = (rowsG cs ns).map tupI
  | [], _ => rfl
  | c :: r, ns => by
    rw [rowsG, rowsG, List.map_cons, List.map_cons, rung_ints, rows_ints r]
    rfl
section
variable {A : Amb} {ds : List D} {s : A.S} {Q : D → A.S → Prop}
/-- whole numbers from one on -/
def oneTo (n : Nat) : List Int := (List.range n).map fun (i : Nat) => 1 + (i : Int)
theorem oneTo_ints (n : Nat) : rngD 1 n = intsD (oneTo n) := by
  unfold rngD intsD oneTo
  rw [List.map_map]
  rfl
/-- the rows of a piece without the last -/
def rowsN (st : Int) (cs : List (List Int)) : List (List Int) := (rowsG cs (oneTo st.toNat)).dropLast
def pairD (st : Int) (cs : List (List Int)) : D := repD [] 0 (rowsN st cs)
def truthD : D → D
  | .tuple xs => .tuple (.str "false" :: xs)
  | _ => .tuple [.str "true"]
def S_truth : FS A := fun ds s Q => ∃ (st : Int) (cs : List (List Int)), ds = [.int st, .tuple (cs.map tupI)] ∧ 0 ≤ st ∧ st ≤ 1000 ∧ cs.length ≤ 40000 ∧ Q (truthD (pairD st cs)) s
theorem p_truth (h : S_truth ds s Q) : t_truth S_first_repeat S_rows_of S_rounds (retE Q) (startR 3 ds) s := by
  obtain ⟨st, cs, rfl, h0, h1, hc, q⟩ := h
  have e : startR 3 [.int st, .tuple (cs.map tupI)] = [.fz (.int st), .fz (.tuple (cs.map tupI)), .un] := rfl
  have hs : 100000 ≤ sizeLine := by decide
  unfold t_truth
  simp [e]
  refine ⟨st, rfl, h0, h1, cs, _, rfl, by omega, by rw [rngD_length]; omega, ?_⟩
  rw [oneTo_ints, rows_ints]
  simp [cutD_last]
  refine ⟨rowsN st cs, by rw [rowsN, List.map_dropLast], by rw [rowsN, List.length_dropLast, rowsG_len]; omega, ?_⟩
  unfold pairD at q
  rcases repD_form (rowsN st cs) [] 0 (fun k d z => nomatch z) with ef | ⟨i, t, _, _, ef⟩
  · rw [ef] at q ⊢
    simp [isN]
    exact ⟨by omega, q⟩
  · rw [ef] at q ⊢
    simp [isN]
    exact ⟨by omega, by omega, q⟩
def tlenD (st : Int) (cs : List (List Int)) : D := match pairD st cs with
  | .tuple (_ :: y :: _) => y
  | _ => .int (cs.length : Nat)
def S_true_length : FS A := fun ds s Q => ∃ (st : Int) (cs : List (List Int)), ds = [.int st, .tuple (cs.map tupI)] ∧ 0 ≤ st ∧ st ≤ 1000 ∧ cs.length ≤ 40000 ∧ Q (tlenD st cs) s
theorem p_true_length (h : S_true_length ds s Q) : t_true_length S_first_repeat S_rows_of S_rounds (retE Q) (startR 3 ds) s := by
  obtain ⟨st, cs, rfl, h0, h1, hc, q⟩ := h
  have e : startR 3 [.int st, .tuple (cs.map tupI)] = [.fz (.int st), .fz (.tuple (cs.map tupI)), .un] := rfl
  have hs : 100000 ≤ sizeLine := by decide
  unfold t_true_length
  simp [e]
  refine ⟨st, rfl, h0, h1, cs, _, rfl, by omega, by rw [rngD_length]; omega, ?_⟩
  rw [oneTo_ints, rows_ints]
  simp [cutD_last]
  refine ⟨rowsN st cs, by rw [rowsN, List.map_dropLast], by rw [rowsN, List.length_dropLast, rowsG_len]; omega, ?_⟩
  unfold tlenD pairD at q
  rcases repD_form (rowsN st cs) [] 0 (fun k d z => nomatch z) with ef | ⟨i, t, _, _, ef⟩
  · rw [ef] at q ⊢
    simpa [isN] using q
  · rw [ef] at q ⊢
    have at1 : atI [PyData.int (i : Nat), PyData.int (t : Nat)] 1 = some (.int (t : Nat)) := atI_nat (j := 1) rfl
    simp [isN, at1]
    exact q
end
end Dl
/-! check_truth. -/
namespace Dl
open PySem L2
def t_check_truth {A : Amb} (S_is_named S_rows_of S_is_from S_rounds S_first_repeat : FS A) : DS A :=
  (dSeq (dSet 3 (dSl (dCall S_rows_of (dCons (dVar 1) (dCons (dCall S_rounds (dCons (dVar 0) dNil)) dNil))) oNone (oSome (dUn fNeg (dC (.int 1))))))
  (dSeq (dIfS (dTest (dCall S_is_named (dCons (dVar 2) (dCons (dC (.str "true")) (dCons (dC (.int 1)) dNil)))))
  (dRet (dOp fIs (dCall S_first_repeat (dCons (dVar 3) dNil)) (dC .none)))
  dNx)
  (dSeq (dIfS (dOrT (dNotT (dTest (dCall S_is_named (dCons (dVar 2) (dCons (dC (.str "false")) (dCons (dC (.int 3)) dNil)))))) (dNotT (dTest (dCall S_is_from (dCons (dOp fIx (dVarB 2) (dC (.int 2))) (dCons (dC (.int 0)) (dCons (dOp fSub (dFn fLen (dCons (dVarB 3) dNil)) (dC (.int 1))) dNil)))))))
  (dRet (dC (.bool false)))
  dNx)
  (dRet (dAnd (dCall S_is_from (dCons (dOp fIx (dVarB 2) (dC (.int 1))) (dCons (dC (.int 0)) (dCons (dOp fSub (dOp fIx (dVarB 2) (dC (.int 2))) (dC (.int 1))) dNil)))) (dOp fEqU (dOp fIx (dVarB 3) (dOp fIx (dVarB 2) (dC (.int 1)))) (dOp fIx (dVarB 3) (dOp fIx (dVarB 2) (dC (.int 2))))))))))
theorem named_form {n : Str} {m : Int} {v : D} (h : namedB n m v = true) : ∃ r, v = .tuple (.str n :: r) ∧ (r.length : Int) + 1 = m := by
  cases v with
  | tuple xs =>
    cases xs with
    | nil => simp [namedB] at h
    | cons x r =>
      cases x with
      | str z =>
        simp [namedB] at h
        exact ⟨r, by rw [h.2], by omega⟩
      | _ => simp [namedB] at h
  | _ => simp [namedB] at h
theorem named3 {n : Str} {v : D} (h : namedB n 3 v = true) : ∃ b c, v = .tuple [.str n, b, c] := by
  obtain ⟨r, rfl, hr⟩ := named_form h
  match r, hr with
  | [b, c], _ => exact ⟨b, c, rfl⟩
  | [], h => simp at h
  | [_], h => simp at h
  | _ :: _ :: _ :: _, h => simp at h; omega
/-- two equal rows that are told -/
def pairB (rs : List (List Int)) : D → Bool
  | .tuple [_, .int i, .int j] => decide (0 ≤ i ∧ i < j ∧ j < rs.length) && decide (rs.getD i.toNat [] = rs.getD j.toNat [])
  | _ => false
def checkB (rs : List (List Int)) (v : D) : Bool := if namedB "true" 1 v = true then isN (repD [] 0 rs) else namedB "false" 3 v && pairB rs v
theorem row_at {rs : List (List Int)} {i : Int} (h0 : 0 ≤ i) (h1 : i < rs.length) : atI (rs.map tupI) i = some (tupI (rs.getD i.toNat [])) := by
  have lt : i.toNat < rs.length := by omega
  have e : i = ((i.toNat : Nat) : Int) := by omega
  rw [e]
  refine atI_nat ?_
  rw [List.getElem?_map, Int.toNat_natCast, List.getD_eq_getElem?_getD, List.getElem?_eq_getElem lt]
  rfl
theorem repD_nd (rs : List (List Int)) : notDict (repD [] 0 rs) := by
  rcases repD_form rs [] 0 (fun k d z => nomatch z) with e | ⟨i, t, _, _, e⟩ <;> rw [e] <;> trivial
@[simp] theorem eqOk_tupI (a b : List Int) : eqOk (tupI a) (tupI b) = True := eq_true (eqOk_intsT a b)
@[simp] theorem eqv_tupI (a b : List Int) : PyData.eqv (tupI a) (tupI b) = decide (a = b) := eqv_intsT a b
section
variable {A : Amb} {ds : List D} {s : A.S} {Q : D → A.S → Prop}
def S_check_truth : FS A := fun ds s Q => ∃ (st : Int) (cs : List (List Int)) (v : D), ds = [.int st, .tuple (cs.map tupI), v] ∧ 0 ≤ st ∧ st ≤ 1000 ∧ cs.length ≤ 40000 ∧ flat1 v ∧ Q (.bool (checkB (rowsN st cs) v)) s
theorem p_check_truth (h : S_check_truth ds s Q) : t_check_truth S_is_named S_rows_of S_is_from S_rounds S_first_repeat (retE Q) (startR 4 ds) s := by
  obtain ⟨st, cs, v, rfl, h0, h1, hc, fl, q⟩ := h
  have e : startR 4 [.int st, .tuple (cs.map tupI), v] = [.fz (.int st), .fz (.tuple (cs.map tupI)), .fz v, .un] := rfl
  have hs : 100000 ≤ sizeLine := by decide
  unfold t_check_truth
  simp [e]
  refine ⟨st, rfl, h0, h1, cs, _, rfl, by omega, by rw [rngD_length]; omega, ?_⟩
  rw [oneTo_ints, rows_ints]
  simp [cutD_last, -List.length_dropLast]
  have er : (List.map tupI (rowsG cs (oneTo st.toNat))).dropLast = (rowsN st cs).map tupI := by rw [rowsN, List.map_dropLast]
  have lr : (rowsN st cs).length ≤ 40000 := by rw [rowsN, List.length_dropLast, rowsG_len]; omega
  rw [er]
  generalize rowsN st cs = rs at lr q ⊢
  refine ⟨v, _, 1, rfl, fl, by omega, ?_⟩
  unfold checkB at q
  by_cases n1 : namedB "true" 1 v = true
  · rw [if_pos n1] at q
    simp [n1]
    exact ⟨rs, rfl, by omega, by simpa using ⟨repD_nd rs, q⟩⟩
  · rw [if_neg n1] at q
    have n1' : namedB (Str.ofString "true") 1 v = false := by simpa using n1
    simp [n1']
    refine ⟨v, _, 3, rfl, fl, by omega, ?_⟩
    by_cases n3 : namedB "false" 3 v = true
    · obtain ⟨b, c, rfl⟩ := named3 n3
      have at1 : atI [.str "false", b, c] 1 = some b := atI_nat (j := 1) rfl
      have at2 : atI [.str "false", b, c] 2 = some c := atI_nat (j := 2) rfl
      have ndb : notDict b := fl b (by simp)
      have ndc : notDict c := fl c (by simp)
      rw [n3, Bool.true_and] at q
      simp [n3, at2]
      refine ⟨c, 0, _, rfl, ndc, ?_⟩
      cases c with
      | int j =>
        by_cases hj : 0 ≤ j ∧ j ≤ (rs.length : Int) - 1
        · have f1 : fromB (.int j) 0 ((rs.length : Int) - 1) = true := by simp [fromB]; exact hj
          simp [f1, at1]
          refine ⟨b, 0, _, rfl, ndb, ?_⟩
          cases b with
          | int i =>
            by_cases hi : 0 ≤ i ∧ i ≤ j - 1
            · have f2 : fromB (.int i) 0 (j - 1) = true := by simp [fromB]; exact hi
              have a1 := row_at (rs := rs) (i := i) hi.1 (by omega)
              have a2 := row_at (rs := rs) (i := j) hj.1 (by omega)
              simp [f2, a1, a2, at1]
              have c1 : decide (0 ≤ i ∧ i < j ∧ j < (rs.length : Int)) = true := decide_eq_true (by omega)
              have q2 : Q (.bool (decide (rs.getD i.toNat [] = rs.getD j.toNat []))) s := by
                simpa only [pairB, c1, Bool.true_and] using q
              simpa using q2
            · have f2 : fromB (.int i) 0 (j - 1) = false := by
                simp only [fromB]
                by_cases h : 0 ≤ i
                · rw [decide_eq_true h, Bool.true_and, decide_eq_false_iff_not]; omega
                · rw [decide_eq_false h, Bool.false_and]
              have c1 : decide (0 ≤ i ∧ i < j ∧ j < (rs.length : Int)) = false := decide_eq_false (by omega)
              simp [f2]
              simpa only [pairB, c1, Bool.false_and] using q
          | dict _ => exact ndb.elim
          | _ => simpa [fromB, pairB] using q
        · have f1 : fromB (.int j) 0 ((rs.length : Int) - 1) = false := by
            simp only [fromB]
            by_cases h : 0 ≤ j
            · rw [decide_eq_true h, Bool.true_and, decide_eq_false_iff_not]; omega
            · rw [decide_eq_false h, Bool.false_and]
          simp [f1]
          have q2 : pairB rs (.tuple [.str "false", b, .int j]) = false := by
            cases b with
            | int i =>
              simp only [pairB]
              rw [decide_eq_false (by omega), Bool.false_and]
            | _ => rfl
          rw [q2] at q
          exact q
      | dict _ => exact ndc.elim
      | _ =>
        simp [fromB]
        cases b <;> simpa [pairB] using q
    · have n3' : namedB (Str.ofString "false") 3 v = false := by simpa using n3
      rw [show namedB "false" 3 v = false from n3', Bool.false_and] at q
      simp [n3']
      exact q
end
end Dl
/-! l.index(x) of a list. -/
namespace Dl
open PySem L2
def lixV (x y : D) (k : D → Prop) : Prop := match x with
  | .list ds => SeqAt.shaped (.list ds) = true ∧ SeqAt.shaped y = true ∧ ∃ (j : Nat) (z : D), ds[j]? = some z ∧ PyData.eqv z y = true ∧ (∀ (m : Nat) (z' : D), m < j → ds[m]? = some z' → PyData.eqv z' y = false) ∧ k (.int (j : Nat))
  | _ => False
def isL : D → Prop
  | .list _ => True
  | _ => False
@[simp] theorem isL_list {ds : List D} : isL (.list ds) = True := rfl
@[simp] theorem lixV_list {ds : List D} {y : D} {k : D → Prop} : lixV (.list ds) y k = (SeqAt.shaped (.list ds) = true ∧ SeqAt.shaped y = true ∧ ∃ (j : Nat) (z : D), ds[j]? = some z ∧ PyData.eqv z y = true ∧ (∀ (m : Nat) (z' : D), m < j → ds[m]? = some z' → PyData.eqv z' y = false) ∧ k (.int (j : Nat))) := rfl
section
variable {A : Amb} {X : Cx} {N : Ent} {e : Expr} {to te : DE A} {ρ : Rho} {s : A.S} {Q : D → A.S → Prop}
def dLIx (to te : DE A) : DE A := fun ρ s Q => to ρ s fun x s1 => isL x ∧ te ρ s1 fun y s2 => lixV x y fun z => Q z s2
@[simp] theorem q_dLIx : dLIx to te ρ s Q = to ρ s fun x s1 => isL x ∧ te ρ s1 fun y s2 => lixV x y fun z => Q z s2 := rfl
theorem e_lix (h : PE X e (tBM X.K "list" (rIndexD X.K) (liftB A X.K N to) (tCons (liftB A X.K N te) tNil))) : PE X e (liftE A X.K N (dLIx to te)) :=
  PE.imp h fun σ H Q ⟨ρ, s, O, P, R0, q, k⟩ => ⟨ρ, s, O, _, R0, q, fun x s1 vx H1 O1 q1 R1 le1 rx => by
    obtain ⟨il, q1⟩ := q1
    cases x with
    | list ds =>
      obtain ⟨a, vs, rfl, ha, r1⟩ := (R1.bh rx).list fzP_le
      refine ⟨.inl ⟨rfl, vs, SqL.of ha⟩, ρ, s1, O1, _, R1, q1, fun y s2 vy H2 O2 q2 R2 le2 ry => ?_⟩
      obtain ⟨h1, h2, j, z, h3, h4, h5, q2⟩ := q2
      exact ⟨a, vy, y, ds, j, z, rfl, rfl, (R2.bh (rx.mono le2)).dp fzP_le (SeqAt.canLay_of_shaped h1), (R2.bh ry).dp fzP_le (SeqAt.canLay_of_shaped h2), h1, h2, h3, h4, h5, k _ s2 _ H2 O2 q2 R2 (le1.trans le2) (.int _)⟩
    | _ => exact il.elim⟩
end
end Dl
/-! The law k06 over data. -/
namespace Dl
open PySem L2
def t_law_k06 {A : Amb} (S_L_stage S_L_piece S_L_repeat S_L_draw S_L_rows S_L_same S_L_booled S_L_named S_L_rounds S_L_bent S_L_is_number S_truth S_true_length S_check_truth : FS A) : DS A :=
  (dSeq (dSet 2 (dCall S_L_stage (dCons (dVar 1) (dCons (dC (.int 6)) dNil))))
  (dSeq (dSet 3 (dCall S_L_piece (dCons (dVar 1) (dCons (dVar 2) (dCons (dC (.int 60)) dNil)))))
  (dSeq (dIfS (dTest (dOp fEqU (dCall S_L_draw (dCons (dVar 1) (dCons (dC (.int 2)) dNil))) (dC (.int 0))))
  (dSet 3 (dSl (dOp fMul (dVarB 3) (dC (.int 5))) oNone (oSome (dC (.int 60)))))
  dNx)
  (dSeq (dSet 4 (dSl (dCall S_L_rows (dCons (dVar 3) (dCons (dCall S_L_rounds (dCons (dVar 2) dNil)) dNil))) oNone (oSome (dUn fNeg (dC (.int 1))))))
  (dSeq (dSet 5 (dCall S_L_repeat (dCons (dVar 4) dNil)))
  (dSeq (dSet 6 (dIf (dTest (dOp fIs (dVarB 5) (dC .none))) (dTup (dCons (dC (.str "true")) dNil)) (dOp fAdd (dTup (dCons (dC (.str "false")) dNil)) (dVarB 5))))
  (dSeq (dIfS (dNotT (dTest (dCall S_L_same (dCons (dLst (dCons (dCall S_truth (dCons (dVar 2) (dCons (dVar 3) dNil))) (dCons (dCall S_true_length (dCons (dVar 2) (dCons (dVar 3) dNil))) dNil))) (dCons (dLst (dCons (dVar 6) (dCons (dIf (dTest (dOp fIs (dVarB 5) (dC .none))) (dFn fLen (dCons (dVarB 3) dNil)) (dOp fIx (dVarB 5) (dC (.int 1)))) dNil))) dNil)))))
  (dRet (dC (.bool false)))
  dNx)
  (dSeq (dSet 7 (dLst (dCons (dVar 6) (dCons (dOfN (nFn gList (dCons (dVarB 6) dNil))) (dCons (dCall S_L_booled (dCons (dVar 6) dNil)) (dCons (dSl (dVarB 6) oNone (oSome (dC (.int 1)))) (dCons (dOp fAdd (dVarB 6) (dTup (dCons (dC (.int 0)) dNil))) (dCons (dC .none) (dCons (dTup (dCons (dC (.str "true")) dNil)) (dCons (dTup (dCons (dC (.str "true")) (dCons (dC (.int 0)) dNil))) (dCons (dTup (dCons (dC (.str "false")) (dCons (dC (.int 0)) (dCons (dFn fLen (dCons (dVarB 4) dNil)) dNil)))) (dCons (dTup (dCons (dC (.str "false")) (dCons (dC (.int 0)) (dCons (dC (.int 0)) dNil)))) (dCons (dTup (dCons (dC (.str "false")) (dCons (dUn fNeg (dC (.int 1))) (dCons (dC (.int 0)) dNil)))) dNil)))))))))))))
  (dSeq (dSet 7 (dOp fAdd (dVarB 7) (dLst (dCons (dTup (dCons (dC (.str "false")) (dCons (dOp fSub (dFn fLen (dCons (dVarB 4) dNil)) (dC (.int 1))) (dCons (dFn fLen (dCons (dVarB 4) dNil)) dNil)))) (dCons (dOp fAdd (dTup (dCons (dC (.str "untrue")) dNil)) (dSl (dVarB 6) (oSome (dC (.int 1))) oNone)) dNil)))))
  (dSeq (dFor (dRg1 (dCons (dC (.int 20)) dNil)) (dgN 8)
  (dSeq (dPar 9 10 (dCons (dCall S_L_draw (dCons (dVar 1) (dCons (dFn fLen (dCons (dVarB 4) dNil)) dNil))) (dCons (dCall S_L_draw (dCons (dVar 1) (dCons (dOp fAdd (dFn fLen (dCons (dVarB 4) dNil)) (dC (.int 1))) dNil))) dNil)))
  (dSet 7 (dOp fAdd (dVarB 7) (dLst (dCons (dTup (dCons (dC (.str "false")) (dCons (dVar 9) (dCons (dVar 10) dNil)))) dNil))))))
  (dSeq (dFor (dRg1 (dCons (dFn fLen (dCons (dVarB 4) dNil)) dNil)) (dgN 10)
  (dSet 7 (dOp fAdd (dVarB 7) (dLst (dCons (dTup (dCons (dC (.str "false")) (dCons (dLIx (dVarB 4) (dOp fIx (dVarB 4) (dVarB 10))) (dCons (dVar 10) dNil)))) dNil)))))
  (dSeq (dFor (dIt (dOp fAdd (dVarB 7) (dOfN (nComp (dRg1 (dCons (dC (.int 4)) dNil)) (dgN 8) dYes (dCall S_L_bent (dCons (dVar 1) (dCons (dVar 6) dNil))) [8])))) (dgN 11)
  (dSeq (dSet 12 (dC (.bool false)))
  (dSeq (dIfS (dTest (dCall S_L_named (dCons (dVar 11) (dCons (dC (.str "true")) (dCons (dC (.int 1)) dNil)))))
  (dSet 12 (dOp fIs (dVarB 5) (dC .none)))
  dNx)
  (dSeq (dIfS (dAndT (dTest (dCall S_L_named (dCons (dVar 11) (dCons (dC (.str "false")) (dCons (dC (.int 3)) dNil))))) (dAndT (dTest (dCall S_L_is_number (dCons (dOp fIx (dVarB 11) (dC (.int 1))) (dCons (dOp fSub (dFn fLen (dCons (dVarB 4) dNil)) (dC (.int 1))) dNil)))) (dTest (dCall S_L_is_number (dCons (dOp fIx (dVarB 11) (dC (.int 2))) (dCons (dOp fSub (dFn fLen (dCons (dVarB 4) dNil)) (dC (.int 1))) dNil))))))
  (dSet 12 (dAnd (dOp fLt (dOp fIx (dVarB 11) (dC (.int 1))) (dOp fIx (dVarB 11) (dC (.int 2)))) (dOp fEqU (dOp fIx (dVarB 4) (dOp fIx (dVarB 11) (dC (.int 1)))) (dOp fIx (dVarB 4) (dOp fIx (dVarB 11) (dC (.int 2)))))))
  dNx)
  (dSeq (dSet 13 (dFn fRepr (dCons (dVarB 11) dNil)))
  (dIfS (dOrT (dNotT (dTest (dCall S_L_same (dCons (dCall S_check_truth (dCons (dVar 2) (dCons (dVar 3) (dCons (dVar 11) dNil)))) (dCons (dVar 12) dNil))))) (dTest (dOp fNeU (dFn fRepr (dCons (dVarB 11) dNil)) (dVarB 13))))
  (dRet (dC (.bool false)))
  dNx))))))
  (dRet (dC (.bool true)))))))))))))))
section
variable {A : Amb} {ρ : Rho} {s : A.S} {D0 : DEnds A} {t u : DS A}
/-- the rest behind a statement, once for all ways through it -/
theorem seq_inv (P : Rho → A.S → Prop) (hu : ∀ ρ' s', P ρ' s' → u D0 ρ' s') (h : ∀ U : Rho → A.S → Prop, (∀ ρ' s', P ρ' s' → U ρ' s') → t ⟨U, D0.rt, D0.bk, D0.ct⟩ ρ s) : dSeq t u D0 ρ s := h _ hu
end
theorem all2_ok {p : D → Prop} {xs : List D} {rs : List (Option D)} (h : All2 (fun _ r => ∃ d', r = some d' ∧ p d') xs rs) : ∀ x ∈ rs.filterMap id, p x := by
  induction h with
  | nil => simp
  | cons r t ih =>
    obtain ⟨d', rfl, ok⟩ := r
    rw [show (some d' :: _ : List (Option D)).filterMap id = d' :: List.filterMap id _ from rfl]
    intro x m
    rcases List.mem_cons.mp m with rfl | m
    · exact ok
    · exact ih x m
theorem first_at (P : Nat → Prop) : ∀ j, P j → ∃ i, i ≤ j ∧ P i ∧ ∀ m, m < i → ¬ P m := by
  intro j
  induction j using Nat.strongRecOn with
  | _ j ih =>
    intro h
    by_cases e : ∃ m, m < j ∧ P m
    · obtain ⟨m, hm, pm⟩ := e
      obtain ⟨i, h1, h2, h3⟩ := ih m hm pm
      exact ⟨i, by omega, h2, h3⟩
    · exact ⟨j, Nat.le_refl _, h, fun m hm pm => e ⟨m, hm, pm⟩⟩
theorem rowsN_len {st : Int} {cs : List (List Int)} : (rowsN st cs).length = cs.length := by rw [rowsN, List.length_dropLast, rowsG_len]; rfl
theorem rowsN_plain {st : Int} {cs : List (List Int)} (h : st ≤ 1000) : ∀ y ∈ (rowsN st cs).map tupI, plainB 1 y = true := by
  intro y m
  have m' : y ∈ (rowsG cs (oneTo st.toNat)).map tupI := by
    rw [rowsN, List.map_dropLast] at m
    exact List.dropLast_subset _ m
  rw [← rows_ints] at m'
  exact rowsG_plain cs _ (plain_ints _) (by rw [intsD_length]; simp [oneTo]; omega) y m'
theorem shaped_plain {n : Nat} {d : D} (h : plainB n d = true) (hn : n ≤ 60) : SeqAt.shaped d = true := by
  unfold SeqAt.shaped
  have := plain_depth h
  rw [plain_lay h, decide_eq_true (by omega)]
  rfl
theorem lix_rows {rs : List (List Int)} (hp : ∀ y ∈ rs.map tupI, plainB 1 y = true) (hl : rs.length ≤ 1000) {j : Nat} (hj : j < rs.length) {k : D → Prop} (q : ∀ i : Nat, i ≤ j → k (.int (i : Nat))) : lixV (.list (rs.map tupI)) (tupI rs[j]) k := by
  obtain ⟨i, h1, h2, h3⟩ := first_at (fun m => rs[m]? = some rs[j]) j (List.getElem?_eq_getElem hj)
  refine ⟨shaped_plain (plain_list hp (by rw [List.length_map]; omega)) (by omega), shaped_intsT _, i, tupI rs[j], by rw [List.getElem?_map, h2]; rfl, by simp, fun m z' hm hz => ?_, q i h1⟩
  rw [List.getElem?_map] at hz
  cases hr : rs[m]? with
  | none => rw [hr] at hz; cases hz
  | some r =>
    rw [hr] at hz
    cases hz
    rw [eqv_tupI, decide_eq_false_iff_not]
    rintro rfl
    exact h3 m hm hr
/-- a paper that is tried -/
abbrev pap (x : D) : Prop := okD 11 1000 x
theorem pap_f {ds : List D} (h : ∀ x ∈ ds, plainB 0 x = true) (w : wtL ds ≤ 900) : pap (.tuple ds) := (okT h (by omega) (by omega) : okD 1 1000 _).mono (by omega) (Nat.le_refl _)
theorem pap3 {x : Str} {i j : Int} (hx : plainB 0 (.str x) = true) (h0 : x.length ≤ 20) (hi : i.natAbs ≤ 100) (hj : j.natAbs ≤ 100) : pap (.tuple [.str x, .int i, .int j]) :=
  pap_f (fun y m => by simp at m; rcases m with rfl | rfl | rfl <;> first | exact hx | simp [plainB]) (by simp only [wtL, wt]; omega)
/-- the paper that is due -/
structure DueOk (p : D) (dl : List D) (n : Nat) : Prop where
  is : truthD p = .tuple dl
  pl : ∀ x ∈ dl, plainB 0 x = true
  wt : wtL dl ≤ 200
  len : dl.length ≤ 3
theorem due_of {rs : List (List Int)} (hl : rs.length ≤ 60) : ∃ dl, DueOk (repD [] 0 rs) dl rs.length := by
  rcases repD_form rs [] 0 (fun k d z => nomatch z) with e | ⟨i, t, h1, h2, e⟩
  · exact ⟨[.str "true"], by rw [e]; rfl, fun x m => by rw [List.mem_singleton.mp m]; decide +kernel, by decide +kernel, by decide⟩
  · have z : wtL [PyData.str "false"] = 6 := by decide +kernel
    exact ⟨[.str "false", .int (i : Nat), .int (t : Nat)], by rw [e]; rfl, fun x m => by simp at m; rcases m with rfl | rfl | rfl <;> first | decide +kernel | simp [plainB], by simp only [wtL, Dl.wt] at z ⊢; omega, by simp⟩
theorem p_law_k06 (a : Addr) (s : (poolA a).S) : t_law_k06 (S_stage a) (S_L_piece a) S_first_repeat (S_draw a) S_rows_of (S_same 10) (S_booled 10) S_is_named S_rounds (S_bent a 10) S_L_is_number S_truth S_true_length S_check_truth (lawEnds _) (ρLaw a 12) s := by
  have e : ρLaw a 12 = [.un, .fz (refD a), .un, .un, .un, .un, .un, .un, .un, .un, .un, .un, .un, .un] := rfl
  have hs : 1000000 ≤ sizeLine := by decide
  unfold t_law_k06
  rw [e, q_dSeq]
  simp [-q_dSeq, -q_dIfS]
  refine ⟨6, rfl, by omega, by omega, fun st s3 s6 => ?_⟩
  dsimp only
  rw [q_dSeq]
  simp [-q_dSeq, -q_dIfS]
  refine ⟨st, 60, rfl, s3, by omega, by omega, by omega, fun L hL l1 l60 => ?_⟩
  dsimp only
  obtain ⟨pcs, rfl, hpc⟩ := changes_list hL
  rw [List.length_map] at l1 l60
  replace l60 : pcs.length ≤ 60 := l60
  refine seq_inv (fun ρ' s' => s' = s ∧ ∃ qs : List (List Int), 1 ≤ qs.length ∧ qs.length ≤ 60 ∧ ρ' = [.un, .fz (refD a), .fz (.int st), .fz (.tuple (qs.map tupI)), .un, .un, .un, .un, .un, .un, .un, .un, .un, .un]) ?_ fun U hU => ?_
  rotate_left
  · simp
    refine ⟨2, rfl, by omega, by omega, fun v v0 v2 => ?_⟩
    simp
    by_cases hv : v = 0
    · simp [hv]
      have lp : (pcs.map tupI).length ≤ 60 := by rw [List.length_map]; exact l60
      have ne : pcs.map tupI ≠ [] := fun z => by
        have := congrArg List.length z
        rw [List.length_map, List.length_nil] at this
        omega
      refine ⟨ne, by decide, Nat.le_trans (Nat.mul_le_mul_right _ lp) (by decide), ?_⟩
      have ef : (List.replicate (5 : Int).toNat (pcs.map tupI)).flatten = ((List.replicate 5 pcs).flatten).map tupI := by
        rw [List.map_flatten, List.map_replicate]
        rfl
      rw [ef]
      dsimp only
      rw [slV_tuple, cutD_to (by omega), ← List.map_take]
      refine hU _ _ ⟨rfl, _, ?_, ?_, rfl⟩
      · rw [List.length_take, PyProof.Rows.lm_len_rep_flat]
        have : (60 : Int).toNat = 60 := rfl
        omega
      · rw [List.length_take]
        have : (60 : Int).toNat = 60 := rfl
        omega
    · simp [hv]
      exact hU _ _ ⟨rfl, pcs, l1, l60, rfl⟩
  rintro ρ' s' ⟨rfl, qs, q1, q60, rfl⟩
  clear hpc hL l1 l60 pcs
  rw [q_dSeq]
  simp [-q_dSeq, -q_dIfS, -List.length_dropLast]
  refine ⟨st, rfl, by omega, by omega, qs, _, rfl, by omega, by rw [rngD_length]; omega, ?_⟩
  rw [oneTo_ints, rows_ints]
  simp [-q_dSeq, -q_dIfS, cutD_last, -List.length_dropLast]
  have er : (List.map tupI (rowsG qs (oneTo st.toNat))).dropLast = (rowsN st qs).map tupI := by rw [rowsN, List.map_dropLast]
  have lr : (rowsN st qs).length = qs.length := rowsN_len
  have pr := rowsN_plain (cs := qs) (show st ≤ 1000 by omega)
  have ht : truthD (pairD st qs) = truthD (repD [] 0 (rowsN st qs)) := rfl
  rw [er]
  obtain ⟨dl, due⟩ := due_of (rs := rowsN st qs) (by omega)
  rw [q_dSeq]
  simp [-q_dSeq, -q_dIfS]
  refine ⟨_, rfl, by omega, ?_⟩
  dsimp only
  refine seq_inv (fun ρ' s1 => s1 = s' ∧ ρ' = [.un, .fz (refD a), .fz (.int st), .fz (.tuple (qs.map tupI)), .fz (.list ((rowsN st qs).map tupI)), .fz (repD [] 0 (rowsN st qs)), .fz (truthD (repD [] 0 (rowsN st qs))), .un, .un, .un, .un, .un, .un, .un]) ?_ fun U hU => ?_
  rotate_left
  · rcases repD_form (rowsN st qs) [] 0 (fun k d z => nomatch z) with ef | ⟨i, t, _, _, ef⟩
    · rw [ef] at hU ⊢
      simp [isN]
      exact ⟨by omega, hU _ _ ⟨rfl, rfl⟩⟩
    · rw [ef] at hU ⊢
      simp [isN]
      exact ⟨by omega, by omega, hU _ _ ⟨rfl, rfl⟩⟩
  rintro ρ' s1 ⟨rfl, rfl⟩
  refine seq_if ?_ fun U hU => ?_
  rotate_left
  · have pt : plainB 2 (truthD (repD [] 0 (rowsN st qs))) = true := by rw [due.is]; exact plain_mono (plain_tuple due.pl (by have := due.len; omega)) (by omega)
    have fin : ∀ y : Int, plainB 9 (.list [truthD (repD [] 0 (rowsN st qs)), .int y]) = true := fun y => plain_mono (plain_list (n := 2) (fun x m => by simp at m; rcases m with rfl | rfl <;> first | exact pt | simp [plainB]) (by simp)) (by omega)
    rcases repD_form (rowsN st qs) [] 0 (fun k d z => nomatch z) with ef | ⟨i, t, i1, i2, ef⟩
    · have ep : pairD st qs = .none := ef
      rw [ef] at hU fin ⊢
      simp
      refine ⟨st, qs, rfl, by omega, by omega, by omega, ?_⟩
      refine ⟨st, qs, rfl, by omega, by omega, by omega, ?_⟩
      simp [tlenD, ep, isN]
      refine ⟨by omega, _, _, 9, rfl, rfl, ⟨9, fin _⟩, fin _, ?_⟩
      rw [sameB_eq]
      simpa using hU
    · have ep : pairD st qs = .tuple [.int (i : Nat), .int (t : Nat)] := ef
      have at1 : atI [PyData.int (i : Nat), PyData.int (t : Nat)] 1 = some (.int (t : Nat)) := atI_nat (j := 1) rfl
      rw [ef] at hU fin ⊢
      simp
      refine ⟨st, qs, rfl, by omega, by omega, by omega, ?_⟩
      refine ⟨st, qs, rfl, by omega, by omega, by omega, ?_⟩
      simp [tlenD, ep, isN, at1]
      refine ⟨by omega, _, _, 9, rfl, rfl, ⟨9, fin _⟩, fin _, ?_⟩
      rw [sameB_eq]
      simpa using hU
  have pt : plainB 9 (truthD (repD [] 0 (rowsN st qs))) = true := by rw [due.is]; exact plain_mono (plain_tuple due.pl (by have := due.len; omega)) (by omega)
  have wd : wt (truthD (repD [] 0 (rowsN st qs))) ≤ 201 := by rw [due.is, wt]; have := due.wt; omega
  have hd := due.is
  have hnd : notDict (repD [] 0 (rowsN st qs)) := repD_nd _
  rw [hd] at pt wd
  have ll := due.len
  have pa : ∀ ys : List D, (∀ x ∈ ys, plainB 0 x = true) → wtL ys ≤ 100 → ∀ zs : List D, (∀ x ∈ zs, plainB 0 x = true) → wtL zs ≤ wtL dl → pap (.tuple (ys ++ zs)) := fun ys h1 h2 zs h3 h4 => pap_f (fun x m => (List.mem_append.mp m).elim (h1 x) (h3 x)) (by rw [wtL_append]; have := due.wt; omega)
  have p3 : ∀ i j : Int, i.natAbs ≤ 100 → j.natAbs ≤ 100 → pap (.tuple [.str "false", .int i, .int j]) := fun i j h1 h2 => pap3 (by decide +kernel) (by decide +kernel) h1 h2
  have c0 : ∀ l u, ∀ x ∈ cutD dl l u, plainB 0 x = true := fun l u x m => due.pl x (mem_cutD m)
  refine seq_inv (fun ρ' s2 => s2 = s1 ∧ ∃ T : List D, (∀ x ∈ T, pap x) ∧ T.length ≤ 11 ∧ ρ' = [.un, .fz (refD a), .fz (.int st), .fz (.tuple (qs.map tupI)), .fz (.list ((rowsN st qs).map tupI)), .fz (repD [] 0 (rowsN st qs)), .fz (.tuple dl), .fz (.list T), .un, .un, .un, .un, .un, .un]) ?_ fun U hU => ?_
  rotate_left
  · rw [hd]
    simp [-q_dSeq, -q_dIfS]
    refine ⟨_, 9, rfl, rfl, pt, fun w ok1 it1 => ?_⟩
    have l1 : (cutD dl none (some 1)).length ≤ dl.length := len_cutD
    refine ⟨by omega, by omega, by omega, by omega, by omega, by omega, hU _ _ ⟨rfl, _, ?_, ?_, rfl⟩⟩
    · intro x m
      simp only [List.mem_cons, List.not_mem_nil, or_false] at m
      rcases m with rfl | rfl | rfl | rfl | rfl | rfl | rfl | rfl | rfl | rfl | rfl
      · exact pap_f due.pl (by have := due.wt; omega)
      · exact (okL due.pl (by have := due.wt; omega) (by omega) : okD 1 1000 _).mono (by omega) (Nat.le_refl _)
      · exact ok1.mono (by omega) (by omega)
      · exact pap_f (c0 _ _) (Nat.le_trans wtL_cutD (by have := due.wt; omega))
      · exact pap_f (fun x m => (List.mem_append.mp m).elim (due.pl x) fun m => by rw [List.mem_singleton.mp m]; simp [plainB]) (by rw [wtL_append]; have := due.wt; have : wtL [PyData.int 0] = 1 := rfl; omega)
      · exact ⟨by simp [plainB], by simp [wt]⟩
      · exact ⟨by decide +kernel, by decide +kernel⟩
      · exact ⟨by decide +kernel, by decide +kernel⟩
      · exact p3 _ _ (by omega) (by omega)
      · exact p3 _ _ (by omega) (by omega)
      · exact p3 _ _ (by omega) (by omega)
    · simp
  rintro ρ' s2 ⟨rfl, T0, T0p, T0l, rfl⟩
  refine seq_inv (fun ρ' s3 => s3 = s2 ∧ ∃ T : List D, (∀ x ∈ T, pap x) ∧ T.length ≤ 13 ∧ ρ' = [.un, .fz (refD a), .fz (.int st), .fz (.tuple (qs.map tupI)), .fz (.list ((rowsN st qs).map tupI)), .fz (repD [] 0 (rowsN st qs)), .fz (.tuple dl), .fz (.list T), .un, .un, .un, .un, .un, .un]) ?_ fun U hU => ?_
  rotate_left
  · simp [-q_dSeq, -q_dIfS]
    have l1 : (cutD dl (some 1) none).length ≤ dl.length := len_cutD
    refine ⟨by omega, by omega, by omega, by omega, by omega, hU _ _ ⟨rfl, _, ?_, ?_, rfl⟩⟩
    · intro x m
      rcases List.mem_append.mp m with m | m
      · exact T0p x m
      simp only [List.mem_cons, List.not_mem_nil, or_false] at m
      rcases m with rfl | rfl
      · exact p3 _ _ (by omega) (by omega)
      · exact pa [.str "untrue"] (fun x m => by rw [List.mem_singleton.mp m]; decide +kernel) (by decide +kernel) _ (c0 _ _) wtL_cutD
    · simp; omega
  rintro ρ' s3 ⟨rfl, T1, T1p, T1l, rfl⟩
  refine seq_inv (fun ρ' s4 => s4 = s3 ∧ ∃ (T : List D) (c8 c9 c10 : Cell), (∀ x ∈ T, pap x) ∧ T.length ≤ 33 ∧ freeC (some c8) ∧ ρ' = [.un, .fz (refD a), .fz (.int st), .fz (.tuple (qs.map tupI)), .fz (.list ((rowsN st qs).map tupI)), .fz (repD [] 0 (rowsN st qs)), .fz (.tuple dl), .fz (.list T), c8, c9, c10, .un, .un, .un]) ?_ fun U hU => ?_
  rotate_left
  · refine for_of (xs := rngD 0 20) (fun k z => by simpa using z) (fun r ρ' s4 => s4 = s3 ∧ ∃ (T : List D) (c8 c9 c10 : Cell), (∀ x ∈ T, pap x) ∧ T.length + r.length ≤ 33 ∧ freeC (some c8) ∧ ρ' = [.un, .fz (refD a), .fz (.int st), .fz (.tuple (qs.map tupI)), .fz (.list ((rowsN st qs).map tupI)), .fz (repD [] 0 (rowsN st qs)), .fz (.tuple dl), .fz (.list T), c8, c9, c10, .un, .un, .un]) ⟨rfl, T1, .un, .un, .un, T1p, by rw [rngD_length]; omega, trivial, rfl⟩ ?_ ?_
    · rintro x r ρ s' ⟨rfl, T, c8, c9, c10, Tp, Tl, f8, rfl⟩ D' hrt hbk hnx hct
      rw [List.length_cons] at Tl
      simp
      refine ⟨_, rfl, by omega, by omega, fun i i0 i1 => ?_⟩
      refine ⟨_, rfl, by omega, by omega, fun j j0 j1 => ?_⟩
      simp
      refine ⟨_, _, ⟨rfl, rfl⟩, by omega, by omega, by omega, hnx _ _ ⟨rfl, _, _, _, _, ?_, ?_, ?_, rfl⟩⟩
      · intro x m
        rcases List.mem_append.mp m with m | m
        · exact Tp x m
        rw [List.mem_singleton.mp m]
        exact p3 _ _ (by omega) (by omega)
      · simp; omega
      · trivial
    · rintro ρ s' ⟨rfl, T, c8, c9, c10, Tp, Tl, f8, rfl⟩
      exact hU _ _ ⟨rfl, T, c8, c9, c10, Tp, by simpa using Tl, f8, rfl⟩
  rintro ρ' s4 ⟨rfl, T2, c8, c9, c10, T2p, T2l, f8, rfl⟩
  refine seq_inv (fun ρ' s5 => s5 = s4 ∧ ∃ (T : List D) (c9 c10 : Cell), (∀ x ∈ T, pap x) ∧ T.length ≤ 100 ∧ ρ' = [.un, .fz (refD a), .fz (.int st), .fz (.tuple (qs.map tupI)), .fz (.list ((rowsN st qs).map tupI)), .fz (repD [] 0 (rowsN st qs)), .fz (.tuple dl), .fz (.list T), c8, c9, c10, .un, .un, .un]) ?_ fun U hU => ?_
  rotate_left
  · refine for_of (xs := rngD 0 (rowsN st qs).length) (fun k z => by simpa using ⟨by omega, z⟩) (fun r ρ' s5 => s5 = s4 ∧ ∃ (T : List D) (c9 c10 : Cell), (∀ x ∈ T, pap x) ∧ T.length + r.length ≤ 100 ∧ (∀ x ∈ r, x ∈ rngD 0 (rowsN st qs).length) ∧ ρ' = [.un, .fz (refD a), .fz (.int st), .fz (.tuple (qs.map tupI)), .fz (.list ((rowsN st qs).map tupI)), .fz (repD [] 0 (rowsN st qs)), .fz (.tuple dl), .fz (.list T), c8, c9, c10, .un, .un, .un]) ⟨rfl, T2, c9, c10, T2p, by rw [rngD_length]; omega, fun x m => m, rfl⟩ ?_ ?_
    · rintro x r ρ s' ⟨rfl, T, c9, c10, Tp, Tl, hr, rfl⟩ D' hrt hbk hnx hct
      rw [List.length_cons] at Tl
      obtain ⟨j, hj, rfl⟩ := mem_rngD (hr x (List.mem_cons_self ..))
      have at1 : atI ((rowsN st qs).map tupI) (j : Int) = some (tupI (rowsN st qs)[j]) := atI_nat (by rw [List.getElem?_map, List.getElem?_eq_getElem hj]; rfl)
      simp [at1, -lixV_list]
      refine lix_rows pr (by omega) hj fun i hi => ?_
      refine ⟨by omega, by omega, by omega, hnx _ _ ⟨rfl, _, _, _, ?_, ?_, fun y m => hr y (List.mem_cons_of_mem _ m), rfl⟩⟩
      · intro x m
        rcases List.mem_append.mp m with m | m
        · exact Tp x m
        rw [List.mem_singleton.mp m]
        exact p3 _ _ (by omega) (by omega)
      · simp; omega
    · rintro ρ s' ⟨rfl, T, c9, c10, Tp, Tl, _, rfl⟩
      exact hU _ _ ⟨rfl, T, c9, c10, Tp, by simpa using Tl, rfl⟩
  rintro ρ' s5 ⟨rfl, T3, c9, c10, T3p, T3l, rfl⟩
  rw [q_dSeq]
  show dIt _ _ s5 _
  simp [-q_dSeq, -q_dIfS]
  refine comp_rel (xs := rngD 0 4) (fun k z => by simpa using z) (by simpa using f8) (by rw [rngD_length]; omega) (fun x r => ∃ d', r = some d' ∧ pap d') (fun x m s k q => ?_) (fun rs hr2 => ?_)
  · simp
    exact ⟨_, 9, rfl, rfl, pt, by omega, fun w ok3 it3 => q _ ⟨w, rfl, ok3.mono (by omega) (by omega)⟩⟩
  have ok3 := all2_ok hr2
  have len3 : (rs.filterMap id).length ≤ 4 := by
    have := hr2.length
    rw [rngD_length] at this
    exact Nat.le_trans (List.length_filterMap_le _ _) (by omega)
  generalize rs.filterMap id = T4 at ok3 len3 ⊢
  simp [-q_dSeq, -q_dIfS]
  refine ⟨by omega, ?_⟩
  have ok4 : ∀ x ∈ T3 ++ T4, pap x := fun x m => (List.mem_append.mp m).elim (T3p x) (ok3 x)
  generalize T3 ++ T4 = T5 at ok4 ⊢
  refine for_inv (fun r ρ' s6 => s6 = s5 ∧ (∀ x ∈ r, pap x) ∧ ∃ (c8 c11 c12 c13 : Cell), ρ' = [.un, .fz (refD a), .fz (.int st), .fz (.tuple (qs.map tupI)), .fz (.list ((rowsN st qs).map tupI)), .fz (repD [] 0 (rowsN st qs)), .fz (.tuple dl), .fz (.list T3), c8, c9, c10, c11, c12, c13]) ⟨rfl, ok4, _, .un, .un, .un, rfl⟩ ?_ ?_
  · rintro x r ρ s' ⟨rfl, okr, c8, c11, c12, c13, rfl⟩ D' hrt hbk hnx hct
    have okx := okr x (List.mem_cons_self ..)
    have rx := repr_ok okx (by omega) (by omega)
    have fx := okx.flat
    have nx := fx.nd
    rw [q_dSeq]
    simp [-q_dSeq, -q_dIfS]
    refine seq_inv (fun ρ' s6 => s6 = s' ∧ ρ' = [.un, .fz (refD a), .fz (.int st), .fz (.tuple (qs.map tupI)), .fz (.list ((rowsN st qs).map tupI)), .fz (repD [] 0 (rowsN st qs)), .fz (.tuple dl), .fz (.list T3), c8, c9, c10, .fz x, .fz (.bool (namedB "true" 1 x && isN (repD [] 0 (rowsN st qs)))), c13]) ?_ fun U hU => ?_
    rotate_left
    · simp
      refine ⟨x, _, 1, rfl, fx, by omega, ?_⟩
      by_cases n1 : namedB "true" 1 x = true
      · rw [n1, Bool.true_and] at hU
        simp [n1]
        exact ⟨hnd, hU _ _ ⟨rfl, rfl⟩⟩
      · have n1' : namedB "true" 1 x = false := by simpa using n1
        rw [n1', Bool.false_and] at hU
        have n1'' : namedB (Str.ofString "true") 1 x = false := n1'
        simp [n1'']
        exact hU _ _ ⟨rfl, rfl⟩
    rintro ρ' s6 ⟨rfl, rfl⟩
    refine seq_inv (fun ρ' s7 => s7 = s6 ∧ ρ' = [.un, .fz (refD a), .fz (.int st), .fz (.tuple (qs.map tupI)), .fz (.list ((rowsN st qs).map tupI)), .fz (repD [] 0 (rowsN st qs)), .fz (.tuple dl), .fz (.list T3), c8, c9, c10, .fz x, .fz (.bool (checkB (rowsN st qs) x)), c13]) ?_ fun U hU => ?_
    rotate_left
    · by_cases n3 : namedB "false" 3 x = true
      · obtain ⟨b, c, rfl⟩ := named3 n3
        have n1 : namedB "true" 1 (.tuple [.str "false", b, c]) = false := by simp [namedB]
        have ck : checkB (rowsN st qs) (.tuple [.str "false", b, c]) = pairB (rowsN st qs) (.tuple [.str "false", b, c]) := by
          unfold checkB
          rw [n1, n3, Bool.true_and]
          rfl
        rw [n1, Bool.false_and]
        rw [ck] at hU
        have at1 : atI [.str "false", b, c] 1 = some b := atI_nat (j := 1) rfl
        have at2 : atI [.str "false", b, c] 2 = some c := atI_nat (j := 2) rfl
        have ndb : notDict b := fx b (by simp)
        have ndc : notDict c := fx c (by simp)
        simp
        refine ⟨_, _, 3, rfl, fx, by omega, ?_⟩
        simp [n3, at1]
        refine ⟨b, _, rfl, ndb, ?_⟩
        cases b with
        | int i =>
          by_cases hi : 0 ≤ i ∧ i ≤ ((rowsN st qs).length : Int) - 1
          · have f1 : fromB (.int i) 0 (((rowsN st qs).length : Int) - 1) = true := by simp [fromB]; exact hi
            simp [f1, at2]
            refine ⟨c, _, rfl, ndc, ?_⟩
            cases c with
            | int j =>
              by_cases hj : 0 ≤ j ∧ j ≤ ((rowsN st qs).length : Int) - 1
              · have f2 : fromB (.int j) 0 (((rowsN st qs).length : Int) - 1) = true := by simp [fromB]; exact hj
                have a1 := row_at (rs := rowsN st qs) (i := i) hi.1 (by omega)
                have a2 := row_at (rs := rowsN st qs) (i := j) hj.1 (by omega)
                simp [f2, a1, a2, at1, at2]
                by_cases lt : i < j
                · have c1 : decide (0 ≤ i ∧ i < j ∧ j < ((rowsN st qs).length : Int)) = true := decide_eq_true (by omega)
                  simp only [pairB, c1, Bool.true_and] at hU
                  simp [lt]
                  exact hU _ _ ⟨rfl, by simp⟩
                · have c1 : decide (0 ≤ i ∧ i < j ∧ j < ((rowsN st qs).length : Int)) = false := decide_eq_false (by omega)
                  simp only [pairB, c1, Bool.false_and] at hU
                  simp [lt]
                  exact hU _ _ ⟨rfl, rfl⟩
              · have f2 : fromB (.int j) 0 (((rowsN st qs).length : Int) - 1) = false := by
                  simp only [fromB]
                  by_cases h : 0 ≤ j
                  · rw [decide_eq_true h, Bool.true_and, decide_eq_false_iff_not]; omega
                  · rw [decide_eq_false h, Bool.false_and]
                have c1 : decide (0 ≤ i ∧ i < j ∧ j < ((rowsN st qs).length : Int)) = false := decide_eq_false (by omega)
                simp only [pairB, c1, Bool.false_and] at hU
                simp [f2]
                exact hU _ _ ⟨rfl, rfl⟩
            | dict _ => exact ndc.elim
            | _ =>
              simp [fromB]
              exact hU _ _ ⟨rfl, rfl⟩
          · have f1 : fromB (.int i) 0 (((rowsN st qs).length : Int) - 1) = false := by
              simp only [fromB]
              by_cases h : 0 ≤ i
              · rw [decide_eq_true h, Bool.true_and, decide_eq_false_iff_not]; omega
              · rw [decide_eq_false h, Bool.false_and]
            have ef : pairB (rowsN st qs) (.tuple [.str "false", .int i, c]) = false := by
              cases c with
              | int j =>
                simp only [pairB]
                rw [decide_eq_false (by omega), Bool.false_and]
              | _ => rfl
            rw [ef] at hU
            simp [f1]
            exact hU _ _ ⟨rfl, rfl⟩
        | dict _ => exact ndb.elim
        | _ =>
          simp [fromB]
          exact hU _ _ ⟨rfl, rfl⟩
      · have n3' : namedB (Str.ofString "false") 3 x = false := by simpa using n3
        have ck : checkB (rowsN st qs) x = (namedB "true" 1 x && isN (repD [] 0 (rowsN st qs))) := by
          unfold checkB
          rw [show namedB "false" 3 x = false from n3', Bool.false_and]
          cases namedB "true" 1 x <;> rfl
        simp
        refine ⟨_, _, 3, rfl, fx, by omega, ?_⟩
        simp [n3']
        exact hU _ _ ⟨rfl, by rw [ck]⟩
    rintro ρ' s7 ⟨rfl, rfl⟩
    simp [rx]
    refine ⟨st, qs, x, rfl, by omega, by omega, by omega, fx, ?_⟩
    refine ⟨_, _, 9, rfl, rfl, ⟨0, by simp [plainB]⟩, by simp [plainB], ?_⟩
    rw [sameB_eq]
    simp [rx]
    exact hnx _ _ ⟨rfl, fun y m => okr y (List.mem_cons_of_mem _ m), _, _, _, _, rfl⟩
  · rintro ρ s' ⟨rfl, _, c8, c11, c12, c13, rfl⟩
    simp
end Dl
/-! How many arguments each promise has: truth of pieces. -/
namespace Dl
open PySem L2
section
variable {A : Amb} {ds : List D} {s : A.S} {Q : D → A.S → Prop}
theorem len_first_repeat (h : S_first_repeat ds s Q) : ds.length = 1 := by obtain ⟨_, e, _⟩ := h; rw [e]; rfl
theorem len_L_repeat (h : S_first_repeat ds s Q) : ds.length = 1 := len_first_repeat h
theorem len_is_named (h : S_is_named ds s Q) : ds.length = 3 := by obtain ⟨_, _, _, e, _⟩ := h; rw [e]; rfl
theorem len_L_named (h : S_is_named ds s Q) : ds.length = 3 := len_is_named h
theorem len_truth (h : S_truth ds s Q) : ds.length = 2 := by obtain ⟨_, _, e, _⟩ := h; rw [e]; rfl
theorem len_true_length (h : S_true_length ds s Q) : ds.length = 2 := by obtain ⟨_, _, e, _⟩ := h; rw [e]; rfl
theorem len_check_truth (h : S_check_truth ds s Q) : ds.length = 3 := by obtain ⟨_, _, _, e, _⟩ := h; rw [e]; rfl
end
end Dl
/-! Rows carried, their orders. -/
namespace Dl
open PySem L2
def t_carried {A : Amb} : DS A :=
  (dRet (dFn fTuple (dCons (dOfN (nComp (dIt (dVar 1)) (dgN 2) dYes (dOp fIx (dVarB 0) (dOp fSub (dVarB 2) (dC (.int 1)))) [2])) dNil)))
def t_order_of {A : Amb} (S_rounds S_carried : FS A) : DS A :=
  (dSeq (dSet 1 (dVar 0))
  (dSeq (dSet 2 (dC (.int 1)))
  (dSeq (dWhile (dTest (dOp fNeU (dVarB 1) (dCall S_rounds (dCons (dFn fLen (dCons (dVarB 0) dNil)) dNil))))
  (dSeq (dSet 1 (dCall S_carried (dCons (dVar 1) (dCons (dVar 0) dNil))))
  (dAug 2 fAddI (dC (.int 1)))))
  (dRet (dVar 2)))))
def t_L_carried {A : Amb} : DS A :=
  (dRet (dFn fTuple (dCons (dOfN (nComp (dIt (dVar 1)) (dgN 2) dYes (dOp fIx (dVarB 0) (dOp fSub (dVarB 2) (dC (.int 1)))) [2])) dNil)))
def t_L_order {A : Amb} (S_L_rounds S_L_carried : FS A) : DS A :=
  (dSeq (dSet 1 (dVar 0))
  (dSeq (dSet 2 (dC (.int 1)))
  (dSeq (dWhile (dTest (dOp fNeU (dVarB 1) (dCall S_L_rounds (dCons (dFn fLen (dCons (dVarB 0) dNil)) dNil))))
  (dSeq (dSet 1 (dCall S_L_carried (dCons (dVar 0) (dCons (dVar 1) dNil))))
  (dSet 2 (dOp fAdd (dVarB 2) (dC (.int 1))))))
  (dRet (dVar 2)))))

/-! ### two of many are alike -/
theorem pigeon : ∀ (n : Nat) (f : Nat → Nat), (∀ i, i ≤ n → f i < n) → ∃ i j, i < j ∧ j ≤ n ∧ f i = f j
  | 0, f, h => by have := h 0 (Nat.le_refl _); omega
  | n + 1, f, h => by
    by_cases c : ∃ i, i ≤ n ∧ f i = f (n + 1)
    · obtain ⟨i, hi, e⟩ := c
      exact ⟨i, n + 1, by omega, Nat.le_refl _, e⟩
    have c' : ∀ i, i ≤ n → f i ≠ f (n + 1) := fun i hi e => c ⟨i, hi, e⟩
    obtain ⟨i, j, h1, h2, e⟩ := pigeon n (fun i => if f i = n then f (n + 1) else f i) (fun i hi => by
      have a := h i (by omega)
      have b := h (n + 1) (Nat.le_refl _)
      have d := c' i hi
      split <;> omega)
    have a := c' i (by omega)
    have b := c' j h2
    refine ⟨i, j, h1, by omega, ?_⟩
    split at e <;> split at e <;> omega
/-! ### a map so many times -/
def itF (f : Int → Int) : Nat → Int → Int
  | 0, x => x
  | k + 1, x => f (itF f k x)
theorem itF_add (f : Int → Int) (x : Int) : ∀ a b : Nat, itF f (a + b) x = itF f a (itF f b x)
  | 0, b => by rw [Nat.zero_add]; rfl
  | a + 1, b => by rw [Nat.add_right_comm, itF, itF, itF_add f x a b]
theorem itF_mul {f : Int → Int} {x : Int} {k : Nat} (h : itF f k x = x) : ∀ m : Nat, itF f (k * m) x = x
  | 0 => rfl
  | m + 1 => by rw [Nat.mul_succ, itF_add, h, itF_mul h m]
section
variable {f : Int → Int} {n : Nat} (hf : ∀ b : Int, 1 ≤ b → b ≤ n → 1 ≤ f b ∧ f b ≤ n) (inj : ∀ a b : Int, 1 ≤ a → a ≤ n → 1 ≤ b → b ≤ n → f a = f b → a = b)
include hf
theorem itF_in {x : Int} (h1 : 1 ≤ x) (h2 : x ≤ n) : ∀ k, 1 ≤ itF f k x ∧ itF f k x ≤ n
  | 0 => ⟨h1, h2⟩
  | k + 1 => hf _ (itF_in h1 h2 k).1 (itF_in h1 h2 k).2
include inj
theorem itF_inj {x y : Int} (h1 : 1 ≤ x) (h2 : x ≤ n) (h3 : 1 ≤ y) (h4 : y ≤ n) : ∀ k, itF f k x = itF f k y → x = y
  | 0, e => e
  | k + 1, e => itF_inj h1 h2 h3 h4 k (inj _ _ (itF_in hf h1 h2 k).1 (itF_in hf h1 h2 k).2 (itF_in hf h3 h4 k).1 (itF_in hf h3 h4 k).2 e)
theorem one_back {x : Int} (h1 : 1 ≤ x) (h2 : x ≤ n) : ∃ k, 1 ≤ k ∧ itF f k x = x := by
  obtain ⟨i, j, hij, hj, e⟩ := pigeon n (fun i => (itF f i x - 1).toNat) (fun i _ => by
    have := itF_in hf h1 h2 i
    omega)
  have a := itF_in hf h1 h2 i
  have b := itF_in hf h1 h2 j
  have e' : itF f i x = itF f j x := by omega
  have ej : j = i + (j - i) := by omega
  rw [ej, itF_add] at e'
  have z := itF_in hf h1 h2 (j - i)
  exact ⟨j - i, by omega, (itF_inj hf inj h1 h2 z.1 z.2 i e').symm⟩
theorem all_back : ∀ m : Nat, m ≤ n → ∃ k, 1 ≤ k ∧ ∀ x : Int, 1 ≤ x → x ≤ m → itF f k x = x
  | 0, _ => ⟨1, Nat.le_refl _, fun x h1 h2 => by omega⟩
  | m + 1, h => by
    obtain ⟨k, k1, hk⟩ := all_back m (by omega)
    obtain ⟨l, l1, hl⟩ := one_back hf inj (x := (m : Int) + 1) (by omega) (by omega)
    refine ⟨k * l, Nat.mul_pos k1 l1, fun x h1 h2 => ?_⟩
    by_cases e : x = (m : Int) + 1
    · subst e
      rw [Nat.mul_comm]
      exact itF_mul hl k
    · exact itF_mul (hk x h1 (by omega)) l
end
/-! ### rows as maps -/
def mapR (p : List Int) (b : Int) : Int := p.getD (b - 1).toNat 0
theorem oneTo_len (n : Nat) : (oneTo n).length = n := by simp [oneTo]
theorem oneTo_mem {n : Nat} {x : Int} : x ∈ oneTo n ↔ 1 ≤ x ∧ x ≤ n := by
  unfold oneTo
  rw [List.mem_map]
  constructor
  · rintro ⟨i, hi, rfl⟩
    rw [List.mem_range] at hi
    omega
  · intro h
    exact ⟨(x - 1).toNat, List.mem_range.mpr (by omega), by omega⟩
theorem oneTo_get {n i : Nat} (h : i < n) : (oneTo n)[i]? = some (1 + (i : Int)) := by
  unfold oneTo
  rw [List.getElem?_map, List.getElem?_range h]
  rfl
theorem oneTo_nodup (n : Nat) : (oneTo n).Nodup := by
  unfold oneTo
  exact (List.nodup_range).map _ fun i j h e => h (by omega)
theorem map_oneTo (p : List Int) : (oneTo p.length).map (mapR p) = p := by
  apply List.ext_getElem?
  intro i
  rw [List.getElem?_map]
  by_cases h : i < p.length
  · rw [oneTo_get h, List.getElem?_eq_getElem h]
    simp only [Option.map_some, Option.some.injEq]
    unfold mapR
    rw [show (1 + (i : Int) - 1).toNat = i by omega, List.getD_eq_getElem?_getD, List.getElem?_eq_getElem h]
    rfl
  · rw [List.getElem?_eq_none (l := oneTo p.length) (by rw [oneTo_len]; omega), List.getElem?_eq_none (l := p) (by omega)]
    rfl
section
variable {p : List Int} {n : Nat} (hp : p.Perm (oneTo n))
include hp
theorem perm_n : p.length = n := by rw [hp.length_eq, oneTo_len]
theorem mapR_in (b : Int) (h1 : 1 ≤ b) (h2 : b ≤ n) : 1 ≤ mapR p b ∧ mapR p b ≤ n := by
  have e := perm_n hp
  have lt : (b - 1).toNat < p.length := by omega
  unfold mapR
  rw [List.getD_eq_getElem?_getD, List.getElem?_eq_getElem lt]
  exact oneTo_mem.mp (hp.mem_iff.mp (List.getElem_mem lt))
theorem mapR_inj (a b : Int) (h1 : 1 ≤ a) (h2 : a ≤ n) (h3 : 1 ≤ b) (h4 : b ≤ n) (e : mapR p a = mapR p b) : a = b := by
  have el := perm_n hp
  have nd : p.Nodup := hp.nodup_iff.mpr (oneTo_nodup n)
  have l1 : (a - 1).toNat < p.length := by omega
  have l2 : (b - 1).toNat < p.length := by omega
  unfold mapR at e
  rw [List.getD_eq_getElem?_getD, List.getD_eq_getElem?_getD, List.getElem?_eq_getElem l1, List.getElem?_eq_getElem l2] at e
  have e' : p[(a - 1).toNat] = p[(b - 1).toNat] := e
  have := (List.getElem_inj nd).mp e'
  omega
/-- the row so many times -/
theorem back_exists : ∃ k, 1 ≤ k ∧ (oneTo n).map (itF (mapR p) k) = oneTo n := by
  obtain ⟨k, k1, hk⟩ := all_back (mapR_in hp) (mapR_inj hp) n (Nat.le_refl _)
  refine ⟨k, k1, ?_⟩
  have : ∀ x ∈ oneTo n, itF (mapR p) k x = x := fun x m => hk x (oneTo_mem.mp m).1 (oneTo_mem.mp m).2
  exact (List.map_congr_left this).trans (List.map_id' _)
end
def powR (p : List Int) (k : Nat) : List Int := (oneTo p.length).map (itF (mapR p) k)
def backP (p : List Int) (k : Nat) : Prop := 1 ≤ k ∧ powR p k = oneTo p.length
open Classical in
noncomputable def ordN (p : List Int) : Nat := if h : ∃ k, backP p k ∧ ∀ m, m < k → ¬ backP p m then Classical.choose h else 0
theorem ordN_ok {p : List Int} (hp : p.Perm (oneTo p.length)) : backP p (ordN p) ∧ ∀ m, m < ordN p → ¬ backP p m := by
  obtain ⟨k, k1, hk⟩ := back_exists hp
  obtain ⟨i, _, h2, h3⟩ := first_at (backP p) k ⟨k1, hk⟩
  have h : ∃ k, backP p k ∧ ∀ m, m < k → ¬ backP p m := ⟨i, h2, h3⟩
  unfold ordN
  rw [dif_pos h]
  exact Classical.choose_spec h
theorem powR_one {p : List Int} : powR p 1 = p := by
  unfold powR
  exact map_oneTo p
def carN (f g : List Int) : List Int := g.map (mapR f)
theorem powR_len (p : List Int) (k : Nat) : (powR p k).length = p.length := by
  unfold powR
  rw [List.length_map, oneTo_len]
theorem powR_map {p : List Int} {k : Nat} {b : Int} (h1 : 1 ≤ b) (h2 : b ≤ p.length) : mapR (powR p k) b = itF (mapR p) k b := by
  unfold mapR powR
  rw [List.getD_eq_getElem?_getD, List.getElem?_map, oneTo_get (by omega)]
  show itF (mapR p) k _ = _
  congr 1
  omega
theorem powR_mem {p : List Int} (hp : p.Perm (oneTo p.length)) {k : Nat} {b : Int} (m : b ∈ powR p k) : 1 ≤ b ∧ b ≤ p.length := by
  obtain ⟨x, hx, rfl⟩ := List.mem_map.mp m
  have := oneTo_mem.mp hx
  exact itF_in (mapR_in hp) this.1 this.2 k
theorem car_right {p : List Int} (hp : p.Perm (oneTo p.length)) (k : Nat) : carN (powR p k) p = powR p (k + 1) := by
  have e : carN (powR p k) p = carN (powR p k) ((oneTo p.length).map (mapR p)) := by rw [map_oneTo]
  rw [e]
  unfold carN
  rw [List.map_map]
  refine List.map_congr_left fun x m => ?_
  have hx := oneTo_mem.mp m
  have hb := mapR_in hp x hx.1 hx.2
  show mapR (powR p k) (mapR p x) = itF (mapR p) (k + 1) x
  rw [powR_map hb.1 hb.2, itF_add]
  rfl
theorem car_left {p : List Int} (k : Nat) : carN p (powR p k) = powR p (k + 1) := by
  unfold carN powR
  rw [List.map_map]
  rfl
theorem perm_in {p : List Int} (hp : p.Perm (oneTo p.length)) {b : Int} (m : b ∈ p) : 1 ≤ b ∧ b ≤ p.length := oneTo_mem.mp (hp.mem_iff.mp m)
section
variable {A : Amb} {ds : List D} {s : A.S} {Q : D → A.S → Prop}
def S_carried : FS A := fun ds s Q => ∃ f g : List Int, ds = [tupI f, tupI g] ∧ (∀ b ∈ g, 1 ≤ b ∧ b ≤ f.length) ∧ g.length ≤ 1000 ∧ Q (tupI (carN f g)) s
theorem p_carried (h : S_carried ds s Q) : t_carried (retE Q) (startR 3 ds) s := by
  obtain ⟨f, g, rfl, hb, hl, q⟩ := h
  have e : startR 3 [tupI f, tupI g] = [.fz (tupI f), .fz (tupI g), .un] := rfl
  have hs : 100000 ≤ sizeLine := by decide
  unfold t_carried
  simp [e]
  refine comp_pure (xs := intsD g) (fun k z => by simpa [tupI] using z) (by simp) (by rw [intsD_length]; omega) (fun x => some (.int (mapR f (numD x)))) (fun x m s k z => ?_) ?_
  · obtain ⟨b, hm, rfl⟩ := List.mem_map.mp m
    have r := hb b hm
    have a1 : atI (intsD f) (b - 1) = some (.int (mapR f b)) := by
      have := ints_get (ns := f) (k := (b - 1).toNat) (by omega)
      rw [show (((b - 1).toNat : Nat) : Int) = b - 1 by omega] at this
      exact this
    simp [tupI, a1]
    exact z
  · rw [fm_some]
    simp
    have ee : List.map (fun x => PyData.int (mapR f (numD x))) (intsD g) = intsD (carN f g) := by
      unfold intsD carN
      rw [List.map_map, List.map_map]
      rfl
    rw [ee]
    exact q
theorem p_L_carried (h : S_carried ds s Q) : t_L_carried (retE Q) (startR 3 ds) s := p_carried h
def S_order_of : FS A := fun ds s Q => ∃ p : List Int, ds = [tupI p] ∧ p.Perm (oneTo p.length) ∧ p.length ≤ 1000 ∧ Q (.int (ordN p : Nat)) s
def OrdI (p : List Int) (s0 : A.S) (n : Nat) (ρ : Rho) (s' : A.S) : Prop := s' = s0 ∧ ∃ j : Nat, 1 ≤ j ∧ n + j = ordN p ∧ ρ = [.fz (tupI p), .fz (tupI (powR p j)), .fz (.int (j : Nat))]
theorem p_order_of (h : S_order_of ds s Q) : t_order_of S_rounds S_carried (retE Q) (startR 3 ds) s := by
  obtain ⟨p, rfl, hp, hl, q⟩ := h
  have e : startR 3 [tupI p] = [.fz (tupI p), .un, .un] := rfl
  obtain ⟨ok, no⟩ := ordN_ok hp
  unfold t_order_of
  simp [e]
  refine while_inv (OrdI p s) (ordN p - 1) ⟨rfl, 1, Nat.le_refl _, by have := ok.1; omega, by rw [powR_one]; rfl⟩ ?_
  rintro n ρ s' ⟨rfl, j, j1, hj, rfl⟩
  simp [tupI]
  refine ⟨_, rfl, by omega, by omega, ?_⟩
  rw [Int.toNat_natCast, oneTo_ints]
  simp [eqOk_intsT, eqv_intsT]
  by_cases c : powR p j = oneTo p.length
  · have ej : j = ordN p := by
      by_cases lt : j < ordN p
      · exact (no j lt ⟨j1, c⟩).elim
      · omega
    simp [c]
    rw [ej]
    exact q
  · have lt : j < ordN p := by
      by_cases e : j = ordN p
      · exact (c (e ▸ ok.2)).elim
      · omega
    simp [c]
    refine ⟨powR p j, p, rfl, fun b m => ?_, hl, ?_⟩
    · rw [powR_len]
      exact perm_in hp m
    · rw [car_right hp]
      simp
      exact ⟨n - 1, by omega, rfl, j + 1, by omega, by omega, rfl⟩
theorem p_L_order (h : S_order_of ds s Q) : t_L_order S_rounds S_carried (retE Q) (startR 3 ds) s := by
  obtain ⟨p, rfl, hp, hl, q⟩ := h
  have e : startR 3 [tupI p] = [.fz (tupI p), .un, .un] := rfl
  obtain ⟨ok, no⟩ := ordN_ok hp
  unfold t_L_order
  simp [e]
  refine while_inv (OrdI p s) (ordN p - 1) ⟨rfl, 1, Nat.le_refl _, by have := ok.1; omega, by rw [powR_one]; rfl⟩ ?_
  rintro n ρ s' ⟨rfl, j, j1, hj, rfl⟩
  simp [tupI]
  refine ⟨_, rfl, by omega, by omega, ?_⟩
  rw [Int.toNat_natCast, oneTo_ints]
  simp [eqOk_intsT, eqv_intsT]
  by_cases c : powR p j = oneTo p.length
  · have ej : j = ordN p := by
      by_cases lt : j < ordN p
      · exact (no j lt ⟨j1, c⟩).elim
      · omega
    simp [c]
    rw [ej]
    exact q
  · have lt : j < ordN p := by
      by_cases e : j = ordN p
      · exact (c (e ▸ ok.2)).elim
      · omega
    simp [c]
    refine ⟨p, powR p j, rfl, fun b m => powR_mem hp m, by rw [powR_len]; exact hl, ?_⟩
    rw [car_left]
    exact ⟨n - 1, by omega, rfl, j + 1, by omega, by omega, rfl⟩
end
end Dl
/-! Courses and extents. -/
namespace Dl
open PySem L2
def t_course_of {A : Amb} (S_order_of S_head_of : FS A) : DS A :=
  (dSeq (dSet 2 (dCall S_order_of (dCons (dCall S_head_of (dCons (dVar 0) (dCons (dVar 1) dNil))) dNil)))
  (dRet (dIf (dTest (dOp fLe (dOp fMul (dVarB 2) (dFn fLen (dCons (dVarB 1) dNil))) (dC (.int 5040)))) (dOp fMul (dVarB 1) (dVarB 2)) (dC .none))))
def t_is_extent {A : Amb} (S_head_of S_rounds S_truth : FS A) : DS A :=
  (dSeq (dSet 2 (dC (.int 1)))
  (dSeq (dFor (dRg2 (dCons (dC (.int 1)) (dCons (dOp fAdd (dVarB 0) (dC (.int 1))) dNil))) (dgN 3)
  (dAug 2 fMulI (dVarB 3)))
  (dRet (dAnd (dOp fEqU (dFn fLen (dCons (dVarB 1) dNil)) (dVarB 2)) (dAnd (dOp fEqU (dCall S_head_of (dCons (dVar 0) (dCons (dVar 1) dNil))) (dCall S_rounds (dCons (dVar 0) dNil))) (dOp fEqU (dCall S_truth (dCons (dVar 0) (dCons (dVar 1) dNil))) (dTup (dCons (dC (.str "true")) dNil))))))))

theorem last_ints : ∀ (cs : List (List Int)) (ns : List Int), lastG cs (intsD ns) = intsD (lastG cs ns)
  | [], _ => rfl
  | c :: r, ns => by rw [lastG, lastG, rung_ints, last_ints r]
theorem lastG_perm {α : Type} : ∀ (cs : List (List Int)) (xs : List α), (lastG cs xs).Perm xs
  | [], xs => List.Perm.refl _
  | c :: r, xs => (lastG_perm r _).trans (rungG_perm c _ xs 1 (Nat.le_refl _))
/-- the head of a piece -/
def headN (st : Int) (cs : List (List Int)) : List Int := lastG cs (oneTo st.toNat)
theorem headN_perm (st : Int) (cs : List (List Int)) : (headN st cs).Perm (oneTo (headN st cs).length) := by
  have p := lastG_perm cs (oneTo st.toNat)
  unfold headN
  rw [p.length_eq, oneTo_len]
  exact p
theorem headN_len (st : Int) (cs : List (List Int)) : (headN st cs).length = st.toNat := by unfold headN; rw [lastG_len, oneTo_len]
noncomputable def ordH (st : Int) (cs : List (List Int)) : Nat := ordN (headN st cs)
noncomputable def courseD (st : Int) (cs : List (List Int)) : D := if ordH st cs * cs.length ≤ 5040 then .tuple ((List.replicate (ordH st cs) cs).flatten.map tupI) else .none
/-- 1 * 2 * .. * n -/
def facN : Nat → Nat
  | 0 => 1
  | n + 1 => facN n * (n + 1)
def extB (st : Int) (cs : List (List Int)) : Bool := decide (cs.length = facN st.toNat) && (decide (headN st cs = oneTo st.toNat) && isN (pairD st cs))
theorem rep_map {m : Nat} {cs : List (List Int)} : (List.replicate m (cs.map tupI)).flatten = ((List.replicate m cs).flatten).map tupI := by
  rw [List.map_flatten, List.map_replicate]
section
variable {A : Amb} {ds : List D} {s : A.S} {Q : D → A.S → Prop}
def S_course_of : FS A := fun ds s Q => ∃ (st : Int) (cs : List (List Int)), ds = [.int st, .tuple (cs.map tupI)] ∧ 0 ≤ st ∧ st ≤ 1000 ∧ 1 ≤ cs.length ∧ cs.length ≤ 50000 ∧ Q (courseD st cs) s
/-- the piece so many times, if it is not too long -/
theorem course_q {cs : List (List Int)} {n : Nat} (n1 : 1 ≤ n) (hc : 1 ≤ cs.length) (hl : n * cs.length ≤ 5040) {k : D → Prop} (q : k (.tuple ((List.replicate n cs).flatten.map tupI))) : fMul (.tuple (cs.map tupI)) (.int (n : Nat)) k := by
  refine ⟨fun z => ?_, by omega, ?_, ?_⟩
  · have := congrArg List.length z
    rw [List.length_map, List.length_nil] at this
    omega
  · rw [List.length_map, Int.toNat_natCast, Nat.mul_comm]
    omega
  · rw [Int.toNat_natCast, rep_map]
    exact q
theorem ordH_pos (st : Int) (cs : List (List Int)) : 1 ≤ ordH st cs := (ordN_ok (headN_perm st cs)).1.1
theorem p_course_of (h : S_course_of ds s Q) : t_course_of S_order_of S_head_of (retE Q) (startR 3 ds) s := by
  obtain ⟨st, cs, rfl, h0, h1, c1, hc, q⟩ := h
  have e : startR 3 [.int st, .tuple (cs.map tupI)] = [.fz (.int st), .fz (.tuple (cs.map tupI)), .un] := rfl
  have hs : 100000 ≤ sizeLine := by decide
  unfold t_course_of
  simp [e]
  refine ⟨st, cs, rfl, h0, h1, hc, ?_⟩
  rw [oneTo_ints, last_ints]
  refine ⟨headN st cs, rfl, headN_perm st cs, by rw [headN_len]; omega, ?_⟩
  have eo : ordN (headN st cs) = ordH st cs := rfl
  have n1 := ordH_pos st cs
  rw [eo]
  unfold courseD at q
  have cm : CMul (ordH st cs : Nat) (cs.length : Nat) := .inr ⟨by omega, by omega⟩
  simp [cm]
  by_cases le : ordH st cs * cs.length ≤ 5040
  · rw [if_pos le] at q
    have le' : ((ordH st cs : Nat) : Int) * (cs.length : Nat) ≤ 5040 := by
      have := Int.ofNat_le.mpr le
      rw [Int.natCast_mul] at this
      exact this
    simp [le']
    exact course_q n1 c1 le q
  · rw [if_neg le] at q
    have le' : ¬ ((ordH st cs : Nat) : Int) * (cs.length : Nat) ≤ 5040 := by
      intro h
      rw [← Int.natCast_mul] at h
      omega
    simp [le']
    exact q
def S_is_extent : FS A := fun ds s Q => ∃ (st : Int) (cs : List (List Int)), ds = [.int st, .tuple (cs.map tupI)] ∧ 0 ≤ st ∧ st ≤ 1000 ∧ cs.length ≤ 40000 ∧ Q (.bool (extB st cs)) s
theorem p_is_extent (h : S_is_extent ds s Q) : t_is_extent S_head_of S_rounds S_truth (retE Q) (startR 4 ds) s := by
  obtain ⟨st, cs, rfl, h0, h1, hc, q⟩ := h
  have e : startR 4 [.int st, .tuple (cs.map tupI)] = [.fz (.int st), .fz (.tuple (cs.map tupI)), .un, .un] := rfl
  have hs : 100000 ≤ sizeLine := by decide
  unfold t_is_extent
  simp [e, -q_dSeq]
  rw [q_dSeq]
  simp [-q_dSeq]
  refine seq_inv (fun ρ' s' => s' = s ∧ ∃ c, ρ' = [.fz (.int st), .fz (.tuple (cs.map tupI)), .fz (.int (facN st.toNat : Nat)), c]) ?_ fun U hU => ?_
  rotate_left
  · refine for_of (xs := rngD 1 st.toNat) (fun k z => by
        rw [q_dRg2]
        refine ⟨1, st + 1, rfl, by omega, ?_⟩
        rw [show st + 1 - 1 = st by omega]
        exact z) (fun r ρ' s' => s' = s ∧ ∃ (j : Nat) (c : Cell), r = rngD (1 + (j : Int)) (st.toNat - j) ∧ j ≤ st.toNat ∧ ρ' = [.fz (.int st), .fz (.tuple (cs.map tupI)), .fz (.int (facN j : Nat)), c]) ⟨rfl, 0, .un, by simp, by omega, rfl⟩ ?_ ?_
    · rintro x r ρ s' ⟨rfl, j, c, hr, hj, rfl⟩ D' hrt hbk hnx hct
      have lt : j < st.toNat := by
        have := congrArg List.length hr
        rw [List.length_cons, rngD_length] at this
        omega
      rw [show st.toNat - j = (st.toNat - (j + 1)) + 1 by omega, rngD_succ] at hr
      obtain ⟨rfl, rfl⟩ := List.cons.inj hr
      have cm : CMul (facN j : Nat) (1 + (j : Int)) := .inr ⟨by omega, by omega⟩
      simp [fMulI, cm]
      have ef : ((facN j : Nat) : Int) * (1 + (j : Int)) = (facN (j + 1) : Nat) := by
        rw [facN, Int.natCast_mul]
        congr 1
        omega
      rw [ef]
      refine hnx _ _ ⟨rfl, j + 1, _, ?_, by omega, rfl⟩
      rw [show (1 + (j : Int)) + 1 = 1 + ((j + 1 : Nat) : Int) by omega]
    · rintro ρ s' ⟨rfl, j, c, hr, hj, rfl⟩
      have : j = st.toNat := by
        have := congrArg List.length hr
        rw [List.length_nil, rngD_length] at this
        omega
      subst this
      exact hU _ _ ⟨rfl, c, rfl⟩
  rintro ρ' s' ⟨rfl, c, rfl⟩
  unfold extB at q
  simp
  by_cases c1 : cs.length = facN st.toNat
  · rw [decide_eq_true c1, Bool.true_and] at q
    simp [c1]
    refine ⟨st, cs, rfl, h0, h1, by omega, ?_⟩
    refine ⟨st, rfl, h0, h1, ?_⟩
    rw [oneTo_ints, last_ints]
    simp [eqOk_intsT, eqv_intsT]
    have eh : lastG cs (oneTo st.toNat) = headN st cs := rfl
    rw [eh]
    by_cases c2 : headN st cs = oneTo st.toNat
    · rw [decide_eq_true c2, Bool.true_and] at q
      simp [c2]
      refine ⟨st, cs, rfl, h0, h1, by omega, ?_⟩
      refine ⟨by omega, ?_⟩
      rcases repD_form (rowsN st cs) [] 0 (fun k d z => nomatch z) with ef | ⟨i, t, _, _, ef⟩
      · have ep : pairD st cs = .none := ef
        rw [ep] at q ⊢
        exact ⟨by unfold eqOk; decide +kernel, by simpa [truthD, isN, PyData.eqv, PyData.eqvAll] using q⟩
      · have ep : pairD st cs = .tuple [.int (i : Nat), .int (t : Nat)] := ef
        rw [ep] at q ⊢
        have z : PyData.eqv (truthD (.tuple [.int (i : Nat), .int (t : Nat)])) (.tuple [.str "true"]) = false := by simp [truthD, PyData.eqv, PyData.eqvAll]
        refine ⟨?_, ?_⟩
        · have sh : ∀ x : D, plainB 9 x = true → SeqAt.shaped x = true := fun x h => shaped_plain h (by omega)
          unfold eqOk
          rw [sh _ (by simp [truthD, plainB, plainAllB]; decide +kernel), sh _ (by decide +kernel)]
          simp
        · simpa [z, isN] using q
    · rw [decide_eq_false c2, Bool.false_and] at q
      simp [c2]
      exact q
  · rw [decide_eq_false c1, Bool.false_and] at q
    have c1' : ¬ (cs.length : Int) = (facN st.toNat : Nat) := by omega
    simp [c1, c1']
    exact q
end
end Dl
/-! The law k07 over data. -/
namespace Dl
open PySem L2
def t_law_k07 {A : Amb} (S_L_stage S_L_piece S_L_order S_L_head S_L_same S_L_draw S_course_of S_L_rows S_L_rounds S_L_pick S_L_repeat S_is_extent S_L_changes : FS A) : DS A :=
  (dSeq (dSet 2 (dCall S_L_stage (dCons (dVar 1) (dCons (dC (.int 8)) dNil))))
  (dSeq (dSet 3 (dCall S_L_piece (dCons (dVar 1) (dCons (dVar 2) (dCons (dOp fIx (dTup (dCons (dC (.int 12)) (dCons (dC (.int 400)) dNil))) (dOp fDiv (dCall S_L_draw (dCons (dVar 1) (dCons (dC (.int 5)) dNil))) (dC (.int 4)))) dNil)))))
  (dSeq (dSet 4 (dCall S_L_order (dCons (dCall S_L_head (dCons (dVar 2) (dCons (dVar 3) dNil))) dNil)))
  (dSeq (dIfS (dNotT (dTest (dCall S_L_same (dCons (dCall S_course_of (dCons (dVar 2) (dCons (dVar 3) dNil))) (dCons (dIf (dTest (dOp fLe (dOp fMul (dVarB 4) (dFn fLen (dCons (dVarB 3) dNil))) (dC (.int 5040)))) (dOp fMul (dVarB 3) (dVarB 4)) (dC .none)) dNil)))))
  (dRet (dC (.bool false)))
  dNx)
  (dSeq (dSet 5 (dOp fMul (dTup (dCons (dTup (dCons (dC (.int 1)) dNil)) (dCons (dTup (dCons (dC (.int 3)) dNil)) dNil))) (dC (.int 3))))
  (dSeq (dSet 6 (dOp fMul (dOp fAdd (dOp fMul (dTup (dCons (dTup dNil) (dCons (dTup (dCons (dC (.int 1)) (dCons (dC (.int 4)) dNil))) dNil))) (dC (.int 3))) (dTup (dCons (dTup dNil) (dCons (dTup (dCons (dC (.int 1)) (dCons (dC (.int 2)) dNil))) dNil)))) (dC (.int 3))))
  (dSeq (dFor (dIt (dTup (dCons (dTup (dCons (dC (.int 3)) (dCons (dVar 5) dNil))) (dCons (dTup (dCons (dC (.int 4)) (dCons (dVar 6) dNil))) dNil)))) (dgT 2 (dgsC (dgN 2) (dgsC (dgN 7) dgs0)))
  (dSeq (dSet 8 (dCall S_L_draw (dCons (dVar 1) (dCons (dFn fLen (dCons (dVarB 7) dNil)) dNil))))
  (dSeq (dSet 9 (dOp fAdd (dOp fAdd (dSl (dVarB 7) oNone (oSome (dVarB 8))) (dTup (dCons (dCall S_L_pick (dCons (dVar 1) (dCons (dCall S_L_changes (dCons (dVar 2) dNil)) dNil))) dNil))) (dSl (dVarB 7) (oSome (dOp fAdd (dVarB 8) (dC (.int 1)))) oNone)))
  (dFor (dIt (dTup (dCons (dVar 7) (dCons (dOp fAdd (dSl (dVarB 7) (oSome (dVarB 8)) oNone) (dSl (dVarB 7) oNone (oSome (dVarB 8)))) (dCons (dRev (dVarB 7)) (dCons (dVar 9) (dCons (dSl (dVarB 7) (oSome (dC (.int 1))) oNone) (dCons (dOp fAdd (dVarB 7) (dVarB 7)) (dCons (dOp fAdd (dOp fAdd (dSl (dVarB 7) oNone (oSome (dVarB 8))) (dSl (dVarB 7) (oSome (dOp fAdd (dVarB 8) (dC (.int 1)))) oNone)) (dSl (dVarB 7) (oSome (dVarB 8)) (oSome (dOp fAdd (dVarB 8) (dC (.int 1)))))) dNil))))))))) (dgN 10)
  (dSeq (dSet 11 (dCall S_L_rows (dCons (dVar 10) (dCons (dCall S_L_rounds (dCons (dVar 2) dNil)) dNil))))
  (dSeq (dSet 12 (dAnd (dOp fEqU (dFn fLen (dCons (dVarB 11) dNil)) (dIf (dTest (dOp fEqU (dVarB 2) (dC (.int 3)))) (dC (.int 7)) (dC (.int 25)))) (dAnd (dOp fEqU (dOp fIx (dVarB 11) (dUn fNeg (dC (.int 1)))) (dOp fIx (dVarB 11) (dC (.int 0)))) (dOp fIs (dCall S_L_repeat (dCons (dSl (dVarB 11) oNone (oSome (dUn fNeg (dC (.int 1))))) dNil)) (dC .none)))))
  (dIfS (dNotT (dTest (dCall S_L_same (dCons (dCall S_is_extent (dCons (dVar 2) (dCons (dVar 10) dNil))) (dCons (dVar 12) dNil)))))
  (dRet (dC (.bool false)))
  dNx)))))))
  (dRet (dC (.bool true))))))))))
/-- tuples of numbers only -/
def allC (ds : List D) : Prop := ∀ d ∈ ds, ∃ c : List Int, d = tupI c
theorem allC_list : ∀ {ds : List D}, allC ds → ∃ cs : List (List Int), ds = cs.map tupI
  | [], _ => ⟨[], rfl⟩
  | d :: ds, h => by
    obtain ⟨c, rfl⟩ := h d (List.mem_cons_self ..)
    obtain ⟨cs, rfl⟩ := allC_list fun x m => h x (List.mem_cons_of_mem _ m)
    exact ⟨c :: cs, rfl⟩
theorem allC_app {xs ys : List D} (h : allC xs) (g : allC ys) : allC (xs ++ ys) := fun d m => (List.mem_append.mp m).elim (h d) (g d)
theorem allC_cut {xs : List D} {l u : Option Int} (h : allC xs) : allC (cutD xs l u) := fun d m => h d (mem_cutD m)
theorem rowsN_last {st : Int} {cs : List (List Int)} : (rowsG cs (oneTo st.toNat)).getLast? = some (headN st cs) := rowsG_last cs _
theorem rowsG_head {α : Type} : ∀ (cs : List (List Int)) (xs : List α), (rowsG cs xs)[0]? = some xs
  | [], _ => rfl
  | _ :: _, _ => rfl
def K7P (ws : List D) (m : Nat) (x : D) : Prop := ∃ zs, x = .tuple zs ∧ allC zs ∧ zs.length ≤ 2 * m + 1
theorem p_law_k07 (a : Addr) (s : (poolA a).S) : t_law_k07 (S_stage a) (S_L_piece a) S_order_of S_head_of (S_same 10) (S_draw a) S_course_of S_rows_of S_rounds (S_L_pick a) S_first_repeat S_is_extent S_changes_of (lawEnds _) (ρLaw a 11) s := by
  have e : ρLaw a 11 = [.un, .fz (refD a), .un, .un, .un, .un, .un, .un, .un, .un, .un, .un, .un] := rfl
  have hs : 1000000 ≤ sizeLine := by decide
  unfold t_law_k07
  rw [e, q_dSeq]
  simp [-q_dSeq, -q_dIfS]
  refine ⟨8, rfl, by omega, by omega, fun st s3 s8 => ?_⟩
  dsimp only
  refine seq_inv (fun ρ' s' => s' = s ∧ ∃ pcs : List (List Int), (∀ c ∈ pcs, c ∈ chS st) ∧ 1 ≤ pcs.length ∧ pcs.length ≤ 400 ∧ ρ' = [.un, .fz (refD a), .fz (.int st), .fz (.tuple (pcs.map tupI)), .un, .un, .un, .un, .un, .un, .un, .un, .un]) ?_ fun U hU => ?_
  rotate_left
  · simp [-q_dSeq, -q_dIfS]
    refine ⟨by omega, _, rfl, by omega, by omega, fun v v0 v5 => ?_⟩
    simp
    refine ⟨⟨by omega, by omega⟩, ?_⟩
    have hv : v / 4 = 0 ∨ v / 4 = 1 := by omega
    have fin : ∀ m : Int, 2 ≤ m → m ≤ 400 → ∀ L : List D, (∀ x ∈ L, x ∈ changesD st) → 1 ≤ L.length → L.length ≤ m.toNat → U [.un, .fz (refD a), .fz (.int st), .fz (.tuple L), .un, .un, .un, .un, .un, .un, .un, .un, .un] s := fun m m1 m2 L hL l1 l2 => by
      obtain ⟨pcs, rfl, hpc⟩ := changes_list hL
      rw [List.length_map] at l1 l2
      exact hU _ _ ⟨rfl, pcs, hpc, l1, by omega, rfl⟩
    rcases hv with hv | hv
    · have a0 : atI [PyData.int 12, PyData.int 400] 0 = some (.int 12) := rfl
      simp [hv, a0]
      exact ⟨st, 12, rfl, s3, s8, by omega, by omega, fun L hL l1 l2 => fin 12 (by omega) (by omega) L hL l1 l2⟩
    · have a1 : atI [PyData.int 12, PyData.int 400] 1 = some (.int 400) := rfl
      simp [hv, a1]
      exact ⟨st, 400, rfl, s3, s8, by omega, by omega, fun L hL l1 l2 => fin 400 (by omega) (by omega) L hL l1 l2⟩
  rintro ρ' s1 ⟨rfl, pcs, hpc, l1, l4, rfl⟩
  rw [q_dSeq]
  simp [-q_dSeq, -q_dIfS]
  refine ⟨st, pcs, rfl, by omega, by omega, by omega, ?_⟩
  rw [oneTo_ints, last_ints]
  refine ⟨headN st pcs, rfl, headN_perm st pcs, by rw [headN_len]; omega, ?_⟩
  have eo : ordN (headN st pcs) = ordH st pcs := rfl
  have n1 := ordH_pos st pcs
  rw [eo]
  dsimp only
  refine seq_if ?_ fun U hU => ?_
  rotate_left
  · have cm : CMul (ordH st pcs : Nat) (pcs.length : Nat) := .inr ⟨by omega, by omega⟩
    simp
    refine ⟨st, pcs, rfl, by omega, by omega, l1, by omega, ?_⟩
    have pl : plainB 9 (courseD st pcs) = true := by
      unfold courseD
      split
      · next le =>
        refine plain_mono (plain_tuple (n := 1) (fun x m => ?_) (by rw [List.length_map, PyProof.Rows.lm_len_rep_flat]; omega)) (by omega)
        obtain ⟨c, hc, rfl⟩ := List.mem_map.mp m
        obtain ⟨r, hr, hx⟩ := List.mem_flatten.mp hc
        rw [List.eq_of_mem_replicate hr] at hx
        exact (ch_items s3 s8 (in_changesD (hpc c hx))).1
      · rfl
    simp [cm]
    by_cases le : ordH st pcs * pcs.length ≤ 5040
    · have le' : ((ordH st pcs : Nat) : Int) * (pcs.length : Nat) ≤ 5040 := by
        have := Int.ofNat_le.mpr le
        rw [Int.natCast_mul] at this
        exact this
      simp [le']
      refine course_q n1 l1 le ?_
      refine ⟨_, _, 9, rfl, rfl, ⟨9, pl⟩, ?_⟩
      have ec : courseD st pcs = .tuple ((List.replicate (ordH st pcs) pcs).flatten.map tupI) := by unfold courseD; rw [if_pos le]
      rw [ec] at pl ⊢
      refine ⟨pl, ?_⟩
      rw [sameB_eq]
      simpa using hU
    · have le' : ¬ ((ordH st pcs : Nat) : Int) * (pcs.length : Nat) ≤ 5040 := by
        intro h
        rw [← Int.natCast_mul] at h
        omega
      simp [le']
      refine ⟨_, _, 9, rfl, rfl, ⟨9, pl⟩, rfl, ?_⟩
      have ec : courseD st pcs = .none := by unfold courseD; rw [if_neg le]
      rw [ec, sameB_eq]
      simpa using hU
  have ac2 : ∀ c d : List Int, allC [tupI c, tupI d] := fun c d x m => by
    simp only [List.mem_cons, List.not_mem_nil, or_false] at m
    rcases m with rfl | rfl
    · exact ⟨c, rfl⟩
    · exact ⟨d, rfl⟩
  refine seq_inv (fun ρ' s2 => s2 = s1 ∧ ∃ T : List D, allC T ∧ T.length = 6 ∧ ρ' = [.un, .fz (refD a), .fz (.int st), .fz (.tuple (pcs.map tupI)), .fz (.int (ordH st pcs : Nat)), .fz (.tuple T), .un, .un, .un, .un, .un, .un, .un]) ?_ fun U hU => ?_
  rotate_left
  · simp [-q_dSeq, -q_dIfS]
    exact ⟨by omega, by omega, by simp, by omega, by decide, hU _ _ ⟨rfl, _, fun x m => ac2 [1] [3] x (rep_mem m), rfl, rfl⟩⟩
  rintro ρ' s2 ⟨rfl, T3, t3, l3, rfl⟩
  refine seq_inv (fun ρ' s3 => s3 = s2 ∧ ∃ T : List D, allC T ∧ T.length = 24 ∧ ρ' = [.un, .fz (refD a), .fz (.int st), .fz (.tuple (pcs.map tupI)), .fz (.int (ordH st pcs : Nat)), .fz (.tuple T3), .fz (.tuple T), .un, .un, .un, .un, .un, .un]) ?_ fun U hU => ?_
  rotate_left
  · simp [-q_dSeq, -q_dIfS]
    refine ⟨by omega, by simp, by omega, by simp, ?_⟩
    dsimp only
    refine ⟨by omega, ?_⟩
    rw [q_addT]
    refine ⟨by simp; omega, by simp, by omega, by simp, hU _ _ ⟨rfl, _, fun x m => ?_, by simp, rfl⟩⟩
    rcases List.mem_append.mp (rep_mem m) with m | m
    · exact ac2 [] [1, 4] x (rep_mem m)
    · exact ac2 [] [1, 2] x m
  rintro ρ' s3 ⟨rfl, T4, t4, l4, rfl⟩
  refine seq_inv (fun ρ' s4 => s4 = s3) ?_ fun U hU => ?_
  · rintro ρ' s4 rfl
    simp
  refine for_of (xs := [.tuple [.int 3, .tuple T3], .tuple [.int 4, .tuple T4]]) (fun k z => by simp; exact ⟨by omega, z⟩) (fun r ρ' s' => s' = s3 ∧ (∀ x ∈ r, ∃ (t : Int) (ws : List D), x = .tuple [.int t, .tuple ws] ∧ (t = 3 ∨ t = 4) ∧ 1 ≤ ws.length ∧ ws.length ≤ 24 ∧ allC ws) ∧
    ∃ c2 c7 c8 c9 c10 c11 c12, ρ' = [.un, .fz (refD a), c2, .fz (.tuple (pcs.map tupI)), .fz (.int (ordH st pcs : Nat)), .fz (.tuple T3), .fz (.tuple T4), c7, c8, c9, c10, c11, c12]) ⟨rfl, ?_, _, .un, .un, .un, .un, .un, .un, rfl⟩ ?_ ?_
  · intro x m
    simp only [List.mem_cons, List.not_mem_nil, or_false] at m
    rcases m with rfl | rfl
    · exact ⟨3, T3, rfl, .inl rfl, by omega, by omega, t3⟩
    · exact ⟨4, T4, rfl, .inr rfl, by omega, by omega, t4⟩
  · rintro x r ρ s' ⟨rfl, hr, c2, c7, c8, c9, c10, c11, c12, rfl⟩ D' hrt hbk hnx hct
    obtain ⟨t, ws, rfl, ht, w1, w24, tw⟩ := hr _ (List.mem_cons_self ..)
    have nxt : ∀ c8 c9 c10 c11 c12, D'.nx [.un, .fz (refD a), .fz (.int t), .fz (.tuple (pcs.map tupI)), .fz (.int (ordH st pcs : Nat)), .fz (.tuple T3), .fz (.tuple T4), .fz (.tuple ws), c8, c9, c10, c11, c12] s' := fun c8 c9 c10 c11 c12 => hnx _ _ ⟨rfl, fun y m => hr y (List.mem_cons_of_mem _ m), _, _, _, _, _, _, _, rfl⟩
    rw [q_dgT]
    refine ⟨rfl, ?_⟩
    rw [q_dgsC, q_dgN, q_dgsC, q_dgN, q_dgs0]
    refine ⟨rfl, ?_⟩
    simp only [List.set_cons_succ, List.set_cons_zero]
    rw [q_dSeq]
    simp [-q_dSeq, -q_dIfS]
    refine ⟨_, rfl, by omega, by omega, fun k k0 k1 => ?_⟩
    dsimp only
    rw [q_dSeq]
    simp [-q_dSeq, -q_dIfS]
    refine ⟨t, rfl, by omega, by omega, ?_⟩
    have cs3 := ch_some (st := t) (by omega) (by omega)
    refine ⟨_, _, rfl, rfl, cs3.1, by omega, fun x hx => ?_⟩
    obtain ⟨c, hc, rfl⟩ := mem_changesD hx
    have len : ∀ l u, (cutD ws l u).length ≤ ws.length := fun l u => len_cutD
    have ln1 := len none (some k)
    have ln2 := len (some (k + 1)) none
    have ln3 := len (some k) none
    have ln4 := len (some 1) none
    have ln5 := len (some k) (some (k + 1))
    refine ⟨by omega, by omega, by omega, ?_⟩
    have oc : allC [PyData.tuple (intsD c)] := fun x m => ⟨c, by rw [List.mem_singleton.mp m]; rfl⟩
    have to : allC (cutD ws none (some k) ++ ([PyData.tuple (intsD c)] ++ cutD ws (some (k + 1)) none)) := allC_app (allC_cut tw) (allC_app oc (allC_cut tw))
    have lo : (cutD ws none (some k) ++ ([PyData.tuple (intsD c)] ++ cutD ws (some (k + 1)) none)).length ≤ 60 := by
      rw [List.length_append, List.length_append, List.length_singleton]
      omega
    show dIt _ _ s' _
    simp [-q_dSeq, -q_dIfS]
    refine ⟨by omega, by omega, by omega, by omega, by omega, ?_⟩
    refine for_inv (fun r ρ' s'' => s'' = s' ∧ (∀ x ∈ r, ∃ zs, x = .tuple zs ∧ allC zs ∧ zs.length ≤ 90) ∧ ∃ c9 c10 c11 c12, ρ' = [.un, .fz (refD a), .fz (.int t), .fz (.tuple (pcs.map tupI)), .fz (.int (ordH st pcs : Nat)), .fz (.tuple T3), .fz (.tuple T4), .fz (.tuple ws), .fz (.int k), c9, c10, c11, c12]) ⟨rfl, ?_, _, _, _, _, rfl⟩ ?_ ?_
    · intro x m
      simp only [List.mem_cons, List.not_mem_nil, or_false] at m
      rcases m with rfl | rfl | rfl | rfl | rfl | rfl | rfl
      · exact ⟨_, rfl, tw, by omega⟩
      · exact ⟨_, rfl, allC_app (allC_cut tw) (allC_cut tw), by rw [List.length_append]; omega⟩
      · exact ⟨_, rfl, fun d m => tw d (List.mem_reverse.mp m), by rw [List.length_reverse]; omega⟩
      · exact ⟨_, rfl, to, by have := lo; simp at this ⊢; omega⟩
      · exact ⟨_, rfl, allC_cut tw, by omega⟩
      · exact ⟨_, rfl, allC_app tw tw, by rw [List.length_append]; omega⟩
      · exact ⟨_, rfl, allC_app (allC_cut tw) (allC_app (allC_cut tw) (allC_cut tw)), by rw [List.length_append, List.length_append]; omega⟩
    · rintro x r2 ρ s'' ⟨rfl, hx, c9, c10, c11, c12, rfl⟩ D2 hrt2 hbk2 hnx2 hct2
      obtain ⟨zs, rfl, az, lz⟩ := hx _ (List.mem_cons_self ..)
      obtain ⟨cs, rfl⟩ := allC_list az
      rw [List.length_map] at lz
      simp only [List.set_cons_succ, List.set_cons_zero]
      rw [q_dSeq]
      simp [-q_dSeq, -q_dIfS]
      refine ⟨t, rfl, by omega, by omega, cs, _, rfl, by omega, by rw [rngD_length]; omega, ?_⟩
      rw [oneTo_ints, rows_ints]
      dsimp only
      refine seq_inv (fun ρ' s4 => s4 = s'' ∧ ∃ c11, ρ' = [.un, .fz (refD a), .fz (.int t), .fz (.tuple (pcs.map tupI)), .fz (.int (ordH st pcs : Nat)), .fz (.tuple T3), .fz (.tuple T4), .fz (.tuple ws), .fz (.int k), c9, .fz (.tuple (cs.map tupI)), c11, .fz (.bool (extB t cs))]) ?_ fun U2 hU2 => ?_
      · rintro ρ' s4 ⟨rfl, c11, rfl⟩
        simp
        refine ⟨t, cs, rfl, by omega, by omega, by omega, ?_⟩
        refine ⟨_, _, 9, rfl, rfl, ⟨0, by simp [plainB]⟩, by simp [plainB], ?_⟩
        rw [sameB_eq]
        simp
        exact hnx2 _ _ ⟨rfl, fun y m => hx y (List.mem_cons_of_mem _ m), _, _, _, _, rfl⟩
      · have hF : ∃ F : Nat, facN t.toNat = F ∧ (if t = 3 then (7 : Int) else 25) = F + 1 := by
          rcases ht with rfl | rfl
          · exact ⟨6, rfl, rfl⟩
          · exact ⟨24, rfl, rfl⟩
        obtain ⟨F, hF1, hF2⟩ := hF
        have al : atI ((rowsG cs (oneTo t.toNat)).map tupI) (-1) = some (tupI (headN t cs)) := atI_last (by rw [List.getLast?_map, rowsN_last]; rfl)
        have a0 : atI ((rowsG cs (oneTo t.toNat)).map tupI) 0 = some (tupI (oneTo t.toNat)) := atI_nat (j := 0) (by rw [List.getElem?_map, rowsG_head]; rfl)
        have er : (List.map tupI (rowsG cs (oneTo t.toNat))).dropLast = (rowsN t cs).map tupI := by rw [rowsN, List.map_dropLast]
        have fin : ∀ b, b = extB t cs → U2 [.un, .fz (refD a), .fz (.int t), .fz (.tuple (pcs.map tupI)), .fz (.int (ordH st pcs : Nat)), .fz (.tuple T3), .fz (.tuple T4), .fz (.tuple ws), .fz (.int k), c9, .fz (.tuple (cs.map tupI)), .fz (.list ((rowsG cs (oneTo t.toNat)).map tupI)), .fz (.bool b)] s'' := fun b e => by
          subst e
          exact hU2 _ _ ⟨rfl, _, rfl⟩
        unfold extB at fin
        simp [al, a0]
        rcases ht with rfl | rfl
        · have f6 : facN (Int.toNat 3) = 6 := rfl
          rw [if_pos rfl]
          by_cases c1 : cs.length = 6
          · rw [if_pos (by rw [rowsG_len]; omega)]
            by_cases c2 : headN 3 cs = oneTo (Int.toNat 3)
            · rw [if_pos c2, cutD_last, er]
              refine ⟨rowsN 3 cs, rfl, by rw [rowsN_len]; omega, ?_⟩
              exact ⟨repD_nd _, fin _ (by rw [f6, decide_eq_true c1, decide_eq_true c2]; rfl)⟩
            · rw [if_neg c2]
              exact fin _ (by rw [decide_eq_false c2, Bool.false_and, Bool.and_false])
          · rw [if_neg (by rw [rowsG_len]; omega)]
            exact fin _ (by rw [f6, decide_eq_false c1, Bool.false_and])
        · have f6 : facN (Int.toNat 4) = 24 := rfl
          rw [if_neg (by decide)]
          by_cases c1 : cs.length = 24
          · rw [if_pos (by rw [rowsG_len]; omega)]
            by_cases c2 : headN 4 cs = oneTo (Int.toNat 4)
            · rw [if_pos c2, cutD_last, er]
              refine ⟨rowsN 4 cs, rfl, by rw [rowsN_len]; omega, ?_⟩
              exact ⟨repD_nd _, fin _ (by rw [f6, decide_eq_true c1, decide_eq_true c2]; rfl)⟩
            · rw [if_neg c2]
              exact fin _ (by rw [decide_eq_false c2, Bool.false_and, Bool.and_false])
          · rw [if_neg (by rw [rowsG_len]; omega)]
            exact fin _ (by rw [f6, decide_eq_false c1, Bool.false_and])
    · rintro ρ s'' ⟨rfl, _, c9, c10, c11, c12, rfl⟩
      exact nxt _ _ _ _ _
  · rintro ρ s' ⟨rfl, _⟩
    exact hU _ _ rfl
end Dl
/-! How many arguments each promise has: courses. -/
namespace Dl
open PySem L2
section
variable {A : Amb} {ds : List D} {s : A.S} {Q : D → A.S → Prop}
theorem len_carried (h : S_carried ds s Q) : ds.length = 2 := by obtain ⟨_, _, e, _⟩ := h; rw [e]; rfl
theorem len_L_carried (h : S_carried ds s Q) : ds.length = 2 := len_carried h
theorem len_order_of (h : S_order_of ds s Q) : ds.length = 1 := by obtain ⟨_, e, _⟩ := h; rw [e]; rfl
theorem len_L_order (h : S_order_of ds s Q) : ds.length = 1 := len_order_of h
theorem len_course_of (h : S_course_of ds s Q) : ds.length = 2 := by obtain ⟨_, _, e, _⟩ := h; rw [e]; rfl
theorem len_is_extent (h : S_is_extent ds s Q) : ds.length = 2 := by obtain ⟨_, _, e, _⟩ := h; rw [e]; rfl
end
end Dl
/-! dict(pairs), what such a dict holds. -/
namespace Dl
open PySem L2
/-! ### the rule -/
section
variable {X : Cx} {pins : List (Addr × Obj)} {σ : L2.St} {H : Hp} {s : Shared}
theorem pairs_at (I : L2.Inv X pins σ H s) : ∀ {ps : List Addr} {kvs : List (Key × V)}, Paired (fun p kv => SqT X.K H p [kV kv.1, kv.2]) ps kvs →
    ∃ (us : List Value) (prs : List (Key × Value)), KV kvs prs ∧ us.length = ps.length ∧ prs.length = ps.length ∧
      ∀ (j : Nat) (b : Addr), ps[j]? = some b → ∃ (u : Value) (q : Key × Value), us[j]? = some u ∧ prs[j]? = some q ∧ PyProof.Rows.IsTup s.heap b #[u, q.2] ∧ keyIs q.1 u = true
  | _, _, .nil => ⟨[], [], .nil, rfl, rfl, fun j b e => by simp at e⟩
  | _, _, .cons (a := p) (b := kv) h t => by
    obtain ⟨us, prs, r, hl, hm, hp⟩ := pairs_at I t
    obtain ⟨its, rv, ht, _⟩ := I.tuple h
    obtain ⟨u, y, ei, ru, ry⟩ := vals2 rv
    subst ei
    refine ⟨u :: us, (kv.1, y) :: prs, .cons ⟨rfl, ry⟩ r, by rw [List.length_cons, List.length_cons, hl], by rw [List.length_cons, List.length_cons, hm], fun j b e => ?_⟩
    cases j with
    | zero =>
      have e' : p = b := Option.some.inj e
      subst e'
      exact ⟨u, (kv.1, y), rfl, rfl, ht, kV_is (P := X.prog) (w := X.w) ru⟩
    | succ j => exact hp j b (by simpa using e)
/-- dict(t), t a tuple of pairs, its object known -/
def rDictT (K : PySem.W.Frag) : List V → Hp → VK → Prop := fun xs H Q => ∃ (a : Addr) (ob : Obj) (ps : List Addr) (kvs : List (Key × V)), xs = [.ref a] ∧ ob.dict = none ∧ H a = some (.frz ob (.tup (ps.map V.ref))) ∧ Paired (fun p kv => SqT K H p [kV kv.1, kv.2]) ps kvs ∧
  ∀ p, H p = none → Q (.ref p) (upd H p (.dK (mergeK [] kvs)))
theorem call_dictT (hcalm : X.calm = true) : CallR X (.type "dict") (rDictT X.K) := by
  intro pins s σ H xs us Q I r q
  obtain ⟨a, ob, ps, kvs, rfl, hob, hq, hp, q⟩ := q
  obtain ⟨u, rfl, rx⟩ := vals1 r
  cases rx
  obtain ⟨hget, hz, its, rv, o, ho, hc, n, hdat⟩ := (show ObjOk X.prog X.w H s.heap a (.frz ob (.tup (ps.map V.ref))) from I.hok a _ hq)
  rw [hget] at ho
  cases ho
  have ei := refs_at rv
  subst ei
  rw [List.length_map] at hz
  obtain ⟨uu, prs, rel, hl1, hl2, hpr⟩ := pairs_at I hp
  have P := PySem.PairArg.tuple (prog := X.prog) (w := X.w) a (ps.map Value.ref).toArray (fun j => ps.getD j 0) (uu.zip (prs.map (·.2)))
  have hlen : (uu.zip (prs.map (·.2))).length = ps.length := by rw [List.length_zip, List.length_map, hl1, hl2]; simp
  refine PySem.call_dict_pairs (knd := mixKind X.prog X.w) (kvs := prs) P (I.ok.hd hcalm) ⟨⟨ob, n, hget, hc, hob, hdat⟩, by rw [hlen]; simp, fun j k v e => ?_⟩ ⟨by rw [hlen, hl2], fun i key v e => ?_⟩ (by rw [hlen]; exact hz) fun h' tk hd' k => ?_
  · have lt : j < ps.length := by
      have := (List.getElem?_eq_some_iff.mp e).1
      rw [hlen] at this
      exact this
    obtain ⟨u, q', e1, e2, e3, e4⟩ := hpr j _ (List.getElem?_eq_getElem lt)
    have ez : (uu.zip (prs.map (·.2)))[j]? = some (u, q'.2) := by
      rw [List.getElem?_zip_eq_some]
      exact ⟨e1, by rw [List.getElem?_map, e2]; rfl⟩
    rw [ez] at e
    cases e
    refine ⟨by simp [lt], .inl ?_⟩
    show s.heap.IsTuple (ps.getD j 0) _
    rw [List.getD_eq_getElem?_getD, List.getElem?_eq_getElem lt]
    exact e3
  · have lt : i < ps.length := by
      have := (List.getElem?_eq_some_iff.mp e).1
      rw [hlen] at this
      exact this
    obtain ⟨u, q', e1, e2, e3, e4⟩ := hpr i _ (List.getElem?_eq_getElem lt)
    have ez : (uu.zip (prs.map (·.2)))[i]? = some (u, q'.2) := by
      rw [List.getElem?_zip_eq_some]
      exact ⟨e1, by rw [List.getElem?_map, e2]; rfl⟩
    have e' : some (u, q'.2) = some (key, v) := ez.symm.trans e
    cases e'
    exact ⟨q'.1, e2, e4⟩
  · have hm : (s.heap.objs.size == sysModules) = false := beq_eq_false_iff_ne.mpr (Nat.ne_of_gt I.big)
    have hlen2 : (mergeK [] kvs).length ≤ sizeLine := by
      refine Nat.le_trans (length_mergeK kvs []) ?_
      rw [List.length_nil, Nat.zero_add, rel.length, hl2]
      exact hz
    exact ⟨.ref s.heap.objs.size, upd H s.heap.objs.size (.dK (mergeK [] kvs)), I.laid (t' := tk) (fun b o e => k b o (List.not_mem_nil) e) (Nat.le_refl _) (show ObjOk X.prog X.w _ _ _ (.dK (mergeK [] kvs)) from ⟨hlen2, hm, PySem.merged [] prs, KV.merge rel .nil, hd'⟩), rfl, q _ (I.hok.fresh (Nat.le_refl _))⟩
end
/-! ### over data -/
def mergeD (acc kvs : List (Key × D)) : List (Key × D) := kvs.foldl (fun acc p => putD acc p.1 p.2) acc
def dictD (kvs : List (Key × D)) : D := .dict (kvs.map fun p => (keyD p.1, p.2))
section
variable {K : PySem.W.Frag} {F H : Hp}
theorem keyD_rp {v : V} {k : Key} (r : Rp K F v (keyD k)) : v = kV k := by
  cases k with
  | inl i => cases r; rfl
  | inr x => cases r; rfl
theorem pairs_rp : ∀ {kvs : List (Key × D)} {vs : List V}, RpL K F vs (kvs.map fun p => .tuple [keyD p.1, p.2]) →
    ∃ (ps : List Addr) (kv : List (Key × V)), vs = ps.map V.ref ∧ Paired (fun p kv => SqT K F p [kV kv.1, kv.2]) ps kv ∧ kv.map (·.1) = kvs.map (·.1) ∧ RpL K F (kv.map (·.2)) (kvs.map (·.2))
  | [], _, r => by cases r; exact ⟨[], [], rfl, .nil, rfl, .nil⟩
  | (k, d) :: kvs, _, r => by
    cases r with
    | cons r1 r2 =>
      obtain ⟨ps, kv, rfl, hp, hk, hr⟩ := pairs_rp r2
      cases r1 with
      | @tup a xs ds s t =>
        cases t with
        | cons t1 t2 =>
          cases t2 with
          | cons t2 t3 =>
            cases t3
            rename_i x y
            have e1 := keyD_rp t1
            subst e1
            exact ⟨a :: ps, (k, y) :: kv, rfl, .cons s.sqT hp, by simp [hk], .cons t2 hr⟩
theorem merge_rel : ∀ {kv : List (Key × V)} {kvs : List (Key × D)} {av : List (Key × V)} {ad : List (Key × D)}, kv.map (·.1) = kvs.map (·.1) → RpL K F (kv.map (·.2)) (kvs.map (·.2)) → av.map (·.1) = ad.map (·.1) → RpL K F (av.map (·.2)) (ad.map (·.2)) →
    (mergeK av kv).map (·.1) = (mergeD ad kvs).map (·.1) ∧ RpL K F ((mergeK av kv).map (·.2)) ((mergeD ad kvs).map (·.2))
  | [], [], _, _, _, _, h, r => ⟨h, r⟩
  | [], _ :: _, _, _, h, _, _, _ => by simp at h
  | _ :: _, [], _, _, h, _, _, _ => by simp at h
  | (k, v) :: kv, (k', d) :: kvs, av, ad, h, r, ha, ra => by
    simp only [List.map_cons, List.cons.injEq] at h
    obtain ⟨rfl, h2⟩ := h
    cases r with
    | cons r1 r2 =>
      obtain ⟨p1, p2⟩ := put_rel (k := k) ha ra r1
      have z := merge_rel (kv := kv) (kvs := kvs) h2 r2 p1 p2
      exact z
theorem zip_keys : ∀ {kv : List (Key × V)} {kvs : List (Key × D)}, kv.map (·.1) = kvs.map (·.1) → (kv.map fun p => keyD p.1).zip (kvs.map (·.2)) = kvs.map fun p => (keyD p.1, p.2)
  | [], [], _ => rfl
  | [], _ :: _, h => by simp at h
  | _ :: _, [], h => by simp at h
  | (k, v) :: kv, (k', d) :: kvs, h => by
    simp only [List.map_cons, List.cons.injEq] at h
    obtain ⟨rfl, h2⟩ := h
    rw [List.map_cons, List.map_cons, List.map_cons, List.zip_cons_cons, zip_keys h2]
theorem rp_dict {a : Addr} {kv : List (Key × V)} {kvs : List (Key × D)} (e : F a = some (.dK kv)) (h : kv.map (·.1) = kvs.map (·.1)) (r : RpL K F (kv.map (·.2)) (kvs.map (·.2))) : Rp K F (.ref a) (dictD kvs) := by
  have z := Rp.dK e r
  rw [zip_keys h] at z
  exact z
theorem keyD_inj {a b : Key} (h : keyD a = keyD b) : a = b := by
  cases a <;> cases b <;> simp [keyD] at h <;> rw [h]
theorem zip_back : ∀ {kv : List (Key × V)} {ds : List D} {kvs : List (Key × D)}, kv.length = ds.length → (kv.map fun p => keyD p.1).zip ds = kvs.map (fun p => (keyD p.1, p.2)) → kv.map (·.1) = kvs.map (·.1) ∧ ds = kvs.map (·.2)
  | [], [], [], _, _ => ⟨rfl, rfl⟩
  | [], [], _ :: _, _, h => by simp at h
  | [], _ :: _, _, h, _ => by simp at h
  | _ :: _, [], _, h, _ => by simp at h
  | _ :: _, _ :: _, [], _, h => by simp at h
  | (k, v) :: kv, d :: ds, (k', d') :: kvs, hl, h => by
    simp only [List.map_cons, List.zip_cons_cons, List.cons.injEq, Prod.mk.injEq] at h
    obtain ⟨⟨h1, h2⟩, h3⟩ := h
    obtain ⟨i1, i2⟩ := zip_back (kv := kv) (by simpa using hl) h3
    have e := keyD_inj h1
    subst e h2
    exact ⟨by simp [i1], by simp [← i2]⟩
theorem dict_inj : ∀ {l m : List (Key × D)}, l.map (fun p => (keyD p.1, p.2)) = m.map (fun p => (keyD p.1, p.2)) → l = m
  | [], [], _ => rfl
  | [], _ :: _, h => by simp at h
  | _ :: _, [], h => by simp at h
  | (k, v) :: l, (k', v') :: m, h => by
    simp only [List.map_cons, List.cons.injEq, Prod.mk.injEq] at h
    obtain ⟨⟨h1, h2⟩, h3⟩ := h
    rw [keyD_inj h1, h2, dict_inj h3]
theorem Bh.dict {v : V} {kvs : List (Key × D)} (b : Bh K F H v (dictD kvs)) (h : Hle F H) (ne : kvs ≠ []) : ∃ a kv, v = .ref a ∧ H a = some (.dK kv) ∧ kv.map (·.1) = kvs.map (·.1) ∧ RpL K F (kv.map (·.2)) (kvs.map (·.2)) := by
  cases kvs with
  | nil => exact (ne rfl).elim
  | cons p kvs =>
    obtain ⟨k, d⟩ := p
    unfold dictD at b
    generalize hd : PyData.dict (List.map (fun p => (keyD p.1, p.2)) ((k, d) :: kvs)) = dd at b
    cases b with
    | rp r =>
      cases r with
      | dK e r =>
        rw [PyData.dict.injEq] at hd
        obtain ⟨i1, i2⟩ := zip_back (by have := r.length; rw [List.length_map] at this; exact this) hd.symm
        subst i2
        exact ⟨_, _, rfl, h _ _ e, i1, r⟩
      | obj a =>
        unfold refD at hd
        simp at hd
        cases k <;> simp [keyD] at hd
      | @dT a kv ds e r =>
        rw [PyData.dict.injEq] at hd
        cases kv with
        | nil => simp at hd
        | cons q kv =>
          cases ds with
          | nil => simp at hd
          | cons d' ds =>
            simp only [List.map_cons, List.zip_cons_cons, List.cons.injEq, Prod.mk.injEq] at hd
            have z := hd.1.1
            cases k <;> simp [keyD, keysD] at z
      | _ => cases hd
    | dk e1 e2 e3 =>
      rw [PyData.dict.injEq] at hd
      rename_i p kv kvs'
      have z : kvs' = (k, d) :: kvs := by
        exact (dict_inj hd).symm
      subst z
      exact ⟨_, _, rfl, e1, e2, e3⟩
    | @dt p kv kvs' e1 e2 e3 =>
      rw [PyData.dict.injEq] at hd
      cases kvs' with
      | nil => simp at hd
      | cons q kvs' =>
        simp only [List.map_cons, List.cons.injEq, Prod.mk.injEq] at hd
        have z := hd.1.1
        cases k <;> simp [keyD, keysD] at z
    | _ => cases hd
end
section
variable {X : Cx}
theorem TAt.frz {F : Hp} {a : Addr} {xs : List V} {ds : List D} (h : TAt F a xs ds) (k : keyAll ds = none) : ∃ ob : Obj, ob.dict = none ∧ F a = some (.frz ob (.tup xs)) := by
  obtain ⟨o, t, e⟩ := h
  unfold TObj at t
  rw [k] at t
  have t' : ∃ ob : Obj, ob.dict = none ∧ o = .frz ob (.tup xs) := by simpa using t
  obtain ⟨ob, h1, h2⟩ := t'
  exact ⟨ob, h1, by rw [e, h2]⟩
def fDict : FN := fun xs k => ∃ kvs : List (Key × D), kvs ≠ [] ∧ xs = [.tuple (kvs.map fun p => .tuple [keyD p.1, p.2])] ∧ k (dictD (mergeD [] kvs))
theorem dn_dict : DRN X.K (rDictT X.K) fDict := fun H P xs ds k Q dm b f kk => by
  obtain ⟨kvs, ne, rfl, f⟩ := f
  obtain ⟨v, rfl, b1⟩ := b.one
  obtain ⟨a, vs, rfl, s0, s1, r1⟩ := b1.tup fzP_le
  obtain ⟨ob, hob, e⟩ := s0.frz (by
    cases kvs with
    | nil => exact (ne rfl).elim
    | cons p kvs => rfl)
  obtain ⟨ps, kv, rfl, hp, hk, hr⟩ := pairs_rp r1
  have up : ∀ {ps : List Addr} {kv : List (Key × V)}, Paired (fun p kv => SqT X.K (fzP H P) p [kV kv.1, kv.2]) ps kv → Paired (fun p kv => SqT X.K H p [kV kv.1, kv.2]) ps kv := fun h => Paired.mapP h fun _ _ z => (fzP_le : Hle _ H).sqT z
  refine ⟨a, ob, ps, kv, rfl, hob, fzP_le _ _ e, up hp, fun p hp => ?_⟩
  obtain ⟨n1, n2⟩ := new_fz dm (o := .dK (mergeK [] kv)) hp
  obtain ⟨m1, m2⟩ := merge_rel hk hr (av := []) (ad := []) rfl .nil
  exact kk _ _ _ (same_upd hp) (rp_dict n1 m1 (m2.mono n2)) f
end
section
variable {A : Amb} {X : Cx} {N : Ent} {c e : Expr} {tc te : DE A} {pos : Pos} {ρ : Rho} {s : A.S} {Q : D → A.S → Prop}
/-- d[k], d a dict that nobody writes any more -/
def dgetV (x y : D) (k : D → Prop) : Prop := ∃ (kvs : List (Key × D)) (key : Key) (z : D), x = dictD kvs ∧ y = keyD key ∧ valD kvs key = some z ∧ k z
def dFGet (tc te : DE A) : DE A := fun ρ s Q => tc ρ s fun x s1 => te ρ s1 fun y s2 => dgetV x y fun z => Q z s2
@[simp] theorem q_dFGet : dFGet tc te ρ s Q = tc ρ s fun x s1 => te ρ s1 fun y s2 => dgetV x y fun z => Q z s2 := rfl
theorem e_fget (hu : X.A.units + 1 < cLine) (hv : PE X c (liftB A X.K N tc)) (he : PE X e (liftE A X.K N te)) (hs : NoSl e := by intro _ _; rfl) : PE X (.Subscript c e pos) (liftE A X.K N (dFGet tc te)) :=
  PE.imp (pe_dget hu hv he hs) fun σ H Q ⟨ρ, s, O, P, R0, q, k⟩ => ⟨ρ, s, O, _, R0, q, fun x s1 vx H1 O1 q1 R1 le1 rx => ⟨ρ, s1, O1, _, R1, q1, fun y s2 vy H2 O2 q2 R2 le2 ry => by
    obtain ⟨kvs, key, z, rfl, rfl, hz, q2⟩ := q2
    have ne : kvs ≠ [] := fun w => by subst w; cases hz
    obtain ⟨a, kv, rfl, ha, hk, hr⟩ := (R2.bh (rx.mono le2)).dict fzP_le ne
    have e1 := keyD_rp ry
    subst e1
    have vr := val_rel (k := key) hk hr
    rw [hz] at vr
    obtain ⟨v, ev, rv⟩ := vr.get
    exact ⟨a, v, rfl, by rw [← ev]; exact .k ha, k _ s2 _ H2 O2 q2 R2 (le1.trans le2) rv⟩⟩⟩
end
end Dl
/-! Drawn words. -/
namespace Dl
open PySem L2
def t_L_spelled {A : Amb} : DS A :=
  (dSeq (dSet 1 (dC (.str "")))
  (dSeq (dSet 2 (dVar 0))
  (dSeq (dWhile (dTest (dOp fGt (dVarB 2) (dC (.int 0))))
  (dSeq (dSet 1 (dOp fAdd (dOp fIx (dC (.str "abcdefghijklmnopqrstuvwxyz")) (dOp fMod (dFn fInt (dCons (dOp fSub (dVarB 2) (dC (.int 1))) dNil)) (dC (.int 26)))) (dVarB 1)))
  (dSet 2 (dOp fDiv (dOp fSub (dVarB 2) (dC (.int 1))) (dC (.int 26))))))
  (dRet (dVar 1)))))
def t_L_chain_words {A : Amb} (S_L_spelled S_L_draw : FS A) : DS A :=
  (dSeq (dSetN 2 (nLst dNil))
  (dSeq (dFor (dRg1 (dCons (dVar 1) dNil)) (dgN 3)
  (dSeq (dSet 4 (dOp fAdd (dC (.int 1)) (dCall S_L_draw (dCons (dVar 0) (dCons (dOp fIx (dTup (dCons (dC (.int 26)) (dCons (dC (.int 702)) (dCons (dC (.int 18278)) (dCons (dC (.int 95428956661682176)) dNil))))) (dCall S_L_draw (dCons (dVar 0) (dCons (dC (.int 4)) dNil)))) dNil)))))
  (dSeq (dWhile (dTest (dOp fIn (dVarB 4) (dVarB 2)))
  (dSet 4 (dOp fAdd (dVarB 4) (dC (.int 1)))))
  (dApp 2 (dVar 4)))))
  (dFrz 2 (dRet (dOfN (nComp (dIt (dVar 2)) (dgN 4) dYes (dCall S_L_spelled (dCons (dVar 4) dNil)) [4]))))))

def lstV (x : D) (k : List D → Prop) : Prop := match x with
  | .list es => k es
  | _ => False
@[simp] theorem lstV_list {es : List D} {k : List D → Prop} : lstV (.list es) k = k es := rfl
section
variable {A : Amb} {ρ : Rho} {s : A.S} {D0 : DEnds A} {te : DE A} {i : Nat}
@[simp] theorem q_dExt : dExt i te D0 ρ s = atO ρ[i]? fun ds => te ρ s fun d s' => lstV d fun es => ds.length + es.length ≤ sizeLine ∧ D0.nx (ρ.set i (.ol (ds ++ es))) s' := by
  unfold dExt
  generalize ρ[i]? = c
  cases c with
  | none => rfl
  | some c => cases c <;> rfl
end
@[simp] theorem q_ixS {z : Str} {i : Int} {k : D → Prop} : fIx (.str z) (.int i) k = (z.length ≤ sizeLine ∧ oV (atS z i) fun d => k (.str d)) := by
  unfold fIx
  dsimp only
  cases atS z i <;> rfl
theorem sign_at {z : Str} {i : Int} (h0 : 0 ≤ i) (h1 : i < z.length) : ∃ c ∈ z.cps.toList, atS z i = some ⟨#[c]⟩ := by
  have h1' : i < z.cps.toList.length := by
    rw [Array.length_toList]
    exact h1
  obtain ⟨h, e⟩ := atI_of (xs := z.cps.toList) h0 h1'
  exact ⟨_, List.getElem_mem h, by unfold atS; rw [e]; rfl⟩
/-- a drawn word -/
def wordOk (x : Str) : Prop := PyData.strOk x = true ∧ x.length ≤ 60
theorem word_plain {x : Str} (h : wordOk x) : plainB 0 (.str x) = true := by
  rw [plainB, PyData.canLay0]
  exact h.1
section
variable {A : Amb} {ds : List D} {s : A.S} {Q : D → A.S → Prop}
def S_L_spelled : FS A := fun ds s Q => ∃ n : Int, ds = [.int n] ∧ n < 2 ^ 60 ∧ ∀ x, wordOk x → Q (.str x) s
def SpI (s0 : A.S) (n0 : Int) (n : Nat) (ρ : Rho) (s' : A.S) : Prop := s' = s0 ∧ ∃ (l : Int) (x : Str) (e : Nat), n = l.toNat ∧ PyData.strOk x = true ∧ x.length + e = 60 ∧ l < 2 ^ e ∧ ρ = [.fz (.int n0), .fz (.str x), .fz (.int l)]
theorem p_L_spelled (h : S_L_spelled ds s Q) : t_L_spelled (retE Q) (startR 3 ds) s := by
  obtain ⟨n, rfl, hn, q⟩ := h
  have e : startR 3 [.int n] = [.fz (.int n), .un, .un] := rfl
  have hs : 1000000 ≤ sizeLine := by decide
  have habc : (Str.ofString "abcdefghijklmnopqrstuvwxyz").length = 26 := by decide +kernel
  unfold t_L_spelled
  simp [e]
  refine while_inv (SpI s n) n.toNat ⟨rfl, n, _, 60, rfl, by decide +kernel, by decide +kernel, hn, rfl⟩ ?_
  rintro m ρ s' ⟨rfl, l, x, e, rfl, hx, hl, lt, rfl⟩
  simp
  by_cases pos : 0 < l
  · simp [pos]
    obtain ⟨c, hc, ec⟩ := sign_at (z := Str.ofString "abcdefghijklmnopqrstuvwxyz") (i := (l - 1) % 26) (by omega) (by rw [habc]; omega)
    have cs : c < 128 := by
      have all : ∀ c ∈ (Str.ofString "abcdefghijklmnopqrstuvwxyz").cps.toList, c < 128 := by decide +kernel
      exact all c hc
    have e1 : 1 ≤ e := by
      rcases Nat.eq_zero_or_pos e with z | z
      · subst z; simp at lt; omega
      · exact z
    obtain ⟨e', rfl⟩ : ∃ e', e = e' + 1 := ⟨e - 1, by omega⟩
    have ep : (2 : Int) ^ (e' + 1) = 2 * 2 ^ e' := by rw [Int.pow_succ]; omega
    have pp : (0 : Int) < 2 ^ e' := Int.pow_pos (by decide)
    rw [ec]
    simp
    have l1 : (⟨#[c]⟩ : Str).length = 1 := rfl
    refine ⟨by rw [habc]; omega, by rw [l1]; omega, ⟨by omega, by omega⟩, ((l - 1) / 26).toNat, by omega, rfl, (l - 1) / 26, _, e', rfl, ?_, ?_, ?_, rfl⟩
    · refine strOk_append (strOk_iff.mpr fun d m => ?_) hx
      have : d = c := by simpa using m
      omega
    · rw [len_append, l1]; omega
    · rw [ep] at lt
      generalize (2 : Int) ^ e' = P at lt pp ⊢
      omega
  · simp [pos]
    exact q _ ⟨hx, by omega⟩
end
/-- of a comprehension that gives words -/
theorem all2_words {xs : List D} {rs : List (Option D)} (h : All2 (fun _ r => ∃ x, r = some (.str x) ∧ wordOk x) xs rs) : ∃ L : List Str, rs.filterMap id = L.map .str ∧ L.length = xs.length ∧ ∀ x ∈ L, wordOk x := by
  induction h with
  | nil => exact ⟨[], rfl, rfl, fun x m => by cases m⟩
  | cons r t ih =>
    obtain ⟨x, rfl, ok⟩ := r
    obtain ⟨L, e, hl, ho⟩ := ih
    refine ⟨x :: L, ?_, by rw [List.length_cons, List.length_cons, hl], fun y m => ?_⟩
    · rw [show (some (PyData.str x) :: _ : List (Option D)).filterMap id = PyData.str x :: List.filterMap id _ from rfl, e]
      rfl
    · rcases List.mem_cons.mp m with rfl | m
      · exact ok
      · exact ho y m
theorem anyEq_int {n : Int} {ns : List Int} (h : anyEq (.int n) (intsD ns) = true) : n ∈ ns := by
  unfold anyEq at h
  obtain ⟨y, m, e⟩ := List.any_eq_true.mp h
  obtain ⟨j, hj, rfl⟩ := List.mem_map.mp m
  simp at e
  rw [← e]
  exact hj
section
variable {a : Addr} {ds : List D} {s : (poolA a).S} {Q : D → (poolA a).S → Prop}
def ChI (a : Addr) (m : Int) (ns : List Int) (x : D) (s0 : (poolA a).S) (n : Nat) (ρ : Rho) (s'' : (poolA a).S) : Prop := s'' = s0 ∧ ∃ k : Int, n = (2 ^ 57 + (ns.length : Int) + 1 - k).toNat ∧ k < 2 ^ 57 + (ns.length : Int) + 1 ∧ ρ = [.fz (refD a), .fz (.int m), .ol (intsD ns), .fz x, .fz (.int k)]
def S_L_chain_words (a : Addr) : FS (poolA a) := fun ds s Q => ∃ m : Int, ds = [refD a, .int m] ∧ 0 ≤ m ∧ m ≤ 10 ∧ ∀ L : List Str, L.length = m.toNat → (∀ x ∈ L, wordOk x) → Q (.list (L.map .str)) s
theorem p_L_chain_words (h : S_L_chain_words a ds s Q) : t_L_chain_words S_L_spelled (S_draw a) (retE Q) (startR 5 ds) s := by
  obtain ⟨m, rfl, m0, m10, q⟩ := h
  have e : startR 5 [refD a, .int m] = [.fz (refD a), .fz (.int m), .un, .un, .un] := rfl
  have hs : 1000000 ≤ sizeLine := by decide
  unfold t_L_chain_words
  simp [e]
  refine for_of (xs := rngD 0 m.toNat) (fun k z => by simp; exact ⟨by omega, z⟩) (fun r ρ s' => s' = s ∧ ∃ (ns : List Int) (c3 c4 : Cell), ns.length + r.length = m.toNat ∧ (∀ n ∈ ns, n < 2 ^ 57 + ns.length) ∧ freeC (some c4) ∧ ρ = [.fz (refD a), .fz (.int m), .ol (intsD ns), c3, c4]) ⟨rfl, [], .un, .un, by rw [rngD_length]; simp, fun n h => (nomatch h), trivial, rfl⟩ ?_ ?_
  · rintro x r ρ s' ⟨rfl, ns, c3, c4, hl, hb, f4, rfl⟩ D' hrt hbk hnx hct
    rw [List.length_cons] at hl
    simp
    refine ⟨by omega, _, rfl, by omega, by omega, fun v v0 v4 => ?_⟩
    have T : ∃ t : Int, atI [PyData.int 26, PyData.int 702, PyData.int 18278, PyData.int 95428956661682176] v = some (.int t) ∧ 0 < t ∧ t < 2 ^ 57 := by
      rcases (by omega : v = 0 ∨ v = 1 ∨ v = 2 ∨ v = 3) with rfl | rfl | rfl | rfl
      · exact ⟨26, rfl, by omega, by omega⟩
      · exact ⟨702, rfl, by omega, by omega⟩
      · exact ⟨18278, rfl, by omega, by omega⟩
      · exact ⟨95428956661682176, rfl, by omega, by omega⟩
    obtain ⟨t, et, t0, t57⟩ := T
    simp [et]
    refine ⟨t, rfl, t0, by omega, fun u u0 ut => ?_⟩
    refine while_inv (ChI a m ns x s') _ ⟨rfl, 1 + u, rfl, by omega, rfl⟩ ?_
    rintro n ρ s'' ⟨rfl, k, rfl, kb, rfl⟩
    simp
    refine ⟨⟨canLay_ints ns, by simp [PyData.canLay0], by simp [PyData.depth]⟩, ?_⟩
    by_cases c : anyEq (.int k) (intsD ns) = true
    · simp [c]
      have := hb k (anyEq_int c)
      exact ⟨(2 ^ 57 + (ns.length : Int) + 1 - (k + 1)).toNat, by omega, rfl, k + 1, rfl, by omega, rfl⟩
    · simp [c]
      refine ⟨by omega, hnx _ _ ⟨rfl, ns ++ [k], .fz x, .fz (.int k), by simp; omega, fun j mj => ?_, trivial, by simp [intsD]⟩⟩
      simp
      rcases List.mem_append.mp mj with mj | mj
      · have := hb j mj
        omega
      · rw [List.mem_singleton.mp mj]
        omega
  · rintro ρ s' ⟨rfl, ns, c3, c4, hl, hb, f4, rfl⟩
    have hl' : ns.length = m.toNat := by simpa using hl
    simp
    refine comp_rel (xs := intsD ns) (fun k z => by simpa using z) (by simpa using f4) (by rw [intsD_length]; omega) (fun x r => ∃ w, r = some (.str w) ∧ wordOk w) (fun x mx s k q => ?_) (fun rs hr => ?_)
    · obtain ⟨n, hn, rfl⟩ := List.mem_map.mp mx
      simp
      have := hb n hn
      exact ⟨n, rfl, by omega, fun w hw => q _ ⟨w, rfl, hw⟩⟩
    · obtain ⟨L, e, l1, ok⟩ := all2_words hr
      rw [e]
      exact q L (by rw [l1, intsD_length, hl']) ok
end
end Dl
/-! Drawn books and touches. -/
namespace Dl
open PySem L2
def t_L_book {A : Amb} (S_L_piece S_L_draw S_L_chain_words S_L_pick S_L_changes : FS A) : DS A :=
  (dSeq (dSet 4 (dIf (dTest (dOp fEqU (dCall S_L_draw (dCons (dVar 0) (dCons (dC (.int 2)) dNil))) (dC (.int 0)))) (dOfN (nFn gSorted (dCons (dCall S_L_chain_words (dCons (dVar 0) (dCons (dVar 2) dNil))) dNil))) (dSl (dLst (dCons (dC (.str "b")) (dCons (dC (.str "p")) (dCons (dC (.str "s")) (dCons (dC (.str "t")) dNil))))) oNone (oSome (dVarB 2)))))
  (dSeq (dSet 5 (dCall S_L_piece (dCons (dVar 0) (dCons (dVar 1) (dCons (dVar 3) dNil)))))
  (dSeq (dSetN 6 (nLst dNil))
  (dSeq (dFor (dRg1 (dCons (dVar 2) dNil)) (dgN 7)
  (dSeq (dSet 8 (dCall S_L_draw (dCons (dVar 0) (dCons (dC (.int 3)) dNil))))
  (dSeq (dSet 9 (dVar 5))
  (dSeq (dIfS (dAndT (dTest (dOp fGt (dVarB 7) (dC (.int 0)))) (dTest (dOp fLt (dVarB 8) (dC (.int 2)))))
  (dSet 9 (dOp fAdd (dSl (dVarB 5) oNone (oSome (dUn fNeg (dC (.int 1))))) (dTup (dCons (dCall S_L_pick (dCons (dVar 0) (dCons (dCall S_L_changes (dCons (dVar 1) dNil)) dNil))) dNil))))
  dNx)
  (dSeq (dIfS (dAndT (dTest (dOp fGt (dVarB 7) (dC (.int 0)))) (dTest (dOp fEqU (dVarB 8) (dC (.int 2)))))
  (dSet 9 (dCall S_L_piece (dCons (dVar 0) (dCons (dVar 1) (dCons (dVar 3) dNil)))))
  dNx)
  (dApp 6 (dTup (dCons (dOp fIx (dVarB 4) (dVarB 7)) (dCons (dVar 9) dNil)))))))))
  (dRet (dFn fTuple (dCons (dVarB 6) dNil)))))))
def t_L_touch {A : Amb} (S_L_pick S_L_draw : FS A) : DS A :=
  (dRet (dFn fTuple (dCons (dOfN (nComp (dRg1 (dCons (dOp fAdd (dC (.int 1)) (dCall S_L_draw (dCons (dVar 0) (dCons (dVar 2) dNil)))) dNil)) (dgN 4) dYes (dCall S_L_pick (dCons (dVar 0) (dCons (dOfN (nComp (dIt (dVar 1)) (dgN 3) dYes (dOp fIx (dVarB 3) (dC (.int 0))) [3])) dNil))) [4])) dNil)))
def t_L_small_book {A : Amb} (S_L_draw S_L_book S_L_shuffled : FS A) : DS A :=
  (dSeq (dSet 3 (dOp fAdd (dC (.int 3)) (dCall S_L_draw (dCons (dVar 0) (dCons (dC (.int 3)) dNil)))))
  (dSeq (dSet 4 (dCall S_L_draw (dCons (dVar 0) (dCons (dC (.int 4)) dNil))))
  (dSeq (dIfS (dTest (dOp fEqU (dVarB 4) (dC (.int 0))))
  (dSeq (dSet 3 (dC (.int 4)))
  (dSeq (dSet 5 (dOp fAdd (dOp fMul (dTup (dCons (dTup dNil) (dCons (dTup (dCons (dC (.int 1)) (dCons (dC (.int 4)) dNil))) dNil))) (dC (.int 3))) (dTup (dCons (dTup dNil) dNil))))
  (dSeq (dSet 6 (dSl (dCall S_L_shuffled (dCons (dVar 0) (dCons (dLst (dCons (dTup (dCons (dC (.int 1)) (dCons (dC (.int 4)) dNil))) (dCons (dTup (dCons (dC (.int 1)) (dCons (dC (.int 2)) dNil))) (dCons (dTup (dCons (dC (.int 3)) (dCons (dC (.int 4)) dNil))) (dCons (dTup dNil) dNil))))) dNil))) oNone (oSome (dVarB 1))))
  (dRet (dLst (dCons (dC (.int 4)) (dCons (dFn fTuple (dCons (dOfN (nComp (dRg1 (dCons (dVar 1) dNil)) (dgN 7) dYes (dTup (dCons (dOp fIx (dC (.str "bpst")) (dVarB 7)) (dCons (dOp fAdd (dVarB 5) (dTup (dCons (dOp fIx (dVarB 6) (dVarB 7)) dNil))) dNil))) [7])) dNil)) dNil)))))))
  dNx)
  (dRet (dLst (dCons (dVar 3) (dCons (dCall S_L_book (dCons (dVar 0) (dCons (dVar 3) (dCons (dVar 1) (dCons (dVar 2) dNil))))) dNil)))))))

/-- a lead of a book: its word, its piece -/
abbrev Lead := Str × List (List Int)
def pairX (p : Lead) : D := .tuple [.str p.1, .tuple (p.2.map tupI)]
def bookD (bs : List Lead) : D := .tuple (bs.map pairX)
def pieceOk (st : Int) (most : Nat) (cs : List (List Int)) : Prop := 1 ≤ cs.length ∧ cs.length ≤ most ∧ ∀ c ∈ cs, c ∈ chS st
def bookOk (st : Int) (most : Nat) (bs : List Lead) : Prop := ∀ p ∈ bs, wordOk p.1 ∧ pieceOk st most p.2
theorem words_list : ∀ {ys : List D}, (∀ y ∈ ys, ∃ x, y = .str x ∧ wordOk x) → ∃ L : List Str, ys = L.map .str ∧ L.length = ys.length ∧ ∀ x ∈ L, wordOk x
  | [], _ => ⟨[], rfl, rfl, fun x m => by cases m⟩
  | y :: ys, h => by
    obtain ⟨x, rfl, ok⟩ := h y (List.mem_cons_self ..)
    obtain ⟨L, e, hl, ho⟩ := words_list fun z m => h z (List.mem_cons_of_mem _ m)
    refine ⟨x :: L, by rw [List.map_cons, ← e], by rw [List.length_cons, List.length_cons, hl], fun y m => ?_⟩
    rcases List.mem_cons.mp m with rfl | m
    · exact ok
    · exact ho y m
theorem sortOk_strs {L : List Str} (h : ∀ x ∈ L, wordOk x) : sortOk (L.map .str) := by
  refine ⟨?_, fun d hd d' hd' => ?_, fun d hd => ?_⟩
  · exact plainAll_lay (n := 0) (plainAll_iff.mpr fun x m => by
      obtain ⟨y, hy, rfl⟩ := List.mem_map.mp m
      exact word_plain (h y hy))
  · obtain ⟨i, _, rfl⟩ := List.mem_map.mp hd
    obtain ⟨j, _, rfl⟩ := List.mem_map.mp hd'
    rfl
  · obtain ⟨i, _, rfl⟩ := List.mem_map.mp hd
    exact ⟨fun z => (nomatch z), by simp [PyData.depth]⟩
theorem all2_map {α : Type} {f : α → D} {p : α → Prop} {xs : List D} {rs : List (Option D)} (h : All2 (fun _ r => ∃ x, r = some (f x) ∧ p x) xs rs) : ∃ L : List α, rs.filterMap id = L.map f ∧ L.length = xs.length ∧ ∀ x ∈ L, p x := by
  induction h with
  | nil => exact ⟨[], rfl, rfl, fun x m => by cases m⟩
  | cons r t ih =>
    obtain ⟨x, rfl, ok⟩ := r
    obtain ⟨L, e, hl, ho⟩ := ih
    refine ⟨x :: L, ?_, by rw [List.length_cons, List.length_cons, hl], fun y m => ?_⟩
    · rw [show (some (f x) :: _ : List (Option D)).filterMap id = f x :: List.filterMap id _ from rfl, e]
      rfl
    · rcases List.mem_cons.mp m with rfl | m
      · exact ok
      · exact ho y m
theorem piece_list {st : Int} {m : Nat} {L : List D} (h : ∀ x ∈ L, x ∈ changesD st) (l1 : 1 ≤ L.length) (l2 : L.length ≤ m) : ∃ cs, L = cs.map tupI ∧ pieceOk st m cs := by
  obtain ⟨cs, rfl, hc⟩ := changes_list h
  rw [List.length_map] at l1 l2
  exact ⟨cs, rfl, l1, l2, hc⟩
section
variable {a : Addr} {ds : List D} {s : (poolA a).S} {Q : D → (poolA a).S → Prop}
def S_L_book (a : Addr) : FS (poolA a) := fun ds s Q => ∃ st many most : Int, ds = [refD a, .int st, .int many, .int most] ∧ 3 ≤ st ∧ st ≤ 8 ∧ 1 ≤ many ∧ many ≤ 4 ∧ 2 ≤ most ∧ most ≤ 1000 ∧
  ∀ bs : List Lead, bs.length = many.toNat → bookOk st most.toNat bs → Q (bookD bs) s
def BkI (a : Addr) (st many most : Int) (W : List D) (pcs : List (List Int)) (s0 : (poolA a).S) (r : List D) (ρ : Rho) (s' : (poolA a).S) : Prop :=
  s' = s0 ∧ ∃ (j : Nat) (bs : List Lead) (c7 c8 c9 : Cell), r = rngD j (many.toNat - j) ∧ bs.length = j ∧ j ≤ many.toNat ∧ bookOk st most.toNat bs ∧ ρ = [.fz (refD a), .fz (.int st), .fz (.int many), .fz (.int most), .fz (.list W), .fz (.tuple (pcs.map tupI)), .ol (bs.map pairX), c7, c8, c9]
theorem p_L_book (h : S_L_book a ds s Q) : t_L_book (S_L_piece a) (S_draw a) (S_L_chain_words a) (S_L_pick a) S_changes_of (retE Q) (startR 10 ds) s := by
  obtain ⟨st, many, most, rfl, s3, s8, m1, m4, o2, o1000, q⟩ := h
  have e : startR 10 [refD a, .int st, .int many, .int most] = [.fz (refD a), .fz (.int st), .fz (.int many), .fz (.int most), .un, .un, .un, .un, .un, .un] := rfl
  have hs : 1000000 ≤ sizeLine := by decide
  obtain ⟨cn, cl⟩ := ch_some s3 s8
  unfold t_L_book
  rw [e]
  refine seq_inv (fun ρ' s' => s' = s ∧ ∃ L : List Str, L.length = many.toNat ∧ (∀ x ∈ L, wordOk x) ∧ ρ' = [.fz (refD a), .fz (.int st), .fz (.int many), .fz (.int most), .fz (.list (L.map .str)), .un, .un, .un, .un, .un]) ?_ fun U hU => ?_
  rotate_left
  · simp
    refine ⟨2, rfl, by omega, by omega, fun v v0 v2 => ?_⟩
    simp
    by_cases hv : v = 0
    · simp [hv]
      refine ⟨many, rfl, by omega, by omega, fun L l1 ok => ?_⟩
      simp
      refine ⟨sortOk_strs ok, ?_⟩
      have hp : (sortD (L.map .str)).Perm (L.map .str) := List.mergeSort_perm _ _
      obtain ⟨L', e', l', ok'⟩ := words_list (ys := sortD (L.map .str)) fun y m => by
        obtain ⟨x, hx, rfl⟩ := List.mem_map.mp (hp.mem_iff.mp m)
        exact ⟨x, rfl, ok x hx⟩
      rw [e']
      refine hU _ _ ⟨rfl, L', ?_, ok', rfl⟩
      rw [l', hp.length_eq, List.length_map, l1]
    · simp [hv]
      refine ⟨by omega, ?_⟩
      rw [cutD_to (by omega)]
      refine hU _ _ ⟨rfl, [Str.ofString "b", Str.ofString "p", Str.ofString "s", Str.ofString "t"].take many.toNat, ?_, fun x m => ?_, ?_⟩
      · rw [List.length_take]
        simp
        omega
      · have := List.mem_of_mem_take m
        simp at this
        rcases this with rfl | rfl | rfl | rfl <;> exact ⟨by decide +kernel, by decide +kernel⟩
      · rw [List.map_take]
        rfl
  rintro ρ' s1 ⟨rfl, L, l1, okL, rfl⟩
  rw [q_dSeq]
  simp [-q_dSeq, -q_dIfS]
  refine ⟨st, most, rfl, s3, s8, o2, o1000, fun P hP p1 p2 => ?_⟩
  obtain ⟨pcs, rfl, pok⟩ := piece_list (m := most.toNat) hP p1 p2
  rw [q_dSeq]
  simp [-q_dSeq, -q_dIfS]
  rw [q_dSeq]
  refine for_of (xs := rngD 0 many.toNat) (fun k z => by simp; exact ⟨by omega, z⟩) (BkI a st many most (L.map .str) pcs s1) ⟨rfl, 0, [], .un, .un, .un, rfl, rfl, by omega, fun p m => (nomatch m), rfl⟩ ?_ ?_
  · rintro x r ρ s' ⟨rfl, j, bs, c7, c8, c9, hr, hb, hj, okb, rfl⟩ D' hrt hbk hnx hct
    have lt : j < many.toNat := by
      have := congrArg List.length hr
      rw [List.length_cons, rngD_length] at this
      omega
    rw [show many.toNat - j = (many.toNat - (j + 1)) + 1 by omega, rngD_succ] at hr
    obtain ⟨rfl, rfl⟩ := List.cons.inj hr
    have ltL : j < L.length := by omega
    simp only [q_dgN, List.set_cons_succ, List.set_cons_zero]
    rw [q_dSeq]
    simp [-q_dSeq, -q_dIfS]
    refine ⟨3, rfl, by omega, by omega, fun v v0 v3 => ?_⟩
    dsimp only
    rw [q_dSeq]
    simp [-q_dSeq, -q_dIfS]
    refine seq_inv (fun ρ' s2 => s2 = s' ∧ ∃ cs, pieceOk st most.toNat cs ∧ ρ' = [.fz (refD a), .fz (.int st), .fz (.int many), .fz (.int most), .fz (.list (L.map .str)), .fz (.tuple (pcs.map tupI)), .ol (bs.map pairX), .fz (.int (j : Nat)), .fz (.int v), .fz (.tuple (cs.map tupI))]) ?_ fun U hU => ?_
    rotate_left
    · simp
      have same := hU _ _ ⟨rfl, pcs, pok, rfl⟩
      by_cases hj0 : (0 : Int) < j
      · by_cases hv : v < 2
        · have hj0' : 0 < j := by omega
          simp [hj0, hj0', hv]
          refine ⟨st, rfl, s3, s8, ?_⟩
          refine ⟨_, _, rfl, rfl, cn, by omega, fun x hx => ?_⟩
          obtain ⟨c, hc, rfl⟩ := mem_changesD hx
          rw [cutD_last]
          have pl := pok.1
          have pm := pok.2.1
          refine ⟨by omega, ?_⟩
          simp
          refine ⟨by omega, ?_⟩
          have ee : (pcs.map tupI).dropLast ++ [PyData.tuple (intsD c)] = (pcs.dropLast ++ [c]).map tupI := by
            rw [← List.map_dropLast, List.map_append]
            rfl
          rw [ee]
          refine hU _ _ ⟨rfl, _, ⟨by simp, by simp; omega, fun d m => ?_⟩, rfl⟩
          rcases List.mem_append.mp m with m | m
          · exact pok.2.2 d (List.dropLast_subset _ m)
          · rw [List.mem_singleton.mp m]; exact hc
        · have hj0' : 0 < j := by omega
          simp [hj0, hj0', hv]
          exact same
      · have hj0' : ¬ 0 < j := by omega
        simp [hj0, hj0']
        exact same
    rintro ρ' s2 ⟨rfl, cs, csok, rfl⟩
    refine seq_inv (fun ρ' s3 => s3 = s2 ∧ ∃ cs, pieceOk st most.toNat cs ∧ ρ' = [.fz (refD a), .fz (.int st), .fz (.int many), .fz (.int most), .fz (.list (L.map .str)), .fz (.tuple (pcs.map tupI)), .ol (bs.map pairX), .fz (.int (j : Nat)), .fz (.int v), .fz (.tuple (cs.map tupI))]) ?_ fun U hU => ?_
    rotate_left
    · have same := hU _ _ ⟨rfl, cs, csok, rfl⟩
      simp
      by_cases hj0 : (0 : Int) < j
      · by_cases hv : v = 2
        · have hj0' : 0 < j := by omega
          subst hv
          simp [hj0, hj0']
          refine ⟨st, most, rfl, s3, s8, o2, o1000, fun P hP p1 p2 => ?_⟩
          obtain ⟨cs2, rfl, ok2⟩ := piece_list (m := most.toNat) hP p1 p2
          exact hU _ _ ⟨rfl, cs2, ok2, rfl⟩
        · have hj0' : 0 < j := by omega
          simp [hj0, hj0', hv]
          exact same
      · have hj0' : ¬ 0 < j := by omega
        simp [hj0, hj0']
        exact same
    rintro ρ' s3 ⟨rfl, cs2, cs2ok, rfl⟩
    have at1 : atI (L.map PyData.str) (j : Int) = some (.str L[j]) := atI_nat (by rw [List.getElem?_map, List.getElem?_eq_getElem ltL]; rfl)
    simp [at1]
    refine ⟨by omega, by omega, hnx _ _ ⟨rfl, j + 1, bs ++ [(L[j], cs2)], .fz (.int (j : Nat)), .fz (.int v), .fz (.tuple (cs2.map tupI)), by simp, by simp [hb], by omega, fun p m => ?_, by simp [pairX]⟩⟩
    rcases List.mem_append.mp m with m | m
    · exact okb p m
    · rw [List.mem_singleton.mp m]
      exact ⟨okL _ (List.getElem_mem ltL), cs2ok⟩
  · rintro ρ s' ⟨rfl, j, bs, c7, c8, c9, hr, hb, hj, okb, rfl⟩
    have ej : many.toNat - j = 0 := by
      have := congrArg List.length hr
      rw [List.length_nil, rngD_length] at this
      omega
    simp
    exact q bs (by omega) okb
/-! ### small books -/
def S_L_small_book (a : Addr) : FS (poolA a) := fun ds s Q => ∃ many most : Int, ds = [refD a, .int many, .int most] ∧ 1 ≤ many ∧ many ≤ 4 ∧ 8 ≤ most ∧ most ≤ 1000 ∧
  ∀ (st : Int) (bs : List Lead), 3 ≤ st → st ≤ 5 → bs.length = many.toNat → bookOk st most.toNat bs → Q (.list [.int st, bookD bs]) s
theorem four_ok : ([] : List Int) ∈ chS 4 ∧ ([1, 4] : List Int) ∈ chS 4 ∧ ([1, 2] : List Int) ∈ chS 4 ∧ ([3, 4] : List Int) ∈ chS 4 := by decide +kernel
def huntN : List (List Int) := [[], [1, 4], [], [1, 4], [], [1, 4], []]
theorem p_L_small_book (h : S_L_small_book a ds s Q) : t_L_small_book (S_draw a) (S_L_book a) (S_shuffled a) (retE Q) (startR 8 ds) s := by
  obtain ⟨many, most, rfl, m1, m4, o8, o1000, q⟩ := h
  have e : startR 8 [refD a, .int many, .int most] = [.fz (refD a), .fz (.int many), .fz (.int most), .un, .un, .un, .un, .un] := rfl
  have hs : 1000000 ≤ sizeLine := by decide
  unfold t_L_small_book
  rw [e, q_dSeq]
  simp [-q_dSeq, -q_dIfS]
  refine ⟨3, rfl, by omega, by omega, fun v v0 v3 => ?_⟩
  dsimp only
  simp only [q_addI]
  rw [q_dSeq]
  simp [-q_dSeq, -q_dIfS]
  refine ⟨4, rfl, by omega, by omega, fun t t0 t4 => ?_⟩
  dsimp only
  refine seq_if ?_ fun U hU => ?_
  · simp
    exact ⟨3 + v, many, most, rfl, by omega, by omega, m1, m4, by omega, o1000, fun bs hb ok => ⟨by omega, q _ bs (by omega) (by omega) hb ok⟩⟩
  · simp
    by_cases ht : t = 0
    · simp [ht]
      refine ⟨by omega, by simp, by omega, by simp, ?_⟩
      have eh : (List.replicate (Int.toNat 3) [PyData.tuple [], PyData.tuple [PyData.int 1, PyData.int 4]]).flatten = ([[], [1, 4], [], [1, 4], [], [1, 4]] : List (List Int)).map tupI := rfl
      rw [eh]
      dsimp only
      refine ⟨by omega, ?_⟩
      rw [q_addT]
      refine ⟨by simp; omega, ?_⟩
      have e2 : ([[], [1, 4], [], [1, 4], [], [1, 4]] : List (List Int)).map tupI ++ [PyData.tuple []] = huntN.map tupI := rfl
      rw [e2]
      obtain ⟨f1, f2, f3, f4⟩ := four_ok
      refine ⟨by omega, by omega, _, _, rfl, rfl, by simp, fun ys hp => ?_⟩
      obtain ⟨es, rfl, hes⟩ := changes_list (st := 4) (L := ys) fun x m => by
        have m' := hp.mem_iff.mp m
        simp only [List.mem_cons, List.not_mem_nil, or_false] at m'
        rcases m' with rfl | rfl | rfl | rfl
        · exact in_changesD f2
        · exact in_changesD f3
        · exact in_changesD f4
        · exact in_changesD f1
      have le : es.length = 4 := by
        have := hp.length_eq
        rw [List.length_map] at this
        exact this
      rw [slV_tuple, cutD_to (by omega)]
      refine comp_rel (xs := rngD 0 many.toNat) (fun k z => by simp; exact ⟨by omega, z⟩) (by simp) (by rw [rngD_length]; omega) (fun x r => ∃ p : Lead, r = some (pairX p) ∧ wordOk p.1 ∧ pieceOk 4 most.toNat p.2) (fun x mx s2 k z => ?_) (fun rs hr => ?_)
      · obtain ⟨j, hj, rfl⟩ := mem_rngD mx
        have bl : (Str.ofString "bpst").length = 4 := by decide +kernel
        obtain ⟨c, hc, ec⟩ := sign_at (z := Str.ofString "bpst") (i := (j : Int)) (by omega) (by rw [bl]; omega)
        have cs : c < 128 := by
          have all : ∀ c ∈ (Str.ofString "bpst").cps.toList, c < 128 := by decide +kernel
          exact all c hc
        have lj : j < es.length := by omega
        have at1 : atI ((es.map tupI).take many.toNat) (j : Int) = some (tupI es[j]) := atI_nat (by rw [List.getElem?_take, if_pos hj, List.getElem?_map, List.getElem?_eq_getElem lj]; rfl)
        simp [ec, at1]
        refine ⟨by omega, by omega, ?_⟩
        have e3 : huntN.map tupI ++ [tupI es[j]] = (huntN ++ [es[j]]).map tupI := by rw [List.map_append]; rfl
        have hl : huntN.length = 7 := rfl
        refine ⟨by omega, by omega, ?_⟩
        rw [e3]
        refine z _ ⟨(⟨#[c]⟩, huntN ++ [es[j]]), rfl, ⟨strOk_iff.mpr fun d m => ?_, by show (1 : Nat) ≤ 60; omega⟩, ?_, ?_, fun d m => ?_⟩
        · have : d = c := by simpa using m
          omega
        · simp
        · simp [hl]; omega
        · rcases List.mem_append.mp m with m | m
          · simp [huntN] at m
            rcases m with rfl | rfl | rfl | rfl | rfl | rfl | rfl <;> first | exact f1 | exact f2
          · rw [List.mem_singleton.mp m]
            exact hes _ (List.getElem_mem lj)
      · obtain ⟨bs, eb, lb, okb⟩ := all2_map hr
        simp
        rw [eb]
        refine ⟨by omega, q 4 bs (by omega) (by omega) (by rw [lb, rngD_length]) okb⟩
    · simp [ht]
      simpa [ht] using hU
/-! ### touches -/
def touchD (ws : List Str) : D := .tuple (ws.map .str)
def S_L_touch (a : Addr) : FS (poolA a) := fun ds s Q => ∃ (bs : List Lead) (most : Int), ds = [refD a, bookD bs, .int most] ∧ bs ≠ [] ∧ bs.length ≤ 1000 ∧ 1 ≤ most ∧ most ≤ 10000 ∧
  ∀ ws : List Str, (∀ w ∈ ws, w ∈ bs.map (·.1)) → 1 ≤ ws.length → ws.length ≤ most.toNat → Q (touchD ws) s
theorem p_L_touch (h : S_L_touch a ds s Q) : t_L_touch (S_L_pick a) (S_draw a) (retE Q) (startR 5 ds) s := by
  obtain ⟨bs, most, rfl, ne, lb, m1, m2, q⟩ := h
  have e : startR 5 [refD a, bookD bs, .int most] = [.fz (refD a), .fz (bookD bs), .fz (.int most), .un, .un] := rfl
  have hs : 1000000 ≤ sizeLine := by decide
  unfold t_L_touch
  simp [e]
  refine comp_it ?_
  simp
  refine ⟨most, rfl, by omega, by omega, fun v v0 v1 => ?_⟩
  refine ⟨_, rfl, ⟨by omega, by omega⟩, ?_⟩
  refine comp_rel (xs := rngD 0 (1 + v).toNat) (fun k z => z) (by simp) (by rw [rngD_length]; omega) (fun x r => ∃ w : Str, r = some (.str w) ∧ w ∈ bs.map (·.1)) (fun x m s k z => ?_) (fun rs hr => ?_)
  · simp
    refine comp_pure (xs := bs.map pairX) (fun k z => by simpa [bookD] using z) (by simp) (by rw [List.length_map]; omega) (fun x => match x with | .tuple (y :: _) => some y | _ => none) (fun x m s k z => ?_) ?_
    · obtain ⟨p, _, rfl⟩ := List.mem_map.mp m
      have a0 : atI [PyData.str p.1, PyData.tuple (p.2.map tupI)] 0 = some (.str p.1) := atI_nat (j := 0) rfl
      simp [pairX, a0]
      exact z
    · have ee : (bs.map pairX).filterMap (fun x => match x with | .tuple (y :: _) => some y | _ => none) = (bs.map (·.1)).map PyData.str := by
        rw [List.filterMap_map, List.map_map]
        exact congrFun List.filterMap_eq_map' bs
      rw [ee]
      simp
      refine ⟨_, _, rfl, rfl, by simpa using ne, by simp; omega, fun x hx => ?_⟩
      obtain ⟨p, hp, rfl⟩ := List.mem_map.mp hx
      exact z _ ⟨p.1, rfl, List.mem_map.mpr ⟨p, hp, rfl⟩⟩
  · obtain ⟨ws, ew, lw, okw⟩ := all2_map hr
    rw [ew]
    simp
    rw [rngD_length] at lw
    exact q ws okw (by omega) (by omega)
end
end Dl
/-! The rows and places of touches. -/
namespace Dl
open PySem L2
def t_touch_rows {A : Amb} (S_rounds S_rows_of : FS A) : DS A :=
  (dSeq (dSet 3 (dFn fDict (dCons (dVarB 1) dNil)))
  (dSeq (dSetN 4 (nLst (dCons (dCall S_rounds (dCons (dVar 0) dNil)) dNil)))
  (dSeq (dFor (dIt (dVar 2)) (dgN 5)
  (dExt 4 (dSl (dCall S_rows_of (dCons (dFGet (dVarB 3) (dVar 5)) (dCons (dOp fIx (dVarB 4) (dUn fNeg (dC (.int 1)))) dNil))) (oSome (dC (.int 1))) oNone)))
  (dFrz 4 (dRet (dVar 4))))))
def t_L_touch_rows {A : Amb} (S_L_rounds S_L_rows : FS A) : DS A :=
  (dSeq (dSet 3 (dFn fDict (dCons (dVarB 1) dNil)))
  (dSeq (dSet 4 (dLst (dCons (dCall S_L_rounds (dCons (dVar 0) dNil)) dNil)))
  (dSeq (dFor (dIt (dVar 2)) (dgN 5)
  (dSet 4 (dOp fAdd (dVarB 4) (dSl (dCall S_L_rows (dCons (dFGet (dVarB 3) (dVar 5)) (dCons (dOp fIx (dVarB 4) (dUn fNeg (dC (.int 1)))) dNil))) (oSome (dC (.int 1))) oNone))))
  (dRet (dVar 4)))))
def t_places_of {A : Amb} : DS A :=
  (dSeq (dSet 2 (dFn fDict (dCons (dVarB 0) dNil)))
  (dSeq (dSetN 3 (nLst dNil))
  (dSeq (dFor (dRg1 (dCons (dFn fLen (dCons (dVarB 1) dNil)) dNil)) (dgN 4)
  (dExt 3 (dOfN (nComp (dRg1 (dCons (dFn fLen (dCons (dFGet (dVarB 2) (dOp fIx (dVarB 1) (dVarB 4))) dNil)) dNil)) (dgN 5) dYes (dTup (dCons (dVar 4) (dCons (dVar 5) dNil))) [5]))))
  (dFrz 3 (dRet (dVar 3))))))
def t_L_places {A : Amb} : DS A :=
  (dSeq (dSet 2 (dFn fDict (dCons (dVarB 0) dNil)))
  (dSeq (dSet 3 (dLst dNil))
  (dSeq (dFor (dRg1 (dCons (dFn fLen (dCons (dVarB 1) dNil)) dNil)) (dgN 4)
  (dSet 3 (dOp fAdd (dVarB 3) (dOfN (nComp (dRg1 (dCons (dFn fLen (dCons (dFGet (dVarB 2) (dOp fIx (dVarB 1) (dVarB 4))) dNil)) dNil)) (dgN 5) dYes (dTup (dCons (dVar 4) (dCons (dVar 5) dNil))) [5])))))
  (dRet (dVar 3)))))

theorem valD_put {κ : Type} [DecidableEq κ] : ∀ {kvs : List (κ × D)} {k j : κ} {v : D}, valD (putD kvs k v) j = if k = j then some v else valD kvs j := by
  intro kvs k j v
  unfold putD
  split
  · next h =>
    have go : ∀ l : List (κ × D), (l.any fun kv => decide (kv.1 = k)) = true → valD (l.map fun kv => if kv.1 = k then (kv.1, v) else kv) j = if k = j then some v else valD l j := by
      intro l
      induction l with
      | nil => intro h; simp at h
      | cons p l ih =>
        intro h
        by_cases pk : p.1 = k
        · by_cases kj : k = j
          · simp [valD, List.find?_cons, pk, kj]
          · have pj : ¬ p.1 = j := fun z => kj (pk.symm.trans z)
            simp only [List.map_cons, pk, if_true]
            have e1 : ∀ m : List (κ × D), valD ((k, v) :: m) j = valD m j := fun m => by simp [valD, List.find?_cons, kj]
            have e2 : valD (p :: l) j = valD l j := by simp [valD, List.find?_cons, pj]
            rw [e1, e2, if_neg kj]
            by_cases hl : (l.any fun kv => decide (kv.1 = k)) = true
            · rw [ih hl, if_neg kj]
            · have : l.map (fun kv => if kv.1 = k then (kv.1, v) else kv) = l := by
                refine (List.map_congr_left fun q mq => ?_).trans (List.map_id _)
                have : ¬ q.1 = k := fun z => hl (List.any_eq_true.mpr ⟨q, mq, by simp [z]⟩)
                simp [this]
              rw [this]
        · have hl : (l.any fun kv => decide (kv.1 = k)) = true := by simpa [pk] using h
          simp only [List.map_cons, pk, if_false]
          by_cases pj : p.1 = j
          · have kj : ¬ k = j := fun z => pk (pj.trans z.symm)
            simp [valD, List.find?_cons, pj, kj]
          · have e1 : ∀ m : List (κ × D), valD (p :: m) j = valD m j := fun m => by simp [valD, List.find?_cons, pj]
            rw [e1, e1, ih hl]
    exact go kvs h
  · next h =>
    have hn : valD kvs k = none := by
      have := valD_isSome (kvs := kvs) (k := k)
      cases e : valD kvs k with
      | none => rfl
      | some z => rw [e] at this; exact (h this.symm).elim
    rw [valD_snoc]
    by_cases kj : k = j
    · subst kj; rw [hn]; simp
    · simp [kj]
theorem valD_merge : ∀ {kvs acc : List (Key × D)} {key : Key}, (∃ p ∈ kvs, p.1 = key) ∨ (valD acc key).isSome = true → ∃ z, valD (mergeD acc kvs) key = some z ∧ ((∃ p ∈ kvs, p.1 = key ∧ p.2 = z) ∨ valD acc key = some z)
  | [], acc, key, h => by
    rcases h with ⟨p, m, _⟩ | h
    · cases m
    · obtain ⟨z, e⟩ := Option.isSome_iff_exists.mp h
      exact ⟨z, e, .inr e⟩
  | q :: kvs, acc, key, h => by
    have h' : (∃ p ∈ kvs, p.1 = key) ∨ (valD (putD acc q.1 q.2) key).isSome = true := by
      by_cases e : q.1 = key
      · right; rw [valD_put, if_pos e]; rfl
      · rcases h with ⟨p, m, hp⟩ | h
        · rcases List.mem_cons.mp m with rfl | m
          · exact (e hp).elim
          · exact .inl ⟨p, m, hp⟩
        · right; rw [valD_put, if_neg e]; exact h
    obtain ⟨z, e1, e2⟩ := valD_merge (kvs := kvs) (acc := putD acc q.1 q.2) h'
    refine ⟨z, e1, ?_⟩
    rcases e2 with ⟨p, m, h1, h2⟩ | e2
    · exact .inl ⟨p, List.mem_cons_of_mem _ m, h1, h2⟩
    · rw [valD_put] at e2
      by_cases e : q.1 = key
      · rw [if_pos e] at e2
        cases e2
        exact .inl ⟨q, List.mem_cons_self .., e, rfl⟩
      · rw [if_neg e] at e2
        exact .inr e2
/-- a book as pairs of a dict -/
def bookK (bs : List Lead) : List (Key × D) := bs.map fun p => (.inr p.1, .tuple (p.2.map tupI))
theorem book_pairs (bs : List Lead) : bookD bs = .tuple ((bookK bs).map fun p => .tuple [keyD p.1, p.2]) := by
  unfold bookD bookK
  rw [List.map_map]
  rfl
def bookV (bs : List Lead) : D := dictD (mergeD [] (bookK bs))
theorem look_exists {bs : List Lead} {w : Str} (h : w ∈ bs.map (·.1)) : ∃ cs : List (List Int), valD (mergeD [] (bookK bs)) (.inr w) = some (.tuple (cs.map tupI)) ∧ ∃ p ∈ bs, p.2 = cs := by
  obtain ⟨p, hp, rfl⟩ := List.mem_map.mp h
  obtain ⟨z, e, h2⟩ := valD_merge (kvs := bookK bs) (acc := []) (key := .inr p.1) (.inl ⟨_, List.mem_map.mpr ⟨p, hp, rfl⟩, rfl⟩)
  rcases h2 with ⟨q, m, _, rfl⟩ | h2
  · obtain ⟨p', hp', rfl⟩ := List.mem_map.mp m
    exact ⟨p'.2, e, p', hp', rfl⟩
  · cases h2
open Classical in
/-- the piece of a word -/
noncomputable def lookB (bs : List Lead) (w : Str) : List (List Int) := if h : ∃ cs : List (List Int), valD (mergeD [] (bookK bs)) (.inr w) = some (.tuple (cs.map tupI)) ∧ ∃ p ∈ bs, p.2 = cs then Classical.choose h else []
theorem look_ok {bs : List Lead} {w : Str} (h : w ∈ bs.map (·.1)) : valD (mergeD [] (bookK bs)) (.inr w) = some (.tuple ((lookB bs w).map tupI)) ∧ ∃ p ∈ bs, p.2 = lookB bs w := by
  have e := look_exists h
  unfold lookB
  rw [dif_pos e]
  exact Classical.choose_spec e
theorem dict_book {bs : List Lead} (ne : bs ≠ []) {k : D → Prop} (q : k (bookV bs)) : fDict [bookD bs] k := ⟨bookK bs, fun z => ne (List.map_eq_nil_iff.mp z), by rw [book_pairs], q⟩
theorem dget_book {bs : List Lead} {w : Str} (h : w ∈ bs.map (·.1)) {k : D → Prop} (q : k (.tuple ((lookB bs w).map tupI))) : dgetV (bookV bs) (.str w) k := ⟨_, .inr w, _, rfl, rfl, (look_ok h).1, q⟩
structure TouchOk (bs : List Lead) (ws : List Str) : Prop where
  ne : bs ≠ []
  wd : ∀ w ∈ ws, w ∈ bs.map (·.1)
  ps : ∀ p ∈ bs, p.2.length ≤ 190
  len : ws.length ≤ 500
/-- the rows behind the first -/
noncomputable def restT (bs : List Lead) : List Str → List Int → List (List Int)
  | [], _ => []
  | w :: r, last => (rowsG (lookB bs w) last).tail ++ restT bs r (lastG (lookB bs w) last)
noncomputable def rowsT (bs : List Lead) (st : Int) (ws : List Str) : List (List Int) := oneTo st.toNat :: restT bs ws (oneTo st.toNat)
theorem look_len {bs : List Lead} {w : Str} (hp : ∀ p ∈ bs, p.2.length ≤ 190) (h : w ∈ bs.map (·.1)) : (lookB bs w).length ≤ 190 := by
  obtain ⟨p, m, e⟩ := (look_ok h).2
  rw [← e]
  exact hp p m
theorem restT_len {bs : List Lead} (hp : ∀ p ∈ bs, p.2.length ≤ 190) : ∀ (ws : List Str) (last : List Int), (∀ w ∈ ws, w ∈ bs.map (·.1)) → (restT bs ws last).length ≤ ws.length * 190
  | [], _, _ => by simp [restT]
  | w :: r, last, h => by
    have ih := restT_len hp r (lastG (lookB bs w) last) fun x m => h x (List.mem_cons_of_mem _ m)
    have l := look_len hp (h w (List.mem_cons_self ..))
    rw [restT, List.length_append, List.length_tail, rowsG_len, List.length_cons]
    omega
theorem rows_cons {α : Type} (cs : List (List Int)) (xs : List α) : rowsG cs xs = xs :: (rowsG cs xs).tail := by cases cs <;> rfl
theorem tail_last {α : Type} {F : List (List α)} {last : List α} (h : F.getLast? = some last) (cs : List (List Int)) : (F ++ (rowsG cs last).tail).getLast? = some (lastG cs last) := by
  obtain ⟨F', rfl⟩ : ∃ F', F = F' ++ [last] := by
    have ne : F ≠ [] := fun z => by subst z; cases h
    rw [List.getLast?_eq_some_iff] at h
    exact h
  have e : F' ++ [last] ++ (rowsG cs last).tail = F' ++ rowsG cs last := by rw [List.append_assoc, List.singleton_append, ← rows_cons]
  rw [e, List.getLast?_append, rowsG_last]
  rfl
section
variable {A : Amb} {ds : List D} {s : A.S} {Q : D → A.S → Prop}
def S_touch_rows : FS A := fun ds s Q => ∃ (st : Int) (bs : List Lead) (ws : List Str), ds = [.int st, bookD bs, touchD ws] ∧ 0 ≤ st ∧ st ≤ 1000 ∧ TouchOk bs ws ∧ Q (.list ((rowsT bs st ws).map tupI)) s
structure TrI (st : Int) (bs : List Lead) (ws : List Str) (F : List (List Int)) (r : List D) : Prop where
  ex : ∃ (ws' : List Str) (last : List Int), r = ws'.map .str ∧ (∀ w ∈ ws', w ∈ bs.map (·.1)) ∧ F.getLast? = some last ∧ last.length ≤ 1000 ∧ F ++ restT bs ws' last = rowsT bs st ws
theorem TrI.start {st : Int} {bs : List Lead} {ws : List Str} (h1 : st ≤ 1000) (ok : TouchOk bs ws) : TrI st bs ws [oneTo st.toNat] (ws.map .str) :=
  ⟨⟨ws, oneTo st.toNat, rfl, ok.wd, rfl, by rw [oneTo_len]; omega, rfl⟩⟩
theorem rowsT_len {st : Int} {bs : List Lead} {ws : List Str} (ok : TouchOk bs ws) : (rowsT bs st ws).length ≤ 95001 := by
  have := restT_len ok.ps ws (oneTo st.toNat) ok.wd
  have := ok.len
  rw [rowsT, List.length_cons]
  omega
theorem p_touch_rows (h : S_touch_rows ds s Q) : t_touch_rows S_rounds S_rows_of (retE Q) (startR 6 ds) s := by
  obtain ⟨st, bs, ws, rfl, h0, h1, ok, q⟩ := h
  have e : startR 6 [.int st, bookD bs, touchD ws] = [.fz (.int st), .fz (bookD bs), .fz (touchD ws), .un, .un, .un] := rfl
  have hs : 1000000 ≤ sizeLine := by decide
  have ht := rowsT_len (st := st) ok
  unfold t_touch_rows
  rw [e, q_dSeq]
  simp [-q_dSeq, -q_dIfS]
  refine dict_book ok.ne ?_
  rw [q_dSeq]
  simp [-q_dSeq, -q_dIfS]
  refine ⟨st, rfl, h0, h1, by omega, ?_⟩
  rw [oneTo_ints]
  rw [q_dSeq]
  refine for_of (xs := ws.map .str) (fun k z => by simpa [touchD] using z) (fun r ρ s' => s' = s ∧ ∃ (F : List (List Int)) (c5 : Cell), TrI st bs ws F r ∧ ρ = [.fz (.int st), .fz (bookD bs), .fz (touchD ws), .fz (bookV bs), .ol (F.map tupI), c5]) ⟨rfl, [oneTo st.toNat], .un, .start h1 ok, rfl⟩ ?_ ?_
  · rintro x r ρ s' ⟨rfl, F, c5, ⟨ws', last, hr, hw, hl, ll, hF⟩, rfl⟩ D' hrt hbk hnx hct
    cases ws' with
    | nil => cases hr
    | cons w ws' =>
      obtain ⟨rfl, rfl⟩ := List.cons.inj hr
      have mw := hw w (List.mem_cons_self ..)
      have lk := look_len ok.ps mw
      have al : atI (F.map tupI) (-1) = some (tupI last) := atI_last (by rw [List.getLast?_map, hl]; rfl)
      have lF : F.length + ((rowsG (lookB bs w) last).tail).length ≤ 95001 := by
        rw [restT, ← List.append_assoc] at hF
        have z := congrArg List.length hF
        rw [List.length_append, List.length_append] at z
        omega
      simp [al]
      refine dget_book mw ?_
      refine ⟨lookB bs w, _, rfl, by omega, by rw [intsD_length]; omega, ?_⟩
      rw [rows_ints]
      simp
      rw [cutD_from (by omega)]
      have ed : ((rowsG (lookB bs w) last).map tupI).drop (Int.toNat 1) = ((rowsG (lookB bs w) last).tail).map tupI := by
        show ((rowsG (lookB bs w) last).map tupI).drop 1 = _
        rw [← List.map_drop, List.drop_one]
      rw [ed]
      refine ⟨by rw [List.length_map]; omega, hnx _ _ ⟨rfl, F ++ (rowsG (lookB bs w) last).tail, .fz (.str w), ⟨ws', lastG (lookB bs w) last, rfl, fun x m => hw x (List.mem_cons_of_mem _ m), tail_last hl _, by rw [lastG_len]; exact ll, ?_⟩, ?_⟩⟩
      · rw [← hF, restT, List.append_assoc]
      · rw [List.map_append]
  · rintro ρ s' ⟨rfl, F, c5, ⟨ws', last, hr, hw, hl, ll, hF⟩, rfl⟩
    have : ws' = [] := List.map_eq_nil_iff.mp hr.symm
    subst this
    have hF' : F = rowsT bs st ws := by rw [← hF, restT, List.append_nil]
    subst hF'
    simpa using q
theorem p_L_touch_rows (h : S_touch_rows ds s Q) : t_L_touch_rows S_rounds S_rows_of (retE Q) (startR 6 ds) s := by
  obtain ⟨st, bs, ws, rfl, h0, h1, ok, q⟩ := h
  have e : startR 6 [.int st, bookD bs, touchD ws] = [.fz (.int st), .fz (bookD bs), .fz (touchD ws), .un, .un, .un] := rfl
  have hs : 1000000 ≤ sizeLine := by decide
  have ht := rowsT_len (st := st) ok
  unfold t_L_touch_rows
  rw [e, q_dSeq]
  simp [-q_dSeq, -q_dIfS]
  refine dict_book ok.ne ?_
  rw [q_dSeq]
  simp [-q_dSeq, -q_dIfS]
  refine ⟨st, rfl, h0, h1, by omega, ?_⟩
  rw [oneTo_ints]
  rw [q_dSeq]
  refine for_of (xs := ws.map .str) (fun k z => by simpa [touchD] using z) (fun r ρ s' => s' = s ∧ ∃ (F : List (List Int)) (c5 : Cell), TrI st bs ws F r ∧ ρ = [.fz (.int st), .fz (bookD bs), .fz (touchD ws), .fz (bookV bs), .fz (.list (F.map tupI)), c5]) ⟨rfl, [oneTo st.toNat], .un, .start h1 ok, rfl⟩ ?_ ?_
  · rintro x r ρ s' ⟨rfl, F, c5, ⟨ws', last, hr, hw, hl, ll, hF⟩, rfl⟩ D' hrt hbk hnx hct
    cases ws' with
    | nil => cases hr
    | cons w ws' =>
      obtain ⟨rfl, rfl⟩ := List.cons.inj hr
      have mw := hw w (List.mem_cons_self ..)
      have lk := look_len ok.ps mw
      have al : atI (F.map tupI) (-1) = some (tupI last) := atI_last (by rw [List.getLast?_map, hl]; rfl)
      have lF : F.length + ((rowsG (lookB bs w) last).tail).length ≤ 95001 := by
        rw [restT, ← List.append_assoc] at hF
        have z := congrArg List.length hF
        rw [List.length_append, List.length_append] at z
        omega
      simp [al]
      refine dget_book mw ?_
      refine ⟨lookB bs w, _, rfl, by omega, by rw [intsD_length]; omega, ?_⟩
      rw [rows_ints]
      simp
      rw [cutD_from (by omega)]
      have ed : ((rowsG (lookB bs w) last).map tupI).drop (Int.toNat 1) = ((rowsG (lookB bs w) last).tail).map tupI := by
        show ((rowsG (lookB bs w) last).map tupI).drop 1 = _
        rw [← List.map_drop, List.drop_one]
      rw [ed]
      refine ⟨by rw [List.length_map]; omega, hnx _ _ ⟨rfl, F ++ (rowsG (lookB bs w) last).tail, .fz (.str w), ⟨ws', lastG (lookB bs w) last, rfl, fun x m => hw x (List.mem_cons_of_mem _ m), tail_last hl _, by rw [lastG_len]; exact ll, ?_⟩, ?_⟩⟩
      · rw [← hF, restT, List.append_assoc]
      · rw [List.map_append]
  · rintro ρ s' ⟨rfl, F, c5, ⟨ws', last, hr, hw, hl, ll, hF⟩, rfl⟩
    have : ws' = [] := List.map_eq_nil_iff.mp hr.symm
    subst this
    have hF' : F = rowsT bs st ws := by rw [← hF, restT, List.append_nil]
    subst hF'
    simpa using q
/-- the places of the rows -/
noncomputable def placesN (bs : List Lead) : Nat → List Str → List (List Int)
  | _, [] => []
  | k, w :: r => ((List.range (lookB bs w).length).map fun (j : Nat) => [(k : Int), (j : Int)]) ++ placesN bs (k + 1) r
noncomputable def placesT (bs : List Lead) (ws : List Str) : List (List Int) := placesN bs 0 ws
theorem placesN_len {bs : List Lead} : ∀ (ws : List Str) (k : Nat) (last : List Int), (placesN bs k ws).length = (restT bs ws last).length
  | [], _, _ => rfl
  | w :: r, k, last => by
    rw [placesN, restT, List.length_append, List.length_append, placesN_len r (k + 1) (lastG (lookB bs w) last), List.length_map, List.length_range, List.length_tail, rowsG_len]
    rfl
theorem placesT_len {bs : List Lead} {ws : List Str} (ok : TouchOk bs ws) : (placesT bs ws).length ≤ 95000 := by
  have := restT_len ok.ps ws [] ok.wd
  have := ok.len
  rw [placesT, placesN_len ws 0 []]
  omega
def S_places_of : FS A := fun ds s Q => ∃ (bs : List Lead) (ws : List Str), ds = [bookD bs, touchD ws] ∧ TouchOk bs ws ∧ Q (.list ((placesT bs ws).map tupI)) s
def PlIo (bs : List Lead) (ws : List Str) (s0 : A.S) (r : List D) (ρ : Rho) (s' : A.S) : Prop :=
  s' = s0 ∧ ∃ (j : Nat) (F : List (List Int)) (c4 c5 : Cell), r = rngD j (ws.length - j) ∧ j ≤ ws.length ∧ F ++ placesN bs j (ws.drop j) = placesT bs ws ∧ freeC (some c5) ∧ ρ = [.fz (bookD bs), .fz (touchD ws), .fz (bookV bs), .ol (F.map tupI), c4, c5]
def PlIf (bs : List Lead) (ws : List Str) (s0 : A.S) (r : List D) (ρ : Rho) (s' : A.S) : Prop :=
  s' = s0 ∧ ∃ (j : Nat) (F : List (List Int)) (c4 c5 : Cell), r = rngD j (ws.length - j) ∧ j ≤ ws.length ∧ F ++ placesN bs j (ws.drop j) = placesT bs ws ∧ freeC (some c5) ∧ ρ = [.fz (bookD bs), .fz (touchD ws), .fz (bookV bs), .fz (.list (F.map tupI)), c4, c5]

theorem p_places_of (h : S_places_of ds s Q) : t_places_of (retE Q) (startR 6 ds) s := by
  obtain ⟨bs, ws, rfl, ok, q⟩ := h
  have e : startR 6 [bookD bs, touchD ws] = [.fz (bookD bs), .fz (touchD ws), .un, .un, .un, .un] := rfl
  have hs : 1000000 ≤ sizeLine := by decide
  have ht := placesT_len ok
  have lw := ok.len
  unfold t_places_of
  rw [e, q_dSeq]
  simp [-q_dSeq, -q_dIfS]
  refine dict_book ok.ne ?_
  rw [q_dSeq]
  simp [-q_dSeq, -q_dIfS]
  rw [q_dSeq]
  refine for_of (xs := rngD 0 ws.length) (fun k z => by simp [touchD]; exact ⟨by omega, z⟩) (PlIo bs ws s) ⟨rfl, 0, [], .un, .un, by simp, by omega, by simp [placesT], trivial, rfl⟩ ?_ ?_
  · rintro x r ρ s' ⟨rfl, j, F, c4, c5, hr, hj, hF, f5, rfl⟩ D' hrt hbk hnx hct
    have lt : j < ws.length := by
      have := congrArg List.length hr
      rw [List.length_cons, rngD_length] at this
      omega
    rw [show ws.length - j = (ws.length - (j + 1)) + 1 by omega, rngD_succ] at hr
    obtain ⟨rfl, rfl⟩ := List.cons.inj hr
    have mw := ok.wd ws[j] (List.getElem_mem lt)
    have lk := look_len ok.ps mw
    have at1 : atI (ws.map PyData.str) (j : Int) = some (.str ws[j]) := atI_nat (by rw [List.getElem?_map, List.getElem?_eq_getElem lt]; rfl)
    have hd : ws.drop j = ws[j] :: ws.drop (j + 1) := List.drop_eq_getElem_cons lt
    rw [hd, placesN, ← List.append_assoc] at hF
    have lF : F.length + (lookB bs ws[j]).length ≤ 95000 := by
      have z := congrArg List.length hF
      rw [List.length_append, List.length_append, List.length_map, List.length_range] at z
      omega
    simp
    refine comp_pure (xs := rngD 0 (lookB bs ws[j]).length) (fun k z => by
        simp [touchD, at1]
        refine dget_book mw ?_
        simp
        exact ⟨by omega, z⟩) (by simpa using f5) (by rw [rngD_length]; omega) (fun x => some (.tuple [.int (j : Nat), x])) (fun x m s k z => ?_) ?_
    · simp
      exact ⟨by omega, z⟩
    · rw [fm_some]
      have ee : (rngD 0 (lookB bs ws[j]).length).map (fun x => PyData.tuple [.int (j : Nat), x]) = ((List.range (lookB bs ws[j]).length).map fun (i : Nat) => [(j : Int), (i : Int)]).map tupI := by
        unfold rngD
        rw [List.map_map, List.map_map]
        refine List.map_congr_left fun i _ => ?_
        simp [tupI, intsD]
      rw [ee]
      simp
      refine ⟨by omega, hnx _ _ ⟨rfl, j + 1, F ++ (List.range (lookB bs ws[j]).length).map (fun (i : Nat) => [(j : Int), (i : Int)]), .fz (.int (j : Nat)), c5, by simp, by omega, hF, f5, ?_⟩⟩
      simp
  · rintro ρ s' ⟨rfl, j, F, c4, c5, hr, hj, hF, f5, rfl⟩
    have ej : j = ws.length := by
      have := congrArg List.length hr
      rw [List.length_nil, rngD_length] at this
      omega
    subst ej
    rw [List.drop_length, placesN, List.append_nil] at hF
    subst hF
    simpa using q

theorem p_L_places (h : S_places_of ds s Q) : t_L_places (retE Q) (startR 6 ds) s := by
  obtain ⟨bs, ws, rfl, ok, q⟩ := h
  have e : startR 6 [bookD bs, touchD ws] = [.fz (bookD bs), .fz (touchD ws), .un, .un, .un, .un] := rfl
  have hs : 1000000 ≤ sizeLine := by decide
  have ht := placesT_len ok
  have lw := ok.len
  unfold t_L_places
  rw [e, q_dSeq]
  simp [-q_dSeq, -q_dIfS]
  refine dict_book ok.ne ?_
  rw [q_dSeq]
  simp [-q_dSeq, -q_dIfS]
  rw [q_dSeq]
  refine for_of (xs := rngD 0 ws.length) (fun k z => by simp [touchD]; exact ⟨by omega, z⟩) (PlIf bs ws s) ⟨rfl, 0, [], .un, .un, by simp, by omega, by simp [placesT], trivial, rfl⟩ ?_ ?_
  · rintro x r ρ s' ⟨rfl, j, F, c4, c5, hr, hj, hF, f5, rfl⟩ D' hrt hbk hnx hct
    have lt : j < ws.length := by
      have := congrArg List.length hr
      rw [List.length_cons, rngD_length] at this
      omega
    rw [show ws.length - j = (ws.length - (j + 1)) + 1 by omega, rngD_succ] at hr
    obtain ⟨rfl, rfl⟩ := List.cons.inj hr
    have mw := ok.wd ws[j] (List.getElem_mem lt)
    have lk := look_len ok.ps mw
    have at1 : atI (ws.map PyData.str) (j : Int) = some (.str ws[j]) := atI_nat (by rw [List.getElem?_map, List.getElem?_eq_getElem lt]; rfl)
    have hd : ws.drop j = ws[j] :: ws.drop (j + 1) := List.drop_eq_getElem_cons lt
    rw [hd, placesN, ← List.append_assoc] at hF
    have lF : F.length + (lookB bs ws[j]).length ≤ 95000 := by
      have z := congrArg List.length hF
      rw [List.length_append, List.length_append, List.length_map, List.length_range] at z
      omega
    simp
    refine comp_pure (xs := rngD 0 (lookB bs ws[j]).length) (fun k z => by
        simp [touchD, at1]
        refine dget_book mw ?_
        simp
        exact ⟨by omega, z⟩) (by simpa using f5) (by rw [rngD_length]; omega) (fun x => some (.tuple [.int (j : Nat), x])) (fun x m s k z => ?_) ?_
    · simp
      exact ⟨by omega, z⟩
    · rw [fm_some]
      have ee : (rngD 0 (lookB bs ws[j]).length).map (fun x => PyData.tuple [.int (j : Nat), x]) = ((List.range (lookB bs ws[j]).length).map fun (i : Nat) => [(j : Int), (i : Int)]).map tupI := by
        unfold rngD
        rw [List.map_map, List.map_map]
        refine List.map_congr_left fun i _ => ?_
        simp [tupI, intsD]
      rw [ee]
      simp
      refine ⟨by omega, hnx _ _ ⟨rfl, j + 1, F ++ (List.range (lookB bs ws[j]).length).map (fun (i : Nat) => [(j : Int), (i : Int)]), .fz (.int (j : Nat)), c5, by simp, by omega, hF, f5, ?_⟩⟩
      simp
  · rintro ρ s' ⟨rfl, j, F, c4, c5, hr, hj, hF, f5, rfl⟩
    have ej : j = ws.length := by
      have := congrArg List.length hr
      rw [List.length_nil, rngD_length] at this
      omega
    subst ej
    rw [List.drop_length, placesN, List.append_nil] at hF
    subst hF
    simpa using q
end
end Dl
/-! Papers of touches. -/
namespace Dl
open PySem L2
def t_touch_paper {A : Amb} (S_touch_rows S_places_of : FS A) : DS A :=
  (dSeq (dSet 3 (dCall S_touch_rows (dCons (dVar 0) (dCons (dVar 1) (dCons (dVar 2) dNil)))))
  (dSeq (dSet 4 (dCall S_places_of (dCons (dVar 1) (dCons (dVar 2) dNil))))
  (dSeq (dSetN 5 nDct)
  (dSeq (dFor (dRg1 (dCons (dFn fLen (dCons (dVarB 4) dNil)) dNil)) (dgN 6)
  (dSeq (dIfS (dTest (dDIn (dOp fIx (dVarB 3) (dVarB 6)) 5))
  (dRet (dTup (dCons (dC (.str "false")) (dCons (dDGet 5 (dOp fIx (dVarB 3) (dVarB 6))) (dCons (dOp fIx (dVarB 4) (dVarB 6)) dNil)))))
  dNx)
  (dDPut 5 (dOp fIx (dVarB 3) (dVarB 6)) (dOp fIx (dVarB 4) (dVarB 6)))))
  (dRet (dTup (dCons (dC (.str "true")) dNil)))))))
def t_is_place {A : Amb} (S_is_from : FS A) : DS A :=
  (dSeq (dIfS (dOrT (dNotT (dTest (dUn (fIsi .tuple) (dVarB 2)))) (dOrT (dTest (dOp fNeU (dFn fLen (dCons (dVarB 2) dNil)) (dC (.int 2)))) (dNotT (dTest (dCall S_is_from (dCons (dOp fIx (dVarB 2) (dC (.int 0))) (dCons (dC (.int 0)) (dCons (dOp fSub (dFn fLen (dCons (dVarB 1) dNil)) (dC (.int 1))) dNil))))))))
  (dRet (dC (.bool false)))
  dNx)
  (dRet (dCall S_is_from (dCons (dOp fIx (dVarB 2) (dC (.int 1))) (dCons (dC (.int 0)) (dCons (dOp fSub (dFn fLen (dCons (dFGet (dFn fDict (dCons (dVarB 0) dNil)) (dOp fIx (dVarB 1) (dOp fIx (dVarB 2) (dC (.int 0))))) dNil)) (dC (.int 1))) dNil))))))
def t_check_touch {A : Amb} (S_is_named S_places_of S_touch_rows S_touch_paper S_is_place : FS A) : DS A :=
  (dSeq (dIfS (dTest (dCall S_is_named (dCons (dVar 3) (dCons (dC (.str "true")) (dCons (dC (.int 1)) dNil)))))
  (dRet (dOp fEqU (dCall S_touch_paper (dCons (dVar 0) (dCons (dVar 1) (dCons (dVar 2) dNil)))) (dTup (dCons (dC (.str "true")) dNil))))
  dNx)
  (dSeq (dIfS (dOrT (dNotT (dTest (dCall S_is_named (dCons (dVar 3) (dCons (dC (.str "false")) (dCons (dC (.int 3)) dNil)))))) (dNotT (dTest (dFn fAll (dCons (dOfN (nComp (dIt (dSl (dVarB 3) (oSome (dC (.int 1))) oNone)) (dgN 4) dYes (dCall S_is_place (dCons (dVar 1) (dCons (dVar 2) (dCons (dVar 4) dNil)))) [4])) dNil)))))
  (dRet (dC (.bool false)))
  dNx)
  (dSeq (dSet 5 (dCall S_places_of (dCons (dVar 1) (dCons (dVar 2) dNil))))
  (dSeq (dSet 6 (dCall S_touch_rows (dCons (dVar 0) (dCons (dVar 1) (dCons (dVar 2) dNil)))))
  (dRet (dAnd (dOp fLt (dOp fIx (dVarB 3) (dC (.int 1))) (dOp fIx (dVarB 3) (dC (.int 2)))) (dOp fEqU (dOp fIx (dVarB 6) (dLIx (dVarB 5) (dOp fIx (dVarB 3) (dC (.int 1))))) (dOp fIx (dVarB 6) (dLIx (dVarB 5) (dOp fIx (dVarB 3) (dC (.int 2))))))))))))

/-! ### places in their order -/
theorem mem_placesN {bs : List Lead} : ∀ {ws : List Str} {k : Nat} {c : List Int}, c ∈ placesN bs k ws ↔ ∃ i j : Nat, ∃ h : i < ws.length, j < (lookB bs ws[i]).length ∧ c = [((k + i : Nat) : Int), (j : Int)]
  | [], k, c => by
    constructor
    · intro m; cases m
    · rintro ⟨i, _, h, _⟩; cases h
  | w :: r, k, c => by
    rw [placesN, List.mem_append, mem_placesN (ws := r)]
    constructor
    · rintro (m | ⟨i, j, h, hj, rfl⟩)
      · obtain ⟨j, hj, rfl⟩ := List.mem_map.mp m
        exact ⟨0, j, by simp, by simpa using hj, by simp⟩
      · refine ⟨i + 1, j, by simpa using h, by simpa using hj, ?_⟩
        rw [show k + 1 + i = k + (i + 1) by omega]
    · rintro ⟨i, j, h, hj, rfl⟩
      cases i with
      | zero => exact .inl (List.mem_map.mpr ⟨j, by simpa using hj, by simp⟩)
      | succ i =>
        refine .inr ⟨i, j, by simpa using h, by simpa using hj, ?_⟩
        rw [show k + 1 + i = k + (i + 1) by omega]
theorem lex2 (a b c d : Int) : HT.lexLt [a, b] [c, d] = if a = c then decide (b < d) else decide (a < c) := by
  rw [HT.lexLt_cons]
  split
  · rw [HT.lexLt_cons]
    split
    · next h => subst h; rw [HT.lexLt_nil_nil]; simp
    · rfl
  · rfl
theorem placesN_sorted {bs : List Lead} : ∀ (ws : List Str) (k : Nat), (placesN bs k ws).Pairwise fun p q => HT.lexLt p q = true
  | [], _ => .nil
  | w :: r, k => by
    rw [placesN, List.pairwise_append]
    refine ⟨?_, placesN_sorted r (k + 1), fun p hp q hq => ?_⟩
    · rw [List.pairwise_map]
      refine List.Pairwise.imp (fun {a b} h => ?_) (List.pairwise_lt_range (n := (lookB bs w).length))
      rw [lex2, if_pos rfl, decide_eq_true_eq]
      omega
    · obtain ⟨j, _, rfl⟩ := List.mem_map.mp hp
      obtain ⟨i, l, _, _, rfl⟩ := mem_placesN.mp hq
      rw [lex2, if_neg (by omega), decide_eq_true_eq]
      omega
theorem lex_irr (a b : Int) : HT.lexLt [a, b] [a, b] = false := by rw [lex2, if_pos rfl]; simp
section
variable {bs : List Lead} {ws : List Str}
theorem place_two {i : Nat} (h : i < (placesT bs ws).length) : ∃ a b : Int, (placesT bs ws)[i] = [a, b] := by
  obtain ⟨_, _, _, _, e⟩ := mem_placesN.mp (List.getElem_mem h : (placesT bs ws)[i] ∈ placesN bs 0 ws)
  exact ⟨_, _, e⟩
theorem place_lt {i j : Nat} (hi : i < (placesT bs ws).length) (hj : j < (placesT bs ws).length) : HT.lexLt (placesT bs ws)[i] (placesT bs ws)[j] = decide (i < j) := by
  have pw := List.pairwise_iff_getElem.mp (placesN_sorted (bs := bs) ws 0)
  obtain ⟨a, b, e1⟩ := place_two (bs := bs) hi
  obtain ⟨c, d, e2⟩ := place_two (bs := bs) hj
  rcases Nat.lt_trichotomy i j with h | h | h
  · have z : HT.lexLt (placesT bs ws)[i] (placesT bs ws)[j] = true := pw i j hi hj h
    rw [z, decide_eq_true h]
  · subst h
    rw [e1, lex_irr, decide_eq_false (by omega)]
  · have z : HT.lexLt (placesT bs ws)[j] (placesT bs ws)[i] = true := pw j i hj hi h
    rw [decide_eq_false (by omega)]
    rw [e1, e2, lex2] at *
    split at z
    · next w => subst w; simp at z ⊢; omega
    · next w =>
      simp at z
      rw [if_neg (by omega)]
      simp
      omega
theorem place_inj {i j : Nat} (hi : i < (placesT bs ws).length) (hj : j < (placesT bs ws).length) (e : (placesT bs ws)[i] = (placesT bs ws)[j]) : i = j := by
  have a := place_lt (bs := bs) hi hj
  have b := place_lt (bs := bs) hj hi
  obtain ⟨x, y, e2⟩ := place_two (bs := bs) hj
  rw [e, e2, lex_irr] at a b
  have a' := of_decide_eq_false a.symm
  have b' := of_decide_eq_false b.symm
  omega
/-- a place that is told -/
noncomputable def placeB (bs : List Lead) (ws : List Str) : D → Bool
  | .tuple [.int a, .int b] => decide (0 ≤ a ∧ a ≤ (ws.length : Int) - 1) && decide (0 ≤ b ∧ b ≤ ((lookB bs (ws.getD a.toNat default)).length : Int) - 1)
  | _ => false
theorem place_iff {v : D} : placeB bs ws v = true ↔ ∃ i : Nat, ∃ h : i < (placesT bs ws).length, v = tupI (placesT bs ws)[i] := by
  constructor
  · intro h
    unfold placeB at h
    split at h
    · next a b =>
      rw [Bool.and_eq_true, decide_eq_true_eq, decide_eq_true_eq] at h
      have lt : a.toNat < ws.length := by omega
      have e : ws.getD a.toNat default = ws[a.toNat] := by rw [List.getD_eq_getElem?_getD, List.getElem?_eq_getElem lt]; rfl
      rw [e] at h
      have m : [a, b] ∈ placesT bs ws := mem_placesN.mpr ⟨a.toNat, b.toNat, lt, by omega, by
        rw [show ((0 + a.toNat : Nat) : Int) = a by omega, show ((b.toNat : Nat) : Int) = b by omega]⟩
      obtain ⟨i, hi, e2⟩ := List.getElem_of_mem m
      exact ⟨i, hi, by rw [e2]; rfl⟩
    · cases h
  · rintro ⟨i, hi, rfl⟩
    obtain ⟨k, j, hk, hj, e⟩ := mem_placesN.mp (List.getElem_mem hi : (placesT bs ws)[i] ∈ placesN bs 0 ws)
    rw [e]
    show (decide _ && decide _) = true
    rw [Bool.and_eq_true, decide_eq_true_eq, decide_eq_true_eq]
    have e3 : (((0 + k : Nat) : Int)).toNat = k := by omega
    rw [e3, List.getD_eq_getElem?_getD, List.getElem?_eq_getElem hk]
    refine ⟨by omega, by omega, ?_⟩
    show (j : Int) ≤ _
    simp only [Option.getD_some]
    omega
end
/-- the rows without the last -/
noncomputable def RT (bs : List Lead) (st : Int) (ws : List Str) : List (List Int) := (rowsT bs st ws).dropLast
theorem RT_len {bs : List Lead} {st : Int} {ws : List Str} : (RT bs st ws).length = (placesT bs ws).length := by
  rw [RT, List.length_dropLast, rowsT, List.length_cons, placesT, placesN_len ws 0 (oneTo st.toNat)]
  rfl
/-- the paper that is due -/
noncomputable def dueT (bs : List Lead) (st : Int) (ws : List Str) : D := match repD [] 0 (RT bs st ws) with
  | .tuple [.int i, .int t] => .tuple [.str "false", tupI ((placesT bs ws).getD i.toNat []), tupI ((placesT bs ws).getD t.toNat [])]
  | _ => .tuple [.str "true"]
/-- two equal rows whose places are told -/
def pairP (bs : List Lead) (st : Int) (ws : List Str) (b c : D) : Prop := ∃ i j : Nat, ∃ hi : i < (placesT bs ws).length, ∃ hj : j < (placesT bs ws).length, b = tupI (placesT bs ws)[i] ∧ c = tupI (placesT bs ws)[j] ∧ i < j ∧ (RT bs st ws).getD i [] = (RT bs st ws).getD j []
open Classical in
noncomputable def pairT (bs : List Lead) (st : Int) (ws : List Str) : D → Bool
  | .tuple [_, b, c] => decide (pairP bs st ws b c)
  | _ => false
noncomputable def checkT (bs : List Lead) (st : Int) (ws : List Str) (v : D) : Bool := if namedB "true" 1 v = true then isN (repD [] 0 (RT bs st ws)) else namedB "false" 3 v && pairT bs st ws v
theorem tupI_inj {a b : List Int} (h : tupI a = tupI b) : a = b := by
  have := eqv_tupI a b
  rw [h] at this
  have z := eqv_tupI b b
  rw [this] at z
  simpa using z
open Classical in
theorem pair_found {bs : List Lead} {st : Int} {ws : List Str} {i j : Nat} (hi : i < (placesT bs ws).length) (hj : j < (placesT bs ws).length) {y : D} :
    pairT bs st ws (.tuple [y, tupI (placesT bs ws)[i], tupI (placesT bs ws)[j]]) = (decide (i < j) && decide ((RT bs st ws).getD i [] = (RT bs st ws).getD j [])) := by
  unfold pairT
  rw [Bool.eq_iff_iff, decide_eq_true_eq, Bool.and_eq_true, decide_eq_true_eq, decide_eq_true_eq]
  constructor
  · rintro ⟨i', j', hi', hj', e1, e2, lt, er⟩
    have a := place_inj hi hi' (tupI_inj e1)
    have b := place_inj hj hj' (tupI_inj e2)
    subst a b
    exact ⟨lt, er⟩
  · rintro ⟨lt, er⟩
    exact ⟨i, j, hi, hj, rfl, rfl, lt, er⟩
open Classical in
theorem pair_not {bs : List Lead} {st : Int} {ws : List Str} {b c y : D} (h : placeB bs ws b = false ∨ placeB bs ws c = false) : pairT bs st ws (.tuple [y, b, c]) = false := by
  unfold pairT
  rw [decide_eq_false_iff_not]
  rintro ⟨i, j, hi, hj, rfl, rfl, _⟩
  rcases h with h | h
  · rw [place_iff.mpr ⟨i, hi, rfl⟩] at h; cases h
  · rw [place_iff.mpr ⟨j, hj, rfl⟩] at h; cases h
end Dl
/-! Papers of touches: what the program finds. -/
namespace Dl
open PySem L2
theorem valD_map {κ α : Type} [DecidableEq κ] (g : α → D) : ∀ (l : List (κ × α)) (k : κ), valD (l.map fun p => (p.1, g p.2)) k = ((l.find? fun p => decide (p.1 = k)).map (·.2)).map g
  | [], _ => rfl
  | p :: l, k => by
    by_cases e : p.1 = k
    · simp [valD, List.find?_cons, e]
    · have ih := valD_map g l k
      have e1 : ∀ m : List (κ × D), valD ((p.1, g p.2) :: m) k = valD m k := fun m => by simp [valD, List.find?_cons, e]
      rw [List.map_cons, e1, ih]
      simp [List.find?_cons, e]
section
variable {A : Amb} {ds : List D} {s : A.S} {Q : D → A.S → Prop}
def S_touch_paper : FS A := fun ds s Q => ∃ (st : Int) (bs : List Lead) (ws : List Str), ds = [.int st, bookD bs, touchD ws] ∧ 0 ≤ st ∧ st ≤ 1000 ∧ TouchOk bs ws ∧ Q (dueT bs st ws) s
def TpI (st : Int) (bs : List Lead) (ws : List Str) (s0 : A.S) (r : List D) (ρ : Rho) (s' : A.S) : Prop :=
  s' = s0 ∧ ∃ (j : Nat) (kn : List (List Key × Nat)) (c6 : Cell), r = rngD j ((placesT bs ws).length - j) ∧ j ≤ (placesT bs ws).length ∧ kn.length ≤ j ∧ repD (kn.map fun p => (p.1, .int (p.2 : Nat))) j ((RT bs st ws).drop j) = repD [] 0 (RT bs st ws) ∧
    ρ = [.fz (.int st), .fz (bookD bs), .fz (touchD ws), .fz (.list ((rowsT bs st ws).map tupI)), .fz (.list ((placesT bs ws).map tupI)), .dt (kn.map fun p => (p.1, tupI ((placesT bs ws).getD p.2 []))), c6]
theorem row_T {bs : List Lead} {st : Int} {ws : List Str} {j : Nat} (h : j < (RT bs st ws).length) : atI ((rowsT bs st ws).map tupI) (j : Int) = some (tupI (RT bs st ws)[j]) := by
  have l2 : j < (rowsT bs st ws).length := by
    rw [RT, List.length_dropLast] at h
    omega
  refine atI_nat ?_
  rw [List.getElem?_map, List.getElem?_eq_getElem l2]
  simp only [RT, List.getElem_dropLast, Option.map_some]
theorem p_touch_paper (h : S_touch_paper ds s Q) : t_touch_paper S_touch_rows S_places_of (retE Q) (startR 7 ds) s := by
  obtain ⟨st, bs, ws, rfl, h0, h1, ok, q⟩ := h
  have e : startR 7 [.int st, bookD bs, touchD ws] = [.fz (.int st), .fz (bookD bs), .fz (touchD ws), .un, .un, .un, .un] := rfl
  have hs : 1000000 ≤ sizeLine := by decide
  have lp := placesT_len ok
  have lr : (RT bs st ws).length = (placesT bs ws).length := RT_len
  unfold t_touch_paper
  rw [e, q_dSeq]
  simp [-q_dSeq, -q_dIfS]
  refine ⟨st, bs, ws, rfl, h0, h1, ok, ?_⟩
  dsimp only
  rw [q_dSeq]
  simp [-q_dSeq, -q_dIfS]
  refine ⟨bs, ws, rfl, ok, ?_⟩
  dsimp only
  rw [q_dSeq]
  simp [-q_dSeq, -q_dIfS]
  rw [q_dSeq]
  refine for_of (xs := rngD 0 (placesT bs ws).length) (fun k z => by simp; exact ⟨by omega, z⟩) (TpI st bs ws s) ⟨rfl, 0, [], .un, by simp, by omega, by simp, rfl, rfl⟩ ?_ ?_
  · rintro x r ρ s' ⟨rfl, j, kn, c6, hr, hj, hk, hq, rfl⟩ D' hrt hbk hnx hct
    have lt : j < (placesT bs ws).length := by
      have := congrArg List.length hr
      rw [List.length_cons, rngD_length] at this
      omega
    have lt2 : j < (RT bs st ws).length := by omega
    rw [show (placesT bs ws).length - j = ((placesT bs ws).length - (j + 1)) + 1 by omega, rngD_succ] at hr
    obtain ⟨rfl, rfl⟩ := List.cons.inj hr
    have at1 := row_T (bs := bs) (st := st) (ws := ws) lt2
    have at2 : atI ((placesT bs ws).map tupI) (j : Int) = some (tupI (placesT bs ws)[j]) := atI_nat (by rw [List.getElem?_map, List.getElem?_eq_getElem lt]; rfl)
    have gd : (placesT bs ws).getD j [] = (placesT bs ws)[j] := by rw [List.getD_eq_getElem?_getD, List.getElem?_eq_getElem lt]; rfl
    rw [List.drop_eq_getElem_cons lt2, repD] at hq
    have v1 := valD_map (fun i : Nat => PyData.int (i : Nat)) kn (keyI (RT bs st ws)[j])
    have v2 := valD_map (fun i : Nat => tupI ((placesT bs ws).getD i [])) kn (keyI (RT bs st ws)[j])
    simp [at1, at2, -List.getD_eq_getElem?_getD]
    cases hv : (kn.find? fun p => decide (p.1 = keyI (RT bs st ws)[j])).map (·.2) with
    | some i =>
      rw [hv] at v1 v2
      rw [v1] at hq
      rw [v2]
      simp [-List.getD_eq_getElem?_getD]
      refine ⟨by omega, ?_⟩
      rw [hrt]
      have ed : dueT bs st ws = .tuple [.str "false", tupI ((placesT bs ws).getD i []), tupI (placesT bs ws)[j]] := by
        unfold dueT
        rw [← hq, ← gd]
        rfl
      rw [ed] at q
      exact q
    | none =>
      rw [hv] at v1 v2
      rw [v1] at hq
      rw [v2]
      simp [-List.getD_eq_getElem?_getD]
      rw [putD_new v2]
      have hq' := hq
      simp only [Option.map_none] at hq'
      rw [putD_new v1] at hq'
      refine ⟨by omega, hnx _ _ ⟨rfl, j + 1, kn ++ [(keyI (RT bs st ws)[j], j)], .fz (.int (j : Nat)), by simp, by omega, by simp; omega, ?_, ?_⟩⟩
      · rw [List.map_append]
        exact hq'
      · rw [List.map_append, List.map_cons, List.map_nil, gd]
  · rintro ρ s' ⟨rfl, j, kn, c6, hr, hj, hk, hq, rfl⟩
    have ej : j = (placesT bs ws).length := by
      have := congrArg List.length hr
      rw [List.length_nil, rngD_length] at this
      omega
    subst ej
    rw [← lr, List.drop_length, repD] at hq
    have ed : dueT bs st ws = .tuple [.str "true"] := by
      unfold dueT
      rw [← hq]
    rw [ed] at q
    simp
    exact ⟨by omega, q⟩
def S_is_place : FS A := fun ds s Q => ∃ (bs : List Lead) (ws : List Str) (v : D), ds = [bookD bs, touchD ws, v] ∧ TouchOk bs ws ∧ flat1 v ∧ Q (.bool (placeB bs ws v)) s
theorem p_is_place (h : S_is_place ds s Q) : t_is_place S_is_from (retE Q) (startR 3 ds) s := by
  obtain ⟨bs, ws, v, rfl, ok, fl, q⟩ := h
  have e : startR 3 [bookD bs, touchD ws, v] = [.fz (bookD bs), .fz (touchD ws), .fz v] := rfl
  have nd := fl.nd
  unfold t_is_place
  simp [e, nd]
  cases v with
  | tuple xs =>
    simp
    by_cases h2 : xs.length = 2
    · match xs, h2 with
      | [x, y], _ =>
        have a0 : atI [x, y] 0 = some x := atI_nat (j := 0) rfl
        have a1 : atI [x, y] 1 = some y := atI_nat (j := 1) rfl
        have ndx : notDict x := fl x (by simp)
        have ndy : notDict y := fl y (by simp)
        simp [a0, touchD]
        refine ⟨x, 0, _, rfl, ndx, ?_⟩
        cases x with
        | int a =>
          by_cases ha : 0 ≤ a ∧ a ≤ (ws.length : Int) - 1
          · have f1 : fromB (.int a) 0 ((ws.length : Int) - 1) = true := by simp [fromB]; exact ha
            have lt : a.toNat < ws.length := by omega
            have ea : a = ((a.toNat : Nat) : Int) := by omega
            have mw := ok.wd ws[a.toNat] (List.getElem_mem lt)
            have at3 : atI (ws.map PyData.str) a = some (.str ws[a.toNat]) := by
              obtain ⟨h, eh⟩ := atI_of (xs := ws.map PyData.str) ha.1 (by rw [List.length_map]; omega)
              rw [eh, List.getElem_map]
            simp [f1, a1]
            refine dict_book ok.ne ?_
            simp [at3]
            refine dget_book mw ?_
            simp
            refine ⟨y, 0, _, rfl, ndy, ?_⟩
            have eg : ws.getD a.toNat default = ws[a.toNat] := by rw [List.getD_eq_getElem?_getD, List.getElem?_eq_getElem lt]; rfl
            cases y with
            | int b =>
              have e2 : placeB bs ws (.tuple [.int a, .int b]) = fromB (.int b) 0 (((lookB bs ws[a.toNat]).length : Int) - 1) := by
                simp only [placeB, fromB]
                rw [decide_eq_true ha, Bool.true_and, eg, Bool.eq_iff_iff]
                simp
              rw [← e2]
              exact q
            | dict _ => exact ndy.elim
            | _ => exact q
          · have f1 : fromB (.int a) 0 ((ws.length : Int) - 1) = false := by
              simp only [fromB]
              by_cases h : 0 ≤ a
              · rw [decide_eq_true h, Bool.true_and, decide_eq_false_iff_not]; omega
              · rw [decide_eq_false h, Bool.false_and]
            have e2 : placeB bs ws (.tuple [.int a, y]) = false := by
              unfold placeB
              split
              · next a' b' he =>
                cases he
                rw [decide_eq_false ha, Bool.false_and]
              · rfl
            rw [e2] at q
            simp [f1]
            exact q
        | dict _ => exact ndx.elim
        | _ =>
          simp [fromB]
          simpa [placeB] using q
    · have h2' : ¬ (xs.length : Int) = 2 := by omega
      have e2 : placeB bs ws (.tuple xs) = false := by
        unfold placeB
        split
        · next a b he =>
          cases he
          exact (h2 rfl).elim
        · rfl
      rw [e2] at q
      simp [h2, h2']
      exact q
  | dict _ => exact nd.elim
  | _ => simpa [placeB] using q
/-- flat, and so are its items -/
def flat2 (v : D) : Prop := flat1 v ∧ ∀ xs, v = .tuple xs → ∀ x ∈ xs, flat1 x
theorem due_form (bs : List Lead) (st : Int) (ws : List Str) : (repD [] 0 (RT bs st ws) = .none ∧ dueT bs st ws = .tuple [.str "true"]) ∨ ∃ i t : Nat, i < t ∧ t < (RT bs st ws).length ∧ repD [] 0 (RT bs st ws) = .tuple [.int (i : Nat), .int (t : Nat)] ∧
    dueT bs st ws = .tuple [.str "false", tupI ((placesT bs ws).getD i []), tupI ((placesT bs ws).getD t [])] := by
  rcases repD_form (RT bs st ws) [] 0 (fun k d z => nomatch z) with e | ⟨i, t, h1, h2, e⟩
  · exact .inl ⟨e, by unfold dueT; rw [e]⟩
  · exact .inr ⟨i, t, h1, by omega, e, by unfold dueT; rw [e]; rfl⟩
theorem place_len {bs : List Lead} {ws : List Str} (i : Nat) : ((placesT bs ws).getD i []).length ≤ 2 := by
  rw [List.getD_eq_getElem?_getD]
  by_cases h : i < (placesT bs ws).length
  · obtain ⟨a, b, e⟩ := place_two (bs := bs) h
    rw [List.getElem?_eq_getElem h]
    show ((placesT bs ws)[i]).length ≤ 2
    rw [e]
    simp
  · rw [List.getElem?_eq_none (by omega)]
    simp
theorem plain_due (bs : List Lead) (st : Int) (ws : List Str) : plainB 2 (dueT bs st ws) = true := by
  have pp : ∀ i, plainB 1 (tupI ((placesT bs ws).getD i [])) = true := fun i => plain_tuple (plain_ints _) (by rw [intsD_length]; have := place_len (bs := bs) (ws := ws) i; omega)
  rcases due_form bs st ws with ⟨_, e⟩ | ⟨i, t, _, _, _, e⟩
  · rw [e]; decide +kernel
  · rw [e]
    refine plain_tuple (fun x m => ?_) (by simp)
    simp only [List.mem_cons, List.not_mem_nil, or_false] at m
    rcases m with rfl | rfl | rfl
    · decide +kernel
    · exact pp i
    · exact pp t
theorem due_eq (bs : List Lead) (st : Int) (ws : List Str) : eqOk (dueT bs st ws) (.tuple [.str "true"]) ∧ PyData.eqv (dueT bs st ws) (.tuple [.str "true"]) = isN (repD [] 0 (RT bs st ws)) := by
  constructor
  · unfold eqOk
    rw [shaped_plain (plain_due bs st ws) (by omega), shaped_plain (n := 2) (by decide +kernel) (by omega)]
    simp
  · rcases due_form bs st ws with ⟨e1, e⟩ | ⟨i, t, _, _, e1, e⟩
    · rw [e, e1]; decide +kernel
    · rw [e, e1]
      simp [PyData.eqv, PyData.eqvAll, isN]
theorem lix_place {bs : List Lead} {ws : List Str} (ok : TouchOk bs ws) {j : Nat} (hj : j < (placesT bs ws).length) {k : D → Prop} (q : k (.int (j : Nat))) : lixV (.list ((placesT bs ws).map tupI)) (tupI (placesT bs ws)[j]) k := by
  have lp := placesT_len ok
  have hp : ∀ y ∈ (placesT bs ws).map tupI, plainB 1 y = true := fun y m => by
    obtain ⟨c, hc, rfl⟩ := List.mem_map.mp m
    obtain ⟨i, hi, e⟩ := List.getElem_of_mem hc
    obtain ⟨a, b, e2⟩ := place_two (bs := bs) hi
    rw [← e, e2]
    exact plain_tuple (plain_ints _) (by simp [intsD])
  refine ⟨shaped_plain (plain_list hp (by rw [List.length_map]; omega)) (by omega), shaped_intsT _, j, tupI (placesT bs ws)[j], by rw [List.getElem?_map, List.getElem?_eq_getElem hj]; rfl, by simp, fun m z' hm hz => ?_, q⟩
  have lm : m < (placesT bs ws).length := by omega
  rw [List.getElem?_map, List.getElem?_eq_getElem lm] at hz
  cases hz
  rw [eqv_tupI, decide_eq_false_iff_not]
  intro e
  have := place_inj lm hj e
  omega
def S_check_touch : FS A := fun ds s Q => ∃ (st : Int) (bs : List Lead) (ws : List Str) (v : D), ds = [.int st, bookD bs, touchD ws, v] ∧ 0 ≤ st ∧ st ≤ 1000 ∧ TouchOk bs ws ∧ flat2 v ∧ Q (.bool (checkT bs st ws v)) s
theorem p_check_touch (h : S_check_touch ds s Q) : t_check_touch S_is_named S_places_of S_touch_rows S_touch_paper S_is_place (retE Q) (startR 7 ds) s := by
  obtain ⟨st, bs, ws, v, rfl, h0, h1, ok, fl, q⟩ := h
  have e : startR 7 [.int st, bookD bs, touchD ws, v] = [.fz (.int st), .fz (bookD bs), .fz (touchD ws), .fz v, .un, .un, .un] := rfl
  have hs : 1000000 ≤ sizeLine := by decide
  unfold t_check_touch
  simp [e]
  refine ⟨v, _, 1, rfl, fl.1, by omega, ?_⟩
  unfold checkT at q
  by_cases n1 : namedB "true" 1 v = true
  · rw [if_pos n1] at q
    simp [n1]
    refine ⟨st, bs, ws, rfl, h0, h1, ok, by omega, ?_⟩
    obtain ⟨d1, d2⟩ := due_eq bs st ws
    rw [d2]
    exact ⟨d1, q⟩
  · rw [if_neg n1] at q
    have n1' : namedB (Str.ofString "true") 1 v = false := by simpa using n1
    simp [n1']
    refine ⟨v, _, 3, rfl, fl.1, by omega, ?_⟩
    by_cases n3 : namedB "false" 3 v = true
    · obtain ⟨b, c, rfl⟩ := named3 n3
      have fb : flat1 b := fl.2 _ rfl b (by simp)
      have fc : flat1 c := fl.2 _ rfl c (by simp)
      have at1 : atI [.str "false", b, c] 1 = some b := atI_nat (j := 1) rfl
      have at2 : atI [.str "false", b, c] 2 = some c := atI_nat (j := 2) rfl
      rw [n3, Bool.true_and] at q
      simp [n3]
      refine comp_pure (xs := [b, c]) (fun k z => by
          simp
          rw [cutD_from (by omega)]
          exact z) (by simp) (by simp; omega) (fun x => some (.bool (placeB bs ws x))) (fun x m s k z => ?_) ?_
      · have fx : flat1 x := by
          simp only [List.mem_cons, List.not_mem_nil, or_false] at m
          rcases m with rfl | rfl
          · exact fb
          · exact fc
        simp
        exact ⟨bs, ws, x, rfl, ok, fx, z⟩
      · simp [boolsV, boolsD]
        by_cases hb : placeB bs ws b = true
        · by_cases hc : placeB bs ws c = true
          · obtain ⟨i, hi, rfl⟩ := place_iff.mp hb
            obtain ⟨j, hj, rfl⟩ := place_iff.mp hc
            rw [pair_found hi hj] at q
            have lr : (RT bs st ws).length = (placesT bs ws).length := RT_len
            have ai := row_T (bs := bs) (st := st) (ws := ws) (j := i) (by omega)
            have aj := row_T (bs := bs) (st := st) (ws := ws) (j := j) (by omega)
            have gi : (RT bs st ws).getD i [] = (RT bs st ws)[i] := by rw [List.getD_eq_getElem?_getD, List.getElem?_eq_getElem (by omega)]; rfl
            have gj : (RT bs st ws).getD j [] = (RT bs st ws)[j] := by rw [List.getD_eq_getElem?_getD, List.getElem?_eq_getElem (by omega)]; rfl
            rw [gi, gj] at q
            simp [hb, hc]
            refine ⟨bs, ws, rfl, ok, ?_⟩
            refine ⟨st, bs, ws, rfl, h0, h1, ok, ?_⟩
            simp [at1, at2, -lixV_list]
            refine ⟨(placesT bs ws)[i], (placesT bs ws)[j], rfl, rfl, ?_⟩
            rw [place_lt hi hj]
            by_cases lt : i < j
            · rw [decide_eq_true lt, Bool.true_and] at q
              simp [lt, -lixV_list]
              refine lix_place ok hi ?_
              simp [ai, -lixV_list]
              refine lix_place ok hj ?_
              simp [aj]
              exact q
            · rw [decide_eq_false lt, Bool.false_and] at q
              simp [lt]
              exact q
          · have hc' : placeB bs ws c = false := by simpa using hc
            rw [pair_not (.inr hc')] at q
            simp [hc']
            exact q
        · have hb' : placeB bs ws b = false := by simpa using hb
          rw [pair_not (.inl hb')] at q
          simp [hb']
          exact q
    · have n3' : namedB (Str.ofString "false") 3 v = false := by simpa using n3
      rw [show namedB "false" 3 v = false from n3', Bool.false_and] at q
      simp [n3']
      exact q
end
end Dl
/-! (a, b) = a list of that length. -/
namespace Dl
open PySem PySem.Spec L2
section
variable {prog : Program} {w : World} {A : Around} {E : Value → Shared → Prop} {s : Shared}
theorem draw_lst {it t : Addr} {items : Array Value} (hne : t ≠ it) : ∀ (n i : Nat) (s : Shared) (Q : List Value → Shared → Prop), s.heap.IsListIter it t i → s.heap.IsList t items → i + n ≤ items.size →
    (∀ h', h'.IsListIter it t (i + n) → Heap.SameBut it s.heap h' → Q ((items.toList.drop i).take n) { s with heap := h' }) → wpAny (model prog w) A (draw (.ref it) n) Q E s
  | 0, i, s, Q, hit, _, _, hQ => by
    show wpAny _ _ (pure []) Q E s
    exact wpAny_pure (by simpa using hQ s.heap hit (Heap.SameBut.refl ..))
  | n + 1, i, s, Q, hit, ht, hle, hQ => by
    have hlt : i < items.size := by omega
    show wpAny _ _ (pyNext (.ref it) >>= _) Q E s
    refine wpAny_bind (wpAny_pyNext_list_item hit ht (x := items[i]) (by simp [hlt]) fun h1 hit1 hs1 => ?_)
    refine wpAny_bind (wpAny_holding (draw_lst hne n (i + 1) _ _ hit1 (ht.extBut hs1.extBut hne) (by omega) fun h2 hit2 hs2 => wpAny_pure ?_))
    have hd : items.toList.drop i = items[i] :: items.toList.drop (i + 1) := by simp [List.drop_eq_getElem_cons, hlt]
    have z := hQ h2 (by rw [show i + (n + 1) = i + 1 + n by omega]; exact hit2) (hs1.trans hs2)
    rw [hd, List.take_succ_cons] at z
    exact z
theorem items_lst {t : Addr} {items : Array Value} {Q : List Value → Shared → Prop} (hh : A.handled = none) (ht : s.heap.IsList t items)
    (hQ : ∀ h', Heap.ExtBut s.heap.objs.size s.heap h' → Q items.toList { s with heap := h' }) : wpAny (model prog w) A (unpackItems (.ref t) items.size none) Q E s := by
  have hlt : t ≠ s.heap.objs.size := by obtain ⟨o, ho, _⟩ := ht; exact Nat.ne_of_lt (Heap.lt_size ho)
  have push : ∀ o, (s.heap.push o).IsList t items := fun o => ht.at fun ob e => Heap.get?_push_of_some _ e
  unfold unpackItems
  refine wpAny_bind ?_
  unfold notIterableAtAll
  refine wpAny_bind (wpAny_specialOf ht.typeIs slot_list_iter.lookup ?_)
  refine wpAny_pure ?_
  simp only [Bool.false_eq_true, if_false]
  refine wpAny_bind (wpAny_holding (wpAny_pyIter_list ht ?_))
  refine wpAny_bind (wpAny_holding (draw_lst hlt items.size 0 _ _ ⟨_, Heap.get?_push_size _ rfl, rfl, rfl⟩ (push _) (by omega) fun h1 hit1 hs1 => ?_))
  have hall : List.take items.size (List.drop 0 items.toList) = items.toList := by
    rw [List.drop_zero]; exact List.take_of_length_le (by simp)
  rw [hall]
  rw [if_neg (by simp)]
  have ht1 : h1.IsList t items := (push _).extBut hs1.extBut hlt
  refine wpAny_bind (wpAny_holding (wpAny_pyNext_list_end hh hit1 ht1 (by simp) fun h2 he2 => ?_))
  simp only [Option.isSome_none, Bool.false_eq_true, if_false]
  exact wpAny_pure (hQ h2 fun b o hb e => he2 b o hb (hs1.extBut b o hb (Heap.get?_push_of_some _ e)))
end
/-- (a, b, ..) = a list of that length -/
def gLst (K : PySem.W.Frag) (n : Nat) (t : TGs) : TG := fun v σ H Q => ∃ a xs, v = .ref a ∧ SqL K H a xs ∧ xs.length = n ∧ t xs σ H Q
theorem pg_lst {X : Cx} {es : List Expr} {pos : Pos} {k : Nat} {t : TGs} {n : Nat} (hc : X.calm = true) (h : PGs X es t)
    (hn : (assignEach es X.env).length = n := by rfl) (hst : (assignEach es X.env).findIdx? (·.1) = none := by rfl) : PG X (.Tuple es k pos) (gLst X.K n t) := by
  refine ⟨fun pins s σ H v u Q I r hw => ?_⟩
  obtain ⟨a, xs, e1, hq, hl, hw⟩ := hw
  subst e1
  cases r
  obtain ⟨its, rv, pl, hz⟩ := I.list hq
  rw [PyProof.Rows.assign_Tuple]
  refine wpAny_bind (wpAny_standAt ?_)
  unfold unpack
  have len : (assignEach es X.env).length = its.toArray.size := by simp [hn, ← hl, rv.length]
  rw [len, hst]
  refine wpAny_bind (wpAny_holding (items_lst (I.ok.hd hc) pl.isList fun h' hx => ?_))
  have I1 : L2.Inv X pins σ H { s with heap := h' } := I.kept (t' := s.toks) fun b o e => hx b o (Nat.ne_of_lt (Heap.lt_size e)) e
  exact h.run pins _ σ H xs _ Q I1 (by simpa using rv) hw
section
variable {A : Amb} {X : Cx} {N : Ent} {ts : List Expr} {vs : List Nat} {pos : Pos}
def dgL (n : Nat) (g : DGs A) : DG A := fun d ρ s k => match d with
  | .list ds => ds.length = n ∧ g ds ρ s k
  | _ => False
@[simp] theorem q_dgL {n : Nat} {g : DGs A} {ds : List D} {ρ : Rho} {s : A.S} {k : Rho → A.S → Prop} : dgL n g (.list ds) ρ s k = (ds.length = n ∧ g ds ρ s k) := rfl
theorem g_lst {k n : Nat} {g : DGs A} (hc : X.calm = true) (h : PGs X ts (liftGs A X.K N vs g)) (hn : (assignEach ts X.env).length = n := by rfl) (hst : (assignEach ts X.env).findIdx? (·.1) = none := by rfl) : PG X (.Tuple ts k pos) (liftG A X.K N vs (dgL n g)) :=
  PG.imp (pg_lst hc h hn hst) fun v σ H Q ⟨ρ, s, O, d, P, R, r, q, kk⟩ => by
    unfold dgL at q
    split at q
    · cases r with
      | lst sq rs => exact ⟨_, _, rfl, SqL.of (fzP_le _ _ sq), by rw [rs.length]; exact q.1, ρ, s, O, _, P, R, rs, q.2, kk⟩
    · exact q.elim
end
end Dl
/-! The law k11 over data. -/
namespace Dl
open PySem L2
def t_law_k11 {A : Amb} (S_L_small_book S_L_touch S_L_places S_L_repeat S_L_touch_rows S_L_same S_L_booled S_L_listed S_L_named S_L_draw S_touch_paper S_L_pick S_L_bent S_check_touch : FS A) : DS A :=
  (dSeq (dAsg (dCall S_L_small_book (dCons (dVar 1) (dCons (dOp fAdd (dC (.int 1)) (dCall S_L_draw (dCons (dVar 1) (dCons (dC (.int 3)) dNil)))) (dCons (dC (.int 10)) dNil)))) (dgL 2 (dgsC (dgN 2) (dgsC (dgN 3) dgs0))))
  (dSeq (dSet 4 (dCall S_L_touch (dCons (dVar 1) (dCons (dVar 3) (dCons (dOp fIx (dTup (dCons (dC (.int 4)) (dCons (dC (.int 12)) dNil))) (dCall S_L_draw (dCons (dVar 1) (dCons (dC (.int 2)) dNil)))) dNil)))))
  (dSeq (dSet 5 (dSl (dCall S_L_touch_rows (dCons (dVar 2) (dCons (dVar 3) (dCons (dVar 4) dNil)))) oNone (oSome (dUn fNeg (dC (.int 1))))))
  (dSeq (dSet 6 (dCall S_L_places (dCons (dVar 3) (dCons (dVar 4) dNil))))
  (dSeq (dSet 7 (dCall S_L_repeat (dCons (dVar 5) dNil)))
  (dSeq (dSet 8 (dIf (dTest (dOp fIs (dVarB 7) (dC .none))) (dTup (dCons (dC (.str "true")) dNil)) (dTup (dCons (dC (.str "false")) (dCons (dOp fIx (dVarB 6) (dOp fIx (dVarB 7) (dC (.int 0)))) (dCons (dOp fIx (dVarB 6) (dOp fIx (dVarB 7) (dC (.int 1)))) dNil))))))
  (dSeq (dIfS (dNotT (dTest (dCall S_L_same (dCons (dCall S_touch_paper (dCons (dVar 2) (dCons (dVar 3) (dCons (dVar 4) dNil)))) (dCons (dVar 8) dNil)))))
  (dRet (dC (.bool false)))
  dNx)
  (dSeq (dSet 9 (dLst (dCons (dVar 8) (dCons (dOfN (nFn gList (dCons (dVarB 8) dNil))) (dCons (dCall S_L_booled (dCons (dVar 8) dNil)) (dCons (dCall S_L_listed (dCons (dVar 8) (dCons (dC (.int 1)) dNil))) (dCons (dSl (dVarB 8) oNone (oSome (dC (.int 1)))) (dCons (dOp fAdd (dVarB 8) (dTup (dCons (dC (.int 0)) dNil))) (dCons (dC .none) (dCons (dTup (dCons (dC (.str "true")) dNil)) (dCons (dTup (dCons (dC (.str "false")) (dCons (dTup (dCons (dC (.int 0)) (dCons (dC (.int 0)) dNil))) (dCons (dTup (dCons (dFn fLen (dCons (dVarB 4) dNil)) (dCons (dC (.int 0)) dNil))) dNil)))) dNil)))))))))))
  (dSeq (dSet 9 (dOp fAdd (dVarB 9) (dLst (dCons (dTup (dCons (dC (.str "false")) (dCons (dTup (dCons (dC (.int 0)) (dCons (dC (.int 0)) dNil))) (dCons (dTup (dCons (dC (.int 0)) (dCons (dC (.int 0)) dNil))) dNil)))) (dCons (dTup (dCons (dC (.str "false")) (dCons (dTup (dCons (dC (.int 0)) (dCons (dUn fNeg (dC (.int 1))) dNil))) (dCons (dTup (dCons (dC (.int 0)) (dCons (dC (.int 0)) dNil))) dNil)))) (dCons (dTup (dCons (dC (.str "false")) (dCons (dTup (dCons (dC (.int 0)) (dCons (dC (.int 0)) dNil))) dNil))) (dCons (dOp fAdd (dTup (dCons (dC (.str "untrue")) dNil)) (dSl (dVarB 8) (oSome (dC (.int 1))) oNone)) dNil)))))))
  (dSeq (dFor (dRg1 (dCons (dC (.int 16)) dNil)) (dgN 10)
  (dSeq (dPar 11 12 (dCons (dCall S_L_pick (dCons (dVar 1) (dCons (dVar 6) dNil))) (dCons (dCall S_L_pick (dCons (dVar 1) (dCons (dVar 6) dNil))) dNil)))
  (dSet 9 (dOp fAdd (dVarB 9) (dLst (dCons (dTup (dCons (dC (.str "false")) (dCons (dVar 11) (dCons (dVar 12) dNil)))) (dCons (dTup (dCons (dC (.str "false")) (dCons (dVar 11) (dCons (dTup (dCons (dOp fIx (dVarB 12) (dC (.int 0))) (dCons (dOp fAdd (dOp fIx (dVarB 12) (dC (.int 1))) (dFn fLen (dCons (dVarB 5) dNil))) dNil))) dNil)))) dNil)))))))
  (dSeq (dFor (dRg1 (dCons (dFn fLen (dCons (dVarB 5) dNil)) dNil)) (dgN 13)
  (dSeq (dSet 14 (dLIx (dVarB 5) (dOp fIx (dVarB 5) (dVarB 13))))
  (dIfS (dTest (dOp fLt (dVarB 14) (dVarB 13)))
  (dSet 9 (dOp fAdd (dVarB 9) (dLst (dCons (dTup (dCons (dC (.str "false")) (dCons (dOp fIx (dVarB 6) (dVarB 14)) (dCons (dOp fIx (dVarB 6) (dVarB 13)) dNil)))) (dCons (dTup (dCons (dC (.str "false")) (dCons (dOp fIx (dVarB 6) (dVarB 13)) (dCons (dOp fIx (dVarB 6) (dVarB 14)) dNil)))) dNil)))))
  dNx)))
  (dSeq (dFor (dIt (dOp fAdd (dVarB 9) (dOfN (nComp (dRg1 (dCons (dC (.int 4)) dNil)) (dgN 10) dYes (dCall S_L_bent (dCons (dVar 1) (dCons (dVar 8) dNil))) [10])))) (dgN 15)
  (dSeq (dSet 16 (dC (.bool false)))
  (dSeq (dIfS (dTest (dCall S_L_named (dCons (dVar 15) (dCons (dC (.str "true")) (dCons (dC (.int 1)) dNil)))))
  (dSet 16 (dOp fIs (dVarB 7) (dC .none)))
  dNx)
  (dSeq (dIfS (dTest (dCall S_L_named (dCons (dVar 15) (dCons (dC (.str "false")) (dCons (dC (.int 3)) dNil)))))
  (dSeq (dSet 17 (dOfN (nComp (dIt (dTup (dCons (dC (.int 1)) (dCons (dC (.int 2)) dNil)))) (dgN 18) dYes (dOfN (nComp (dRg1 (dCons (dFn fLen (dCons (dVarB 6) dNil)) dNil)) (dgN 10) (dTest (dCall S_L_same (dCons (dOp fIx (dVarB 15) (dVarB 18)) (dCons (dOp fIx (dVarB 6) (dVarB 10)) dNil)))) (dVar 10) [10])) [18])))
  (dSet 16 (dAnd (dOp fEqU (dFn fLen (dCons (dOp fIx (dVarB 17) (dC (.int 0))) dNil)) (dC (.int 1))) (dAnd (dOp fEqU (dFn fLen (dCons (dOp fIx (dVarB 17) (dC (.int 1))) dNil)) (dC (.int 1))) (dAnd (dOp fLt (dOp fIx (dOp fIx (dVarB 17) (dC (.int 0))) (dC (.int 0))) (dOp fIx (dOp fIx (dVarB 17) (dC (.int 1))) (dC (.int 0)))) (dOp fEqU (dOp fIx (dVarB 5) (dOp fIx (dOp fIx (dVarB 17) (dC (.int 0))) (dC (.int 0)))) (dOp fIx (dVarB 5) (dOp fIx (dOp fIx (dVarB 17) (dC (.int 1))) (dC (.int 0))))))))))
  dNx)
  (dSeq (dSet 19 (dFn fRepr (dCons (dVarB 15) dNil)))
  (dIfS (dOrT (dNotT (dTest (dCall S_L_same (dCons (dCall S_check_touch (dCons (dVar 2) (dCons (dVar 3) (dCons (dVar 4) (dCons (dVar 15) dNil))))) (dCons (dVar 16) dNil))))) (dTest (dOp fNeU (dFn fRepr (dCons (dVarB 15) dNil)) (dVarB 19))))
  (dRet (dC (.bool false)))
  dNx))))))
  (dRet (dC (.bool true)))))))))))))))

theorem plain_flat2 {n : Nat} {d : D} (h : plainB n d = true) : flat2 d := by
  have fl : ∀ {m : Nat} {x : D}, plainB m x = true → flat1 x := fun {m x} hx => okD.flat (show okD m (wt x) x from ⟨hx, Nat.le_refl _⟩)
  refine ⟨fl h, fun xs e x m => ?_⟩
  subst e
  obtain ⟨m', _, p, _⟩ := plain_items h
  exact fl (p x m)
theorem filter_one {i : Nat} : ∀ {l : List Nat}, l.Nodup → i ∈ l → l.filter (fun k => decide (k = i)) = [i]
  | [], _, m => by cases m
  | x :: l, nd, m => by
    have nd' := List.nodup_cons.mp nd
    by_cases e : x = i
    · subst e
      have : l.filter (fun k => decide (k = x)) = [] := List.filter_eq_nil_iff.mpr fun y hy => by
        simp
        rintro rfl
        exact nd'.1 hy
      simp [this]
    · rcases List.mem_cons.mp m with rfl | m
      · exact (e rfl).elim
      · simp [e, filter_one nd'.2 m]
open Classical in
/-- the places at which a thing stands -/
noncomputable def idxD (bs : List Lead) (ws : List Str) (x : D) : List D := (rngD 0 (placesT bs ws).length).filter fun k => decide (x = tupI ((placesT bs ws).getD (numD k).toNat []))
open Classical in
theorem idx_found {bs : List Lead} {ws : List Str} {i : Nat} (hi : i < (placesT bs ws).length) : idxD bs ws (tupI (placesT bs ws)[i]) = [.int (i : Nat)] := by
  unfold idxD rngD
  rw [List.filter_map]
  have e : (List.range (placesT bs ws).length).filter ((fun k => decide (tupI (placesT bs ws)[i] = tupI ((placesT bs ws).getD (numD k).toNat []))) ∘ fun (k : Nat) => PyData.int (0 + (k : Int))) = (List.range (placesT bs ws).length).filter (fun k => decide (k = i)) := by
    refine List.filter_congr fun k hk => ?_
    have lk := List.mem_range.mp hk
    have g : (placesT bs ws).getD (numD (.int (0 + (k : Int)))).toNat [] = (placesT bs ws)[k] := by
      simp only [numD]
      rw [show (0 + (k : Int)).toNat = k by omega, List.getD_eq_getElem?_getD, List.getElem?_eq_getElem lk]
      rfl
    show decide _ = _
    rw [g, Bool.eq_iff_iff, decide_eq_true_eq, decide_eq_true_eq]
    constructor
    · intro h
      exact (place_inj hi lk (tupI_inj h)).symm
    · rintro rfl
      rfl
  rw [e, filter_one List.nodup_range (List.mem_range.mpr hi)]
  simp
open Classical in
theorem idx_none {bs : List Lead} {ws : List Str} {x : D} (h : placeB bs ws x = false) : idxD bs ws x = [] := by
  unfold idxD
  rw [List.filter_eq_nil_iff]
  intro k hk
  obtain ⟨i, hi, rfl⟩ := mem_rngD hk
  have g : (placesT bs ws).getD (numD (.int (i : Int))).toNat [] = (placesT bs ws)[i] := by
    simp only [numD]
    rw [Int.toNat_natCast, List.getD_eq_getElem?_getD, List.getElem?_eq_getElem hi]
    rfl
  intro z
  have e := of_decide_eq_true z
  rw [g] at e
  rw [place_iff.mpr ⟨i, hi, e⟩] at h
  cases h
theorem placesT_ne {bs : List Lead} {ws : List Str} {st : Int} {m : Nat} (ok : bookOk st m bs) (hw : ∀ w ∈ ws, w ∈ bs.map (·.1)) (h : 1 ≤ ws.length) : placesT bs ws ≠ [] := by
  cases ws with
  | nil => simp at h
  | cons w r =>
    obtain ⟨p, hp, e⟩ := (look_ok (hw w (List.mem_cons_self ..))).2
    have := (ok p hp).2.1
    rw [e] at this
    rw [placesT, placesN]
    intro z
    have := congrArg List.length z
    rw [List.length_append, List.length_map, List.length_range, List.length_nil] at this
    omega
theorem place_small {bs : List Lead} {ws : List Str} {st : Int} {m : Nat} (ok : bookOk st m bs) (hw : ∀ w ∈ ws, w ∈ bs.map (·.1)) {c : List Int} (h : c ∈ placesT bs ws) : ∃ i j : Nat, c = [(i : Int), (j : Int)] ∧ i < ws.length ∧ j < m := by
  obtain ⟨i, j, hi, hj, rfl⟩ := mem_placesN.mp h
  obtain ⟨p, hp, e⟩ := (look_ok (hw ws[i] (List.getElem_mem hi))).2
  have := (ok p hp).2.2.1
  rw [e] at this
  exact ⟨0 + i, j, rfl, by omega, by omega⟩
theorem placesN_small {bs : List Lead} {st : Int} {m : Nat} (ok : bookOk st m bs) : ∀ (ws : List Str) (k : Nat), (∀ w ∈ ws, w ∈ bs.map (·.1)) → (placesN bs k ws).length ≤ ws.length * m
  | [], _, _ => by simp [placesN]
  | w :: r, k, h => by
    have ih := placesN_small ok r (k + 1) fun x m => h x (List.mem_cons_of_mem _ m)
    obtain ⟨p, hp, e⟩ := (look_ok (h w (List.mem_cons_self ..))).2
    have := (ok p hp).2.2.1
    rw [e] at this
    rw [placesN, List.length_append, List.length_map, List.length_range, List.length_cons, Nat.add_mul]
    omega
theorem rowsG_rows {α : Type} : ∀ (cs : List (List Int)) (xs : List α), ∀ r ∈ rowsG cs xs, r.length = xs.length
  | [], xs, r, m => by
    rw [rowsG] at m
    rw [List.mem_singleton.mp m]
  | c :: cs, xs, r, m => by
    rw [rowsG] at m
    rcases List.mem_cons.mp m with rfl | m
    · rfl
    · rw [rowsG_rows cs _ r m, rungG_length]
theorem restT_rows {bs : List Lead} : ∀ (ws : List Str) (last : List Int), ∀ r ∈ restT bs ws last, r.length = last.length
  | [], _, r, m => by cases m
  | w :: ws, last, r, m => by
    rw [restT] at m
    rcases List.mem_append.mp m with m | m
    · exact rowsG_rows _ _ r (List.mem_of_mem_tail m)
    · rw [restT_rows ws _ r m, lastG_len]
theorem RT_plain {bs : List Lead} {ws : List Str} {st : Int} (h : st ≤ 1000) : ∀ y ∈ (RT bs st ws).map tupI, plainB 1 y = true := fun y m => by
  obtain ⟨r, hr, rfl⟩ := List.mem_map.mp m
  have hr' := List.dropLast_subset _ hr
  have l : r.length = st.toNat := by
    rw [rowsT] at hr'
    rcases List.mem_cons.mp hr' with rfl | hr'
    · exact oneTo_len _
    · rw [restT_rows ws _ r hr', oneTo_len]
  exact plain_tuple (plain_ints _) (by rw [intsD_length]; omega)
theorem pap2 {x : Str} {i j k l : Int} (hx : plainB 0 (.str x) = true) (h0 : x.length ≤ 20) (hi : i.natAbs ≤ 200) (hj : j.natAbs ≤ 200) (hk : k.natAbs ≤ 200) (hl : l.natAbs ≤ 200) : pap (.tuple [.str x, .tuple [.int i, .int j], .tuple [.int k, .int l]]) := by
  refine ⟨plain_mono (plain_tuple (n := 1) (fun y m => ?_) (by simp)) (by omega), by simp only [wt, wtL]; omega⟩
  simp only [List.mem_cons, List.not_mem_nil, or_false] at m
  rcases m with rfl | rfl | rfl
  · exact plain_mono hx (by omega)
  · simp [plainB, plainAllB]
  · simp [plainB, plainAllB]
theorem due_wt {bs : List Lead} {ws : List Str} {st : Int} {m : Nat} (ok : bookOk st m bs) (hw : ∀ w ∈ ws, w ∈ bs.map (·.1)) (hm : m ≤ 20) (hl : ws.length ≤ 20) : ∃ dl, dueT bs st ws = .tuple dl ∧ (∀ x ∈ dl, plainB 1 x = true) ∧ wtL dl ≤ 200 ∧ dl.length ≤ 3 := by
  have lr : (RT bs st ws).length = (placesT bs ws).length := RT_len
  rcases due_form bs st ws with ⟨_, e⟩ | ⟨i, t, h1, h2, _, e⟩
  · exact ⟨_, e, fun x m => by rw [List.mem_singleton.mp m]; decide +kernel, by decide +kernel, by decide⟩
  · refine ⟨_, e, fun x m => ?_, ?_, by simp⟩
    · have z := plain_due bs st ws
      rw [e] at z
      obtain ⟨m', em, p, _⟩ := plain_items z
      have : m' = 1 := by omega
      subst this
      exact p x m
    · have gi : (placesT bs ws).getD i [] = (placesT bs ws)[i]'(by omega) := by rw [List.getD_eq_getElem?_getD, List.getElem?_eq_getElem (by omega)]; rfl
      have gt : (placesT bs ws).getD t [] = (placesT bs ws)[t]'(by omega) := by rw [List.getD_eq_getElem?_getD, List.getElem?_eq_getElem (by omega)]; rfl
      obtain ⟨a1, b1, e1, l1, l2⟩ := place_small ok hw (List.getElem_mem (show i < (placesT bs ws).length by omega))
      obtain ⟨a2, b2, e2, l3, l4⟩ := place_small ok hw (List.getElem_mem (show t < (placesT bs ws).length by omega))
      rw [gi, gt, e1, e2]
      have z : wtL [PyData.str "false"] = 6 := by decide +kernel
      simp only [wtL, wt, tupI, intsD, List.map_cons, List.map_nil] at z ⊢
      omega
open Classical in
theorem p_law_k11 (a : Addr) (s : (poolA a).S) : t_law_k11 (S_L_small_book a) (S_L_touch a) S_places_of S_first_repeat S_touch_rows (S_same 10) (S_booled 10) (S_listed 10) S_is_named (S_draw a) S_touch_paper (S_L_pick a) (S_bent a 10) S_check_touch (lawEnds _) (ρLaw a 18) s := by
  have e : ρLaw a 18 = [.un, .fz (refD a), .un, .un, .un, .un, .un, .un, .un, .un, .un, .un, .un, .un, .un, .un, .un, .un, .un, .un] := rfl
  have hs : 1000000 ≤ sizeLine := by decide
  unfold t_law_k11
  refine seq_inv (fun ρ' s' => s' = s ∧ ∃ (st : Int) (bs : List Lead), 3 ≤ st ∧ st ≤ 5 ∧ bs ≠ [] ∧ bs.length ≤ 3 ∧ bookOk st 10 bs ∧ ρ' = [.un, .fz (refD a), .fz (.int st), .fz (bookD bs), .un, .un, .un, .un, .un, .un, .un, .un, .un, .un, .un, .un, .un, .un, .un, .un]) ?_ fun U hU => ?_
  rotate_left
  · rw [e]
    simp [-q_dSeq, -q_dIfS]
    refine ⟨3, rfl, by omega, by omega, fun v v0 v3 => ?_⟩
    refine ⟨_, 10, rfl, by omega, by omega, by omega, by omega, fun st bs s3 s5 hb ok => ?_⟩
    refine ⟨rfl, ?_⟩
    rw [q_dgsC, q_dgN, q_dgsC, q_dgN, q_dgs0]
    refine ⟨rfl, hU _ _ ⟨rfl, st, bs, s3, s5, fun z => ?_, by omega, ok, rfl⟩⟩
    subst z
    simp at hb
    omega
  rintro ρ' s1 ⟨rfl, st, bs, s3, s5, ne, lb, okb, rfl⟩
  refine seq_inv (fun ρ' s' => s' = s1 ∧ ∃ ws : List Str, (∀ w ∈ ws, w ∈ bs.map (·.1)) ∧ 1 ≤ ws.length ∧ ws.length ≤ 12 ∧ ρ' = [.un, .fz (refD a), .fz (.int st), .fz (bookD bs), .fz (touchD ws), .un, .un, .un, .un, .un, .un, .un, .un, .un, .un, .un, .un, .un, .un, .un]) ?_ fun U hU => ?_
  rotate_left
  · simp [-q_dSeq, -q_dIfS]
    refine ⟨by omega, 2, rfl, by omega, by omega, fun v v0 v2 => ?_⟩
    have fin : ∀ m : Int, 1 ≤ m → m ≤ 12 → S_L_touch a [refD a, bookD bs, .int m] s1 fun d s' => U [.un, .fz (refD a), .fz (.int st), .fz (bookD bs), .fz d, .un, .un, .un, .un, .un, .un, .un, .un, .un, .un, .un, .un, .un, .un, .un] s' := fun m m1 m12 =>
      ⟨bs, m, rfl, ne, by omega, m1, by omega, fun ws hw l1 l2 => hU _ _ ⟨rfl, ws, hw, l1, by omega, rfl⟩⟩
    rcases (by omega : v = 0 ∨ v = 1) with rfl | rfl
    · have a0 : atI [PyData.int 4, PyData.int 12] 0 = some (.int 4) := rfl
      simp [a0]
      exact fin 4 (by omega) (by omega)
    · have a1 : atI [PyData.int 4, PyData.int 12] 1 = some (.int 12) := rfl
      simp [a1]
      exact fin 12 (by omega) (by omega)
  rintro ρ' s2 ⟨rfl, ws, hw, w1, w12, rfl⟩
  have ok : TouchOk bs ws := ⟨ne, hw, fun p hp => by have := (okb p hp).2.2.1; omega, by omega⟩
  have lr : (RT bs st ws).length = (placesT bs ws).length := RT_len
  have lp2 : (placesT bs ws).length ≤ 120 := by
    have := placesN_small okb ws 0 hw
    rw [placesT]
    omega
  have er : ((rowsT bs st ws).map tupI).dropLast = (RT bs st ws).map tupI := by rw [RT, List.map_dropLast]
  have pne := placesT_ne okb hw w1
  obtain ⟨dl, ed, pd, wd, ld⟩ := due_wt okb hw (by omega) (by omega)
  have pt : plainB 9 (dueT bs st ws) = true := plain_mono (plain_due bs st ws) (by omega)
  have hnd : notDict (repD [] 0 (RT bs st ws)) := repD_nd _
  rw [q_dSeq]
  simp [-q_dSeq, -q_dIfS, -List.length_dropLast]
  refine ⟨st, bs, ws, rfl, by omega, by omega, ok, ?_⟩
  simp [-q_dSeq, -q_dIfS, cutD_last, -List.length_dropLast]
  rw [er, q_dSeq]
  simp [-q_dSeq, -q_dIfS]
  refine ⟨bs, ws, rfl, ok, ?_⟩
  dsimp only
  rw [q_dSeq]
  simp [-q_dSeq, -q_dIfS]
  refine ⟨_, rfl, by omega, ?_⟩
  dsimp only
  refine seq_inv (fun ρ' s' => s' = s2 ∧ ρ' = [.un, .fz (refD a), .fz (.int st), .fz (bookD bs), .fz (touchD ws), .fz (.list ((RT bs st ws).map tupI)), .fz (.list ((placesT bs ws).map tupI)), .fz (repD [] 0 (RT bs st ws)), .fz (dueT bs st ws), .un, .un, .un, .un, .un, .un, .un, .un, .un, .un, .un]) ?_ fun U hU => ?_
  rotate_left
  · rcases due_form bs st ws with ⟨e1, e2⟩ | ⟨i, t, i1, i2, e1, e2⟩
    · rw [e1, e2] at hU
      rw [e1]
      simp [isN]
      exact ⟨by omega, hU _ _ ⟨rfl, rfl⟩⟩
    · rw [e1, e2] at hU
      rw [e1]
      have a0 : atI [PyData.int (i : Nat), PyData.int (t : Nat)] 0 = some (.int (i : Nat)) := atI_nat (j := 0) rfl
      have a1 : atI [PyData.int (i : Nat), PyData.int (t : Nat)] 1 = some (.int (t : Nat)) := atI_nat (j := 1) rfl
      have li : i < (placesT bs ws).length := by omega
      have lt : t < (placesT bs ws).length := by omega
      have b0 : atI ((placesT bs ws).map tupI) (i : Int) = some (tupI ((placesT bs ws).getD i [])) := by
        rw [List.getD_eq_getElem?_getD, List.getElem?_eq_getElem li]
        exact atI_nat (by rw [List.getElem?_map, List.getElem?_eq_getElem li]; rfl)
      have b1 : atI ((placesT bs ws).map tupI) (t : Int) = some (tupI ((placesT bs ws).getD t [])) := by
        rw [List.getD_eq_getElem?_getD, List.getElem?_eq_getElem lt]
        exact atI_nat (by rw [List.getElem?_map, List.getElem?_eq_getElem lt]; rfl)
      simp [isN, a0, a1, b0, b1, -List.getD_eq_getElem?_getD]
      exact ⟨by omega, hU _ _ ⟨rfl, rfl⟩⟩
  rintro ρ' s3 ⟨rfl, rfl⟩
  refine seq_if ?_ fun U hU => ?_
  rotate_left
  · simp
    refine ⟨st, bs, ws, rfl, by omega, by omega, ok, ?_⟩
    refine ⟨_, _, 9, rfl, rfl, ⟨9, pt⟩, pt, ?_⟩
    rw [sameB_eq]
    simpa using hU
  have pd0 : ∀ l u, ∀ x ∈ cutD dl l u, plainB 1 x = true := fun l u x m => pd x (mem_cutD m)
  have papT : ∀ ys : List D, (∀ x ∈ ys, plainB 1 x = true) → wtL ys ≤ 900 → ys.length ≤ 100 → pap (.tuple ys) := fun ys h w l => ⟨plain_mono (plain_tuple h (by omega)) (by omega), by rw [wt]; omega⟩
  have str1 : plainB 1 (.str "untrue") = true := by decide +kernel
  refine seq_inv (fun ρ' s' => s' = s3 ∧ ∃ T : List D, (∀ x ∈ T, pap x) ∧ T.length ≤ 9 ∧ ρ' = [.un, .fz (refD a), .fz (.int st), .fz (bookD bs), .fz (touchD ws), .fz (.list ((RT bs st ws).map tupI)), .fz (.list ((placesT bs ws).map tupI)), .fz (repD [] 0 (RT bs st ws)), .fz (dueT bs st ws), .fz (.list T), .un, .un, .un, .un, .un, .un, .un, .un, .un, .un]) ?_ fun U hU => ?_
  rotate_left
  · rw [ed] at hU pt ⊢
    simp [-q_dSeq, -q_dIfS]
    refine ⟨_, 9, rfl, rfl, pt, fun w ok1 it1 => ?_⟩
    refine ⟨_, 1, 9, rfl, rfl, pt, fun w2 ok2 it2 => ?_⟩
    have l1 : (cutD dl none (some 1)).length ≤ dl.length := len_cutD
    have wt1 : wt (.tuple dl) ≤ 201 := by rw [wt]; omega
    dsimp only
    refine ⟨by omega, by omega, by omega, by omega, ?_⟩
    show fLen [.tuple (ws.map .str)] _
    rw [q_lenT, List.length_map]
    refine ⟨by omega, by omega, by omega, hU _ _ ⟨rfl, _, ?_, ?_, rfl⟩⟩
    · intro x m
      simp only [List.mem_cons, List.not_mem_nil, or_false] at m
      rcases m with rfl | rfl | rfl | rfl | rfl | rfl | rfl | rfl | rfl
      · exact papT _ pd (by omega) (by omega)
      · exact ⟨plain_mono (plain_list (n := 1) pd (by omega)) (by omega), by rw [wt]; omega⟩
      · exact ok1.mono (by omega) (by omega)
      · exact ok2.mono (by omega) (by omega)
      · exact papT _ (pd0 _ _) (Nat.le_trans wtL_cutD (by omega)) (by omega)
      · exact papT _ (fun x m => (List.mem_append.mp m).elim (pd x) fun m => by rw [List.mem_singleton.mp m]; simp [plainB]) (by rw [wtL_append]; have : wtL [PyData.int 0] = 1 := rfl; omega) (by simp; omega)
      · exact ⟨by simp [plainB], by simp [wt]⟩
      · exact ⟨by decide +kernel, by decide +kernel⟩
      · exact pap2 (by decide +kernel) (by decide +kernel) (by omega) (by omega) (by omega) (by omega)
    · simp
  rintro ρ' s4 ⟨rfl, T0, T0p, T0l, rfl⟩
  refine seq_inv (fun ρ' s' => s' = s4 ∧ ∃ T : List D, (∀ x ∈ T, pap x) ∧ T.length ≤ 13 ∧ ρ' = [.un, .fz (refD a), .fz (.int st), .fz (bookD bs), .fz (touchD ws), .fz (.list ((RT bs st ws).map tupI)), .fz (.list ((placesT bs ws).map tupI)), .fz (repD [] 0 (RT bs st ws)), .fz (dueT bs st ws), .fz (.list T), .un, .un, .un, .un, .un, .un, .un, .un, .un, .un]) ?_ fun U hU => ?_
  rotate_left
  · rw [ed] at hU ⊢
    simp only [dSet, q_dAsg, q_dOp, q_dVarB, q_dLst, q_dCons, q_dTup, q_dC, q_dNil, q_dUn, q_neg]
    simp [-q_dSeq, -q_dIfS]
    have l1 : (cutD dl (some 1) none).length ≤ dl.length := len_cutD
    refine ⟨by omega, by omega, by omega, by omega, by omega, by omega, by omega, by omega, by omega, hU _ _ ⟨rfl, _, ?_, ?_, rfl⟩⟩
    · intro x m
      rcases List.mem_append.mp m with m | m
      · exact T0p x m
      simp only [List.mem_cons, List.not_mem_nil, or_false] at m
      rcases m with rfl | rfl | rfl | rfl
      · exact pap2 (by decide +kernel) (by decide +kernel) (by omega) (by omega) (by omega) (by omega)
      · exact pap2 (by decide +kernel) (by decide +kernel) (by omega) (by omega) (by omega) (by omega)
      · exact ⟨by decide +kernel, by decide +kernel⟩
      · refine papT (.str "untrue" :: cutD dl (some 1) none) (fun x m => ?_) ?_ ?_
        · rcases List.mem_cons.mp m with rfl | m
          · exact str1
          · exact pd0 _ _ x m
        · have z : wt (.str "untrue") = 7 := by decide +kernel
          rw [wtL, z]
          have := wtL_cutD (ds := dl) (l := some 1) (u := none)
          omega
        · simp; omega
    · simp; omega
  rintro ρ' s5 ⟨rfl, T1, T1p, T1l, rfl⟩
  have pk : ∀ c ∈ placesT bs ws, ∃ i j : Nat, c = [(i : Int), (j : Int)] ∧ i < 12 ∧ j < 10 := fun c hc => by
    obtain ⟨i, j, e, h1, h2⟩ := place_small okb hw hc
    exact ⟨i, j, e, by omega, by omega⟩
  refine seq_inv (fun ρ' s' => s' = s5 ∧ ∃ (T : List D) (c10 c11 c12 : Cell), (∀ x ∈ T, pap x) ∧ T.length ≤ 45 ∧ freeC (some c10) ∧ ρ' = [.un, .fz (refD a), .fz (.int st), .fz (bookD bs), .fz (touchD ws), .fz (.list ((RT bs st ws).map tupI)), .fz (.list ((placesT bs ws).map tupI)), .fz (repD [] 0 (RT bs st ws)), .fz (dueT bs st ws), .fz (.list T), c10, c11, c12, .un, .un, .un, .un, .un, .un, .un]) ?_ fun U hU => ?_
  rotate_left
  · refine for_of (xs := rngD 0 16) (fun k z => by simpa using z) (fun r ρ' s' => s' = s5 ∧ ∃ (T : List D) (c10 c11 c12 : Cell), (∀ x ∈ T, pap x) ∧ T.length + 2 * r.length ≤ 45 ∧ freeC (some c10) ∧ ρ' = [.un, .fz (refD a), .fz (.int st), .fz (bookD bs), .fz (touchD ws), .fz (.list ((RT bs st ws).map tupI)), .fz (.list ((placesT bs ws).map tupI)), .fz (repD [] 0 (RT bs st ws)), .fz (dueT bs st ws), .fz (.list T), c10, c11, c12, .un, .un, .un, .un, .un, .un, .un]) ⟨rfl, T1, .un, .un, .un, T1p, by rw [rngD_length]; omega, trivial, rfl⟩ ?_ ?_
    · rintro x r ρ s' ⟨rfl, T, c10, c11, c12, Tp, Tl, f10, rfl⟩ D' hrt hbk hnx hct
      rw [List.length_cons] at Tl
      simp only [q_dgN, List.set_cons_succ, List.set_cons_zero]
      rw [q_dSeq]
      simp [-q_dSeq, -q_dIfS]
      refine ⟨_, _, rfl, rfl, by simpa using pne, by simp; omega, fun x1 hx1 => ?_⟩
      refine ⟨_, _, rfl, rfl, by simpa using pne, by simp; omega, fun x2 hx2 => ?_⟩
      obtain ⟨c1, hc1, rfl⟩ := List.mem_map.mp hx1
      obtain ⟨c2, hc2, rfl⟩ := List.mem_map.mp hx2
      obtain ⟨i1, j1, rfl, l1, l2⟩ := pk c1 hc1
      obtain ⟨i2, j2, rfl, l3, l4⟩ := pk c2 hc2
      have a0 : atI [PyData.int (i2 : Nat), PyData.int (j2 : Nat)] 0 = some (.int (i2 : Nat)) := atI_nat (j := 0) rfl
      have a1 : atI [PyData.int (i2 : Nat), PyData.int (j2 : Nat)] 1 = some (.int (j2 : Nat)) := atI_nat (j := 1) rfl
      refine ⟨_, _, ⟨rfl, rfl⟩, ?_⟩
      simp [tupI, intsD, a0, a1]
      refine ⟨by omega, by omega, by omega, by omega, by omega, hnx _ _ ⟨rfl, _, .fz x, .fz (.tuple [.int i1, .int j1]), .fz (.tuple [.int i2, .int j2]), ?_, ?_, trivial, rfl⟩⟩
      · intro y m
        rcases List.mem_append.mp m with m | m
        · exact Tp y m
        simp only [List.mem_cons, List.not_mem_nil, or_false] at m
        rcases m with rfl | rfl
        · exact pap2 (by decide +kernel) (by decide +kernel) (by omega) (by omega) (by omega) (by omega)
        · exact pap2 (by decide +kernel) (by decide +kernel) (by omega) (by omega) (by omega) (by omega)
      · simp; omega
    · rintro ρ s' ⟨rfl, T, c10, c11, c12, Tp, Tl, f10, rfl⟩
      exact hU _ _ ⟨rfl, T, c10, c11, c12, Tp, by simpa using Tl, f10, rfl⟩
  rintro ρ' s6 ⟨rfl, T2, c10, c11, c12, T2p, T2l, f10, rfl⟩
  have rpl := RT_plain (bs := bs) (ws := ws) (show st ≤ 1000 by omega)
  refine seq_inv (fun ρ' s' => s' = s6 ∧ ∃ (T : List D) (c13 c14 : Cell), (∀ x ∈ T, pap x) ∧ T.length ≤ 300 ∧ ρ' = [.un, .fz (refD a), .fz (.int st), .fz (bookD bs), .fz (touchD ws), .fz (.list ((RT bs st ws).map tupI)), .fz (.list ((placesT bs ws).map tupI)), .fz (repD [] 0 (RT bs st ws)), .fz (dueT bs st ws), .fz (.list T), c10, c11, c12, c13, c14, .un, .un, .un, .un, .un]) ?_ fun U hU => ?_
  rotate_left
  · refine for_of (xs := rngD 0 (RT bs st ws).length) (fun k z => by simpa using ⟨by omega, z⟩) (fun r ρ' s' => s' = s6 ∧ ∃ (T : List D) (c13 c14 : Cell), (∀ x ∈ T, pap x) ∧ T.length + 2 * r.length ≤ 300 ∧ (∀ x ∈ r, x ∈ rngD 0 (RT bs st ws).length) ∧ ρ' = [.un, .fz (refD a), .fz (.int st), .fz (bookD bs), .fz (touchD ws), .fz (.list ((RT bs st ws).map tupI)), .fz (.list ((placesT bs ws).map tupI)), .fz (repD [] 0 (RT bs st ws)), .fz (dueT bs st ws), .fz (.list T), c10, c11, c12, c13, c14, .un, .un, .un, .un, .un]) ⟨rfl, T2, .un, .un, T2p, by rw [rngD_length]; omega, fun x m => m, rfl⟩ ?_ ?_
    · rintro x r ρ s' ⟨rfl, T, c13, c14, Tp, Tl, hr, rfl⟩ D' hrt hbk hnx hct
      rw [List.length_cons] at Tl
      obtain ⟨j, hj, rfl⟩ := mem_rngD (hr x (List.mem_cons_self ..))
      have at1 : atI ((RT bs st ws).map tupI) (j : Int) = some (tupI (RT bs st ws)[j]) := atI_nat (by rw [List.getElem?_map, List.getElem?_eq_getElem hj]; rfl)
      have hjp : j < (placesT bs ws).length := by omega
      have pj : atI ((placesT bs ws).map tupI) (j : Int) = some (tupI (placesT bs ws)[j]) := atI_nat (by rw [List.getElem?_map, List.getElem?_eq_getElem hjp]; rfl)
      simp only [q_dgN, List.set_cons_succ, List.set_cons_zero]
      rw [q_dSeq]
      simp [at1, -lixV_list, -q_dSeq, -q_dIfS]
      refine lix_rows rpl (by omega) hj fun i hi => ?_
      have hip : i < (placesT bs ws).length := by omega
      have pi : atI ((placesT bs ws).map tupI) (i : Int) = some (tupI (placesT bs ws)[i]) := atI_nat (by rw [List.getElem?_map, List.getElem?_eq_getElem hip]; rfl)
      by_cases lt : i < j
      · have lt' : (i : Int) < (j : Int) := by omega
        simp [lt, lt', pi, pj]
        obtain ⟨i1, j1, e1, l1, l2⟩ := pk _ (List.getElem_mem hip)
        obtain ⟨i2, j2, e2, l3, l4⟩ := pk _ (List.getElem_mem hjp)
        rw [e1, e2]
        refine ⟨by omega, by omega, by omega, hnx _ _ ⟨rfl, _, .fz (.int (j : Nat)), .fz (.int (i : Nat)), ?_, ?_, fun y m => hr y (List.mem_cons_of_mem _ m), rfl⟩⟩
        · intro y m
          rcases List.mem_append.mp m with m | m
          · exact Tp y m
          simp only [List.mem_cons, List.not_mem_nil, or_false] at m
          rcases m with rfl | rfl
          · exact pap2 (by decide +kernel) (by decide +kernel) (by omega) (by omega) (by omega) (by omega)
          · exact pap2 (by decide +kernel) (by decide +kernel) (by omega) (by omega) (by omega) (by omega)
        · simp; omega
      · have lt' : ¬ (i : Int) < (j : Int) := by omega
        simp [lt, lt']
        exact hnx _ _ ⟨rfl, T, .fz (.int (j : Nat)), .fz (.int (i : Nat)), Tp, by omega, fun y m => hr y (List.mem_cons_of_mem _ m), rfl⟩
    · rintro ρ s' ⟨rfl, T, c13, c14, Tp, Tl, _, rfl⟩
      exact hU _ _ ⟨rfl, T, c13, c14, Tp, by simpa using Tl, rfl⟩
  rintro ρ' s7 ⟨rfl, T3, c13, c14, T3p, T3l, rfl⟩
  rw [q_dSeq]
  show dIt _ _ s7 _
  simp [-q_dSeq, -q_dIfS]
  refine comp_rel (xs := rngD 0 4) (fun k z => by simpa using z) (by simpa using f10) (by rw [rngD_length]; omega) (fun x r => ∃ d', r = some d' ∧ pap d') (fun x m s k q => ?_) (fun rs hr2 => ?_)
  · simp
    have wt1 : wt (dueT bs st ws) ≤ 201 := by rw [ed, wt]; omega
    exact ⟨_, 9, rfl, rfl, pt, by omega, fun w ok3 it3 => q _ ⟨w, rfl, ok3.mono (by omega) (by omega)⟩⟩
  have ok3 := all2_ok hr2
  have len3 : (rs.filterMap id).length ≤ 4 := by
    have := hr2.length
    rw [rngD_length] at this
    exact Nat.le_trans (List.length_filterMap_le _ _) (by omega)
  generalize rs.filterMap id = T4 at ok3 len3 ⊢
  simp [-q_dSeq, -q_dIfS]
  refine ⟨by omega, ?_⟩
  have ok4 : ∀ x ∈ T3 ++ T4, pap x := fun x m => (List.mem_append.mp m).elim (T3p x) (ok3 x)
  generalize T3 ++ T4 = T5 at ok4 ⊢
  refine for_inv (fun r ρ' s' => s' = s7 ∧ (∀ x ∈ r, pap x) ∧ ∃ (c10 c15 c16 c17 c18 c19 : Cell), freeC (some c10) ∧ freeC (some c18) ∧ ρ' = [.un, .fz (refD a), .fz (.int st), .fz (bookD bs), .fz (touchD ws), .fz (.list ((RT bs st ws).map tupI)), .fz (.list ((placesT bs ws).map tupI)), .fz (repD [] 0 (RT bs st ws)), .fz (dueT bs st ws), .fz (.list T3), c10, c11, c12, c13, c14, c15, c16, c17, c18, c19]) ⟨rfl, ok4, _, .un, .un, .un, .un, .un, f10, trivial, rfl⟩ ?_ ?_
  · rintro x r ρ s' ⟨rfl, okr, c10, c15, c16, c17, c18, c19, f10, f18, rfl⟩ D' hrt hbk hnx hct
    have okx := okr x (List.mem_cons_self ..)
    have rx := repr_ok okx (by omega) (by omega)
    have fx2 := plain_flat2 okx.1
    have fx := fx2.1
    have nx := fx.nd
    simp only [List.set_cons_succ, List.set_cons_zero]
    rw [q_dSeq]
    simp [-q_dSeq, -q_dIfS]
    refine seq_inv (fun ρ' sx => sx = s' ∧ ρ' = [.un, .fz (refD a), .fz (.int st), .fz (bookD bs), .fz (touchD ws), .fz (.list ((RT bs st ws).map tupI)), .fz (.list ((placesT bs ws).map tupI)), .fz (repD [] 0 (RT bs st ws)), .fz (dueT bs st ws), .fz (.list T3), c10, c11, c12, c13, c14, .fz x, .fz (.bool (namedB "true" 1 x && isN (repD [] 0 (RT bs st ws)))), c17, c18, c19]) ?_ fun U hU => ?_
    rotate_left
    · simp
      refine ⟨x, _, 1, rfl, fx, by omega, ?_⟩
      by_cases n1 : namedB "true" 1 x = true
      · rw [n1, Bool.true_and] at hU
        simp [n1]
        exact ⟨hnd, hU _ _ ⟨rfl, rfl⟩⟩
      · have n1' : namedB "true" 1 x = false := by simpa using n1
        rw [n1', Bool.false_and] at hU
        have n1'' : namedB (Str.ofString "true") 1 x = false := n1'
        simp [n1'']
        exact hU _ _ ⟨rfl, rfl⟩
    rintro ρ' s8 ⟨rfl, rfl⟩
    refine seq_inv (fun ρ' s' => s' = s8 ∧ ∃ c17 c18, freeC (some c18) ∧ ρ' = [.un, .fz (refD a), .fz (.int st), .fz (bookD bs), .fz (touchD ws), .fz (.list ((RT bs st ws).map tupI)), .fz (.list ((placesT bs ws).map tupI)), .fz (repD [] 0 (RT bs st ws)), .fz (dueT bs st ws), .fz (.list T3), c10, c11, c12, c13, c14, .fz x, .fz (.bool (checkT bs st ws x)), c17, c18, c19]) ?_ fun U hU => ?_
    rotate_left
    · by_cases n3 : namedB "false" 3 x = true
      · obtain ⟨b, c, rfl⟩ := named3 n3
        have n1 : namedB "true" 1 (.tuple [.str "false", b, c]) = false := by simp [namedB]
        have ck : checkT bs st ws (.tuple [.str "false", b, c]) = pairT bs st ws (.tuple [.str "false", b, c]) := by
          unfold checkT
          rw [n1, n3, Bool.true_and]
          rfl
        rw [n1, Bool.false_and]
        rw [ck] at hU
        have at1 : atI [.str "false", b, c] 1 = some b := atI_nat (j := 1) rfl
        have at2 : atI [.str "false", b, c] 2 = some c := atI_nat (j := 2) rfl
        obtain ⟨mm, _, pit, _⟩ := plain_items okx.1
        have pb : plainB mm b = true := pit b (by simp)
        have pc : plainB mm c = true := pit c (by simp)
        have n3' : namedB (Str.ofString "false") 3 (.tuple [.str "false", b, c]) = true := n3
        rw [q_dIfS]
        simp [-q_dSeq, -q_dIfS]
        refine ⟨_, _, 3, rfl, fx, by omega, ?_⟩
        simp only [n3', bV_bool, if_true]
        rw [q_dSeq]
        simp [-q_dSeq, -q_dIfS]
        refine comp_pure (xs := [.int 1, .int 2]) (fun k z => by simp; exact ⟨by omega, z⟩) (by simpa using f18) (by simp; omega) (fun x => some (.list (idxD bs ws ([b, c].getD ((numD x).toNat - 1) .none)))) (fun x m s k z => ?_) ?_
        · have inner : ∀ (i : Int) (v : D), atI [.str "false", b, c] i = some v → plainB mm v = true → k (some (.list (idxD bs ws v))) s → nComp (dRg1 (dCons (dFn fLen (dCons (dVarB 6) dNil)) dNil)) (dgN 10) (dTest (dCall (S_same 10) (dCons (dOp fIx (dVarB 15) (dVarB 18)) (dCons (dOp fIx (dVarB 6) (dVarB 10)) dNil)))) (dVar 10) [10]
              [.un, .fz (refD a), .fz (.int st), .fz (bookD bs), .fz (touchD ws), .fz (.list ((RT bs st ws).map tupI)), .fz (.list ((placesT bs ws).map tupI)), .fz (repD [] 0 (RT bs st ws)), .fz (dueT bs st ws), .fz (.list T3), c10, c11, c12, c13, c14, .fz (.tuple [.str "false", b, c]), .fz (.bool false), c17, .fz (.int i), c19] s (fun d s3 => k (some d.data) s3) := fun i v ei pv z => by
            refine comp_pure (xs := rngD 0 (placesT bs ws).length) (fun k z => by simp; exact ⟨by omega, z⟩) (by simpa using f10) (by rw [rngD_length]; omega) (fun x => if decide (v = tupI ((placesT bs ws).getD (numD x).toNat [])) = true then some x else none) (fun x m s2 k2 z2 => ?_) ?_
            · obtain ⟨j, hj, rfl⟩ := mem_rngD m
              have gj : (placesT bs ws).getD (numD (.int (j : Int))).toNat [] = (placesT bs ws)[j] := by
                simp only [numD]
                rw [Int.toNat_natCast, List.getD_eq_getElem?_getD, List.getElem?_eq_getElem hj]
                rfl
              have pj : atI ((placesT bs ws).map tupI) (j : Int) = some (tupI (placesT bs ws)[j]) := atI_nat (by rw [List.getElem?_map, List.getElem?_eq_getElem hj]; rfl)
              simp [ei, pj]
              have pp : plainB 9 (tupI (placesT bs ws)[j]) = true := by
                obtain ⟨a1, b1, e1⟩ := place_two (bs := bs) hj
                rw [e1]
                exact plain_mono (plain_tuple (n := 0) (plain_ints _) (by simp [intsD])) (by omega)
              refine ⟨_, _, 9, rfl, rfl, ⟨mm, pv⟩, pp, ?_⟩
              rw [gj] at z2
              simp only [bV_bool, sameB]
              by_cases he : v = tupI (placesT bs ws)[j]
              · simp [he] at z2 ⊢
                exact z2
              · simp [he] at z2 ⊢
                exact z2
            · rw [fm_if]
              exact z
          simp only [List.mem_cons, List.not_mem_nil, or_false] at m
          rcases m with rfl | rfl
          · exact inner 1 b at1 pb z
          · exact inner 2 c at2 pc z
        · have ea : ([PyData.int 1, PyData.int 2] : List D).filterMap (fun x => some (PyData.list (idxD bs ws ([b, c].getD ((numD x).toNat - 1) .none)))) = [.list (idxD bs ws b), .list (idxD bs ws c)] := rfl
          rw [ea]
          have a0 : atI [PyData.list (idxD bs ws b), PyData.list (idxD bs ws c)] 0 = some (.list (idxD bs ws b)) := atI_nat (j := 0) rfl
          have a1 : atI [PyData.list (idxD bs ws b), PyData.list (idxD bs ws c)] 1 = some (.list (idxD bs ws c)) := atI_nat (j := 1) rfl
          have fin : ∀ v, v = pairT bs st ws (.tuple [.str "false", b, c]) → U [.un, .fz (refD a), .fz (.int st), .fz (bookD bs), .fz (touchD ws), .fz (.list ((RT bs st ws).map tupI)), .fz (.list ((placesT bs ws).map tupI)), .fz (repD [] 0 (RT bs st ws)), .fz (dueT bs st ws), .fz (.list T3), c10, c11, c12, c13, c14, .fz (.tuple [.str "false", b, c]), .fz (.bool v), .fz (.list [.list (idxD bs ws b), .list (idxD bs ws c)]), c18, c19] s8 := fun v e => by
            subst e
            exact hU _ _ ⟨rfl, _, c18, f18, rfl⟩
          by_cases hb : placeB bs ws b = true
          · obtain ⟨i, hi, rfl⟩ := place_iff.mp hb
            have ib := idx_found (bs := bs) hi
            by_cases hc : placeB bs ws c = true
            · obtain ⟨j, hj, rfl⟩ := place_iff.mp hc
              have ic := idx_found (bs := bs) hj
              rw [pair_found hi hj] at fin
              have gi : (RT bs st ws).getD i [] = (RT bs st ws)[i] := by rw [List.getD_eq_getElem?_getD, List.getElem?_eq_getElem (by omega)]; rfl
              have gj : (RT bs st ws).getD j [] = (RT bs st ws)[j] := by rw [List.getD_eq_getElem?_getD, List.getElem?_eq_getElem (by omega)]; rfl
              rw [gi, gj] at fin
              have ri : atI ((RT bs st ws).map tupI) (i : Int) = some (tupI (RT bs st ws)[i]) := atI_nat (by rw [List.getElem?_map, List.getElem?_eq_getElem (by omega)]; rfl)
              have rj : atI ((RT bs st ws).map tupI) (j : Int) = some (tupI (RT bs st ws)[j]) := atI_nat (by rw [List.getElem?_map, List.getElem?_eq_getElem (by omega)]; rfl)
              rw [ib, ic] at a0 a1 fin ⊢
              have z1 : ∀ q : Nat, atI [PyData.int (q : Nat)] 0 = some (.int (q : Nat)) := fun q => atI_nat (j := 0) rfl
              simp [a0, a1, z1]
              by_cases lt : i < j
              · have lt' : (i : Int) < (j : Int) := by omega
                simp [lt, lt', ri, rj]
                exact fin _ (by simp [lt])
              · have lt' : ¬ (i : Int) < (j : Int) := by omega
                simp [lt, lt']
                exact fin _ (by simp [lt])
            · have hc' : placeB bs ws c = false := by simpa using hc
              have ic := idx_none hc'
              rw [pair_not (.inr hc')] at fin
              rw [ib, ic] at a0 a1 fin ⊢
              simp [a0, a1]
              exact fin _ rfl
          · have hb' : placeB bs ws b = false := by simpa using hb
            have ib := idx_none hb'
            rw [pair_not (.inl hb')] at fin
            rw [ib] at a0 a1 fin ⊢
            simp [a0, a1]
            exact fin _ rfl
      · have n3' : namedB (Str.ofString "false") 3 x = false := by simpa using n3
        have ck : checkT bs st ws x = (namedB "true" 1 x && isN (repD [] 0 (RT bs st ws))) := by
          unfold checkT
          rw [show namedB "false" 3 x = false from n3', Bool.false_and]
          cases namedB "true" 1 x <;> rfl
        simp
        refine ⟨_, _, 3, rfl, fx, by omega, ?_⟩
        simp [n3']
        exact hU _ _ ⟨rfl, c17, c18, f18, by rw [ck]⟩
    rintro ρ' s9 ⟨rfl, c17, c18, f18, rfl⟩
    simp [rx]
    refine ⟨st, bs, ws, x, rfl, by omega, by omega, ok, fx2, ?_⟩
    refine ⟨_, _, 9, rfl, rfl, ⟨0, by simp [plainB]⟩, by simp [plainB], ?_⟩
    rw [sameB_eq]
    simp [rx]
    exact hnx _ _ ⟨rfl, fun y m => okr y (List.mem_cons_of_mem _ m), _, _, _, _, _, _, f10, f18, rfl⟩
  · rintro ρ s' ⟨rfl, _, c10, c15, c16, c17, c18, c19, _, _, rfl⟩
    simp
end Dl
/-! How many arguments each promise has: touches. -/
namespace Dl
open PySem L2
section
variable {A : Amb} {ds : List D} {s : A.S} {Q : D → A.S → Prop}
theorem len_L_spelled (h : S_L_spelled ds s Q) : ds.length = 1 := by obtain ⟨_, e, _⟩ := h; rw [e]; rfl
theorem len_touch_rows (h : S_touch_rows ds s Q) : ds.length = 3 := by obtain ⟨_, _, _, e, _⟩ := h; rw [e]; rfl
theorem len_L_touch_rows (h : S_touch_rows ds s Q) : ds.length = 3 := len_touch_rows h
theorem len_places_of (h : S_places_of ds s Q) : ds.length = 2 := by obtain ⟨_, _, e, _⟩ := h; rw [e]; rfl
theorem len_L_places (h : S_places_of ds s Q) : ds.length = 2 := len_places_of h
theorem len_touch_paper (h : S_touch_paper ds s Q) : ds.length = 3 := by obtain ⟨_, _, _, e, _⟩ := h; rw [e]; rfl
theorem len_is_place (h : S_is_place ds s Q) : ds.length = 3 := by obtain ⟨_, _, _, e, _⟩ := h; rw [e]; rfl
theorem len_check_touch (h : S_check_touch ds s Q) : ds.length = 4 := by obtain ⟨_, _, _, _, e, _⟩ := h; rw [e]; rfl
end
section
variable {a : Addr} {ds : List D} {s : (poolA a).S} {Q : D → (poolA a).S → Prop}
theorem len_L_chain_words (h : S_L_chain_words a ds s Q) : ds.length = 2 := by obtain ⟨_, e, _⟩ := h; rw [e]; rfl
theorem len_L_book (h : S_L_book a ds s Q) : ds.length = 4 := by obtain ⟨_, _, _, e, _⟩ := h; rw [e]; rfl
theorem len_L_small_book (h : S_L_small_book a ds s Q) : ds.length = 3 := by obtain ⟨_, _, e, _⟩ := h; rw [e]; rfl
theorem len_L_touch (h : S_L_touch a ds s Q) : ds.length = 3 := by obtain ⟨_, _, e, _⟩ := h; rw [e]; rfl
end
end Dl
/-! Dict comprehensions. -/
namespace Dl
open PySem L2
theorem putD_len {κ : Type} [DecidableEq κ] {kvs : List (κ × D)} {k : κ} {v : D} : (putD kvs k v).length ≤ kvs.length + 1 := by
  unfold putD
  split
  · rw [List.length_map]; omega
  · rw [List.length_append]; exact Nat.le_refl _
/-- the turns, each storing into what is there -/
def dcW {S : Type} (f : D → S → (Option (Key × D) → S → Prop) → Prop) : List (Key × D) → List D → S → (List (Key × D) → S → Prop) → Prop
  | acc, [], s, Q => Q acc s
  | acc, x :: xs, s, Q => f x s fun r s' => dcW f (match r with | some p => putD acc p.1 p.2 | none => acc) xs s' Q
section
variable {A : Amb} {X : Cx} {N : Ent} {kx elt tg iter : Expr} {ifs : List Expr} {scope : Scope} {own : List (Str × Nat)} {pos : Pos} {it : DI A} {g : DG A} {tt : DT A} {tk te : DE A}
def dturn (g : DG A) (tt : DT A) (tk te : DE A) (ρ : Rho) : D → A.S → (Option (Key × D) → A.S → Prop) → Prop := fun x s k => g x ρ s fun ρ1 s1 => tt ρ1 s1 fun b s2 => match b with
  | true => tk ρ1 s2 fun y s3 => te ρ1 s3 fun z s4 => ∃ key, y = keyD key ∧ k (some (key, z)) s4
  | false => k none s2
def nDComp (it : DI A) (g : DG A) (tt : DT A) (tk te : DE A) (vs : List Nat) : DC A := fun ρ s Q => it ρ s fun xs s' => clean ρ vs ∧ xs.length ≤ sizeLine ∧
  dcW (dturn g tt tk te (wipeR ρ vs)) [] xs s' fun out s'' => Q (.dk out) s''
def tDCompW (K : PySem.W.Frag) (wi : TI) (g : DG A) (tt : DT A) (tk te : DE A) (own : List (Str × Nat)) : TE := tDc wi (fun v σ H Q => ∃ N, liftG A K N (own.map (·.2)) g v σ H Q) (fun σ H Q => ∃ N, liftT A K N tt σ H Q) (fun σ H Q => ∃ N, liftE A K N tk σ H Q) (fun σ H Q => ∃ N, liftE A K N te σ H Q) (own.map (·.2))
theorem lift_dcomp : ∀ σ H Q, liftW A X.K N (nDComp it g tt tk te (own.map (·.2))) σ H Q → tDCompW X.K (liftI A X.K N it) g tt tk te own σ H Q := by
  rintro σ H Q ⟨ρ, s, O, P, R, q, k⟩
  refine ⟨ρ, s, O, _, R, q, fun xs s0 J H0 O0 ⟨cl, hz, q0⟩ R0 le0 ok D hD => ?_⟩
  refine ⟨fun i m H' => m = xs.length - i ∧ i ≤ xs.length ∧ ∃ s' O' acc vacc, Rel A X.K N s' σ (hide H' D) ρ O' ∧ Hle (fzP H0 (Px N σ ρ O0)) (fzP (hide H' D) (Px N σ ρ O')) ∧ ¬ Px N σ ρ O' D ∧ H' D = some (.dK vacc) ∧ vacc.map (·.1) = acc.map (·.1) ∧ RpL X.K (fzP (hide H' D) (Px N σ ρ O')) (vacc.map (·.2)) (acc.map (·.2)) ∧ acc.length ≤ i ∧
    dcW (dturn g tt tk te (wipeR ρ (own.map (·.2)))) acc (xs.drop i) s' fun out s'' => P (.dk out) s'', ⟨xs.length, rfl, Nat.zero_le _, s0, O0, [], [], ?_⟩, ?_⟩
  · have e : hide (upd H0 D (.dK [])) D = H0 := by rw [hide_upd, hide_of hD]
    rw [e]
    exact ⟨R0, Hle.refl _, R0.fresh hD, upd_same, rfl, .nil, Nat.le_refl _, q0⟩
  · rintro i m H1 ⟨rfl, hi, s1, O1, acc, vacc, R1, le1, nD, eD, ka, ra, hl, q1⟩
    have hP : fzP H1 (fun b => Px N σ ρ O1 b ∨ b = D) = fzP (hide H1 D) (Px N σ ρ O1) := fz_hide (fun b nb => by simp [nb]) (.inr rfl)
    have ok1 := ok i H1 (fun b => Px N σ ρ O1 b ∨ b = D) (fun b z => by
      rcases z with z | rfl
      · obtain ⟨x, e⟩ := R1.dom z
        have nb : b ≠ D := fun w => nD (w ▸ z)
        rw [hide_ne nb] at e
        exact ⟨x, e⟩
      · exact ⟨_, eD⟩) (by rw [hP]; exact le1)
    by_cases hlt : i < xs.length
    · refine .inr ⟨(ok1.1 hlt).1, fun H' => i + 1 ≤ xs.length ∧ ∃ s' O' acc vacc, Rel A X.K N s' σ (hide H' D) ρ O' ∧ Hle (fzP H0 (Px N σ ρ O0)) (fzP (hide H' D) (Px N σ ρ O')) ∧ ¬ Px N σ ρ O' D ∧ H' D = some (.dK vacc) ∧ vacc.map (·.1) = acc.map (·.1) ∧ RpL X.K (fzP (hide H' D) (Px N σ ρ O')) (vacc.map (·.2)) (acc.map (·.2)) ∧ acc.length ≤ i + 1 ∧
        dcW (dturn g tt tk te (wipeR ρ (own.map (·.2)))) acc (xs.drop (i + 1)) s' fun out s'' => P (.dk out) s'', fun H' z => ⟨xs.length - (i + 1), by omega, rfl, z.1, z.2⟩, fun x H2 y => ?_⟩
      obtain ⟨sm, d, hd, rx⟩ := (ok1.1 hlt).2 x H2 y
      -- the heap behind the iterator's step
      have eD2 : H2 D = some (.dK vacc) := sm _ _ eD
      have sm' : Same (hide H1 D) (hide H2 D) := fun b o e => by
        by_cases nb : b = D
        · subst nb; rw [hide_self] at e; cases e
        · rw [hide_ne nb] at e ⊢
          exact sm b o e
      have R2 := R1.alloc sm'
      have le2 := R1.fzle sm'
      have hP2 : fzP H2 (fun b => Px N σ ρ O1 b ∨ b = D) = fzP (hide H2 D) (Px N σ ρ O1) := fz_hide (fun b nb => by simp [nb]) (.inr rfl)
      rw [hP2] at rx
      have hx : xs.drop i = d :: xs.drop (i + 1) := by
        rw [List.drop_eq_getElem_cons hlt]
        rw [List.getElem?_eq_getElem hlt] at hd
        cases hd
        rfl
      rw [hx] at q1
      unfold dcW at q1
      have q1 : g d (wipeR ρ (own.map (·.2))) s1 (fun ρ1 s1 => tt ρ1 s1 fun b s2 => match b with
        | true => tk ρ1 s2 fun y s3 => te ρ1 s3 fun z s4 => ∃ key, y = keyD key ∧ dcW (dturn g tt tk te (wipeR ρ (own.map (·.2)))) (putD acc key z) (xs.drop (i + 1)) s4 fun out s'' => P (.dk out) s''
        | false => dcW (dturn g tt tk te (wipeR ρ (own.map (·.2)))) acc (xs.drop (i + 1)) s2 fun out s'' => P (.dk out) s'') := q1
      obtain ⟨B, hF⟩ := R2.block (vs := own.map (·.2)) eD2 cl
      refine ⟨N.put D (.dK vacc), wipeR ρ (own.map (·.2)), s1, O1, d, _, B, by rw [hF]; exact rx, q1, fun ρ3 s3 σ3 H3 O3 q3 R3 le3 T3 => ⟨T3.st.wipe.trans ?_, N.put D (.dK vacc), ρ3, s3, O3, _, R3, q3, fun b s4 H4 O4 q4 R4 le4 => ?_⟩⟩
      · apply List.ext_getElem?
        intro j
        by_cases hj : j < σ.length
        · rw [wipe_at (by rw [wipe_length]; exact hj), wipe_at hj]
          by_cases mj : j ∈ own.map (·.2)
          · simp [mj]
          · simp [mj]
        · rw [List.getElem?_eq_none (by rw [wipe_length, wipe_length]; omega), List.getElem?_eq_none (by rw [wipe_length]; omega)]
      · have leB := le3.trans le4
        rw [hF] at leB
        cases b with
        | false =>
          refine iteF ?_
          obtain ⟨U, hU, eU, nU⟩ := R2.unblock cl R4 T3 leB
          have leU := leB
          rw [hU] at leU
          exact ⟨hlt, s4, O4, acc, vacc, U, le1.trans (le2.trans leU), nU, eU, ka, ra.mono (le2.trans leU), by omega, q4⟩
        | true =>
          refine iteT ⟨N.put D (.dK vacc), ρ3, s4, O4, _, R4, q4, fun dk s5 vk H5 O5 q5 R5 le5 r5 => ⟨N.put D (.dK vacc), ρ3, s5, O5, _, R5, q5, fun dz s6 vz H6 O6 q6 R6 le6 r6 => ?_⟩⟩
          obtain ⟨key, rfl, q6⟩ := q6
          have ek := keyD_rp r5
          subst ek
          have leC := (leB.trans le5).trans le6
          obtain ⟨U, hU, eU, nU⟩ := R2.unblock cl R6 T3 leC
          have leU := leC
          rw [hU] at leU r6
          have lv : vacc.length = acc.length := by
            have := congrArg List.length ka
            rwa [List.length_map, List.length_map] at this
          have lz := putD_len (kvs := acc) (k := key) (v := dz)
          obtain ⟨p1, p2⟩ := put_rel (k := key) ka (ra.mono (le2.trans leU)) r6
          refine ⟨vacc, key, rfl, eU, by omega, hlt, s6, O6, putD acc key dz, putK vacc key vz, ?_⟩
          rw [hide_upd]
          exact ⟨U, le1.trans (le2.trans leU), nU, upd_same, p1, p2, by omega, q6⟩
    · have e : i = xs.length := by omega
      subst e
      rw [List.drop_length] at q1
      refine .inl ⟨ok1.2 (Nat.le_refl _), ?_⟩
      have q2 : P (.dk acc) s1 := q1
      have fin := k (.dk acc) s1 D (.dK vacc) (hide H1 D) O1 q2 R1 (le0.trans le1) hide_self (.dk ka ra)
      rw [upd_hide eD] at fin
      exact fin
/-- {k: v for tg in iter if ..} -/
theorem n_dcomp (hN : X.N.Nodup) (ok : blkC X.N X.env.scope scope own = true) (hi : PI X tg iter (liftI A X.K N it))
    (hg : ∀ (N : Ent) (s : Shared) (H : Hp) (C : Addr) (cl : List (Str × Addr)) (fp : List Addr), PG (X.blk s H scope (compEnvC scope cl C X.env) fp) tg (liftG A X.K N (own.map (·.2)) g))
    (ht : ∀ (N : Ent) (s : Shared) (H : Hp) (C : Addr) (cl : List (Str × Addr)) (fp : List Addr), PTs (X.blk s H scope (compEnvC scope cl C X.env) fp) ifs (liftT A X.K N tt))
    (hk : ∀ (N : Ent) (s : Shared) (H : Hp) (C : Addr) (cl : List (Str × Addr)) (fp : List Addr), PE (X.blk s H scope (compEnvC scope cl C X.env) fp) kx (liftE A X.K N tk))
    (he : ∀ (N : Ent) (s : Shared) (H : Hp) (C : Addr) (cl : List (Str × Addr)) (fp : List Addr), PE (X.blk s H scope (compEnvC scope cl C X.env) fp) elt (liftE A X.K N te)) (hc : X.calm = true) (hs : ∀ x, foldedSetIterable iter X.env x = pure x := by intro _; rfl) :
    PE X (.DictComp kx elt [⟨tg, iter, ifs, 0⟩] scope pos) (liftW A X.K N (nDComp it g tt tk te (own.map (·.2)))) :=
  PE.imp (pe_dc hc hN hi (blkOk_by ok) (fun s H C cl fp => PG.ex fun N => hg N s H C cl fp) (fun s H C cl fp => PTs.ex fun N => ht N s H C cl fp) (fun s H C cl fp => PE.ex fun N => hk N s H C cl fp) (fun s H C cl fp => PE.ex fun N => he N s H C cl fp) hs) lift_dcomp
theorem eDC (own : List (Str × Nat)) (nd : X.N.Nodup) (hi : PI X tg iter (liftI A X.K N it))
    (hg : ∀ (N : Ent) (s : Shared) (H : Hp) (C : Addr) (cl : List (Str × Addr)) (fp : List Addr), PG (X.blk s H scope (compEnvC scope cl C X.env) fp) tg (liftG A X.K N (own.map (·.2)) g))
    (ht : ∀ (N : Ent) (s : Shared) (H : Hp) (C : Addr) (cl : List (Str × Addr)) (fp : List Addr), PTs (X.blk s H scope (compEnvC scope cl C X.env) fp) ifs (liftT A X.K N tt))
    (hk : ∀ (N : Ent) (s : Shared) (H : Hp) (C : Addr) (cl : List (Str × Addr)) (fp : List Addr), PE (X.blk s H scope (compEnvC scope cl C X.env) fp) kx (liftE A X.K N tk))
    (he : ∀ (N : Ent) (s : Shared) (H : Hp) (C : Addr) (cl : List (Str × Addr)) (fp : List Addr), PE (X.blk s H scope (compEnvC scope cl C X.env) fp) elt (liftE A X.K N te)) (ok : blkC X.N X.env.scope scope own = true := by kernel_rfl) (hc : X.calm = true := by rfl) (hs : ∀ x, foldedSetIterable iter X.env x = pure x := by intro _; rfl) :
    PE X (.DictComp kx elt [⟨tg, iter, ifs, 0⟩] scope pos) (liftW A X.K N (nDComp it g tt tk te (own.map (·.2)))) := n_dcomp nd ok hi hg ht hk he hc hs
end
/-! ### over data -/
theorem dcW_pure {S : Type} {f : D → S → (Option (Key × D) → S → Prop) → Prop} {h : D → Key × D} : ∀ {xs : List D} {acc : List (Key × D)} {s : S} {Q : List (Key × D) → S → Prop}, (∀ x ∈ xs, ∀ s k, k (some (h x)) s → f x s k) → Q (mergeD acc (xs.map h)) s → dcW f acc xs s Q
  | [], _, _, _, _, q => q
  | x :: xs, acc, s, Q, hf, q => by
    refine hf x (List.mem_cons_self ..) s _ ?_
    exact dcW_pure (fun y m => hf y (List.mem_cons_of_mem _ m)) q
theorem dcomp_pure {A : Amb} {it : DI A} {g : DG A} {tk te : DE A} {vs : List Nat} {ρ : Rho} {s : A.S} {QC : Cell → A.S → Prop} {xs : List D} (hi : ∀ k : List D → A.S → Prop, k xs s → it ρ s k) (cl : clean ρ vs) (hn : xs.length ≤ sizeLine) (h : D → Key × D)
    (hf : ∀ x ∈ xs, ∀ (s : A.S) (k : Key × D → A.S → Prop), k (h x) s → g x (wipeR ρ vs) s fun ρ1 s1 => tk ρ1 s1 fun y s3 => te ρ1 s3 fun z s4 => ∃ key, y = keyD key ∧ k (key, z) s4) (q : QC (.dk (mergeD [] (xs.map h))) s) : nDComp it g dYes tk te vs ρ s QC :=
  hi _ ⟨cl, hn, dcW_pure (h := h) (fun x m s k z => hf x m s (fun p s' => k (some p) s') z) q⟩
@[simp] theorem q_dk {kvs : List (Key × D)} : Cell.data (.dk kvs) = dictD kvs := rfl
end Dl
/-! Heads of touches, parts. -/
namespace Dl
open PySem L2
def t_heads_by_word {A : Amb} (S_rows_of S_rounds : FS A) : DS A :=
  (dRet (dOfN (nDComp (dIt (dVar 1)) (dgT 2 (dgsC (dgN 2) (dgsC (dgN 3) dgs0))) dYes (dVar 2) (dOp fIx (dCall S_rows_of (dCons (dVar 3) (dCons (dCall S_rounds (dCons (dVar 0) dNil)) dNil))) (dUn fNeg (dC (.int 1)))) [2, 3])))
def t_heads_of {A : Amb} (S_heads_by_word S_rounds S_carried : FS A) : DS A :=
  (dSeq (dSet 3 (dCall S_heads_by_word (dCons (dVar 0) (dCons (dVar 1) dNil))))
  (dSeq (dSetN 4 (nLst (dCons (dCall S_rounds (dCons (dVar 0) dNil)) dNil)))
  (dSeq (dFor (dIt (dVar 2)) (dgN 5)
  (dApp 4 (dCall S_carried (dCons (dOp fIx (dVarB 4) (dUn fNeg (dC (.int 1)))) (dCons (dFGet (dVarB 3) (dVar 5)) dNil)))))
  (dFrz 4 (dRet (dVar 4))))))
def t_L_heads {A : Amb} (S_L_rounds S_L_rows : FS A) : DS A :=
  (dSeq (dSet 3 (dFn fDict (dCons (dVarB 1) dNil)))
  (dSeq (dSetN 4 (nLst (dCons (dCall S_L_rounds (dCons (dVar 0) dNil)) dNil)))
  (dSeq (dFor (dIt (dVar 2)) (dgN 5)
  (dApp 4 (dOp fIx (dCall S_L_rows (dCons (dFGet (dVarB 3) (dVar 5)) (dCons (dOp fIx (dVarB 4) (dUn fNeg (dC (.int 1)))) dNil))) (dUn fNeg (dC (.int 1))))))
  (dFrz 4 (dRet (dVar 4))))))
def t_parts_needed {A : Amb} (S_order_of S_heads_of : FS A) : DS A :=
  (dRet (dCall S_order_of (dCons (dOp fIx (dCall S_heads_of (dCons (dVar 0) (dCons (dVar 1) (dCons (dVar 2) dNil)))) (dUn fNeg (dC (.int 1)))) dNil)))
def t_whole_of {A : Amb} (S_parts_needed : FS A) : DS A :=
  (dSeq (dSet 3 (dCall S_parts_needed (dCons (dVar 0) (dCons (dVar 1) (dCons (dVar 2) dNil)))))
  (dRet (dIf (dTest (dOp fLe (dOp fMul (dVarB 3) (dFn fLen (dCons (dVarB 2) dNil))) (dC (.int 200)))) (dOp fMul (dVarB 2) (dVarB 3)) (dC .none))))

/-! ### a dict of pieces, a dict of their heads -/
section
variable {κ α : Type} [DecidableEq κ]
def putA (kvs : List (κ × α)) (k : κ) (v : α) : List (κ × α) := if (kvs.any fun kv => decide (kv.1 = k)) = true then kvs.map (fun kv => if kv.1 = k then (kv.1, v) else kv) else kvs ++ [(k, v)]
theorem put_of (f : α → D) (kvs : List (κ × α)) (k : κ) (v : α) : putD (kvs.map fun p => (p.1, f p.2)) k (f v) = (putA kvs k v).map fun p => (p.1, f p.2) := by
  unfold putD putA
  have e : ((kvs.map fun p => (p.1, f p.2)).any fun kv => decide (kv.1 = k)) = kvs.any fun kv => decide (kv.1 = k) := by rw [List.any_map]; rfl
  rw [e]
  split
  · rw [List.map_map, List.map_map]
    refine List.map_congr_left fun p _ => ?_
    show (if p.1 = k then (p.1, f v) else (p.1, f p.2)) = _
    by_cases h : p.1 = k <;> simp [h]
  · rw [List.map_append]
    rfl
end
def mergeA {α : Type} (acc kvs : List (Key × α)) : List (Key × α) := kvs.foldl (fun acc p => putA acc p.1 p.2) acc
theorem merge_of {α : Type} (f : α → D) : ∀ (kvs acc : List (Key × α)), mergeD (acc.map fun p => (p.1, f p.2)) (kvs.map fun p => (p.1, f p.2)) = (mergeA acc kvs).map fun p => (p.1, f p.2)
  | [], acc => rfl
  | (k, v) :: kvs, acc => by
    have z := merge_of f kvs (putA acc k v)
    rw [← put_of] at z
    exact z
def bookA (bs : List Lead) : List (Key × List (List Int)) := bs.map fun p => (.inr p.1, p.2)
/-- the heads by their words -/
def headV (bs : List Lead) (st : Int) : List (Key × D) := mergeD [] (bs.map fun p => (.inr p.1, tupI (headN st p.2)))
theorem map_tupI_inj : ∀ {a b : List (List Int)}, a.map tupI = b.map tupI → a = b
  | [], [], _ => rfl
  | [], _ :: _, h => by simp at h
  | _ :: _, [], h => by simp at h
  | x :: a, y :: b, h => by
    simp only [List.map_cons, List.cons.injEq] at h
    rw [tupI_inj h.1, map_tupI_inj h.2]
theorem head_look {bs : List Lead} {st : Int} {w : Str} (h : w ∈ bs.map (·.1)) : valD (headV bs st) (.inr w) = some (tupI (headN st (lookB bs w))) := by
  have l := (look_ok h).1
  have e1 := merge_of (fun cs : List (List Int) => PyData.tuple (cs.map tupI)) (bookA bs) []
  have e2 := merge_of (fun cs : List (List Int) => tupI (headN st cs)) (bookA bs) []
  have k1 : (bookA bs).map (fun p => (p.1, PyData.tuple (p.2.map tupI))) = bookK bs := by
    unfold bookA bookK
    rw [List.map_map]
    rfl
  have k2 : (bookA bs).map (fun p => (p.1, tupI (headN st p.2))) = bs.map fun p => (.inr p.1, tupI (headN st p.2)) := by
    unfold bookA
    rw [List.map_map]
    rfl
  rw [k1] at e1
  rw [k2] at e2
  have v1 := valD_map (fun cs : List (List Int) => PyData.tuple (cs.map tupI)) (mergeA [] (bookA bs)) (.inr w)
  have v2 := valD_map (fun cs : List (List Int) => tupI (headN st cs)) (mergeA [] (bookA bs)) (.inr w)
  rw [← e1] at v1
  rw [← e2] at v2
  simp only [List.map_nil] at v1 v2
  rw [l] at v1
  unfold headV
  rw [v2]
  cases hv : ((mergeA [] (bookA bs)).find? fun p => decide (p.1 = Sum.inr w)).map (·.2) with
  | none => rw [hv] at v1; cases v1
  | some cs =>
    rw [hv] at v1
    simp only [Option.map_some, Option.some.injEq, PyData.tuple.injEq] at v1
    rw [Option.map_some, map_tupI_inj v1]
theorem dcW_of {S α : Type} {f : D → S → (Option (Key × D) → S → Prop) → Prop} {F : α → D} {h : α → Key × D} : ∀ {L : List α} {acc : List (Key × D)} {s : S} {Q : List (Key × D) → S → Prop}, (∀ x ∈ L, ∀ s k, k (some (h x)) s → f (F x) s k) → Q (mergeD acc (L.map h)) s → dcW f acc (L.map F) s Q
  | [], _, _, _, _, q => q
  | x :: L, acc, s, Q, hf, q => by
    refine hf x (List.mem_cons_self ..) s _ ?_
    exact dcW_of (fun y m => hf y (List.mem_cons_of_mem _ m)) q
theorem dcomp_of {α : Type} {A : Amb} {it : DI A} {g : DG A} {tk te : DE A} {vs : List Nat} {ρ : Rho} {s : A.S} {QC : Cell → A.S → Prop} {f : α → D} {L : List α} (hi : ∀ k : List D → A.S → Prop, k (L.map f) s → it ρ s k) (cl : clean ρ vs) (hn : L.length ≤ sizeLine) (h : α → Key × D)
    (hf : ∀ x ∈ L, ∀ (s : A.S) (k : Key × D → A.S → Prop), k (h x) s → g (f x) (wipeR ρ vs) s fun ρ1 s1 => tk ρ1 s1 fun y s3 => te ρ1 s3 fun z s4 => ∃ key, y = keyD key ∧ k (key, z) s4) (q : QC (.dk (mergeD [] (L.map h))) s) : nDComp it g dYes tk te vs ρ s QC :=
  hi _ ⟨cl, by rw [List.length_map]; exact hn, dcW_of (F := f) (h := h) (fun x m s k z => hf x m s (fun p s' => k (some p) s') z) q⟩
/-! ### heads are carried -/
theorem lastG_map {α β : Type} (f : α → β) : ∀ (cs : List (List Int)) (xs : List α), lastG cs (xs.map f) = (lastG cs xs).map f
  | [], _ => rfl
  | c :: r, xs => by rw [lastG, lastG, rungG_map f c _ xs 1 (Nat.le_refl _), lastG_map f r]
theorem head_carried {h : List Int} {st : Int} (hl : h.length = st.toNat) (cs : List (List Int)) : carN h (headN st cs) = lastG cs h := by
  have e := lastG_map (mapR h) cs (oneTo h.length)
  rw [map_oneTo, hl] at e
  rw [e]
  rfl
noncomputable def headsT (bs : List Lead) : List Str → List Int → List (List Int)
  | [], _ => []
  | w :: r, last => lastG (lookB bs w) last :: headsT bs r (lastG (lookB bs w) last)
noncomputable def lastT (bs : List Lead) : List Str → List Int → List Int
  | [], last => last
  | w :: r, last => lastT bs r (lastG (lookB bs w) last)
theorem headsT_len {bs : List Lead} : ∀ (ws : List Str) (last : List Int), (headsT bs ws last).length = ws.length
  | [], _ => rfl
  | w :: r, last => by rw [headsT, List.length_cons, headsT_len r, List.length_cons]
theorem headsT_last {bs : List Lead} : ∀ (ws : List Str) (last : List Int), (last :: headsT bs ws last).getLast? = some (lastT bs ws last)
  | [], _ => rfl
  | w :: r, last => by
    rw [headsT, List.getLast?_cons_cons, headsT_last r, lastT]
theorem lastT_perm {bs : List Lead} : ∀ (ws : List Str) (last : List Int), (lastT bs ws last).Perm last
  | [], _ => List.Perm.refl _
  | w :: r, last => (lastT_perm r _).trans (lastG_perm _ _)
/-- the last head of a touch -/
noncomputable def headT (bs : List Lead) (st : Int) (ws : List Str) : List Int := lastT bs ws (oneTo st.toNat)
theorem headT_perm (bs : List Lead) (st : Int) (ws : List Str) : (headT bs st ws).Perm (oneTo (headT bs st ws).length) := by
  have p := lastT_perm (bs := bs) ws (oneTo st.toNat)
  unfold headT
  rw [p.length_eq, oneTo_len]
  exact p
theorem headT_len (bs : List Lead) (st : Int) (ws : List Str) : (headT bs st ws).length = st.toNat := by
  unfold headT
  rw [(lastT_perm ws _).length_eq, oneTo_len]
noncomputable def ordT (bs : List Lead) (st : Int) (ws : List Str) : Nat := ordN (headT bs st ws)
theorem ordT_pos (bs : List Lead) (st : Int) (ws : List Str) : 1 ≤ ordT bs st ws := (ordN_ok (headT_perm bs st ws)).1.1
noncomputable def wholeW (bs : List Lead) (st : Int) (ws : List Str) : List Str := (List.replicate (ordT bs st ws) ws).flatten
noncomputable def wholeD (bs : List Lead) (st : Int) (ws : List Str) : D := if ordT bs st ws * ws.length ≤ 200 then touchD (wholeW bs st ws) else .none
section
variable {A : Amb} {ds : List D} {s : A.S} {Q : D → A.S → Prop}
def S_heads_by_word : FS A := fun ds s Q => ∃ (st : Int) (bs : List Lead), ds = [.int st, bookD bs] ∧ 0 ≤ st ∧ st ≤ 1000 ∧ bs.length ≤ 1000 ∧ (∀ p ∈ bs, p.2.length ≤ 190) ∧ Q (dictD (headV bs st)) s
theorem p_heads_by_word (h : S_heads_by_word ds s Q) : t_heads_by_word S_rows_of S_rounds (retE Q) (startR 4 ds) s := by
  obtain ⟨st, bs, rfl, h0, h1, lb, lp, q⟩ := h
  have e : startR 4 [.int st, bookD bs] = [.fz (.int st), .fz (bookD bs), .un, .un] := rfl
  have hs : 1000000 ≤ sizeLine := by decide
  unfold t_heads_by_word
  simp [e]
  refine dcomp_of (f := pairX) (L := bs) (fun k z => by simpa [bookD] using z) (by simp) (by omega) (fun p => (.inr p.1, tupI (headN st p.2))) (fun p hp s k z => ?_) ?_
  · have lpp := lp p hp
    have al : atI ((rowsG p.2 (oneTo st.toNat)).map tupI) (-1) = some (tupI (headN st p.2)) := atI_last (by rw [List.getLast?_map, rowsN_last]; rfl)
    simp [pairX]
    refine ⟨st, rfl, h0, h1, p.2, _, rfl, by omega, by rw [rngD_length]; omega, ?_⟩
    rw [oneTo_ints, rows_ints]
    simp [al]
    exact ⟨.inr p.1, rfl, z⟩
  · simp
    exact q
def S_heads_of : FS A := fun ds s Q => ∃ (st : Int) (bs : List Lead) (ws : List Str), ds = [.int st, bookD bs, touchD ws] ∧ 0 ≤ st ∧ st ≤ 1000 ∧ bs.length ≤ 1000 ∧ TouchOk bs ws ∧ Q (.list ((oneTo st.toNat :: headsT bs ws (oneTo st.toNat)).map tupI)) s
structure HdI (st : Int) (bs : List Lead) (ws : List Str) (F : List (List Int)) (r : List D) : Prop where
  ex : ∃ (ws' : List Str) (last : List Int), r = ws'.map .str ∧ (∀ w ∈ ws', w ∈ bs.map (·.1)) ∧ F.getLast? = some last ∧ last.length = st.toNat ∧ F ++ headsT bs ws' last = oneTo st.toNat :: headsT bs ws (oneTo st.toNat)
theorem HdI.start {st : Int} {bs : List Lead} {ws : List Str} (ok : TouchOk bs ws) : HdI st bs ws [oneTo st.toNat] (ws.map .str) := ⟨⟨ws, _, rfl, ok.wd, rfl, oneTo_len _, rfl⟩⟩
theorem HdI.step {st : Int} {bs : List Lead} {ws ws' : List Str} {w : Str} {F : List (List Int)} {last : List Int} (hw : ∀ x ∈ w :: ws', x ∈ bs.map (·.1)) (ll : last.length = st.toNat)
    (hF : F ++ headsT bs (w :: ws') last = oneTo st.toNat :: headsT bs ws (oneTo st.toNat)) : HdI st bs ws (F ++ [lastG (lookB bs w) last]) (ws'.map .str) :=
  ⟨⟨ws', lastG (lookB bs w) last, rfl, fun x m => hw x (List.mem_cons_of_mem _ m), by simp, by rw [lastG_len]; exact ll, by rw [← hF, headsT, List.append_assoc]; rfl⟩⟩
theorem p_heads_of (h : S_heads_of ds s Q) : t_heads_of S_heads_by_word S_rounds S_carried (retE Q) (startR 6 ds) s := by
  obtain ⟨st, bs, ws, rfl, h0, h1, lb, ok, q⟩ := h
  have e : startR 6 [.int st, bookD bs, touchD ws] = [.fz (.int st), .fz (bookD bs), .fz (touchD ws), .un, .un, .un] := rfl
  have hs : 1000000 ≤ sizeLine := by decide
  have lw := ok.len
  unfold t_heads_of
  rw [e, q_dSeq]
  simp [-q_dSeq, -q_dIfS]
  refine ⟨st, bs, rfl, h0, h1, lb, ok.ps, ?_⟩
  dsimp only
  rw [q_dSeq]
  simp [-q_dSeq, -q_dIfS]
  refine ⟨st, rfl, h0, h1, by omega, ?_⟩
  rw [oneTo_ints]
  rw [q_dSeq]
  refine for_of (xs := ws.map .str) (fun k z => by simpa [touchD] using z) (fun r ρ s' => s' = s ∧ ∃ (F : List (List Int)) (c5 : Cell), HdI st bs ws F r ∧ ρ = [.fz (.int st), .fz (bookD bs), .fz (touchD ws), .fz (dictD (headV bs st)), .ol (F.map tupI), c5]) ⟨rfl, [oneTo st.toNat], .un, .start ok, rfl⟩ ?_ ?_
  · rintro x r ρ s' ⟨rfl, F, c5, ⟨ws', last, hr, hw, hl, ll, hF⟩, rfl⟩ D' hrt hbk hnx hct
    cases ws' with
    | nil => cases hr
    | cons w ws' =>
      obtain ⟨rfl, rfl⟩ := List.cons.inj hr
      have mw := hw w (List.mem_cons_self ..)
      have al : atI (F.map tupI) (-1) = some (tupI last) := atI_last (by rw [List.getLast?_map, hl]; rfl)
      have lF : F.length ≤ 501 := by
        have z := congrArg List.length hF
        simp only [List.length_append, List.length_cons, headsT_len] at z
        omega
      simp [al]
      refine ⟨headV bs st, .inr w, _, rfl, rfl, head_look mw, ?_⟩
      refine ⟨last, headN st (lookB bs w), rfl, fun b m => ?_, by rw [headN_len]; omega, ?_⟩
      · have z := perm_in (headN_perm st (lookB bs w)) m
        rw [headN_len] at z
        rw [ll]
        exact z
      · rw [head_carried ll]
        simp
        exact ⟨by omega, hnx _ _ ⟨rfl, F ++ [lastG (lookB bs w) last], .fz (.str w), .step hw ll hF, by simp⟩⟩
  · rintro ρ s' ⟨rfl, F, c5, ⟨ws', last, hr, hw, hl, ll, hF⟩, rfl⟩
    have : ws' = [] := List.map_eq_nil_iff.mp hr.symm
    subst this
    rw [headsT, List.append_nil] at hF
    subst hF
    simpa using q
theorem p_L_heads (h : S_heads_of ds s Q) : t_L_heads S_rounds S_rows_of (retE Q) (startR 6 ds) s := by
  obtain ⟨st, bs, ws, rfl, h0, h1, lb, ok, q⟩ := h
  have e : startR 6 [.int st, bookD bs, touchD ws] = [.fz (.int st), .fz (bookD bs), .fz (touchD ws), .un, .un, .un] := rfl
  have hs : 1000000 ≤ sizeLine := by decide
  have lw := ok.len
  unfold t_L_heads
  rw [e, q_dSeq]
  simp [-q_dSeq, -q_dIfS]
  refine dict_book ok.ne ?_
  rw [q_dSeq]
  simp [-q_dSeq, -q_dIfS]
  refine ⟨st, rfl, h0, h1, by omega, ?_⟩
  rw [oneTo_ints]
  rw [q_dSeq]
  refine for_of (xs := ws.map .str) (fun k z => by simpa [touchD] using z) (fun r ρ s' => s' = s ∧ ∃ (F : List (List Int)) (c5 : Cell), HdI st bs ws F r ∧ ρ = [.fz (.int st), .fz (bookD bs), .fz (touchD ws), .fz (bookV bs), .ol (F.map tupI), c5]) ⟨rfl, [oneTo st.toNat], .un, .start ok, rfl⟩ ?_ ?_
  · rintro x r ρ s' ⟨rfl, F, c5, ⟨ws', last, hr, hw, hl, ll, hF⟩, rfl⟩ D' hrt hbk hnx hct
    cases ws' with
    | nil => cases hr
    | cons w ws' =>
      obtain ⟨rfl, rfl⟩ := List.cons.inj hr
      have mw := hw w (List.mem_cons_self ..)
      have lk := look_len ok.ps mw
      have al : atI (F.map tupI) (-1) = some (tupI last) := atI_last (by rw [List.getLast?_map, hl]; rfl)
      have bl : atI ((rowsG (lookB bs w) last).map tupI) (-1) = some (tupI (lastG (lookB bs w) last)) := atI_last (by rw [List.getLast?_map, rowsG_last]; rfl)
      have lF : F.length ≤ 501 := by
        have z := congrArg List.length hF
        simp only [List.length_append, List.length_cons, headsT_len] at z
        omega
      simp [al]
      refine dget_book mw ?_
      refine ⟨lookB bs w, _, rfl, by omega, by rw [intsD_length]; omega, ?_⟩
      rw [rows_ints]
      simp [bl]
      exact ⟨by omega, hnx _ _ ⟨rfl, F ++ [lastG (lookB bs w) last], .fz (.str w), .step hw ll hF, by simp⟩⟩
  · rintro ρ s' ⟨rfl, F, c5, ⟨ws', last, hr, hw, hl, ll, hF⟩, rfl⟩
    have : ws' = [] := List.map_eq_nil_iff.mp hr.symm
    subst this
    rw [headsT, List.append_nil] at hF
    subst hF
    simpa using q
def S_parts_needed : FS A := fun ds s Q => ∃ (st : Int) (bs : List Lead) (ws : List Str), ds = [.int st, bookD bs, touchD ws] ∧ 0 ≤ st ∧ st ≤ 1000 ∧ bs.length ≤ 1000 ∧ TouchOk bs ws ∧ Q (.int (ordT bs st ws : Nat)) s
theorem heads_end {bs : List Lead} {st : Int} {ws : List Str} : atI ((oneTo st.toNat :: headsT bs ws (oneTo st.toNat)).map tupI) (-1) = some (tupI (headT bs st ws)) := atI_last (by rw [List.getLast?_map, headsT_last]; rfl)
theorem p_parts_needed (h : S_parts_needed ds s Q) : t_parts_needed S_order_of S_heads_of (retE Q) (startR 3 ds) s := by
  obtain ⟨st, bs, ws, rfl, h0, h1, lb, ok, q⟩ := h
  have e : startR 3 [.int st, bookD bs, touchD ws] = [.fz (.int st), .fz (bookD bs), .fz (touchD ws)] := rfl
  have he := heads_end (bs := bs) (st := st) (ws := ws)
  rw [List.map_cons] at he
  unfold t_parts_needed
  simp [e]
  refine ⟨st, bs, ws, rfl, h0, h1, lb, ok, ?_⟩
  simp [he]
  exact ⟨headT bs st ws, rfl, headT_perm bs st ws, by rw [headT_len]; omega, q⟩
def S_whole_of : FS A := fun ds s Q => ∃ (st : Int) (bs : List Lead) (ws : List Str), ds = [.int st, bookD bs, touchD ws] ∧ 0 ≤ st ∧ st ≤ 1000 ∧ bs.length ≤ 1000 ∧ TouchOk bs ws ∧ ws ≠ [] ∧ Q (wholeD bs st ws) s
theorem p_whole_of (h : S_whole_of ds s Q) : t_whole_of S_parts_needed (retE Q) (startR 4 ds) s := by
  obtain ⟨st, bs, ws, rfl, h0, h1, lb, ok, ne, q⟩ := h
  have e : startR 4 [.int st, bookD bs, touchD ws] = [.fz (.int st), .fz (bookD bs), .fz (touchD ws), .un] := rfl
  have lw := ok.len
  have n1 := ordT_pos bs st ws
  unfold t_whole_of
  simp [e]
  refine ⟨st, bs, ws, rfl, h0, h1, lb, ok, ?_⟩
  unfold wholeD at q
  have cm : CMul (ordT bs st ws : Nat) (ws.length : Nat) := .inr ⟨by omega, by omega⟩
  simp [touchD, cm]
  by_cases le : ordT bs st ws * ws.length ≤ 200
  · rw [if_pos le] at q
    have le' : ((ordT bs st ws : Nat) : Int) * (ws.length : Nat) ≤ 200 := by
      have := Int.ofNat_le.mpr le
      rw [Int.natCast_mul] at this
      exact this
    simp [le']
    refine ⟨fun z => ne (List.map_eq_nil_iff.mp z), by omega, by rw [List.length_map, Int.toNat_natCast, Nat.mul_comm]; omega, ?_⟩
    rw [Int.toNat_natCast]
    have ee : (List.replicate (ordT bs st ws) (ws.map PyData.str)).flatten = (wholeW bs st ws).map .str := by
      unfold wholeW
      rw [List.map_flatten, List.map_replicate]
    rw [ee]
    exact q
  · rw [if_neg le] at q
    have le' : ¬ ((ordT bs st ws : Nat) : Int) * (ws.length : Nat) ≤ 200 := by
      intro h
      rw [← Int.natCast_mul] at h
      omega
    simp [le']
    exact q
end
end Dl
/-! All touches. -/
namespace Dl
open PySem L2
def t_all_touches {A : Amb} : DS A :=
  (dSeq (dSet 2 (dLst (dCons (dTup dNil) dNil)))
  (dSeq (dFor (dRg1 (dCons (dVar 1) dNil)) (dgN 3)
  (dSeq (dSetN 4 (nLst dNil))
  (dSeq (dFor (dIt (dVar 2)) (dgN 5)
  (dExt 4 (dOfN (nComp (dIt (dVar 0)) (dgT 2 (dgsC (dgN 6) (dgsC (dgN 3) dgs0))) dYes (dOp fAdd (dVarB 5) (dTup (dCons (dVar 6) dNil))) [6, 3]))))
  (dFrz 4 (dSet 2 (dVar 4))))))
  (dRet (dVar 2))))
def t_L_all_touches {A : Amb} : DS A :=
  (dSeq (dSet 2 (dLst (dCons (dTup dNil) dNil)))
  (dSeq (dFor (dRg1 (dCons (dVar 1) dNil)) (dgN 3)
  (dSeq (dSet 4 (dLst dNil))
  (dSeq (dFor (dIt (dVar 2)) (dgN 5)
  (dSet 4 (dOp fAdd (dVarB 4) (dOfN (nComp (dIt (dVar 0)) (dgN 6) dYes (dOp fAdd (dVarB 5) (dTup (dCons (dOp fIx (dVarB 6) (dC (.int 0))) dNil))) [6])))))
  (dSet 2 (dVar 4)))))
  (dRet (dVar 2))))
def t_true_parts {A : Amb} (S_all_touches S_whole_of S_touch_paper : FS A) : DS A :=
  (dSeq (dSetN 3 (nLst dNil))
  (dSeq (dFor (dIt (dCall S_all_touches (dCons (dVar 1) (dCons (dVar 2) dNil)))) (dgN 4)
  (dSeq (dSet 5 (dCall S_whole_of (dCons (dVar 0) (dCons (dVar 1) (dCons (dVar 4) dNil)))))
  (dIfS (dAndT (dTest (dOp fIsNot (dVarB 5) (dC .none))) (dTest (dOp fEqU (dCall S_touch_paper (dCons (dVar 0) (dCons (dVar 1) (dCons (dVar 5) dNil)))) (dTup (dCons (dC (.str "true")) dNil)))))
  (dApp 3 (dVar 4))
  dNx)))
  (dFrz 3 (dRet (dVar 3)))))

def allT (bs : List Lead) : Nat → List (List Str)
  | 0 => [[]]
  | n + 1 => (allT bs n).flatMap fun t => bs.map fun p => t ++ [p.1]
theorem allT_mem {bs : List Lead} : ∀ {n : Nat} {t : List Str}, t ∈ allT bs n → t.length = n ∧ ∀ w ∈ t, w ∈ bs.map (·.1)
  | 0, t, m => by
    rw [allT] at m
    rw [List.mem_singleton.mp m]
    exact ⟨rfl, fun w h => by cases h⟩
  | n + 1, t, m => by
    rw [allT] at m
    obtain ⟨u, hu, hm⟩ := List.mem_flatMap.mp m
    obtain ⟨p, hp, rfl⟩ := List.mem_map.mp hm
    obtain ⟨l, h⟩ := allT_mem hu
    refine ⟨by simp [l], fun w hw => ?_⟩
    rcases List.mem_append.mp hw with hw | hw
    · exact h w hw
    · rw [List.mem_singleton.mp hw]
      exact List.mem_map.mpr ⟨p, hp, rfl⟩
theorem flat_len {α β : Type} {f : α → List β} {m : Nat} : ∀ {l : List α}, (∀ x ∈ l, (f x).length = m) → (l.flatMap f).length = l.length * m
  | [], _ => by simp
  | x :: l, h => by
    rw [List.flatMap_cons, List.length_append, flat_len fun y hy => h y (List.mem_cons_of_mem _ hy), h x (List.mem_cons_self ..), List.length_cons, Nat.add_mul]
    omega
theorem allT_len {bs : List Lead} : ∀ n : Nat, (allT bs n).length = bs.length ^ n
  | 0 => rfl
  | n + 1 => by
    rw [allT, flat_len (m := bs.length) (fun x _ => by rw [List.length_map]), allT_len n, Nat.pow_succ]
section
variable {A : Amb} {ds : List D} {s : A.S} {Q : D → A.S → Prop}
def S_all_touches : FS A := fun ds s Q => ∃ (bs : List Lead) (n : Int), ds = [bookD bs, .int n] ∧ 0 ≤ n ∧ n ≤ 100 ∧ 1 ≤ bs.length ∧ bs.length ≤ 100 ∧ bs.length ^ n.toNat ≤ 100000 ∧ Q (.list ((allT bs n.toNat).map touchD)) s
def AtI (bs : List Lead) (n : Int) (s0 : A.S) (r : List D) (ρ : Rho) (s' : A.S) : Prop :=
  s' = s0 ∧ ∃ (j : Nat) (c3 c4 c5 c6 : Cell), r = rngD j (n.toNat - j) ∧ j ≤ n.toNat ∧ freeC (some c3) ∧ freeC (some c4) ∧ freeC (some c6) ∧ ρ = [.fz (bookD bs), .fz (.int n), .fz (.list ((allT bs j).map touchD)), c3, c4, c5, c6]
def AjIo (bs : List Lead) (n : Int) (j : Nat) (s0 : A.S) (r : List D) (ρ : Rho) (s' : A.S) : Prop :=
  s' = s0 ∧ ∃ (ts G : List (List Str)) (c5 c6 : Cell), r = ts.map touchD ∧ (∀ t ∈ ts, t.length = j ∧ ∀ w ∈ t, w ∈ bs.map (·.1)) ∧ G ++ ts.flatMap (fun t => bs.map fun p => t ++ [p.1]) = allT bs (j + 1) ∧ freeC (some c6) ∧
    ρ = [.fz (bookD bs), .fz (.int n), .fz (.list ((allT bs j).map touchD)), .fz (.int (j : Nat)), .ol (G.map touchD), c5, c6]
def AjIf (bs : List Lead) (n : Int) (j : Nat) (s0 : A.S) (r : List D) (ρ : Rho) (s' : A.S) : Prop :=
  s' = s0 ∧ ∃ (ts G : List (List Str)) (c5 c6 : Cell), r = ts.map touchD ∧ (∀ t ∈ ts, t.length = j ∧ ∀ w ∈ t, w ∈ bs.map (·.1)) ∧ G ++ ts.flatMap (fun t => bs.map fun p => t ++ [p.1]) = allT bs (j + 1) ∧ freeC (some c6) ∧
    ρ = [.fz (bookD bs), .fz (.int n), .fz (.list ((allT bs j).map touchD)), .fz (.int (j : Nat)), .fz (.list (G.map touchD)), c5, c6]

theorem p_all_touches (h : S_all_touches ds s Q) : t_all_touches (retE Q) (startR 7 ds) s := by
  obtain ⟨bs, n, rfl, n0, n100, lb1, lb2, lb, q⟩ := h
  have e : startR 7 [bookD bs, .int n] = [.fz (bookD bs), .fz (.int n), .un, .un, .un, .un, .un] := rfl
  have hs : 1000000 ≤ sizeLine := by decide
  unfold t_all_touches
  rw [e, q_dSeq]
  simp [-q_dSeq, -q_dIfS]
  refine ⟨by omega, ?_⟩
  rw [q_dSeq]
  refine for_of (xs := rngD 0 n.toNat) (fun k z => by simp; exact ⟨by omega, z⟩) (AtI bs n s) ⟨rfl, 0, .un, .un, .un, .un, by simp, by omega, trivial, trivial, trivial, rfl⟩ ?_ ?_
  · rintro x r ρ s' ⟨rfl, j, c3, c4, c5, c6, hr, hj, f3, f4, f6, rfl⟩ D' hrt hbk hnx hct
    have lt : j < n.toNat := by
      have := congrArg List.length hr
      rw [List.length_cons, rngD_length] at this
      omega
    rw [show n.toNat - j = (n.toNat - (j + 1)) + 1 by omega, rngD_succ] at hr
    obtain ⟨rfl, rfl⟩ := List.cons.inj hr
    have la : (allT bs (j + 1)).length ≤ 100000 := by
      rw [allT_len]
      exact Nat.le_trans (Nat.pow_le_pow_right lb1 (by omega)) lb
    simp only [q_dgN, List.set_cons_succ, List.set_cons_zero]
    rw [q_dSeq]
    simp [-q_dSeq, -q_dIfS]
    rw [q_dSeq]
    refine for_of (xs := (allT bs j).map touchD) (fun k z => by simpa using z) (AjIo bs n j s') ⟨rfl, allT bs j, [], c5, c6, rfl, fun t m => allT_mem m, by simp [allT], f6, rfl⟩ ?_ ?_
    · rintro x r ρ s2 ⟨rfl, ts, G, c5', c6', hr2, ht, hG, f6', rfl⟩ D2 hrt2 hbk2 hnx2 hct2
      cases ts with
      | nil => cases hr2
      | cons t ts =>
        obtain ⟨rfl, rfl⟩ := List.cons.inj hr2
        have lt2 := ht t (List.mem_cons_self ..)
        rw [List.flatMap_cons, ← List.append_assoc] at hG
        have lG : G.length + bs.length ≤ 100000 := by
          have z := congrArg List.length hG
          rw [List.length_append, List.length_append, List.length_map] at z
          omega
        simp
        refine comp_pure (xs := bs.map pairX) (fun k z => by simpa [bookD] using z) (by simpa using f6') (by rw [List.length_map]; omega) (fun x => match x with | .tuple (.str w :: _) => some (touchD (t ++ [w])) | _ => none) (fun x m s k z => ?_) ?_
        · obtain ⟨p, hp, rfl⟩ := List.mem_map.mp m
          have a0 : atI [PyData.str p.1, PyData.tuple (p.2.map tupI)] 0 = some (.str p.1) := atI_nat (j := 0) rfl
          simp [pairX, touchD, a0]
          refine ⟨by omega, by omega, ?_⟩
          have ee : touchD (t ++ [p.1]) = .tuple (t.map .str ++ [.str p.1]) := by unfold touchD; rw [List.map_append]; rfl
          have z' : k (some (touchD (t ++ [p.1]))) s := z
          rw [ee] at z'
          exact z'
        · have ee : (bs.map pairX).filterMap (fun x => match x with | .tuple (.str w :: _) => some (touchD (t ++ [w])) | _ => none) = (bs.map fun p => t ++ [p.1]).map touchD := by
            rw [List.filterMap_map, List.map_map]
            exact congrFun List.filterMap_eq_map' bs
          rw [ee]
          simp
          refine ⟨by omega, hnx2 _ _ ⟨rfl, ts, G ++ bs.map (fun p => t ++ [p.1]), .fz (touchD t), c6', rfl, fun x m => ht x (List.mem_cons_of_mem _ m), hG, f6', by simp⟩⟩
    · rintro ρ s2 ⟨rfl, ts, G, c5', c6', hr2, ht, hG, f6', rfl⟩
      have : ts = [] := List.map_eq_nil_iff.mp hr2.symm
      subst this
      rw [List.flatMap_nil, List.append_nil] at hG
      subst hG
      simp
      exact hnx _ _ ⟨rfl, j + 1, .fz (.int (j : Nat)), .fz (.list ((allT bs (j + 1)).map touchD)), c5', c6', by simp, by omega, trivial, trivial, f6', rfl⟩
  · rintro ρ s' ⟨rfl, j, c3, c4, c5, c6, hr, hj, _, _, _, rfl⟩
    have ej : j = n.toNat := by
      have := congrArg List.length hr
      rw [List.length_nil, rngD_length] at this
      omega
    subst ej
    simpa using q

theorem p_L_all_touches (h : S_all_touches ds s Q) : t_L_all_touches (retE Q) (startR 7 ds) s := by
  obtain ⟨bs, n, rfl, n0, n100, lb1, lb2, lb, q⟩ := h
  have e : startR 7 [bookD bs, .int n] = [.fz (bookD bs), .fz (.int n), .un, .un, .un, .un, .un] := rfl
  have hs : 1000000 ≤ sizeLine := by decide
  unfold t_L_all_touches
  rw [e, q_dSeq]
  simp [-q_dSeq, -q_dIfS]
  refine ⟨by omega, ?_⟩
  rw [q_dSeq]
  refine for_of (xs := rngD 0 n.toNat) (fun k z => by simp; exact ⟨by omega, z⟩) (AtI bs n s) ⟨rfl, 0, .un, .un, .un, .un, by simp, by omega, trivial, trivial, trivial, rfl⟩ ?_ ?_
  · rintro x r ρ s' ⟨rfl, j, c3, c4, c5, c6, hr, hj, f3, f4, f6, rfl⟩ D' hrt hbk hnx hct
    have lt : j < n.toNat := by
      have := congrArg List.length hr
      rw [List.length_cons, rngD_length] at this
      omega
    rw [show n.toNat - j = (n.toNat - (j + 1)) + 1 by omega, rngD_succ] at hr
    obtain ⟨rfl, rfl⟩ := List.cons.inj hr
    have la : (allT bs (j + 1)).length ≤ 100000 := by
      rw [allT_len]
      exact Nat.le_trans (Nat.pow_le_pow_right lb1 (by omega)) lb
    simp only [q_dgN, List.set_cons_succ, List.set_cons_zero]
    rw [q_dSeq]
    simp [-q_dSeq, -q_dIfS]
    rw [q_dSeq]
    refine for_of (xs := (allT bs j).map touchD) (fun k z => by simpa using z) (AjIf bs n j s') ⟨rfl, allT bs j, [], c5, c6, rfl, fun t m => allT_mem m, by simp [allT], f6, rfl⟩ ?_ ?_
    · rintro x r ρ s2 ⟨rfl, ts, G, c5', c6', hr2, ht, hG, f6', rfl⟩ D2 hrt2 hbk2 hnx2 hct2
      cases ts with
      | nil => cases hr2
      | cons t ts =>
        obtain ⟨rfl, rfl⟩ := List.cons.inj hr2
        have lt2 := ht t (List.mem_cons_self ..)
        rw [List.flatMap_cons, ← List.append_assoc] at hG
        have lG : G.length + bs.length ≤ 100000 := by
          have z := congrArg List.length hG
          rw [List.length_append, List.length_append, List.length_map] at z
          omega
        simp
        refine comp_pure (xs := bs.map pairX) (fun k z => by simpa [bookD] using z) (by simpa using f6') (by rw [List.length_map]; omega) (fun x => match x with | .tuple (.str w :: _) => some (touchD (t ++ [w])) | _ => none) (fun x m s k z => ?_) ?_
        · obtain ⟨p, hp, rfl⟩ := List.mem_map.mp m
          have a0 : atI [PyData.str p.1, PyData.tuple (p.2.map tupI)] 0 = some (.str p.1) := atI_nat (j := 0) rfl
          simp [pairX, touchD, a0]
          refine ⟨by omega, by omega, ?_⟩
          have ee : touchD (t ++ [p.1]) = .tuple (t.map .str ++ [.str p.1]) := by unfold touchD; rw [List.map_append]; rfl
          have z' : k (some (touchD (t ++ [p.1]))) s := z
          rw [ee] at z'
          exact z'
        · have ee : (bs.map pairX).filterMap (fun x => match x with | .tuple (.str w :: _) => some (touchD (t ++ [w])) | _ => none) = (bs.map fun p => t ++ [p.1]).map touchD := by
            rw [List.filterMap_map, List.map_map]
            exact congrFun List.filterMap_eq_map' bs
          rw [ee]
          simp
          refine ⟨by omega, hnx2 _ _ ⟨rfl, ts, G ++ bs.map (fun p => t ++ [p.1]), .fz (touchD t), c6', rfl, fun x m => ht x (List.mem_cons_of_mem _ m), hG, f6', by simp⟩⟩
    · rintro ρ s2 ⟨rfl, ts, G, c5', c6', hr2, ht, hG, f6', rfl⟩
      have : ts = [] := List.map_eq_nil_iff.mp hr2.symm
      subst this
      rw [List.flatMap_nil, List.append_nil] at hG
      subst hG
      simp
      exact hnx _ _ ⟨rfl, j + 1, .fz (.int (j : Nat)), .fz (.list ((allT bs (j + 1)).map touchD)), c5', c6', by simp, by omega, trivial, trivial, f6', rfl⟩
  · rintro ρ s' ⟨rfl, j, c3, c4, c5, c6, hr, hj, _, _, _, rfl⟩
    have ej : j = n.toNat := by
      have := congrArg List.length hr
      rw [List.length_nil, rngD_length] at this
      omega
    subst ej
    simpa using q
end
end Dl
/-! True parts, how great an order may be. -/
namespace Dl
open PySem L2
section
variable {f : Int → Int} {n : Nat} (hf : ∀ b : Int, 1 ≤ b → b ≤ n → 1 ≤ f b ∧ f b ≤ n) (inj : ∀ a b : Int, 1 ≤ a → a ≤ n → 1 ≤ b → b ≤ n → f a = f b → a = b)
include hf inj
theorem one_backB {x : Int} (h1 : 1 ≤ x) (h2 : x ≤ n) : ∃ k, 1 ≤ k ∧ k ≤ n ∧ itF f k x = x := by
  obtain ⟨i, j, hij, hj, e⟩ := pigeon n (fun i => (itF f i x - 1).toNat) (fun i _ => by
    have := itF_in hf h1 h2 i
    omega)
  have a := itF_in hf h1 h2 i
  have b := itF_in hf h1 h2 j
  have e' : itF f i x = itF f j x := by omega
  have ej : j = i + (j - i) := by omega
  rw [ej, itF_add] at e'
  have z := itF_in hf h1 h2 (j - i)
  exact ⟨j - i, by omega, by omega, (itF_inj hf inj h1 h2 z.1 z.2 i e').symm⟩
theorem all_backB : ∀ m : Nat, m ≤ n → ∃ k, 1 ≤ k ∧ k ≤ n ^ m ∧ ∀ x : Int, 1 ≤ x → x ≤ m → itF f k x = x
  | 0, _ => ⟨1, Nat.le_refl _, Nat.le_refl _, fun x h1 h2 => by omega⟩
  | m + 1, h => by
    obtain ⟨k, k1, kn, hk⟩ := all_backB m (by omega)
    obtain ⟨l, l1, ln, hl⟩ := one_backB hf inj (x := (m : Int) + 1) (by omega) (by omega)
    refine ⟨k * l, Nat.mul_pos k1 l1, by rw [Nat.pow_succ]; exact Nat.mul_le_mul kn ln, fun x h1 h2 => ?_⟩
    by_cases e : x = (m : Int) + 1
    · subst e
      rw [Nat.mul_comm]
      exact itF_mul hl k
    · exact itF_mul (hk x h1 (by omega)) l
end
theorem ordN_le {p : List Int} (hp : p.Perm (oneTo p.length)) : ordN p ≤ p.length ^ p.length := by
  obtain ⟨k, k1, kn, hk⟩ := all_backB (mapR_in hp) (mapR_inj hp) p.length (Nat.le_refl _)
  have bk : backP p k := by
    refine ⟨k1, ?_⟩
    have : ∀ x ∈ oneTo p.length, itF (mapR p) k x = x := fun x m => hk x (oneTo_mem.mp m).1 (oneTo_mem.mp m).2
    exact (List.map_congr_left this).trans (List.map_id' _)
  by_cases h : k < ordN p
  · exact ((ordN_ok hp).2 k h bk).elim
  · omega
theorem ordT_le {bs : List Lead} {st : Int} {ws : List Str} (h5 : st ≤ 5) : ordT bs st ws ≤ 3125 := by
  have z := ordN_le (headT_perm bs st ws)
  rw [headT_len] at z
  have l : st.toNat ≤ 5 := by omega
  refine Nat.le_trans z ?_
  rcases (by omega : st.toNat = 0 ∨ st.toNat = 1 ∨ st.toNat = 2 ∨ st.toNat = 3 ∨ st.toNat = 4 ∨ st.toNat = 5) with e | e | e | e | e | e <;> rw [e] <;> decide
theorem wholeW_len {bs : List Lead} {st : Int} {ws : List Str} : (wholeW bs st ws).length = ordT bs st ws * ws.length := by
  unfold wholeW
  rw [PyProof.Rows.lm_len_rep_flat]
theorem wholeW_ok {bs : List Lead} {st : Int} {ws : List Str} (ok : TouchOk bs ws) (h : ordT bs st ws * ws.length ≤ 200) : TouchOk bs (wholeW bs st ws) :=
  ⟨ok.ne, fun w m => by
    obtain ⟨r, hr, hx⟩ := List.mem_flatten.mp m
    rw [List.eq_of_mem_replicate hr] at hx
    exact ok.wd w hx, ok.ps, by rw [wholeW_len]; omega⟩
/-- the parts that make a true whole -/
noncomputable def partB (bs : List Lead) (st : Int) (ws : List Str) : Bool := decide (ordT bs st ws * ws.length ≤ 200) && isN (repD [] 0 (RT bs st (wholeW bs st ws)))
noncomputable def trueP (bs : List Lead) (st : Int) (n : Nat) : List (List Str) := (allT bs n).filter (partB bs st)
structure BookOk (bs : List Lead) (n : Int) : Prop where
  ne : bs ≠ []
  l100 : bs.length ≤ 100
  ps : ∀ p ∈ bs, p.2.length ≤ 190
  n1 : 1 ≤ n
  n100 : n ≤ 100
  pow : bs.length ^ n.toNat ≤ 100000
theorem BookOk.touch {bs : List Lead} {n : Int} (ok : BookOk bs n) {t : List Str} (l : t.length = n.toNat) (h : ∀ w ∈ t, w ∈ bs.map (·.1)) : TouchOk bs t ∧ t ≠ [] := by
  have := ok.n1
  have := ok.n100
  exact ⟨⟨ok.ne, h, ok.ps, by omega⟩, fun z => by subst z; simp at l; omega⟩
section
variable {A : Amb} {ds : List D} {s : A.S} {Q : D → A.S → Prop}
def S_true_parts : FS A := fun ds s Q => ∃ (st : Int) (bs : List Lead) (n : Int), ds = [.int st, bookD bs, .int n] ∧ 0 ≤ st ∧ st ≤ 1000 ∧ BookOk bs n ∧ Q (.list ((trueP bs st n.toNat).map touchD)) s
def TpsI (st : Int) (bs : List Lead) (n : Int) (s0 : A.S) (r : List D) (ρ : Rho) (s' : A.S) : Prop :=
  s' = s0 ∧ ∃ (ts G : List (List Str)) (c4 c5 : Cell), r = ts.map touchD ∧ (∀ t ∈ ts, t.length = n.toNat ∧ ∀ w ∈ t, w ∈ bs.map (·.1)) ∧ G ++ ts.filter (partB bs st) = trueP bs st n.toNat ∧ ρ = [.fz (.int st), .fz (bookD bs), .fz (.int n), .ol (G.map touchD), c4, c5]
theorem trueP_len {bs : List Lead} {st : Int} {n : Int} (ok : BookOk bs n) : (trueP bs st n.toNat).length ≤ 100000 := by
  refine Nat.le_trans (List.length_filter_le _ _) ?_
  rw [allT_len]
  exact ok.pow
theorem p_true_parts (h : S_true_parts ds s Q) : t_true_parts S_all_touches S_whole_of S_touch_paper (retE Q) (startR 6 ds) s := by
  obtain ⟨st, bs, n, rfl, h0, h1, ok, q⟩ := h
  have e : startR 6 [.int st, bookD bs, .int n] = [.fz (.int st), .fz (bookD bs), .fz (.int n), .un, .un, .un] := rfl
  have hs : 1000000 ≤ sizeLine := by decide
  have lb := ok.l100
  have b1 : 1 ≤ bs.length := List.length_pos_iff.mpr ok.ne
  have n1 := ok.n1
  have n100 := ok.n100
  have lt := trueP_len (st := st) ok
  unfold t_true_parts
  rw [e, q_dSeq]
  simp [-q_dSeq, -q_dIfS]
  rw [q_dSeq]
  refine for_of (xs := (allT bs n.toNat).map touchD) (fun k z => by simp; exact ⟨bs, n, rfl, by omega, n100, b1, lb, ok.pow, by simpa using z⟩) (TpsI st bs n s) ⟨rfl, allT bs n.toNat, [], .un, .un, rfl, fun t m => allT_mem m, rfl, rfl⟩ ?_ ?_
  · rintro x r ρ s' ⟨rfl, ts, G, c4, c5, hr, ht, hG, rfl⟩ D' hrt hbk hnx hct
    cases ts with
    | nil => cases hr
    | cons t ts =>
      obtain ⟨rfl, rfl⟩ := List.cons.inj hr
      obtain ⟨l1, hw⟩ := ht t (List.mem_cons_self ..)
      obtain ⟨okt, net⟩ := ok.touch l1 hw
      have lG : G.length ≤ 100000 := by
        have z := congrArg List.length hG
        rw [List.length_append] at z
        omega
      have next : ∀ (b : Bool) (c5 : Cell), b = partB bs st t → D'.nx [.fz (.int st), .fz (bookD bs), .fz (.int n), .ol ((if b = true then G ++ [t] else G).map touchD), .fz (touchD t), c5] s' := fun b c5 eb => by
        refine hnx _ _ ⟨rfl, ts, if b = true then G ++ [t] else G, .fz (touchD t), c5, rfl, fun u m => ht u (List.mem_cons_of_mem _ m), ?_, rfl⟩
        rw [List.filter_cons, ← eb] at hG
        cases b with
        | true => simpa using hG
        | false => simpa using hG
      simp
      refine ⟨st, bs, t, rfl, h0, h1, by omega, okt, net, ?_⟩
      by_cases le : ordT bs st t * t.length ≤ 200
      · have ew : wholeD bs st t = touchD (wholeW bs st t) := by unfold wholeD; rw [if_pos le]
        rw [ew]
        obtain ⟨d1, d2⟩ := due_eq bs st (wholeW bs st t)
        have ep : partB bs st t = isN (repD [] 0 (RT bs st (wholeW bs st t))) := by unfold partB; rw [decide_eq_true le, Bool.true_and]
        have nn : isN (touchD (wholeW bs st t)) = false := rfl
        have nd : notDict (touchD (wholeW bs st t)) := trivial
        simp [nn, nd]
        refine ⟨st, bs, wholeW bs st t, rfl, h0, h1, wholeW_ok okt le, ?_⟩
        refine ⟨by omega, ?_⟩
        rw [d2]
        refine ⟨d1, ?_⟩
        cases hb : isN (repD [] 0 (RT bs st (wholeW bs st t))) with
        | true =>
          simp
          have z := next true (.fz (touchD (wholeW bs st t))) (by rw [ep, hb])
          exact ⟨by omega, by simpa using z⟩
        | false =>
          simp
          have z := next false (.fz (touchD (wholeW bs st t))) (by rw [ep, hb])
          simpa using z
      · have ew : wholeD bs st t = .none := by unfold wholeD; rw [if_neg le]
        have ep : partB bs st t = false := by unfold partB; rw [decide_eq_false le, Bool.false_and]
        rw [ew]
        have nd : notDict .none := trivial
        simp [isN, nd]
        have z := next false (.fz .none) ep.symm
        simpa using z
  · rintro ρ s' ⟨rfl, ts, G, c4, c5, hr, ht, hG, rfl⟩
    have : ts = [] := List.map_eq_nil_iff.mp hr.symm
    subst this
    rw [List.filter_nil, List.append_nil] at hG
    subst hG
    simpa using q
end
end Dl
/-! Alike methods: what stays. -/
namespace Dl
open PySem L2
/-! ### pieces that lead back -/
def IdP (n : Nat) (cs : List (List Int)) : Prop := ∀ xs : List Int, xs.length = n → lastG cs xs = xs
theorem lastG_app {α : Type} : ∀ (a b : List (List Int)) (xs : List α), lastG (a ++ b) xs = lastG b (lastG a xs)
  | [], _, _ => rfl
  | c :: a, b, xs => by rw [List.cons_append, lastG, lastG, lastG_app a b]
theorem twice {α : Type} (c : List Int) (xs : List α) : rungG c (rungG c xs 1) 1 = xs := rungG_twice c _ xs 1 (Nat.le_refl _)
theorem last_rev {α : Type} : ∀ (cs : List (List Int)) (xs : List α), lastG cs.reverse (lastG cs xs) = xs
  | [], _ => rfl
  | c :: r, xs => by
    have e := last_rev r (rungG c xs 1)
    rw [List.reverse_cons, lastG_app]
    show lastG [c] (lastG r.reverse (lastG r (rungG c xs 1))) = xs
    rw [e]
    exact twice c xs
theorem last_rev' {α : Type} (cs : List (List Int)) (xs : List α) : lastG cs (lastG cs.reverse xs) = xs := by
  have := last_rev cs.reverse xs
  rwa [List.reverse_reverse] at this
theorem idP_iff {n : Nat} {cs : List (List Int)} : IdP n cs ↔ lastG cs (oneTo n) = oneTo n := by
  constructor
  · exact fun h => h _ (oneTo_len n)
  · intro h xs hl
    have e := lastG_map (mapR xs) cs (oneTo xs.length)
    rw [hl, h, ← hl, map_oneTo] at e
    exact e
theorem idP_app {n : Nat} {a b : List (List Int)} (h : IdP n (a ++ b)) : IdP n a ↔ IdP n b := by
  constructor
  · intro g xs hl
    have z := h xs hl
    rw [lastG_app, g xs hl] at z
    exact z
  · intro g xs hl
    have z := h xs hl
    rw [lastG_app, g _ (by rw [lastG_len, hl])] at z
    exact z
theorem idP_rev {n : Nat} {cs : List (List Int)} (h : IdP n cs) : IdP n cs.reverse := fun xs hl => by
  have z := last_rev cs xs
  rwa [h xs hl] at z
theorem idP_rev_iff {n : Nat} {cs : List (List Int)} : IdP n cs.reverse ↔ IdP n cs := by
  constructor
  · intro h
    have z := idP_rev h
    rwa [List.reverse_reverse] at z
  · exact idP_rev
theorem idP_rot {n : Nat} {x : List Int} {r : List (List Int)} : IdP n (r ++ [x]) ↔ IdP n (x :: r) := by
  constructor
  · intro h xs hl
    have z := h (rungG x xs 1) (by rw [rungG_length, hl])
    rw [lastG_app] at z
    have z' : rungG x (lastG r (rungG x xs 1)) 1 = rungG x xs 1 := z
    have y := congrArg (fun l => rungG x l 1) z'
    simp only [twice] at y
    exact y
  · intro h xs hl
    have z := h (rungG x xs 1) (by rw [rungG_length, hl])
    rw [lastG, twice] at z
    rw [lastG_app, z]
    exact twice x xs
/-- one change so, the other way round -/
def MirR (n : Nat) (c d : List Int) : Prop := ∀ xs : List Int, xs.length = n → rungG d xs.reverse 1 = (rungG c xs 1).reverse
theorem mir_last {n : Nat} {φ : List Int → List Int} : ∀ {cs : List (List Int)} (xs : List Int), (∀ c ∈ cs, MirR n c (φ c)) → xs.length = n → lastG (cs.map φ) xs.reverse = (lastG cs xs).reverse
  | [], _, _, _ => rfl
  | c :: r, xs, h, hl => by
    rw [List.map_cons, lastG, lastG, h c (List.mem_cons_self ..) xs hl]
    exact mir_last _ (fun d m => h d (List.mem_cons_of_mem _ m)) (by rw [rungG_length, hl])
theorem idP_mir {n : Nat} {φ : List Int → List Int} {cs : List (List Int)} (h : ∀ c ∈ cs, MirR n c (φ c)) : IdP n (cs.map φ) ↔ IdP n cs := by
  constructor
  · intro g xs hl
    have z := mir_last xs h hl
    rw [g _ (by rw [List.length_reverse, hl])] at z
    exact (List.reverse_inj.mp z).symm
  · intro g xs hl
    have z := mir_last xs.reverse h (by rw [List.length_reverse, hl])
    rw [g _ (by rw [List.length_reverse, hl]), List.reverse_reverse] at z
    exact z
/-! ### a row twice -/
def Bad (n : Nat) (cs : List (List Int)) : Prop := ∃ a b d, cs = a ++ (b ++ d) ∧ b ≠ [] ∧ d ≠ [] ∧ IdP n b
theorem bad_rev {n : Nat} {cs : List (List Int)} (hid : IdP n cs) (h : Bad n cs) : Bad n cs.reverse := by
  obtain ⟨a, b, d, rfl, hb, hd, hi⟩ := h
  cases a with
  | nil =>
    refine ⟨[], d.reverse, b.reverse, by simp, by simpa using hd, by simpa using hb, ?_⟩
    exact idP_rev ((idP_app (a := b) (b := d) (by simpa using hid)).mp hi)
  | cons x a =>
    exact ⟨d.reverse, b.reverse, (x :: a).reverse, by simp, by simpa using hb, by simp, idP_rev hi⟩
theorem bad_rot {n : Nat} {x : List Int} {r : List (List Int)} (hid : IdP n (x :: r)) (h : Bad n (x :: r)) : Bad n (r ++ [x]) := by
  obtain ⟨a, b, d, e, hb, hd, hi⟩ := h
  cases a with
  | nil =>
    cases b with
    | nil => exact (hb rfl).elim
    | cons y b =>
      obtain ⟨rfl, rfl⟩ := List.cons.inj (show x :: r = y :: (b ++ d) from e)
      exact ⟨b, d, [x], by simp, hd, by simp, (idP_app (a := x :: b) (b := d) hid).mp hi⟩
  | cons y a =>
    obtain ⟨rfl, rfl⟩ := List.cons.inj (show x :: r = y :: (a ++ (b ++ d)) from e)
    exact ⟨a, b, d ++ [x], by simp, hb, by simp, hi⟩
theorem bad_mir {n : Nat} {φ : List Int → List Int} {cs : List (List Int)} (h : ∀ c ∈ cs, MirR n c (φ c)) : Bad n (cs.map φ) ↔ Bad n cs := by
  constructor
  · rintro ⟨a, b, d, e, hb, hd, hi⟩
    obtain ⟨a', z, rfl, ea, ez⟩ := List.map_eq_append_iff.mp e
    obtain ⟨b', d', rfl, eb, ed⟩ := List.map_eq_append_iff.mp ez
    refine ⟨a', b', d', rfl, fun z => hb (by rw [← eb, z]; rfl), fun z => hd (by rw [← ed, z]; rfl), ?_⟩
    rw [← eb] at hi
    exact (idP_mir fun c m => h c (by simp [m])).mp hi
  · rintro ⟨a, b, d, rfl, hb, hd, hi⟩
    refine ⟨a.map φ, b.map φ, d.map φ, by simp, by simpa using hb, by simpa using hd, ?_⟩
    exact (idP_mir fun c m => h c (by simp [m])).mpr hi
/-! ### rows twice -/
theorem mem_rows : ∀ {cs : List (List Int)} {xs y : List Int}, y ∈ (rowsG cs xs).dropLast ↔ ∃ b d, cs = b ++ d ∧ d ≠ [] ∧ lastG b xs = y
  | [], xs, y => by
    constructor
    · intro m; simp [rowsG] at m
    · rintro ⟨b, d, e, hd, _⟩
      exact (hd (List.append_eq_nil_iff.mp e.symm).2).elim
  | c :: r, xs, y => by
    have e : (rowsG (c :: r) xs).dropLast = xs :: (rowsG r (rungG c xs 1)).dropLast := by
      rw [rowsG, List.dropLast_cons_of_ne_nil (rowsG_ne _ _)]
    rw [e, List.mem_cons, mem_rows (cs := r)]
    constructor
    · rintro (rfl | ⟨b, d, rfl, hd, h⟩)
      · exact ⟨[], c :: r, rfl, by simp, rfl⟩
      · exact ⟨c :: b, d, rfl, hd, h⟩
    · rintro ⟨b, d, e, hd, h⟩
      cases b with
      | nil => exact .inl h.symm
      | cons z b =>
        obtain ⟨rfl, rfl⟩ := List.cons.inj (show c :: r = z :: (b ++ d) from e)
        exact .inr ⟨b, d, rfl, hd, h⟩
theorem nodup_rows : ∀ {cs : List (List Int)} {xs : List Int}, (rowsG cs xs).dropLast.Nodup ↔ ¬ ∃ a b d, cs = a ++ (b ++ d) ∧ b ≠ [] ∧ d ≠ [] ∧ lastG b (lastG a xs) = lastG a xs
  | [], xs => by
    constructor
    · rintro _ ⟨a, b, d, e, hb, _⟩
      exact hb (List.append_eq_nil_iff.mp (List.append_eq_nil_iff.mp e.symm).2).1
    · intro _
      simp [rowsG]
  | c :: r, xs => by
    have e : (rowsG (c :: r) xs).dropLast = xs :: (rowsG r (rungG c xs 1)).dropLast := by
      rw [rowsG, List.dropLast_cons_of_ne_nil (rowsG_ne _ _)]
    rw [e, List.nodup_cons, nodup_rows (cs := r), mem_rows]
    constructor
    · rintro ⟨h1, h2⟩ ⟨a, b, d, e, hb, hd, h⟩
      cases a with
      | nil =>
        cases b with
        | nil => exact hb rfl
        | cons z b =>
          obtain ⟨rfl, rfl⟩ := List.cons.inj (show c :: r = z :: (b ++ d) from e)
          exact h1 ⟨b, d, rfl, hd, h⟩
      | cons z a =>
        obtain ⟨rfl, rfl⟩ := List.cons.inj (show c :: r = z :: (a ++ (b ++ d)) from e)
        exact h2 ⟨a, b, d, rfl, hb, hd, h⟩
    · intro h
      constructor
      · rintro ⟨b, d, rfl, hd, g⟩
        exact h ⟨[], c :: b, d, rfl, by simp, hd, g⟩
      · rintro ⟨a, b, d, rfl, hb, hd, g⟩
        exact h ⟨c :: a, b, d, rfl, hb, hd, g⟩
theorem rowsN_nodup {st : Int} {cs : List (List Int)} : (rowsN st cs).Nodup ↔ ¬ Bad st.toNat cs := by
  unfold rowsN
  rw [nodup_rows]
  refine not_congr ⟨?_, ?_⟩
  · rintro ⟨a, b, d, rfl, hb, hd, h⟩
    refine ⟨a, b, d, rfl, hb, hd, fun zs hz => ?_⟩
    have g : ∀ xs : List Int, xs.length = st.toNat → lastG b (lastG a xs) = lastG a xs := fun xs hl => by
      have e1 := lastG_map (mapR xs) a (oneTo xs.length)
      have e2 := lastG_map (mapR xs) b (lastG a (oneTo xs.length))
      rw [map_oneTo] at e1
      rw [hl] at e1 e2
      rw [h, ← e1] at e2
      exact e2
    have z := g (lastG a.reverse zs) (by rw [lastG_len, hz])
    rwa [last_rev'] at z
  · rintro ⟨a, b, d, rfl, hb, hd, h⟩
    exact ⟨a, b, d, rfl, hb, hd, h _ (by rw [lastG_len, oneTo_len])⟩
theorem keyI_inj {a b : List Int} (h : keyI a = keyI b) : a = b := by
  unfold keyI at h
  exact List.map_inj_right (fun _ _ e => by injection e) |>.mp h
theorem repD_nodup : ∀ (rs : List (List Int)) (kvs : List (List Key × D)) (j : Nat) (seen : List (List Int)), (∀ c, valD kvs (keyI c) = none ↔ c ∉ seen) → (isN (repD kvs j rs) = true ↔ rs.Nodup ∧ ∀ c ∈ rs, c ∉ seen)
  | [], kvs, j, seen, h => by simp [repD, isN]
  | c :: r, kvs, j, seen, h => by
    rw [repD]
    cases hv : valD kvs (keyI c) with
    | some d =>
      have : c ∈ seen := by
        by_cases m : c ∈ seen
        · exact m
        · rw [(h c).mpr m] at hv
          cases hv
      constructor
      · intro z; cases z
      · intro z; exact (z.2 c (List.mem_cons_self ..) this).elim
    | none =>
      have ns := (h c).mp hv
      show isN (repD (putD kvs (keyI c) (.int (j : Nat))) (j + 1) r) = true ↔ _
      rw [putD_new hv, repD_nodup r _ (j + 1) (c :: seen) fun x => ?_]
      · rw [List.nodup_cons]
        constructor
        · rintro ⟨h1, h2⟩
          refine ⟨⟨fun m => (h2 c m) (List.mem_cons_self ..), h1⟩, fun x m => ?_⟩
          rcases List.mem_cons.mp m with rfl | m
          · exact ns
          · exact fun z => h2 x m (List.mem_cons_of_mem _ z)
        · rintro ⟨⟨h1, h2⟩, h3⟩
          refine ⟨h2, fun x m z => ?_⟩
          rcases List.mem_cons.mp z with rfl | z
          · exact h1 m
          · exact h3 x (List.mem_cons_of_mem _ m) z
      · rw [valD_snoc]
        by_cases e : x = c
        · subst e
          rw [hv]
          simp
        · have e' : ¬ keyI c = keyI x := fun z => e (keyI_inj z).symm
          cases hx : valD kvs (keyI x) with
          | some d =>
            have : x ∈ seen := by
              by_cases m : x ∈ seen
              · exact m
              · rw [(h x).mpr m] at hx
                cases hx
            simp [this]
          | none =>
            have := (h x).mp hx
            simp [this, e, e']
theorem pair_bad {st : Int} {cs : List (List Int)} : isN (pairD st cs) = true ↔ ¬ Bad st.toNat cs := by
  unfold pairD
  rw [repD_nodup _ _ _ [] (fun c => by simp [valD]), rowsN_nodup]
  simp
/-! ### orders -/
def repC (L : List (List Int)) (T : Nat) : List (List Int) := (List.replicate T L).flatten
theorem repC_succ {L : List (List Int)} {T : Nat} : repC L (T + 1) = L ++ repC L T := by
  unfold repC
  rw [List.replicate_succ, List.flatten_cons]
theorem powR_rep {st : Int} {L : List (List Int)} : ∀ T : Nat, powR (headN st L) T = lastG (repC L T) (oneTo st.toNat)
  | 0 => by
    unfold powR
    rw [headN_len]
    exact List.map_id' _
  | T + 1 => by
    rw [repC_succ, lastG_app, ← car_left, powR_rep T]
    have e := lastG_map (mapR (headN st L)) (repC L T) (oneTo st.toNat)
    have e2 : (oneTo st.toNat).map (mapR (headN st L)) = headN st L := by
      have := map_oneTo (headN st L)
      rwa [headN_len] at this
    rw [e2] at e
    exact e.symm
theorem back_rep {st : Int} {L : List (List Int)} {T : Nat} : backP (headN st L) T ↔ 1 ≤ T ∧ IdP st.toNat (repC L T) := by
  unfold backP
  rw [powR_rep, headN_len, idP_iff]
theorem ordN_eq {p q : List Int} (f : backP p = backP q) : ordN p = ordN q := by
  unfold ordN
  rw [f]
theorem ord_same {st : Int} {L M : List (List Int)} (h : ∀ T, 1 ≤ T → (IdP st.toNat (repC L T) ↔ IdP st.toNat (repC M T))) : ordH st L = ordH st M := by
  have e : ∀ k, backP (headN st L) k = backP (headN st M) k := fun k => propext (by
    rw [back_rep, back_rep]
    constructor
    · exact fun ⟨a, b⟩ => ⟨a, (h k a).mp b⟩
    · exact fun ⟨a, b⟩ => ⟨a, (h k a).mpr b⟩)
  exact ordN_eq (funext e)
theorem ordH_back (st : Int) (L : List (List Int)) : IdP st.toNat (repC L (ordH st L)) := (back_rep.mp (ordN_ok (headN_perm st L)).1).2
/-! ### alike -/
structure Alike (n : Nat) (L M : List (List Int)) : Prop where
  len : M.length = L.length
  id : ∀ T, 1 ≤ T → (IdP n (repC L T) ↔ IdP n (repC M T))
  bad : ∀ T, 1 ≤ T → IdP n (repC L T) → (Bad n (repC L T) ↔ Bad n (repC M T))
theorem Alike.refl {n : Nat} {L : List (List Int)} : Alike n L L := ⟨rfl, fun _ _ => Iff.rfl, fun _ _ _ => Iff.rfl⟩
theorem Alike.trans {n : Nat} {L M N : List (List Int)} (h : Alike n L M) (g : Alike n M N) : Alike n L N :=
  ⟨g.len.trans h.len, fun T t => (h.id T t).trans (g.id T t), fun T t i => (h.bad T t i).trans (g.bad T t ((h.id T t).mp i))⟩
theorem repC_rev {L : List (List Int)} : ∀ T, repC L.reverse T = (repC L T).reverse := fun T => by
  unfold repC
  rw [List.reverse_flatten, List.map_replicate, List.reverse_replicate]
theorem alike_rev {n : Nat} {L : List (List Int)} : Alike n L L.reverse := by
  refine ⟨List.length_reverse, fun T t => ?_, fun T t i => ?_⟩
  · rw [repC_rev, idP_rev_iff]
  · rw [repC_rev]
    refine ⟨bad_rev i, fun h => ?_⟩
    have z := bad_rev (idP_rev i) h
    rwa [List.reverse_reverse] at z
theorem alike_mir {n : Nat} {φ : List Int → List Int} {L : List (List Int)} (h : ∀ c ∈ L, MirR n c (φ c)) : Alike n L (L.map φ) := by
  have e : ∀ T, repC (L.map φ) T = (repC L T).map φ := fun T => by
    unfold repC
    rw [List.map_flatten, List.map_replicate]
  have hh : ∀ T, ∀ c ∈ repC L T, MirR n c (φ c) := fun T c m => by
    obtain ⟨r, hr, hx⟩ := List.mem_flatten.mp m
    rw [List.eq_of_mem_replicate hr] at hx
    exact h c hx
  refine ⟨List.length_map _, fun T t => ?_, fun T t i => ?_⟩
  · rw [e, idP_mir (hh T)]
  · rw [e, bad_mir (hh T)]
theorem rot_rep {x : List Int} {r : List (List Int)} : ∀ T, x :: repC (r ++ [x]) T = repC (x :: r) T ++ [x]
  | 0 => rfl
  | T + 1 => by
    rw [repC_succ, repC_succ, List.append_assoc, List.append_assoc, ← rot_rep T]
    simp
theorem rot_form {x : List Int} {r : List (List Int)} {T : Nat} (t : 1 ≤ T) : ∃ R, repC (x :: r) T = x :: R ∧ repC (r ++ [x]) T = R ++ [x] := by
  cases T with
  | zero => omega
  | succ T =>
    have z := rot_rep (x := x) (r := r) (T + 1)
    rw [repC_succ (L := x :: r)] at z
    refine ⟨r ++ repC (x :: r) T, by rw [repC_succ]; rfl, ?_⟩
    exact (List.cons.inj z).2
theorem bad_rot' {n : Nat} {x : List Int} {r : List (List Int)} (hid : IdP n (r ++ [x])) (h : Bad n (r ++ [x])) : Bad n (x :: r) := by
  have i2 := idP_rev hid
  have b2 := bad_rev hid h
  rw [List.reverse_append] at i2 b2
  have b3 := bad_rot (x := x) (r := r.reverse) i2 b2
  have i3 : IdP n (r.reverse ++ [x]) := idP_rot.mpr i2
  have b4 := bad_rev i3 b3
  simpa using b4
theorem alike_rot1 {n : Nat} {x : List Int} {r : List (List Int)} : Alike n (x :: r) (r ++ [x]) := by
  refine ⟨by simp, fun T t => ?_, fun T t i => ?_⟩
  · obtain ⟨R, e1, e2⟩ := rot_form (x := x) (r := r) t
    rw [e1, e2, idP_rot]
  · obtain ⟨R, e1, e2⟩ := rot_form (x := x) (r := r) t
    rw [e1] at i ⊢
    rw [e2]
    exact ⟨bad_rot i, bad_rot' (idP_rot.mpr i)⟩
theorem alike_rot {n : Nat} : ∀ (X Y : List (List Int)), Alike n (X ++ Y) (Y ++ X)
  | [], Y => by rw [List.append_nil]; exact Alike.refl
  | x :: X, Y => by
    have a : Alike n (x :: (X ++ Y)) ((X ++ Y) ++ [x]) := alike_rot1
    have b := alike_rot (n := n) X (Y ++ [x])
    rw [← List.append_assoc] at b
    have c := a.trans b
    rw [List.append_assoc] at c
    exact c
/-! ### what the law asks -/
theorem alike_ord {st : Int} {L M : List (List Int)} (h : Alike st.toNat L M) : ordH st M = ordH st L := (ord_same h.id).symm
theorem alike_true {st : Int} {L M : List (List Int)} (h : Alike st.toNat L M) : isN (pairD st (repC M (ordH st M))) = isN (pairD st (repC L (ordH st L))) := by
  have e := alike_ord h
  rw [e]
  have n1 := ordH_pos st L
  have b := h.bad _ n1 (ordH_back st L)
  have z : isN (pairD st (repC M (ordH st L))) = true ↔ isN (pairD st (repC L (ordH st L))) = true := by
    rw [pair_bad, pair_bad]
    exact not_congr b.symm
  exact Bool.eq_iff_iff.mpr z
/-! ### how great an order may be -/
theorem ordN_60 {p : List Int} (hp : p.Perm (oneTo p.length)) (h6 : p.length ≤ 6) : ordN p ≤ 60 := by
  have bk : backP p 60 := by
    refine ⟨by omega, ?_⟩
    have : ∀ x ∈ oneTo p.length, itF (mapR p) 60 x = x := fun x m => by
      have hx := oneTo_mem.mp m
      obtain ⟨k, k1, kn, hk⟩ := one_backB (mapR_in hp) (mapR_inj hp) hx.1 hx.2
      rcases (by omega : k = 1 ∨ k = 2 ∨ k = 3 ∨ k = 4 ∨ k = 5 ∨ k = 6) with rfl | rfl | rfl | rfl | rfl | rfl
      · exact itF_mul hk 60
      · exact itF_mul hk 30
      · exact itF_mul hk 20
      · exact itF_mul hk 15
      · exact itF_mul hk 12
      · exact itF_mul hk 10
    exact (List.map_congr_left this).trans (List.map_id' _)
  by_cases h : 60 < ordN p
  · exact ((ordN_ok hp).2 60 h bk).elim
  · omega
/-! ### mirrored changes -/
theorem ints_of {X : List D} (h : ∀ d ∈ X, d = .int (numD d)) : X = intsD (X.map numD) := by
  unfold intsD
  rw [List.map_map]
  have e : X.map (PyData.int ∘ numD) = X.map id := List.map_congr_left fun d m => (h d m).symm
  rw [e, List.map_id]
def mirC (st : Int) (c : List Int) : List Int := (sortD (intsD (c.map fun x => st + 1 - x))).map numD
theorem mirC_ok (st : Int) (c : List Int) : sortD (intsD (c.map fun x => st + 1 - x)) = intsD (mirC st c) := by
  unfold mirC
  have h : ∀ d ∈ sortD (intsD (c.map fun x => st + 1 - x)), d = .int (numD d) := fun d m => by
    have m' := (List.mergeSort_perm _ _).mem_iff.mp m
    obtain ⟨j, _, rfl⟩ := List.mem_map.mp m'
    rfl
  exact ints_of h
theorem mirC_mem {st : Int} {c : List Int} {x : Int} : x ∈ mirC st c ↔ x ∈ c.map fun x => st + 1 - x := by
  unfold mirC
  have p : ((sortD (intsD (c.map fun x => st + 1 - x))).map numD).Perm ((intsD (c.map fun x => st + 1 - x)).map numD) := (List.mergeSort_perm _ _).map _
  rw [p.mem_iff]
  unfold intsD
  rw [List.map_map]
  have e : (numD ∘ PyData.int) = fun x : Int => x := rfl
  rw [e, List.map_id']
theorem rungG_mem {α : Type} {a b : List Int} (h : ∀ x, x ∈ a ↔ x ∈ b) : ∀ (n : Nat) (xs : List α) (p : Int), xs.length ≤ n → rungG a xs p = rungG b xs p
  | _, [], _, _ => by simp [rungG]
  | _, [x], _, _ => by simp [rungG]
  | 0, x :: y :: r, _, hl => by simp at hl
  | n + 1, x :: y :: r, p, hl => by
    simp at hl
    rw [rungG, rungG, rungG_mem h n (y :: r) (p + 1) (by simp; omega), rungG_mem h n r (p + 2) (by omega)]
    simp only [h]
theorem mir_all {st : Int} (h3 : 3 ≤ st) (h6 : st ≤ 6) : ∀ c ∈ chS st, rungG (c.map fun x => st + 1 - x) (oneTo st.toNat).reverse 1 = (rungG c (oneTo st.toNat) 1).reverse := by
  have h : (chS st).all (fun c => decide (rungG (c.map fun x => st + 1 - x) (oneTo st.toNat).reverse 1 = (rungG c (oneTo st.toNat) 1).reverse)) = true := by
    rcases (by omega : st = 3 ∨ st = 4 ∨ st = 5 ∨ st = 6) with rfl | rfl | rfl | rfl <;> decide +kernel
  exact fun c m => of_decide_eq_true (List.all_eq_true.mp h c m)
theorem mirC_mir {st : Int} (h3 : 3 ≤ st) (h6 : st ≤ 6) {c : List Int} (m : c ∈ chS st) : MirR st.toNat c (mirC st c) := fun xs hl => by
  have e := mir_all h3 h6 c m
  rw [← rungG_mem (fun x => mirC_mem) _ _ 1 (Nat.le_refl _)] at e
  have e2 := congrArg (List.map (mapR xs)) e
  rw [← rungG_map _ _ _ _ 1 (Nat.le_refl _), List.map_reverse, List.map_reverse, ← rungG_map _ _ _ _ 1 (Nat.le_refl _), ← hl, map_oneTo] at e2
  exact e2
end Dl
/-! Methods that are alike. -/
namespace Dl
open PySem L2
def t_reversed_method {A : Amb} : DS A :=
  (dRet (dTup (dCons (dOp fIx (dVarB 0) (dC (.int 0))) (dCons (dRev (dOp fIx (dVarB 0) (dC (.int 1)))) dNil))))
def t_mirrored_method {A : Amb} (S_mirrored : FS A) : DS A :=
  (dRet (dTup (dCons (dOp fIx (dVarB 0) (dC (.int 0))) (dCons (dFn fTuple (dCons (dOfN (nComp (dIt (dOp fIx (dVarB 0) (dC (.int 1)))) (dgN 1) dYes (dCall S_mirrored (dCons (dOp fIx (dVarB 0) (dC (.int 0))) (dCons (dVar 1) dNil))) [1])) dNil)) dNil))))
def t_started_at {A : Amb} : DS A :=
  (dRet (dTup (dCons (dOp fIx (dVarB 0) (dC (.int 0))) (dCons (dOp fAdd (dSl (dOp fIx (dVarB 0) (dC (.int 1))) (oSome (dVarB 1)) oNone) (dSl (dOp fIx (dVarB 0) (dC (.int 1))) oNone (oSome (dVarB 1)))) dNil))))
def t_plain_length {A : Amb} (S_order_of S_head_of : FS A) : DS A :=
  (dRet (dOp fMul (dCall S_order_of (dCons (dCall S_head_of (dCons (dOp fIx (dVarB 0) (dC (.int 0))) (dCons (dOp fIx (dVarB 0) (dC (.int 1))) dNil))) dNil)) (dFn fLen (dCons (dOp fIx (dVarB 0) (dC (.int 1))) dNil))))
def t_L_method {A : Amb} (S_L_stage S_L_piece S_L_draw : FS A) : DS A :=
  (dSeq (dSet 2 (dCall S_L_stage (dCons (dVar 0) (dCons (dVar 1) dNil))))
  (dSeq (dSet 3 (dCall S_L_piece (dCons (dVar 0) (dCons (dVar 2) (dCons (dC (.int 20)) dNil)))))
  (dSeq (dIfS (dTest (dOp fLt (dFn fLen (dCons (dVarB 3) dNil)) (dC (.int 2))))
  (dSet 3 (dOp fAdd (dVarB 3) (dVarB 3)))
  dNx)
  (dSeq (dIfS (dAndT (dTest (dOp fEqU (dCall S_L_draw (dCons (dVar 0) (dCons (dC (.int 5)) dNil))) (dC (.int 0)))) (dTest (dOp fLe (dFn fLen (dCons (dVarB 3) dNil)) (dC (.int 20)))))
  (dSet 3 (dOp fMul (dVarB 3) (dOp fAdd (dC (.int 2)) (dCall S_L_draw (dCons (dVar 0) (dCons (dC (.int 2)) dNil))))))
  dNx)
  (dRet (dTup (dCons (dVar 2) (dCons (dVar 3) dNil))))))))
/-- a method -/
def methD (st : Int) (L : List (List Int)) : D := .tuple [.int st, .tuple (L.map tupI)]
theorem meth0 (st : Int) (L : List (List Int)) : atI [PyData.int st, PyData.tuple (L.map tupI)] 0 = some (.int st) := rfl
theorem meth1 (st : Int) (L : List (List Int)) : atI [PyData.int st, PyData.tuple (L.map tupI)] 1 = some (.tuple (L.map tupI)) := rfl
section
variable {A : Amb} {ds : List D} {s : A.S} {Q : D → A.S → Prop}
def S_reversed_method : FS A := fun ds s Q => ∃ (st : Int) (L : List (List Int)), ds = [methD st L] ∧ L.length ≤ 10000 ∧ Q (methD st L.reverse) s
theorem p_reversed_method (h : S_reversed_method ds s Q) : t_reversed_method (retE Q) (startR 1 ds) s := by
  obtain ⟨st, L, rfl, hl, q⟩ := h
  have e : startR 1 [methD st L] = [.fz (methD st L)] := rfl
  have hs : 100000 ≤ sizeLine := by decide
  unfold t_reversed_method
  unfold methD at *
  rw [List.map_reverse] at q
  simp [e, meth0, meth1]
  exact ⟨by omega, q⟩
def S_mirrored_method : FS A := fun ds s Q => ∃ (st : Int) (L : List (List Int)), ds = [methD st L] ∧ L.length ≤ 10000 ∧ (∀ c ∈ L, c.length ≤ 1000) ∧ Q (methD st (L.map (mirC st))) s
theorem p_mirrored_method (h : S_mirrored_method ds s Q) : t_mirrored_method S_mirrored (retE Q) (startR 2 ds) s := by
  obtain ⟨st, L, rfl, hl, hc, q⟩ := h
  have e : startR 2 [methD st L] = [.fz (methD st L), .un] := rfl
  have hs : 100000 ≤ sizeLine := by decide
  unfold t_mirrored_method
  unfold methD at *
  simp [e, meth0, meth1]
  refine comp_pure (xs := L.map tupI) (fun k z => by simp [meth1]; exact z) (by simp) (by rw [List.length_map]; omega) (fun x => match x with | .tuple ys => some (.tuple (sortD (intsD ((ys.map numD).map fun c => st + 1 - c)))) | _ => none) (fun x m s k z => ?_) ?_
  · obtain ⟨c, hm, rfl⟩ := List.mem_map.mp m
    have en : (intsD c).map numD = c := by
      unfold intsD
      rw [List.map_map]
      exact List.map_id' _
    simp only [tupI, en] at z
    simp
    exact ⟨st, c, rfl, hc c hm, z⟩
  · have ee : (L.map tupI).filterMap (fun x => match x with | .tuple ys => some (.tuple (sortD (intsD ((ys.map numD).map fun c => st + 1 - c)))) | _ => none) = (L.map (mirC st)).map tupI := by
      rw [List.filterMap_map, List.map_map]
      have ef : ((fun x => match x with | .tuple ys => some (PyData.tuple (sortD (intsD ((ys.map numD).map fun c => st + 1 - c)))) | _ => none) ∘ tupI) = fun c => some ((tupI ∘ mirC st) c) := funext fun c => by
        have en : (intsD c).map numD = c := by
          unfold intsD
          rw [List.map_map]
          exact List.map_id' _
        show some (PyData.tuple (sortD (intsD (((intsD c).map numD).map fun c => st + 1 - c)))) = _
        rw [en, mirC_ok]
        rfl
      rw [ef]
      exact congrFun List.filterMap_eq_map' L
    rw [ee]
    simp
    exact ⟨by omega, by simpa using q⟩
def S_started_at : FS A := fun ds s Q => ∃ (st : Int) (L : List (List Int)) (k : Int), ds = [methD st L, .int k] ∧ 0 ≤ k ∧ L.length ≤ 10000 ∧ Q (methD st (L.drop k.toNat ++ L.take k.toNat)) s
theorem p_started_at (h : S_started_at ds s Q) : t_started_at (retE Q) (startR 2 ds) s := by
  obtain ⟨st, L, k, rfl, k0, hl, q⟩ := h
  have e : startR 2 [methD st L, .int k] = [.fz (methD st L), .fz (.int k)] := rfl
  have hs : 100000 ≤ sizeLine := by decide
  unfold t_started_at
  unfold methD at *
  rw [List.map_append, List.map_drop, List.map_take] at q
  simp [e, meth0, meth1]
  rw [cutD_to k0, cutD_from k0]
  simp
  refine ⟨by omega, by omega, by simpa using q⟩
def S_plain_length : FS A := fun ds s Q => ∃ (st : Int) (L : List (List Int)), ds = [methD st L] ∧ 0 ≤ st ∧ st ≤ 1000 ∧ L.length ≤ 10000 ∧ Q (.int ((ordH st L * L.length : Nat))) s
theorem p_plain_length (h : S_plain_length ds s Q) : t_plain_length S_order_of S_head_of (retE Q) (startR 1 ds) s := by
  obtain ⟨st, L, rfl, h0, h1, hl, q⟩ := h
  have e : startR 1 [methD st L] = [.fz (methD st L)] := rfl
  have hs : 100000 ≤ sizeLine := by decide
  unfold t_plain_length
  unfold methD at *
  simp [e, meth0, meth1]
  refine ⟨st, L, rfl, h0, h1, by omega, ?_⟩
  rw [oneTo_ints, last_ints]
  refine ⟨headN st L, rfl, headN_perm st L, by rw [headN_len]; omega, ?_⟩
  have eo : ordN (headN st L) = ordH st L := rfl
  rw [eo]
  have cm : CMul (ordH st L : Nat) (L.length : Nat) := .inr ⟨by omega, by omega⟩
  simp [cm]
  rw [Int.natCast_mul] at q
  exact q
end
section
variable {a : Addr} {ds : List D} {s : (poolA a).S} {Q : D → (poolA a).S → Prop}
def S_L_method (a : Addr) : FS (poolA a) := fun ds s Q => ∃ m : Int, ds = [refD a, .int m] ∧ 3 ≤ m ∧ m ≤ 8 ∧ ∀ (st : Int) (L : List (List Int)), 3 ≤ st → st ≤ m → (∀ c ∈ L, c ∈ chS st) → 2 ≤ L.length → L.length ≤ 60 → Q (methD st L) s
theorem p_L_method (h : S_L_method a ds s Q) : t_L_method (S_stage a) (S_L_piece a) (S_draw a) (retE Q) (startR 4 ds) s := by
  obtain ⟨m, rfl, m3, m8, q⟩ := h
  have e : startR 4 [refD a, .int m] = [.fz (refD a), .fz (.int m), .un, .un] := rfl
  have hs : 100000 ≤ sizeLine := by decide
  unfold t_L_method
  rw [e, q_dSeq]
  simp [-q_dSeq, -q_dIfS]
  refine ⟨m, rfl, m3, by omega, fun st s3 sm => ?_⟩
  dsimp only
  rw [q_dSeq]
  simp [-q_dSeq, -q_dIfS]
  refine ⟨st, 20, rfl, s3, by omega, by omega, by omega, fun P hP p1 p2 => ?_⟩
  obtain ⟨L, rfl, hL⟩ := changes_list hP
  rw [List.length_map] at p1 p2
  try dsimp only
  refine seq_inv (fun ρ' s' => s' = s ∧ ∃ M : List (List Int), (∀ c ∈ M, c ∈ chS st) ∧ 2 ≤ M.length ∧ M.length ≤ 20 ∧ ρ' = [.fz (refD a), .fz (.int m), .fz (.int st), .fz (.tuple (M.map tupI))]) ?_ fun U hU => ?_
  rotate_left
  · simp
    split
    · refine ⟨by omega, hU _ _ ⟨rfl, L ++ L, fun c mc => ?_, by rw [List.length_append]; omega, by rw [List.length_append]; omega, by rw [List.map_append]⟩⟩
      rcases List.mem_append.mp mc with mc | mc <;> exact hL c mc
    · exact hU _ _ ⟨rfl, L, hL, by omega, by simp at p2; omega, rfl⟩
  rintro ρ' s' ⟨rfl, M, hM, m2, m20, rfl⟩
  refine seq_inv (fun ρ' s'' => s'' = s' ∧ ∃ N : List (List Int), (∀ c ∈ N, c ∈ chS st) ∧ 2 ≤ N.length ∧ N.length ≤ 60 ∧ ρ' = [.fz (refD a), .fz (.int m), .fz (.int st), .fz (.tuple (N.map tupI))]) ?_ fun U hU => ?_
  · rintro ρ' s'' ⟨rfl, N, hN, n2, n60, rfl⟩
    simp
    exact ⟨by omega, q st N s3 sm hN n2 n60⟩
  · simp
    refine ⟨5, rfl, by omega, by omega, fun v v0 v5 => ?_⟩
    have stay : U [.fz (refD a), .fz (.int m), .fz (.int st), .fz (.tuple (M.map tupI))] s' := hU _ _ ⟨rfl, M, hM, m2, by omega, rfl⟩
    simp
    by_cases hv : v = 0
    · have l20 : (M.length : Int) ≤ 20 := by omega
      simp [hv, l20]
      refine ⟨2, rfl, by omega, by omega, fun w w0 w2 => ?_⟩
      simp
      refine ⟨fun z => by rw [List.map_eq_nil_iff] at z; subst z; simp at m2, by omega, ?_, ?_⟩
      · have : (2 + w).toNat ≤ 3 := by omega
        rw [List.length_map]
        exact Nat.le_trans (Nat.mul_le_mul m20 this) (by omega)
      · rw [rep_map]
        refine hU _ _ ⟨rfl, _, fun c mc => ?_, ?_, ?_, rfl⟩
        · obtain ⟨r, hr, hx⟩ := List.mem_flatten.mp mc
          rw [List.eq_of_mem_replicate hr] at hx
          exact hM c hx
        · rw [PyProof.Rows.lm_len_rep_flat]
          have : 1 ≤ (2 + w).toNat := by omega
          exact Nat.le_trans (by omega) (Nat.mul_le_mul this (Nat.le_refl M.length))
        · rw [PyProof.Rows.lm_len_rep_flat]
          have : (2 + w).toNat ≤ 3 := by omega
          exact Nat.le_trans (Nat.mul_le_mul this m20) (by omega)
    · simp [hv]
      exact stay
end
end Dl
/-! The law k28 over data. -/
namespace Dl
open PySem L2
def t_law_k28 {A : Amb} (S_L_method S_L_order S_L_rows S_L_head S_L_rounds S_L_repeat S_reversed_method S_mirrored_method S_started_at S_L_same S_course_of S_plain_length S_truth : FS A) : DS A :=
  (dSeq (dSet 2 (dCall S_L_method (dCons (dVar 1) (dCons (dC (.int 6)) dNil))))
  (dSeq (dAsg (dVar 2) (dgT 2 (dgsC (dgN 3) (dgsC (dgN 4) dgs0))))
  (dSeq (dSet 5 (dCall S_L_order (dCons (dCall S_L_head (dCons (dVar 3) (dCons (dVar 4) dNil))) dNil)))
  (dSeq (dSet 6 (dCall S_L_rows (dCons (dOp fMul (dVarB 4) (dVarB 5)) (dCons (dCall S_L_rounds (dCons (dVar 3) dNil)) dNil))))
  (dSeq (dSet 7 (dOp fIs (dCall S_L_repeat (dCons (dSl (dVarB 6) oNone (oSome (dUn fNeg (dC (.int 1))))) dNil)) (dC .none)))
  (dSeq (dSetN 8 (nLst (dCons (dVar 2) (dCons (dCall S_reversed_method (dCons (dVar 2) dNil)) (dCons (dCall S_mirrored_method (dCons (dVar 2) dNil)) (dCons (dCall S_reversed_method (dCons (dCall S_mirrored_method (dCons (dVar 2) dNil)) dNil)) dNil))))))
  (dSeq (dFor (dRg1 (dCons (dFn fLen (dCons (dVarB 4) dNil)) dNil)) (dgN 9)
  (dApp 8 (dCall S_started_at (dCons (dVar 2) (dCons (dVar 9) dNil)))))
  (dSeq (dFrz 8 (dFor (dIt (dVar 8)) (dgN 10)
  (dSeq (dIfS (dNotT (dTest (dCall S_L_same (dCons (dCall S_plain_length (dCons (dVar 10) dNil)) (dCons (dOp fSub (dFn fLen (dCons (dVarB 6) dNil)) (dC (.int 1))) dNil)))))
  (dRet (dC (.bool false)))
  dNx)
  (dIfS (dTest (dOp fLt (dFn fLen (dCons (dVarB 6) dNil)) (dC (.int 400))))
  (dSeq (dSet 11 (dCall S_course_of (dCons (dVar 3) (dCons (dOp fIx (dVarB 10) (dC (.int 1))) dNil))))
  (dIfS (dOrT (dNotT (dTest (dUn (fIsi .tuple) (dVarB 11)))) (dOrT (dTest (dOp fNeU (dFn fLen (dCons (dVarB 11) dNil)) (dOp fSub (dFn fLen (dCons (dVarB 6) dNil)) (dC (.int 1))))) (dNotT (dTest (dCall S_L_same (dCons (dOp fIx (dCall S_truth (dCons (dVar 3) (dCons (dVar 11) dNil))) (dC (.int 0))) (dCons (dIf (dTest (dVar 7)) (dC (.str "true")) (dC (.str "false"))) dNil)))))))
  (dRet (dC (.bool false)))
  dNx))
  dNx))))
  (dRet (dC (.bool true)))))))))))
@[simp] theorem q_methIx {st : Int} {M : List (List Int)} {k : D → Prop} : fIx (methD st M) (.int 1) k = k (.tuple (M.map tupI)) := by
  unfold methD
  rw [q_ixT, meth1]
  rfl
theorem same_bool {l : Nat} {A : Amb} {s : A.S} {Q : D → A.S → Prop} {i j : Int} (h : i = j) (q : Q (.bool true) s) : S_same (l + 1) [.int i, .int j] s Q := by
  subst h
  exact ⟨_, _, l, rfl, rfl, ⟨0, by simp [plainB]⟩, by cases l <;> simp [plainB], by rw [sameB_eq]; simpa using q⟩
theorem pair_form (st : Int) (cs : List (List Int)) : (pairD st cs = .none ∧ isN (pairD st cs) = true) ∨ ∃ i j : Int, pairD st cs = .tuple [.int i, .int j] ∧ isN (pairD st cs) = false := by
  rcases repD_form (rowsN st cs) [] 0 (fun k d z => nomatch z) with ef | ⟨i, t, _, _, ef⟩
  · exact .inl ⟨ef, by unfold pairD; rw [ef]; rfl⟩
  · exact .inr ⟨i, t, ef, by unfold pairD; rw [ef]; rfl⟩
def K28I (a : Addr) (n : Nat) (st : Int) (L : List (List Int)) (s0 : (poolA a).S) (ρ : Rho) (s' : (poolA a).S) : Prop :=
  s' = s0 ∧ ∃ (Ms : List (List (List Int))) (c9 c10 c11 : Cell), (∀ M ∈ Ms, Alike st.toNat L M) ∧ Ms.length ≤ n ∧ ρ = [.un, .fz (refD a), .fz (methD st L), .fz (.int st), .fz (.tuple (L.map tupI)), .fz (.int (ordH st L : Nat)), .fz (.list ((rowsG (repC L (ordH st L)) (oneTo st.toNat)).map tupI)), .fz (.bool (isN (pairD st (repC L (ordH st L))))), .ol (Ms.map (methD st)), c9, c10, c11]
theorem p_law_k28 (a : Addr) (s : (poolA a).S) : t_law_k28 (S_L_method a) S_order_of S_rows_of S_head_of S_rounds S_first_repeat S_reversed_method S_mirrored_method S_started_at (S_same 10) S_course_of S_plain_length S_truth (lawEnds _) (ρLaw a 10) s := by
  have e : ρLaw a 10 = [.un, .fz (refD a), .un, .un, .un, .un, .un, .un, .un, .un, .un, .un] := rfl
  have hs : 1000000 ≤ sizeLine := by decide
  unfold t_law_k28
  rw [e, q_dSeq]
  simp [-q_dSeq, -q_dIfS]
  refine ⟨6, rfl, by omega, by omega, fun st L s3 s6 hL l2 l60 => ?_⟩
  try dsimp only
  rw [q_dSeq]
  simp [-q_dSeq, -q_dIfS]
  refine ⟨rfl, ?_⟩
  rw [q_dgsC, q_dgN, q_dgsC, q_dgN, q_dgs0]
  refine ⟨rfl, ?_⟩
  simp only [List.set_cons_succ, List.set_cons_zero]
  have n1 := ordH_pos st L
  have n60 : ordH st L ≤ 60 := ordN_60 (headN_perm st L) (by rw [headN_len]; omega)
  have cl : (repC L (ordH st L)).length = ordH st L * L.length := by
    unfold repC
    rw [PyProof.Rows.lm_len_rep_flat]
  have big : ordH st L * L.length ≤ 60 * 60 := Nat.mul_le_mul n60 l60
  have eo : ordN (headN st L) = ordH st L := rfl
  refine seq_inv (fun ρ' s' => s' = s ∧ ρ' = [.un, .fz (refD a), .fz (methD st L), .fz (.int st), .fz (.tuple (L.map tupI)), .fz (.int (ordH st L : Nat)), .un, .un, .un, .un, .un, .un]) ?_ fun U hU => ?_
  rotate_left
  · simp [-q_dSeq, -q_dIfS]
    refine ⟨st, L, rfl, by omega, by omega, by omega, ?_⟩
    rw [oneTo_ints, last_ints]
    refine ⟨headN st L, rfl, headN_perm st L, by rw [headN_len]; omega, ?_⟩
    rw [eo]
    exact hU _ _ ⟨rfl, rfl⟩
  rintro ρ' s1 ⟨rfl, rfl⟩
  refine seq_inv (fun ρ' s' => s' = s1 ∧ ρ' = [.un, .fz (refD a), .fz (methD st L), .fz (.int st), .fz (.tuple (L.map tupI)), .fz (.int (ordH st L : Nat)), .fz (.list ((rowsG (repC L (ordH st L)) (oneTo st.toNat)).map tupI)), .un, .un, .un, .un, .un]) ?_ fun U hU => ?_
  rotate_left
  · simp [-q_dSeq, -q_dIfS]
    refine ⟨fun z => by rw [List.map_eq_nil_iff] at z; subst z; simp at l2, by omega, ?_, ?_⟩
    · rw [List.length_map, Int.toNat_natCast, Nat.mul_comm]
      omega
    · rw [Int.toNat_natCast, rep_map]
      refine ⟨st, rfl, by omega, by omega, ?_⟩
      refine ⟨repC L (ordH st L), _, rfl, by omega, by rw [rngD_length]; omega, ?_⟩
      rw [oneTo_ints, rows_ints]
      exact hU _ _ ⟨rfl, rfl⟩
  rintro ρ' s2 ⟨rfl, rfl⟩
  refine seq_inv (fun ρ' s' => s' = s2 ∧ ρ' = [.un, .fz (refD a), .fz (methD st L), .fz (.int st), .fz (.tuple (L.map tupI)), .fz (.int (ordH st L : Nat)), .fz (.list ((rowsG (repC L (ordH st L)) (oneTo st.toNat)).map tupI)), .fz (.bool (isN (pairD st (repC L (ordH st L))))), .un, .un, .un, .un]) ?_ fun U hU => ?_
  rotate_left
  · simp [-q_dSeq, -q_dIfS, cutD_last]
    refine ⟨rowsN st (repC L (ordH st L)), by rw [rowsN, List.map_dropLast], by rw [rowsN, List.length_dropLast, rowsG_len]; omega, ?_⟩
    exact ⟨repD_nd _, hU _ _ ⟨rfl, rfl⟩⟩
  rintro ρ' s3' ⟨rfl, rfl⟩
  have hc : ∀ c ∈ L, MirR st.toNat c (mirC st c) := fun c m => mirC_mir s3 s6 (hL c m)
  have hc8 : ∀ c ∈ L, c.length ≤ 1000 := fun c m => by
    have := (ch_wt s3 (by omega) c (hL c m)).2
    omega
  have am := alike_mir hc
  have lm : (L.map (mirC st)).length = L.length := List.length_map _
  refine seq_inv (K28I a 4 st L s3') ?_ fun U hU => ?_
  rotate_left
  · simp [-q_dSeq, -q_dIfS]
    refine ⟨st, L, rfl, by omega, ?_⟩
    refine ⟨st, L, rfl, by omega, hc8, ?_⟩
    refine ⟨st, L, rfl, by omega, hc8, ?_⟩
    refine ⟨st, L.map (mirC st), rfl, by omega, ?_⟩
    refine ⟨by omega, hU _ _ ⟨rfl, [L, L.reverse, L.map (mirC st), (L.map (mirC st)).reverse], _, _, _, fun M m => ?_, by simp, rfl⟩⟩
    simp only [List.mem_cons, List.not_mem_nil, or_false] at m
    rcases m with rfl | rfl | rfl | rfl
    · exact Alike.refl
    · exact alike_rev
    · exact am
    · exact am.trans alike_rev
  rintro ρ' s4 ⟨rfl, Ms, c9, c10, c11, hM, lM, rfl⟩
  refine seq_inv (K28I a 1000 st L s4) ?_ fun U hU => ?_
  rotate_left
  · refine for_of (xs := rngD 0 L.length) (fun k z => by simp [-q_dSeq, -q_dIfS]; exact ⟨by omega, z⟩) (fun r ρ' s' => (∀ x ∈ r, ∃ j : Nat, j < L.length ∧ x = .int (j : Nat)) ∧ r.length + 1 ≤ 100 ∧ s' = s4 ∧ ∃ (Ms : List (List (List Int))) (c9 c10 c11 : Cell), (∀ M ∈ Ms, Alike st.toNat L M) ∧ Ms.length + r.length ≤ 1000 ∧ ρ' = [.un, .fz (refD a), .fz (methD st L), .fz (.int st), .fz (.tuple (L.map tupI)), .fz (.int (ordH st L : Nat)), .fz (.list ((rowsG (repC L (ordH st L)) (oneTo st.toNat)).map tupI)), .fz (.bool (isN (pairD st (repC L (ordH st L))))), .ol (Ms.map (methD st)), c9, c10, c11]) ⟨fun x m => ?_, by rw [rngD_length]; omega, rfl, Ms, c9, c10, c11, hM, by rw [rngD_length]; omega, rfl⟩ ?_ ?_
    · obtain ⟨j, hj, rfl⟩ := mem_rngD m
      exact ⟨j, hj, by simp⟩
    · rintro x r ρ s' ⟨hr, hr1, rfl, Ms, c9, c10, c11, hM, lM, rfl⟩ D' hrt hbk hnx hct
      obtain ⟨j, hj, rfl⟩ := hr _ (List.mem_cons_self ..)
      simp at hr1 lM
      simp
      refine ⟨st, L, j, rfl, by omega, by omega, ?_⟩
      have ea : Alike st.toNat L (L.drop j ++ L.take j) := by
        have z := alike_rot (n := st.toNat) (L.take j) (L.drop j)
        rwa [List.take_append_drop] at z
      refine ⟨by omega, hnx _ _ ⟨fun x m => hr x (List.mem_cons_of_mem _ m), by omega, rfl, Ms ++ [L.drop j ++ L.take j], .fz (.int (j : Nat)), c10, c11, fun M m => ?_, by rw [List.length_append]; simp; omega, by simp⟩⟩
      rcases List.mem_append.mp m with m | m
      · exact hM M m
      · rw [List.mem_singleton.mp m]
        exact ea
    · rintro ρ s' ⟨hr, hr1, rfl, Ms, c9, c10, c11, hM, lM, rfl⟩
      exact hU _ _ ⟨rfl, Ms, c9, c10, c11, hM, by simpa using lM, rfl⟩
  rintro ρ' s5 ⟨rfl, Ns, d9, d10, d11, hN, lN, rfl⟩
  refine seq_inv (fun ρ' s' => True) ?_ fun U hU => ?_
  · rintro ρ' s' _
    simp
  rw [q_dFrz]
  simp only [frzR, List.getElem?_cons_succ, List.getElem?_cons_zero, frzC, List.set_cons_succ, List.set_cons_zero]
  refine for_of (xs := Ns.map (methD st)) (fun k z => by simpa using z) (fun r ρ' s' => s' = s5 ∧ ∃ (Ms : List (List (List Int))) (c9 c10 c11 : Cell), r = Ms.map (methD st) ∧ (∀ M ∈ Ms, Alike st.toNat L M) ∧ ρ' = [.un, .fz (refD a), .fz (methD st L), .fz (.int st), .fz (.tuple (L.map tupI)), .fz (.int (ordH st L : Nat)), .fz (.list ((rowsG (repC L (ordH st L)) (oneTo st.toNat)).map tupI)), .fz (.bool (isN (pairD st (repC L (ordH st L))))), .fz (.list (Ns.map (methD st))), c9, c10, c11]) ⟨rfl, Ns, _, _, _, rfl, hN, rfl⟩ ?_ (fun ρ s' _ => hU _ _ trivial)
  rintro x r ρ s' ⟨rfl, Ms, c9, c10, c11, hr, hM, rfl⟩ D' hrt hbk hnx hct
  cases Ms with
  | nil => cases hr
  | cons M Ms =>
    obtain ⟨rfl, rfl⟩ := List.cons.inj hr
    have al := hM M (List.mem_cons_self ..)
    have next : ∀ c11, D'.nx [.un, .fz (refD a), .fz (methD st L), .fz (.int st), .fz (.tuple (L.map tupI)), .fz (.int (ordH st L : Nat)), .fz (.list ((rowsG (repC L (ordH st L)) (oneTo st.toNat)).map tupI)), .fz (.bool (isN (pairD st (repC L (ordH st L))))), .fz (.list (Ns.map (methD st))), c9, .fz (methD st M), c11] s' := fun c11 => hnx _ _ ⟨rfl, Ms, _, _, _, rfl, fun N m => hM N (List.mem_cons_of_mem _ m), rfl⟩
    have eM := alike_ord al
    have tM := alike_true al
    have lM := al.len
    have lr : (rowsG (repC L (ordH st L)) (oneTo st.toNat)).length = ordH st L * L.length + 1 := by rw [rowsG_len, cl]
    simp only [q_dgN, List.set_cons_succ, List.set_cons_zero]
    refine seq_if ?_ fun U2 hU2 => ?_
    · simp [-q_dSeq]
      split
      · rename_i l400
        have lM' : ordH st M * M.length ≤ 5040 := by rw [eM, lM]; omega
        have ec : courseD st M = .tuple ((repC M (ordH st M)).map tupI) := by unfold courseD; rw [if_pos lM']; rfl
        have lc : (repC M (ordH st M)).length = ordH st L * L.length := by
          unfold repC
          rw [PyProof.Rows.lm_len_rep_flat, eM, lM]
        rw [q_dSeq]
        simp [-q_dSeq, -q_dIfS]
        refine ⟨st, M, rfl, by omega, by omega, by omega, by omega, ?_⟩
        rw [ec]
        simp [-q_dSeq]
        have ln : ((repC M (ordH st M)).length : Int) = ((rowsG (repC L (ordH st L)) (oneTo st.toNat)).length : Int) - 1 := by rw [lc, lr]; omega
        simp [ln]
        refine ⟨st, repC M (ordH st M), rfl, by omega, by omega, by omega, ?_⟩
        rcases pair_form st (repC M (ordH st M)) with ⟨ef, eb⟩ | ⟨i, j, ef, eb⟩
        · have a0 : atI [PyData.str (Str.ofString "true")] 0 = some (.str (Str.ofString "true")) := rfl
          rw [ef, ← tM, eb]
          simp [truthD, a0]
          have nx := next (.fz (.tuple ((repC M (ordH st M)).map tupI)))
          rw [← tM, eb] at nx
          refine ⟨_, _, 9, rfl, rfl, ⟨0, by decide +kernel⟩, by decide +kernel, ?_⟩
          rw [sameB_eq]
          simpa using nx
        · have a0 : atI [PyData.str (Str.ofString "false"), .int i, .int j] 0 = some (.str (Str.ofString "false")) := rfl
          rw [ef, ← tM, eb]
          simp [truthD, a0]
          have nx := next (.fz (.tuple ((repC M (ordH st M)).map tupI)))
          rw [← tM, eb] at nx
          refine ⟨_, _, 9, rfl, rfl, ⟨0, by decide +kernel⟩, by decide +kernel, ?_⟩
          rw [sameB_eq]
          simpa using nx
      · exact next _
    · simp
      refine ⟨st, M, rfl, by omega, by omega, by omega, ?_⟩
      refine same_bool ?_ ?_
      · rw [lr, eM, lM]
        omega
      · simpa using hU2
end Dl
/-! How many arguments each promise has: alike methods. -/
namespace Dl
open PySem L2
section
variable {A : Amb} {ds : List D} {s : A.S} {Q : D → A.S → Prop}
theorem len_reversed_method (h : S_reversed_method ds s Q) : ds.length = 1 := by obtain ⟨_, _, e, _⟩ := h; rw [e]; rfl
theorem len_mirrored_method (h : S_mirrored_method ds s Q) : ds.length = 1 := by obtain ⟨_, _, e, _⟩ := h; rw [e]; rfl
theorem len_started_at (h : S_started_at ds s Q) : ds.length = 2 := by obtain ⟨_, _, _, e, _⟩ := h; rw [e]; rfl
theorem len_plain_length (h : S_plain_length ds s Q) : ds.length = 1 := by obtain ⟨_, _, e, _⟩ := h; rw [e]; rfl
end
section
variable {a : Addr} {ds : List D} {s : (poolA a).S} {Q : D → (poolA a).S → Prop}
theorem len_L_method (h : S_L_method a ds s Q) : ds.length = 2 := by obtain ⟨_, e, _⟩ := h; rw [e]; rfl
end
end Dl
/-! min of a list of data. -/
namespace Dl
open PySem L2 PySem.Spec PyProof.Rows PySem.W
/-- the item that is the least, over data -/
def rMinD (K : PySem.W.Frag) : List V → Hp → VK → Prop := fun vs H Q => ∃ (a : Addr) (xs : List V) (d : PyData) (ds : List PyData), vs = [V.ref a] ∧ SqL K H a xs ∧ DpAll K H xs (d :: ds) ∧ AllAlike (d :: ds) ∧ (∀ e ∈ d :: ds, e ≠ .none ∧ e.depth ≤ 60) ∧
  ∀ (i : Nat) (v : V), xs[i]? = some v → (d :: ds)[i]? = some (minD d ds) → Q v H
theorem depthAll_le {n : Nat} : ∀ {ds : List PyData}, (∀ d ∈ ds, d.depth ≤ n) → PyData.depthAll ds ≤ n
  | [], _ => Nat.zero_le _
  | d :: ds, h => by
    have a := h d (List.mem_cons_self ..)
    have b := depthAll_le fun e m => h e (List.mem_cons_of_mem _ m)
    simp only [PyData.depthAll]
    omega
theorem vals_get : ∀ {xs : List V} {vs : List Value}, Vals xs vs → ∀ {i : Nat} {v : Value}, vs[i]? = some v → ∃ x, xs[i]? = some x ∧ RelV x v
  | _, _, .nil, i, v, h => by simp at h
  | _, _, .cons r t, 0, v, h => by
    rw [List.getElem?_cons_zero] at h
    cases h
    exact ⟨_, rfl, r⟩
  | _, _, .cons r t, i + 1, v, h => by
    have h' := h
    rw [List.getElem?_cons_succ] at h'
    obtain ⟨x, hx, rx⟩ := vals_get t h'
    exact ⟨x, by rw [List.getElem?_cons_succ]; exact hx, rx⟩
theorem cr_minD {X : Cx} (hc : X.calm = true) (hu : X.A.units + 64 < cLine) : CallR X (.builtin "min") (rMinD X.K) := by
  intro pins s σ H vs us Q I r h
  obtain ⟨a, xs, d, ds, rfl, hs, hd, hal, hn, q⟩ := h
  rw [Vals.ref1 r]
  obtain ⟨its, rv, hl, hz⟩ := I.list hs
  obtain ⟨as, ra⟩ := Dp.readsAll I (d :: ds) _ _ hd rv
  have ha : AlikeAll (d :: ds) := ⟨hal, fun e m => (hn e m).1⟩
  have hdp : PyData.depthAll (d :: ds) ≤ 60 := depthAll_le fun e m => (hn e m).2
  have ra' : ReadsAll s.heap its.toArray.toList (d :: ds) as := ra
  have hn2 : its.toArray.size = ds.length + 1 := readsAll_len ra'
  refine call_min_walkH (iter_listW (A := X.A.in1) (I.ok.hd hc) hl.isList fun s₂ e W st hfp hw hk => ?_)
  refine ⟨_, _, _, _, _, _, _, s.heap, _, rfl, W, st, hfp, by omega, hw, hk, cmpIn_lt (A := X.A.in1) ra' ha (by show X.A.units + 1 + _ < _; omega), fun v s' hP m => ?_⟩
  obtain ⟨h', tk, rfl, hk'⟩ := moved_old e rfl m
  have e1 : its.toArray.size - 1 = ds.length := by omega
  have e2 := (argBest_fold dataLt PyData.none d ds ds.length (Nat.le_refl _))
  rw [List.take_length] at e2
  rw [e1] at hP
  have hP' : its[argBest (fun i j => dataLt ((d :: ds).getD i .none) ((d :: ds).getD j .none)) ds.length]? = some v := by simpa using hP
  obtain ⟨x, hx, rx⟩ := vals_get rv hP'
  have lt : argBest (fun i j => dataLt ((d :: ds).getD i .none) ((d :: ds).getD j .none)) ds.length < (d :: ds).length := by
    rw [List.length_cons]
    omega
  refine ⟨x, H, I.kept (t' := tk) hk', rx, q _ x hx ?_⟩
  rw [List.getElem?_eq_getElem lt]
  have e3 := e2.2
  rw [List.getD_eq_getElem?_getD, List.getElem?_eq_getElem lt] at e3
  rw [show (d :: ds)[argBest (fun i j => dataLt ((d :: ds).getD i .none) ((d :: ds).getD j .none)) ds.length] = minD d ds from e3]
/-- min(l), l not empty -/
def fMin1 : FN := fun xs k => match xs with
  | [.list (d :: ds)] => PyData.canLayAll0 (d :: ds) = true ∧ AllAlike (d :: ds) ∧ (∀ e ∈ d :: ds, e ≠ .none ∧ e.depth ≤ 60) ∧ k (minD d ds)
  | _ => False
theorem RpL.at_ {K : PySem.W.Frag} {F : Hp} : ∀ {vs : List V} {ds : List D}, RpL K F vs ds → ∀ {i : Nat} {v : V} {d : D}, vs[i]? = some v → ds[i]? = some d → Rp K F v d
  | _, _, .nil, i, v, d, h, _ => by simp at h
  | _, _, .cons r t, 0, v, d, h, g => by
    simp at h g
    subst h
    subst g
    exact r
  | _, _, .cons r t, i + 1, v, d, h, g => by
    rw [List.getElem?_cons_succ] at h g
    exact RpL.at_ t h g
theorem dn_minD {X : Cx} : DRN X.K (rMinD X.K) fMin1 := fun H P xs ds k Q dm b f kk => by
  unfold fMin1 at f
  split at f
  · obtain ⟨v, rfl, b1⟩ := b.one
    obtain ⟨a, vs, rfl, s1, r1⟩ := b1.list fzP_le
    exact ⟨a, vs, _, _, rfl, SqL.of s1, (r1.mono fzP_le).dp _ _ f.1, f.2.1, f.2.2.1, fun i v h1 h2 => kk v H _ (Same.refl _) (r1.at_ h1 h2) f.2.2.2⟩
  · exact f.elim
@[simp] theorem q_min1 {d : D} {ds : List D} {k : D → Prop} : fMin1 [.list (d :: ds)] k = (sortOk (d :: ds) ∧ k (minD d ds)) := by
  unfold fMin1 sortOk
  simp only [and_assoc]
end Dl
/-! Ways of methods: their orbits, the least of them. -/
namespace Dl
open PySem L2
/-! ### methods as data -/
theorem eqv_rows (X Y : List (List Int)) : PyData.eqv (.tuple (X.map tupI)) (.tuple (Y.map tupI)) = decide (X = Y) := by
  show PyData.eqvAll (X.map tupI) (Y.map tupI) = decide (X = Y)
  induction X generalizing Y with
  | nil => cases Y <;> simp [PyData.eqvAll]
  | cons x a ih =>
    cases Y with
    | nil => simp [PyData.eqvAll]
    | cons y b =>
      show (PyData.eqv (tupI x) (tupI y) && PyData.eqvAll (a.map tupI) (b.map tupI)) = _
      rw [ih, eqv_tupI, Bool.eq_iff_iff]
      simp
theorem eqv_meth (st sm : Int) (X Y : List (List Int)) : PyData.eqv (methD st X) (methD sm Y) = decide (st = sm ∧ X = Y) := by
  show (PyData.eqv (.int st) (.int sm) && (PyData.eqv (.tuple (X.map tupI)) (.tuple (Y.map tupI)) && true)) = _
  rw [eqv_rows, eqv_int, Bool.eq_iff_iff]
  simp
theorem plain_rows {L : List (List Int)} (hl : L.length ≤ 100000) (hc : ∀ c ∈ L, c.length ≤ 100000) : plainB 2 (.tuple (L.map tupI)) = true := by
  refine plain_tuple (n := 1) (fun x m => ?_) (by rw [List.length_map]; exact hl)
  obtain ⟨c, mc, rfl⟩ := List.mem_map.mp m
  exact plain_tuple (plain_ints c) (by rw [intsD_length]; exact hc c mc)
theorem plain_meth {st : Int} {L : List (List Int)} (hl : L.length ≤ 100000) (hc : ∀ c ∈ L, c.length ≤ 100000) : plainB 3 (methD st L) = true := by
  refine plain_tuple (n := 2) (fun x m => ?_) (by simp)
  simp only [List.mem_cons, List.not_mem_nil, or_false] at m
  rcases m with rfl | rfl
  · rfl
  · exact plain_rows hl hc
theorem eqOk_plain {n m : Nat} {x y : D} (hx : plainB n x = true) (hy : plainB m y = true) (hn : n ≤ 60) (hm : m ≤ 60) : eqOk x y := by
  unfold eqOk
  rw [shaped_plain hx hn, shaped_plain hy hm]
  simp
theorem alike_rows : ∀ X Y : List (List Int), PySem.W.alikeAll (X.map tupI) (Y.map tupI) = true
  | [], _ => by rw [List.map_nil, PySem.W.alikeAll]
  | _ :: _, [] => by rw [List.map_nil, List.map_cons, PySem.W.alikeAll]
  | x :: X, y :: Y => by
    rw [List.map_cons, List.map_cons, PySem.W.alikeAll, alike_rows X Y]
    simp only [tupI, PySem.W.alike, Bool.and_true]
    exact PySem.W.alike_ints x y
theorem sortOk_meth {st : Int} {Ls : List (List (List Int))} : sortOk (Ls.map (methD st)) := by
  refine ⟨?_, ?_, ?_⟩
  · induction Ls with
    | nil => rfl
    | cons L Ls ih =>
      rw [List.map_cons, PyData.canLayAll0, ih]
      have : PyData.canLayAll0 (L.map tupI) = true := (sortOk_tupI L).1
      simp [methD, PyData.canLay0, PyData.canLayAll0, this]
  · intro d hd d' hd'
    obtain ⟨a, _, rfl⟩ := List.mem_map.mp hd
    obtain ⟨b, _, rfl⟩ := List.mem_map.mp hd'
    simp only [methD, PySem.W.alike, PySem.W.alikeAll, alike_rows, Bool.and_self, Bool.and_true]
  · intro d hd
    obtain ⟨a, _, rfl⟩ := List.mem_map.mp hd
    refine ⟨(fun z => nomatch z), ?_⟩
    have h2 : ∀ L : List (List Int), PyData.depthAll (L.map tupI) ≤ 1 := fun L => by
      induction L with
      | nil => simp [PyData.depthAll]
      | cons c L ih =>
        have : PyData.depthAll (intsD c) = 0 := PySem.W.depth_ints c
        simp only [List.map_cons, PyData.depthAll, tupI, PyData.depth, this]
        omega
    have := h2 a
    simp only [methD, PyData.depth, PyData.depthAll]
    omega
/-! ### their order -/
open PySem.W PyProof.Rows in
theorem lt_rows : ∀ X Y : List (List Int), rowLt (X.map tupI) (Y.map tupI) = decide (X < Y)
  | [], [] => by
    have e : rowLt [] [] = false := lex_irrefl _
    simp [e]
  | [], y :: ys => by
    have e : rowLt [] (tupI y :: ys.map tupI) = true := by
      unfold rowLt
      rw [toks_all_cons]
      simp only [keyToksAll]
      rw [lex_diff (O := itemOrd) (by simp)]
      rfl
    simpa using e
  | x :: xs, [] => by
    have e : rowLt (tupI x :: xs.map tupI) [] = false := by
      unfold rowLt
      rw [toks_all_cons]
      simp only [keyToksAll]
      rw [lex_diff (O := itemOrd) (by simp)]
      rfl
    simpa using e
  | x :: xs, y :: ys => by
    have al : alike (tupI x) (tupI y) = true := by
      simp only [tupI, alike]
      exact PySem.W.alike_ints x y
    have e : rowLt (tupI x :: xs.map tupI) (tupI y :: ys.map tupI) = if x = y then rowLt (xs.map tupI) (ys.map tupI) else decide (x < y) := by
      unfold rowLt
      rw [dataLt_cons al, dataLt_tupI, eqv_tupI]
      simp only [decide_eq_true_eq]
    show rowLt (tupI x :: xs.map tupI) (tupI y :: ys.map tupI) = _
    rw [e]
    by_cases h : x = y
    · rw [if_pos h, lt_rows xs ys]
      simp [h, List.cons_lt_cons_iff]
    · rw [if_neg h]
      simp [h, List.cons_lt_cons_iff]
open PySem.W in
theorem lt_meth (st : Int) (X Y : List (List Int)) : dataLt (methD st X) (methD st Y) = decide (X < Y) := by
  have a1 : alike (.int st) (.int st) = true := by simp [alike]
  have a2 : alike (.tuple (X.map tupI)) (.tuple (Y.map tupI)) = true := by
    simp only [alike]
    exact alike_rows X Y
  unfold methD
  rw [dataLt_pair a1 a2, eqv_int, eqv_rows]
  have e : dataLt (.tuple (X.map tupI)) (.tuple (Y.map tupI)) = decide (X < Y) := by
    rw [dataLt_tuple]
    exact lt_rows X Y
  rw [e]
  by_cases h : X = Y
  · subst h
    simp
  · simp [h]
/-- the least -/
def minL (x : List (List Int)) (xs : List (List (List Int))) : List (List Int) := xs.foldl (fun a y => if y < a then y else a) x
theorem minD_meth (st : Int) : ∀ (xs : List (List (List Int))) (x : List (List Int)), PySem.W.minD (methD st x) (xs.map (methD st)) = methD st (minL x xs)
  | [], x => rfl
  | y :: ys, x => by
    have ih := minD_meth st ys
    unfold PySem.W.minD minL at *
    rw [List.map_cons, List.foldl_cons, List.foldl_cons, lt_meth]
    by_cases h : y < x
    · simp only [h, decide_true, if_true]
      exact ih y
    · simp only [h, decide_false, if_false]
      exact ih x
def Least (x : List (List Int)) (S : List (List (List Int))) : Prop := x ∈ S ∧ ∀ y ∈ S, ¬ y < x
theorem lt_irr (x : List (List Int)) : ¬ x < x := List.lt_irrefl x
theorem lt_tri (x y : List (List Int)) (h1 : ¬ x < y) (h2 : ¬ y < x) : x = y := List.le_antisymm h2 h1
theorem lt_tr (x y z : List (List Int)) (h1 : ¬ y < x) (h2 : ¬ z < y) : ¬ z < x := by
  have a : x ≤ y := h1
  have b : y ≤ z := h2
  have c : x ≤ z := List.le_trans a b
  exact c
theorem minL_least : ∀ (xs : List (List (List Int))) (x : List (List Int)), Least (minL x xs) (x :: xs)
  | [], x => ⟨List.mem_singleton.mpr rfl, fun y m => by rw [List.mem_singleton.mp m]; exact lt_irr x⟩
  | y :: ys, x => by
    have e : minL x (y :: ys) = minL (if y < x then y else x) ys := rfl
    obtain ⟨m, l⟩ := minL_least ys (if y < x then y else x)
    rw [e]
    have k := l _ (List.mem_cons_self ..)
    refine ⟨?_, fun z hz => ?_⟩
    · rcases List.mem_cons.mp m with h | h
      · rw [h]
        split
        · exact List.mem_cons_of_mem _ (List.mem_cons_self ..)
        · exact List.mem_cons_self ..
      · exact List.mem_cons_of_mem _ (List.mem_cons_of_mem _ h)
    · rcases List.mem_cons.mp hz with rfl | hz
      · by_cases c : y < z
        · rw [if_pos c] at k ⊢
          exact lt_tr _ y z k fun q => absurd (List.lt_trans q c) (lt_irr z)
        · rw [if_neg c] at k ⊢
          exact k
      · rcases List.mem_cons.mp hz with rfl | hz
        · by_cases c : z < x
          · rw [if_pos c] at k ⊢
            exact k
          · rw [if_neg c] at k ⊢
            exact lt_tr _ x z k c
        · exact l z (List.mem_cons_of_mem _ hz)
theorem least_uniq {x y : List (List Int)} {S T : List (List (List Int))} (h : ∀ z, z ∈ S ↔ z ∈ T) (a : Least x S) (b : Least y T) : x = y :=
  lt_tri x y (b.2 x ((h x).mp a.1)) (a.2 y ((h y).mpr b.1))
theorem sort_meth (st : Int) (L : List (List (List Int))) : sortD (L.map (methD st)) = (L.mergeSort fun a b => !decide (b < a)).map (methD st) := by
  unfold sortD
  rw [List.map_mergeSort (r := fun a b => !decide (b < a)) (s := PySem.W.dataLe false id)]
  intro a _ b _
  show _ = (!PySem.W.dataLt (methD st b) (methD st a))
  rw [lt_meth]
theorem sort_least {L : List (List (List Int))} {x : List (List Int)} (h : (L.mergeSort fun a b => !decide (b < a))[0]? = some x) : Least x L := by
  have tr : ∀ a b c : List (List Int), (!decide (b < a)) = true → (!decide (c < b)) = true → (!decide (c < a)) = true := fun a b c h1 h2 => by
    simp only [Bool.not_eq_true', decide_eq_false_iff_not] at h1 h2 ⊢
    exact lt_tr a b c h1 h2
  have tot : ∀ a b : List (List Int), ((!decide (b < a)) || (!decide (a < b))) = true := fun a b => by
    simp only [Bool.or_eq_true, Bool.not_eq_true', decide_eq_false_iff_not]
    exact List.le_total a b
  have pw := List.pairwise_mergeSort tr tot L
  have pm := List.mergeSort_perm L fun a b => !decide (b < a)
  cases hL : L.mergeSort fun a b => !decide (b < a) with
  | nil => rw [hL] at h; cases h
  | cons y r =>
    rw [hL] at h pw pm
    have : y = x := by simpa using h
    subst this
    refine ⟨pm.mem_iff.mp (List.mem_cons_self ..), fun z m => ?_⟩
    rcases List.mem_cons.mp (pm.mem_iff.mpr m) with rfl | m
    · exact lt_irr z
    · have := List.rel_of_pairwise_cons pw m
      simpa using this
end Dl
/-! Ways of methods: their orbits. -/
namespace Dl
open PySem L2
/-! ### mirrored twice -/
theorem mirC_sort (st : Int) (c : List Int) : mirC st c = (c.map fun x => st + 1 - x).mergeSort fun i j => decide (i ≤ j) := by
  have h := mirC_ok st c
  rw [show sortD (intsD (c.map fun x => st + 1 - x)) = (intsD (c.map fun x => st + 1 - x)).mergeSort (PySem.W.dataLe false id) from rfl, sort_ints] at h
  unfold intsD at h
  exact (List.map_inj_right (fun a b e => by injection e) |>.mp h).symm
theorem sort_same {c d : List Int} (hp : d.Perm c) (hs : c.Pairwise (· ≤ ·)) : (d.mergeSort fun i j => decide (i ≤ j)) = c := by
  have pw := List.pairwise_mergeSort (le := fun i j : Int => decide (i ≤ j)) (fun a b c h1 h2 => by simp at *; omega) (fun a b => by simp; omega) d
  refine List.Perm.eq_of_pairwise (le := (· ≤ ·)) (fun a b _ _ h1 h2 => by omega) (pw.imp fun h => by simpa using h) hs ((List.mergeSort_perm _ _).trans hp)
theorem mirC_twice {st : Int} {c : List Int} (hs : c.Pairwise (· ≤ ·)) : mirC st (mirC st c) = c := by
  rw [mirC_sort, mirC_sort]
  refine sort_same ?_ hs
  have p := (List.mergeSort_perm (c.map fun x => st + 1 - x) fun i j => decide (i ≤ j)).map fun x => st + 1 - x
  refine p.trans ?_
  rw [List.map_map]
  have e : (fun x : Int => st + 1 - x) ∘ (fun x => st + 1 - x) = fun x => x := funext fun x => by simp only [Function.comp]; omega
  rw [e, List.map_id']
theorem mirC_len (st : Int) (c : List Int) : (mirC st c).length = c.length := by
  rw [mirC_sort, (List.mergeSort_perm _ _).length_eq, List.length_map]
theorem subsN_sorted : ∀ (n : Nat) (c : List Int), c ∈ subsN n → c.Pairwise (· ≤ ·) ∧ ∀ x ∈ c, x ≤ n
  | 0, c, m => by
    simp [subsN] at m
    subst m
    exact ⟨.nil, fun x m => nomatch m⟩
  | n + 1, c, m => by
    rcases List.mem_append.mp m with m | m
    · obtain ⟨h1, h2⟩ := subsN_sorted n c m
      exact ⟨h1, fun x m => by have := h2 x m; omega⟩
    · obtain ⟨r, hr, rfl⟩ := List.mem_map.mp m
      obtain ⟨h1, h2⟩ := subsN_sorted n r hr
      refine ⟨List.pairwise_append.mpr ⟨h1, List.pairwise_singleton _ _, fun x mx y my => ?_⟩, fun x m => ?_⟩
      · rw [List.mem_singleton.mp my]
        have := h2 x mx
        omega
      · rcases List.mem_append.mp m with m | m
        · have := h2 x m
          omega
        · rw [List.mem_singleton.mp m]
          omega
theorem ch_sorted {st : Int} {c : List Int} (m : c ∈ chS st) : c.Pairwise (· ≤ ·) := (subsN_sorted _ c (List.mem_filter.mp m).1).1
/-! ### ways -/
abbrev Wy := Bool × Bool × Nat
def phi (st : Int) (b : Bool) (c : List Int) : List Int := if b then mirC st c else c
def turnA (st : Int) (w : Wy) (L : List (List Int)) : List (List Int) :=
  let M := (if w.1 then L.reverse else L).map (phi st w.2.1)
  M.drop w.2.2 ++ M.take w.2.2
def waysA (n : Nat) : List Wy := [false, true].flatMap fun a => [false, true].flatMap fun b => (List.range n).map fun k => (a, b, k)
theorem mem_ways {n : Nat} {w : Wy} : w ∈ waysA n ↔ w.2.2 < n := by
  obtain ⟨a, b, k⟩ := w
  unfold waysA
  simp only [List.mem_flatMap, List.mem_map, List.mem_range, Prod.mk.injEq]
  constructor
  · rintro ⟨_, _, _, _, j, hj, rfl, rfl, rfl⟩
    exact hj
  · intro h
    exact ⟨a, by cases a <;> simp, b, by cases b <;> simp, k, h, rfl, rfl, rfl⟩
def ixT (a : Bool) (n k i : Nat) : Nat := if a then n - 1 - ((i + k) % n) else (i + k) % n
theorem modn {n x : Nat} (h : x < 2 * n) : x % n = if x < n then x else x - n := by
  by_cases c : x < n
  · rw [if_pos c, Nat.mod_eq_of_lt c]
  · rw [if_neg c, Nat.mod_eq_sub_mod (by omega), Nat.mod_eq_of_lt (by omega)]
theorem ixT_lt {a : Bool} {n k i : Nat} (h : i < n) : ixT a n k i < n := by
  have := Nat.mod_lt (i + k) (show 0 < n by omega)
  unfold ixT
  split <;> omega
theorem ixT_comp {a a' : Bool} {n k k' : Nat} (hk : k < n) (hk' : k' < n) : ∃ j, j < n ∧ ∀ i, i < n → ixT a n k (ixT a' n k' i) = ixT (a != a') n j i := by
  refine ⟨if a' then (k' + n - k) % n else (k' + k) % n, by split <;> exact Nat.mod_lt _ (by omega), fun i hi => ?_⟩
  cases a' <;> cases a <;> simp only [ixT, Bool.false_eq_true, if_false, if_true, Bool.bne_true, Bool.bne_false, Bool.not_false, Bool.not_true]
  · rw [modn (x := k' + k) (by omega), modn (x := i + k') (by omega)]
    split <;> split <;> (rw [modn (by omega), modn (by omega)]; split <;> split <;> omega)
  · rw [modn (x := k' + k) (by omega), modn (x := i + k') (by omega)]
    split <;> split <;> (rw [modn (by omega), modn (by omega)]; split <;> split <;> omega)
  · rw [modn (x := k' + n - k) (by omega), modn (x := i + k') (by omega)]
    split <;> split <;> (rw [modn (by omega), modn (by omega)]; split <;> split <;> omega)
  · rw [modn (x := k' + n - k) (by omega), modn (x := i + k') (by omega)]
    split <;> split <;> (rw [modn (by omega), modn (by omega)]; split <;> split <;> omega)
theorem ixT_back {a : Bool} {n k : Nat} (hk : k < n) : ∃ j, j < n ∧ ∀ i, i < n → ixT a n k (ixT a n j i) = i := by
  refine ⟨if a then k else (n - k) % n, by split; exact hk; exact Nat.mod_lt _ (by omega), fun i hi => ?_⟩
  cases a <;> simp only [ixT, Bool.false_eq_true, if_false, if_true]
  · rw [modn (x := n - k) (by omega)]
    split <;> (rw [modn (x := i + _) (by omega)]; split <;> (rw [modn (by omega)]; split <;> omega))
  · rw [modn (x := i + k) (by omega)]
    split <;> (rw [modn (by omega)]; split <;> omega)
theorem rot_get {M : List (List Int)} {k i : Nat} (hk : k < M.length) (hi : i < M.length) : (M.drop k ++ M.take k)[i]? = M[(i + k) % M.length]? := by
  rw [modn (by omega), List.getElem?_append, List.length_drop]
  by_cases c : i < M.length - k
  · rw [if_pos c, if_pos (by omega), List.getElem?_drop, Nat.add_comm]
  · rw [if_neg c, if_neg (by omega), List.getElem?_take, if_pos (by omega)]
    congr 1
    omega
theorem turn_len (st : Int) (w : Wy) (L : List (List Int)) : (turnA st w L).length = L.length := by
  have hl : ((if w.1 then L.reverse else L).map (phi st w.2.1)).length = L.length := by
    rw [List.length_map]
    split
    · exact List.length_reverse
    · rfl
  unfold turnA
  dsimp only
  rw [List.length_append, List.length_drop, List.length_take, hl]
  omega
theorem turn_get {st : Int} {a b : Bool} {k : Nat} {L : List (List Int)} (hk : k < L.length) {i : Nat} (hi : i < L.length) : (turnA st (a, b, k) L)[i]? = (L[ixT a L.length k i]?).map (phi st b) := by
  have hl : ((if a then L.reverse else L).map (phi st b)).length = L.length := by
    rw [List.length_map]
    split
    · exact List.length_reverse
    · rfl
  unfold turnA
  dsimp only
  rw [rot_get (by omega) (by omega), hl, List.getElem?_map]
  have lt := Nat.mod_lt (i + k) (show 0 < L.length by omega)
  cases a with
  | false => rfl
  | true =>
    simp only [if_true, ixT]
    rw [List.getElem?_reverse (by omega)]
theorem ext_get {X Y : List (List Int)} (hl : X.length = Y.length) (h : ∀ i, i < X.length → X[i]? = Y[i]?) : X = Y := by
  apply List.ext_getElem?
  intro i
  by_cases c : i < X.length
  · exact h i c
  · rw [List.getElem?_eq_none (by omega), List.getElem?_eq_none (by omega)]
section
variable {st : Int} {L : List (List Int)} (hs : ∀ c ∈ L, mirC st (mirC st c) = c)
include hs
theorem phi_comp {b b' : Bool} {c : List Int} (m : c ∈ L) : phi st b' (phi st b c) = phi st (b != b') c := by
  cases b <;> cases b' <;> simp [phi, hs c m]
theorem turn_comp {w w' : Wy} (h : w ∈ waysA L.length) (h' : w' ∈ waysA L.length) : ∃ v ∈ waysA L.length, turnA st w' (turnA st w L) = turnA st v L := by
  obtain ⟨a, b, k⟩ := w
  obtain ⟨a', b', k'⟩ := w'
  rw [mem_ways] at h h'
  dsimp only at h h'
  obtain ⟨j, hj, hx⟩ := ixT_comp (a := a) (a' := a') h h'
  refine ⟨(a != a', b != b', j), mem_ways.mpr hj, ext_get (by rw [turn_len, turn_len, turn_len]) fun i hi => ?_⟩
  rw [turn_len, turn_len] at hi
  have hl := turn_len st (a, b, k) L
  have i1 : ixT a' L.length k' i < L.length := ixT_lt hi
  rw [turn_get (by rw [hl]; exact h') (by rw [hl]; exact hi), hl, turn_get h i1, turn_get hj hi, hx i hi, Option.map_map]
  have i2 : ixT (a != a') L.length j i < L.length := ixT_lt hi
  rw [List.getElem?_eq_getElem i2]
  exact congrArg some (phi_comp hs (List.getElem_mem i2))
theorem turn_back {w : Wy} (h : w ∈ waysA L.length) : ∃ v ∈ waysA L.length, turnA st v (turnA st w L) = L := by
  obtain ⟨a, b, k⟩ := w
  rw [mem_ways] at h
  dsimp only at h
  obtain ⟨j, hj, hx⟩ := ixT_back (a := a) h
  refine ⟨(a, b, j), mem_ways.mpr hj, ext_get (by rw [turn_len, turn_len]) fun i hi => ?_⟩
  rw [turn_len, turn_len] at hi
  have hl := turn_len st (a, b, k) L
  have i1 : ixT a L.length j i < L.length := ixT_lt hi
  rw [turn_get (by rw [hl]; exact hj) (by rw [hl]; exact hi), hl, turn_get h i1, hx i hi, Option.map_map, List.getElem?_eq_getElem hi]
  refine congrArg some ?_
  show phi st b (phi st b L[i]) = L[i]
  rw [phi_comp hs (List.getElem_mem hi)]
  cases b <;> rfl
/-- the same are come by -/
theorem orbit_same {w : Wy} (h : w ∈ waysA L.length) (M : List (List Int)) : M ∈ (waysA L.length).map (fun v => turnA st v L) ↔ M ∈ (waysA (turnA st w L).length).map (fun v => turnA st v (turnA st w L)) := by
  rw [turn_len]
  have mir_in : ∀ v : Wy, ∀ c ∈ turnA st v L, ∃ d ∈ L, ∃ b, c = phi st b d := fun v c m => by
    obtain ⟨a, b, k⟩ := v
    unfold turnA at m
    dsimp only at m
    have m' : c ∈ (if a then L.reverse else L).map (phi st b) := by
      rcases List.mem_append.mp m with m | m
      · exact List.mem_of_mem_drop m
      · exact List.mem_of_mem_take m
    obtain ⟨d, hd, rfl⟩ := List.mem_map.mp m'
    refine ⟨d, ?_, b, rfl⟩
    cases a
    · exact hd
    · exact List.mem_reverse.mp hd
  have hs2 : ∀ c ∈ turnA st w L, mirC st (mirC st c) = c := fun c m => by
    obtain ⟨d, hd, b, rfl⟩ := mir_in w c m
    cases b
    · exact hs d hd
    · show mirC st (mirC st (mirC st d)) = mirC st d
      rw [hs d hd]
  constructor
  · intro m
    obtain ⟨v, hv, rfl⟩ := List.mem_map.mp m
    obtain ⟨u, hu, eu⟩ := turn_back hs h
    have hl := turn_len st w L
    obtain ⟨x, hx, ex⟩ := turn_comp (L := turnA st w L) hs2 (w := u) (w' := v) (by rw [hl]; exact hu) (by rw [hl]; exact hv)
    rw [eu] at ex
    rw [hl] at hx
    exact List.mem_map.mpr ⟨x, hx, ex.symm⟩
  · intro m
    obtain ⟨v, hv, rfl⟩ := List.mem_map.mp m
    obtain ⟨x, hx, ex⟩ := turn_comp hs h hv
    exact List.mem_map.mpr ⟨x, hx, ex.symm⟩
end
end Dl
/-! Ways of methods. -/
namespace Dl
open PySem L2
def t_turned {A : Amb} (S_started_at S_reversed_method S_mirrored_method : FS A) : DS A :=
  (dSeq (dIfS (dTest (dOp fEqU (dOp fIx (dVarB 1) (dC (.int 0))) (dC (.int 1))))
  (dSet 0 (dCall S_reversed_method (dCons (dVar 0) dNil)))
  dNx)
  (dSeq (dIfS (dTest (dOp fEqU (dOp fIx (dVarB 1) (dC (.int 1))) (dC (.int 1))))
  (dSet 0 (dCall S_mirrored_method (dCons (dVar 0) dNil)))
  dNx)
  (dRet (dCall S_started_at (dCons (dVar 0) (dCons (dOp fIx (dVarB 1) (dC (.int 2))) dNil))))))
def t_ways_of {A : Amb} : DS A :=
  (dSeq (dSetN 1 (nLst dNil))
  (dSeq (dFor (dIt (dTup (dCons (dC (.int 0)) (dCons (dC (.int 1)) dNil)))) (dgN 2)
  (dFor (dIt (dTup (dCons (dC (.int 0)) (dCons (dC (.int 1)) dNil)))) (dgN 3)
  (dExt 1 (dOfN (nComp (dRg1 (dCons (dFn fLen (dCons (dOp fIx (dVarB 0) (dC (.int 1))) dNil)) dNil)) (dgN 4) dYes (dTup (dCons (dVar 2) (dCons (dVar 3) (dCons (dVar 4) dNil)))) [4])))))
  (dFrz 1 (dRet (dVar 1)))))
def t_way_between {A : Amb} (S_ways_of S_turned : FS A) : DS A :=
  (dSeq (dFor (dIt (dCall S_ways_of (dCons (dVar 0) dNil))) (dgN 2)
  (dIfS (dTest (dOp fEqU (dCall S_turned (dCons (dVar 0) (dCons (dVar 2) dNil))) (dVarB 1)))
  (dRet (dVar 2))
  dNx))
  (dRet (dC .none)))
def t_normal_method {A : Amb} (S_turned S_ways_of : FS A) : DS A :=
  (dRet (dFn fMin1 (dCons (dOfN (nComp (dIt (dCall S_ways_of (dCons (dVar 0) dNil))) (dgN 1) dYes (dCall S_turned (dCons (dVar 0) (dCons (dVar 1) dNil))) [1])) dNil)))
def t_shortest_lead {A : Amb} : DS A :=
  (dSeq (dAsg (dVar 0) (dgT 2 (dgsC (dgN 1) (dgsC (dgN 2) dgs0))))
  (dSeq (dFor (dRg2 (dCons (dC (.int 2)) (dCons (dOp fAdd (dFn fLen (dCons (dVarB 2) dNil)) (dC (.int 1))) dNil))) (dgN 3)
  (dIfS (dAndT (dTest (dOp fEqU (dOp fMod (dFn fLen (dCons (dVarB 2) dNil)) (dVarB 3)) (dC (.int 0)))) (dTest (dOp fEqU (dOp fMul (dSl (dVarB 2) oNone (oSome (dVarB 3))) (dOp fDiv (dFn fLen (dCons (dVarB 2) dNil)) (dVarB 3))) (dVarB 2))))
  (dRet (dTup (dCons (dVar 1) (dCons (dSl (dVarB 2) oNone (oSome (dVarB 3))) dNil))))
  dNx))
  (dRet (dVar 0))))
def t_L_way {A : Amb} : DS A :=
  (dSeq (dAsg (dVar 0) (dgT 2 (dgsC (dgN 2) (dgsC (dgN 3) dgs0))))
  (dSeq (dSet 4 (dIf (dTest (dOp fEqU (dOp fIx (dVarB 1) (dC (.int 0))) (dC (.int 1)))) (dRev (dOfN (nFn gList (dCons (dVarB 3) dNil)))) (dOfN (nFn gList (dCons (dVarB 3) dNil)))))
  (dSeq (dIfS (dTest (dOp fEqU (dOp fIx (dVarB 1) (dC (.int 1))) (dC (.int 1))))
  (dSet 4 (dOfN (nComp (dIt (dVar 4)) (dgN 6) dYes (dFn fTuple (dCons (dOfN (nFn gSorted (dCons (dOfN (nComp (dIt (dVar 6)) (dgN 5) dYes (dOp fSub (dOp fAdd (dVarB 2) (dC (.int 1))) (dVarB 5)) [5])) dNil))) dNil)) [6])))
  dNx)
  (dRet (dTup (dCons (dVar 2) (dCons (dFn fTuple (dCons (dOp fAdd (dSl (dVarB 4) (oSome (dOp fIx (dVarB 1) (dC (.int 2)))) oNone) (dSl (dVarB 4) oNone (oSome (dOp fIx (dVarB 1) (dC (.int 2)))))) dNil)) dNil)))))))
theorem compW_map {S α : Type} {f : D → S → (Option D → S → Prop) → Prop} {F : α → D} {h : α → Option D} : ∀ {L : List α} {s : S} {Q : List D → S → Prop}, (∀ x ∈ L, ∀ s k, k (h x) s → f (F x) s k) → Q (L.filterMap h) s → compW f (L.map F) s Q
  | [], _, _, _, q => q
  | x :: xs, s, Q, hf, q => by
    refine hf x (List.mem_cons_self ..) s _ (compW_map (fun y m => hf y (List.mem_cons_of_mem _ m)) ?_)
    rw [List.filterMap_cons] at q
    cases e : h x with
    | none => rw [e] at q; exact q
    | some d => rw [e] at q; exact q
/-- a comprehension over things told by data -/
theorem comp_map {A : Amb} {α : Type} {it : DI A} {g : DG A} {tt : DT A} {te : DE A} {vs : List Nat} {ρ : Rho} {s : A.S} {QC : Cell → A.S → Prop} {L : List α} (F : α → D) (hi : ∀ k : List D → A.S → Prop, k (L.map F) s → it ρ s k) (cl : clean ρ vs) (hn : L.length ≤ sizeLine) (h : α → Option D)
    (hf : ∀ x ∈ L, ∀ (s : A.S) (k : Option D → A.S → Prop), k (h x) s → g (F x) (wipeR ρ vs) s fun ρ1 s1 => tt ρ1 s1 fun b s2 => if b = true then te ρ1 s2 fun d s3 => k (some d) s3 else k none s2) (q : QC (.ol (L.filterMap h)) s) : nComp it g tt te vs ρ s QC := by
  refine hi _ ⟨cl, by rw [List.length_map]; exact hn, compW_map (h := h) (fun x m s k q => ?_) q⟩
  have z := hf x m s k q
  have e : (fun ρ1 s1 => tt ρ1 s1 fun b s2 => match b with
    | true => te ρ1 s2 fun d s3 => k (some d) s3
    | false => k none s2) = fun ρ1 s1 => tt ρ1 s1 fun b s2 => if b = true then te ρ1 s2 fun d s3 => k (some d) s3 else k none s2 := by
    funext ρ1 s1
    congr 1
    funext b s2
    cases b <;> simp
  exact Eq.mpr (congrArg (g (F x) (wipeR ρ vs) s) e) z
theorem fm_map {α β : Type} {L : List α} {f : α → β} : L.filterMap (fun x => some (f x)) = L.map f := congrFun List.filterMap_eq_map' L
/-- a way as data -/
def wyI (w : Wy) : List Int := [if w.1 then 1 else 0, if w.2.1 then 1 else 0, (w.2.2 : Int)]
def wayD (w : Wy) : D := tupI (wyI w)
theorem way0 (w : Wy) {k : D → Prop} : fIx (wayD w) (.int 0) k = k (.int (if w.1 then 1 else 0)) := rfl
theorem way1 (w : Wy) {k : D → Prop} : fIx (wayD w) (.int 1) k = k (.int (if w.2.1 then 1 else 0)) := rfl
theorem way2 (w : Wy) {k : D → Prop} : fIx (wayD w) (.int 2) k = k (.int (w.2.2 : Nat)) := rfl
theorem turn_mem {st : Int} {w : Wy} {L : List (List Int)} {c : List Int} (m : c ∈ turnA st w L) : ∃ d ∈ L, ∃ b, c = phi st b d := by
  obtain ⟨a, b, k⟩ := w
  unfold turnA at m
  dsimp only at m
  have m' : c ∈ (if a then L.reverse else L).map (phi st b) := by
    rcases List.mem_append.mp m with m | m
    · exact List.mem_of_mem_drop m
    · exact List.mem_of_mem_take m
  obtain ⟨d, hd, rfl⟩ := List.mem_map.mp m'
  refine ⟨d, ?_, b, rfl⟩
  cases a
  · exact hd
  · exact List.mem_reverse.mp hd
theorem turn_lens {st : Int} {w : Wy} {L : List (List Int)} {n : Nat} (h : ∀ c ∈ L, c.length ≤ n) : ∀ c ∈ turnA st w L, c.length ≤ n := fun c m => by
  obtain ⟨d, hd, b, rfl⟩ := turn_mem m
  unfold phi
  split
  · rw [mirC_len]; exact h d hd
  · exact h d hd
theorem map_phi_f {st : Int} {L : List (List Int)} : L.map (phi st false) = L := List.map_id' _
theorem map_phi_t {st : Int} {L : List (List Int)} : L.map (phi st true) = L.map (mirC st) := rfl
/-- what is asked of a method -/
def MethOk (L : List (List Int)) : Prop := 1 ≤ L.length ∧ L.length ≤ 10000 ∧ ∀ c ∈ L, c.length ≤ 1000
theorem MethOk.turn {st : Int} {w : Wy} {L : List (List Int)} (h : MethOk L) : MethOk (turnA st w L) := ⟨by rw [turn_len]; exact h.1, by rw [turn_len]; exact h.2.1, turn_lens h.2.2⟩
theorem MethOk.plain {st : Int} {L : List (List Int)} (h : MethOk L) : plainB 3 (methD st L) = true := plain_meth (by have := h.2.1; omega) fun c m => by have := h.2.2 c m; omega
theorem ways_len (n : Nat) : (waysA n).length = 4 * n := by
  simp [waysA]
  omega
section
variable {A : Amb} {ds : List D} {s : A.S} {Q : D → A.S → Prop}
def S_turned : FS A := fun ds s Q => ∃ (st : Int) (L : List (List Int)) (w : Wy), ds = [methD st L, wayD w] ∧ MethOk L ∧ Q (methD st (turnA st w L)) s
theorem p_turned (h : S_turned ds s Q) : t_turned S_started_at S_reversed_method S_mirrored_method (retE Q) (startR 2 ds) s := by
  obtain ⟨st, L, ⟨a, b, k⟩, rfl, ok, q⟩ := h
  have e : startR 2 [methD st L, wayD (a, b, k)] = [.fz (methD st L), .fz (wayD (a, b, k))] := rfl
  have l1 := ok.2.1
  unfold t_turned
  rw [e]
  refine seq_inv (fun ρ' s' => s' = s ∧ ∃ M : List (List Int), M = (if a then L.reverse else L) ∧ MethOk M ∧ ρ' = [.fz (methD st M), .fz (wayD (a, b, k))]) ?_ fun U hU => ?_
  rotate_left
  · cases a
    · simp [way0]
      exact hU _ _ ⟨rfl, L, rfl, ok, rfl⟩
    · simp [way0]
      exact ⟨st, L, rfl, l1, hU _ _ ⟨rfl, L.reverse, rfl, ⟨by rw [List.length_reverse]; exact ok.1, by rw [List.length_reverse]; exact ok.2.1, fun c m => ok.2.2 c (List.mem_reverse.mp m)⟩, rfl⟩⟩
  rintro ρ' s1 ⟨rfl, M, hM, okM, rfl⟩
  refine seq_inv (fun ρ' s' => s' = s1 ∧ ρ' = [.fz (methD st (M.map (phi st b))), .fz (wayD (a, b, k))]) ?_ fun U hU => ?_
  rotate_left
  · cases b
    · simp [way1]
      exact hU _ _ ⟨rfl, by rw [map_phi_f]⟩
    · simp [way1]
      exact ⟨st, M, rfl, okM.2.1, okM.2.2, hU _ _ ⟨rfl, by rw [map_phi_t]⟩⟩
  rintro ρ' s2 ⟨rfl, rfl⟩
  simp [way2]
  refine ⟨st, M.map (phi st b), (k : Nat), rfl, by omega, by rw [List.length_map]; exact okM.2.1, ?_⟩
  rw [Int.toNat_natCast, hM]
  exact q
def S_ways_of : FS A := fun ds s Q => ∃ (st : Int) (L : List (List Int)), ds = [methD st L] ∧ L.length ≤ 10000 ∧ Q (.list ((waysA L.length).map wayD)) s
theorem ways_comp {A : Amb} {it : DI A} {i2 i3 i4 : Nat} {ρ : Rho} {s : A.S} {QC : Cell → A.S → Prop} {n : Nat} (a b : Bool) (hi : ∀ k : List D → A.S → Prop, k (rngD 0 n) s → it ρ s k) (h4 : i4 < ρ.length) (n2 : i2 ≠ i4) (n3 : i3 ≠ i4) (cl : clean ρ [i4]) (hn : n ≤ 100000)
    (h2 : ρ[i2]? = some (.fz (.int (if a then 1 else 0)))) (h3 : ρ[i3]? = some (.fz (.int (if b then 1 else 0)))) (q : QC (.ol ((List.range n).map fun k => wayD (a, b, k))) s) :
    nComp it (dgN i4) dYes (dTup (dCons (dVar i2) (dCons (dVar i3) (dCons (dVar i4) dNil)))) [i4] ρ s QC := by
  have hs : 100000 ≤ sizeLine := by decide
  refine comp_map (L := List.range n) (fun k => PyData.int (0 + (k : Int))) (fun k z => hi k (by simpa [rngD] using z)) cl (by rw [List.length_range]; omega) (fun k => some (wayD (a, b, k))) (fun x m s k z => ?_) ?_
  · simp only [wipeR_cons, wipeR_nil, q_dgN]
    have e4 : (ρ.set i4 (.fz (.int (x : Nat))))[i4]? = some (.fz (.int (x : Nat))) := by
      rw [List.getElem?_set_self h4]
    have e2 : (ρ.set i4 (.fz (.int (x : Nat))))[i2]? = some (.fz (.int (if a then 1 else 0))) := by
      rw [List.getElem?_set_ne (fun z => n2 z.symm), h2]
    have e3 : (ρ.set i4 (.fz (.int (x : Nat))))[i3]? = some (.fz (.int (if b then 1 else 0))) := by
      rw [List.getElem?_set_ne (fun z => n3 z.symm), h3]
    simp [e2, e3, e4]
    refine ⟨by omega, ?_⟩
    exact z
  · rw [fm_map]
    exact q
theorem p_ways_of (h : S_ways_of ds s Q) : t_ways_of (retE Q) (startR 5 ds) s := by
  obtain ⟨st, L, rfl, hl, q⟩ := h
  have e : startR 5 [methD st L] = [.fz (methD st L), .un, .un, .un, .un] := rfl
  have hs : 100000 ≤ sizeLine := by decide
  have hl' : ((L.map tupI).length : Int) = (L.length : Nat) := by rw [List.length_map]
  unfold t_ways_of
  rw [e]
  rw [q_dSeq]
  simp [-q_dSeq]
  rw [q_dSeq]
  unfold dFor
  simp [forW, -q_dSeq]
  have it : ∀ (c1 c2 c3 : Cell) (s : A.S) (k : List D → A.S → Prop), k (rngD 0 L.length) s → dRg1 (dCons (dFn fLen (dCons (dOp fIx (dVarB 0) (dC (PyData.int 1))) dNil)) dNil) [.fz (methD st L), c1, c2, c3, .un] s k := fun c1 c2 c3 s k z => by
    simp
    exact ⟨by omega, z⟩
  have lw : ∀ a b : Bool, ((List.range L.length).map fun k => wayD (a, b, k)).length = L.length := fun a b => by rw [List.length_map, List.length_range]
  refine ⟨by omega, ways_comp false false (it _ _ _ _) (by simp) (by decide) (by decide) (by simp) (by omega) rfl rfl ?_⟩
  refine ⟨by rw [lw]; omega, ways_comp false true (it _ _ _ _) (by simp) (by decide) (by decide) (by simp) (by omega) rfl rfl ?_⟩
  refine ⟨by rw [lw, lw]; omega, by omega, ways_comp true false (it _ _ _ _) (by simp) (by decide) (by decide) (by simp) (by omega) rfl rfl ?_⟩
  refine ⟨by rw [lw, lw, lw]; omega, ways_comp true true (it _ _ _ _) (by simp) (by decide) (by decide) (by simp) (by omega) rfl rfl ?_⟩
  refine ⟨by rw [lw, lw, lw, lw]; omega, ?_⟩
  have ew : (waysA L.length).map wayD = ((List.range L.length).map fun k => wayD (false, false, k)) ++ (((List.range L.length).map fun k => wayD (false, true, k)) ++ (((List.range L.length).map fun k => wayD (true, false, k)) ++ ((List.range L.length).map fun k => wayD (true, true, k)))) := by
    simp [waysA, Function.comp_def]
  rw [← ew]
  exact q
/-! ### which way -/
def betwW (st : Int) (L : List (List Int)) (sm : Int) (M : List (List Int)) : Option Wy := (waysA L.length).find? fun w => decide (st = sm ∧ turnA st w L = M)
def optD : Option Wy → D
  | some w => wayD w
  | none => .none
def S_way_between : FS A := fun ds s Q => ∃ (st sm : Int) (L M : List (List Int)), ds = [methD st L, methD sm M] ∧ MethOk L ∧ MethOk M ∧ Q (optD (betwW st L sm M)) s
theorem p_way_between (h : S_way_between ds s Q) : t_way_between S_ways_of S_turned (retE Q) (startR 3 ds) s := by
  obtain ⟨st, sm, L, M, rfl, okL, okM, q⟩ := h
  have e : startR 3 [methD st L, methD sm M] = [.fz (methD st L), .fz (methD sm M), .un] := rfl
  unfold t_way_between
  rw [e, q_dSeq]
  refine for_of (xs := (waysA L.length).map wayD) (fun k z => by simp; exact ⟨st, L, rfl, okL.2.1, by simpa using z⟩) (fun r ρ' s' => s' = s ∧ ∃ (ws : List Wy) (c : Cell), r = ws.map wayD ∧ (ws.find? fun w => decide (st = sm ∧ turnA st w L = M)) = betwW st L sm M ∧ ρ' = [.fz (methD st L), .fz (methD sm M), c]) ⟨rfl, waysA L.length, .un, rfl, rfl, rfl⟩ ?_ ?_
  · rintro x r ρ s' ⟨rfl, ws, c, hr, hf, rfl⟩ D' hrt hbk hnx hct
    cases ws with
    | nil => cases hr
    | cons w ws =>
      obtain ⟨rfl, rfl⟩ := List.cons.inj hr
      rw [List.find?_cons] at hf
      simp
      refine ⟨st, L, w, rfl, okL, ?_⟩
      refine ⟨eqOk_plain okL.turn.plain okM.plain (by omega) (by omega), ?_⟩
      rw [eqv_meth]
      by_cases c : st = sm ∧ turnA st w L = M
      · rw [decide_eq_true c] at hf ⊢
        simp
        rw [hrt, show wayD w = optD (betwW st L sm M) by rw [← hf]; rfl]
        exact q
      · rw [decide_eq_false c] at hf ⊢
        simp
        exact hnx _ _ ⟨rfl, ws, _, rfl, hf, rfl⟩
  · rintro ρ s' ⟨rfl, ws, c, hr, hf, rfl⟩
    have : ws = [] := List.map_eq_nil_iff.mp hr.symm
    subst this
    simp
    rw [show (PyData.none : D) = optD (betwW st L sm M) by rw [← hf]; rfl]
    exact q
/-! ### the least -/
def normL (st : Int) (L : List (List Int)) : List (List Int) := match (waysA L.length).map (fun w => turnA st w L) with
  | x :: xs => minL x xs
  | [] => []
theorem norm_form {st : Int} {L : List (List Int)} (h : 1 ≤ L.length) : ∃ x xs, (waysA L.length).map (fun w => turnA st w L) = x :: xs ∧ normL st L = minL x xs := by
  cases e : (waysA L.length).map (fun w => turnA st w L) with
  | nil =>
    have := congrArg List.length e
    rw [List.length_map, ways_len, List.length_nil] at this
    omega
  | cons x xs => exact ⟨x, xs, rfl, by unfold normL; rw [e]⟩
theorem norm_least {st : Int} {L : List (List Int)} (h : 1 ≤ L.length) : Least (normL st L) ((waysA L.length).map fun w => turnA st w L) := by
  obtain ⟨x, xs, e1, e2⟩ := norm_form (st := st) h
  rw [e1, e2]
  exact minL_least xs x
def S_normal_method : FS A := fun ds s Q => ∃ (st : Int) (L : List (List Int)), ds = [methD st L] ∧ MethOk L ∧ Q (methD st (normL st L)) s
theorem p_normal_method (h : S_normal_method ds s Q) : t_normal_method S_turned S_ways_of (retE Q) (startR 2 ds) s := by
  obtain ⟨st, L, rfl, ok, q⟩ := h
  have e : startR 2 [methD st L] = [.fz (methD st L), .un] := rfl
  have hs : 100000 ≤ sizeLine := by decide
  have l1 := ok.2.1
  unfold t_normal_method
  rw [e]
  simp
  refine comp_map (L := waysA L.length) wayD (fun k z => by simp; exact ⟨st, L, rfl, ok.2.1, by simpa using z⟩) (by simp) (by rw [ways_len]; omega) (fun w => some (methD st (turnA st w L))) (fun w m s k z => ?_) ?_
  · simp
    exact ⟨st, L, w, rfl, ok, z⟩
  · rw [fm_map]
    obtain ⟨x, xs, e1, e2⟩ := norm_form (st := st) ok.1
    have e3 : (waysA L.length).map (fun w => methD st (turnA st w L)) = methD st x :: xs.map (methD st) := by
      rw [← List.map_cons, ← e1, List.map_map]
      rfl
    rw [e3]
    simp
    have so := sortOk_meth (st := st) (Ls := x :: xs)
    rw [List.map_cons] at so
    refine ⟨so, ?_⟩
    rw [minD_meth, ← e2]
    exact q
/-! ### the shortest lead -/
def shortP (L : List (List Int)) (m : Nat) : Bool := decide (L.length % m = 0 ∧ repC (L.take m) (L.length / m) = L)
def twoTo (n : Nat) : List Nat := (List.range (n - 1)).map (· + 2)
def shortL (L : List (List Int)) : List (List Int) := match (twoTo L.length).find? (shortP L) with
  | some m => L.take m
  | none => L
theorem twoTo_rng (n : Nat) : rngD 2 (n - 1) = (twoTo n).map fun m => PyData.int (m : Nat) := by
  unfold rngD twoTo
  rw [List.map_map]
  refine List.map_congr_left fun x m => ?_
  show PyData.int (2 + (x : Int)) = PyData.int ((x + 2 : Nat) : Int)
  congr 1
  omega
theorem mem_twoTo {n m : Nat} (h : m ∈ twoTo n) : 2 ≤ m ∧ m ≤ n := by
  obtain ⟨x, hx, rfl⟩ := List.mem_map.mp h
  have := List.mem_range.mp hx
  omega
/-- the test of a length -/
theorem short_test {L : List (List Int)} (hl : L.length ≤ 1000) {m : Nat} (h2 : 2 ≤ m) (hm : m ≤ L.length) (hc : ∀ c ∈ L, c.length ≤ 1000) {P1 P2 : Prop} (q : if shortP L m = true then P1 else P2) :
    0 < m ∧ if ((L.length : Nat) : Int) % (m : Nat) = 0 then CDiv ((L.length : Nat) : Int) (m : Nat) ∧ fMul (.tuple (cutD (L.map tupI) none (some (m : Nat)))) (.int (((L.length : Nat) : Int) / (m : Nat))) (fun z => eqOk z (.tuple (L.map tupI)) ∧ if PyData.eqv z (.tuple (L.map tupI)) = true then P1 else P2) else P2 := by
  refine ⟨by omega, ?_⟩
  have ec : cutD (L.map tupI) none (some (m : Nat)) = (L.take m).map tupI := by
    rw [cutD_to (by omega), Int.toNat_natCast, List.map_take]
  have em : (((L.length : Nat) : Int) % (m : Nat) = 0) ↔ L.length % m = 0 := by
    rw [← Int.natCast_emod]
    omega
  have ed : ((L.length : Nat) : Int) / (m : Nat) = ((L.length / m : Nat) : Int) := (Int.natCast_ediv _ _).symm
  unfold shortP at q
  by_cases c : L.length % m = 0
  · rw [if_pos (em.mpr c), ec, ed]
    refine ⟨?_, ?_⟩
    · unfold CDiv
      omega
    · have dp : 1 ≤ L.length / m := Nat.div_pos hm (by omega)
      have dl : L.length / m ≤ L.length := Nat.div_le_self _ _
      have lt : ((L.take m).map tupI).length = m := by rw [List.length_map, List.length_take]; omega
      refine ⟨fun z => ?_, by omega, ?_, ?_⟩
      · rw [z] at lt
        simp at lt
        omega
      · rw [lt, Int.toNat_natCast]
        exact Nat.le_trans (Nat.mul_le_mul (show m ≤ 1000 by omega) (show L.length / m ≤ 1000 by omega)) (by omega)
      · rw [Int.toNat_natCast, rep_map]
        show eqOk (.tuple ((repC (L.take m) (L.length / m)).map tupI)) _ ∧ _
        have mm : m * (L.length / m) ≤ 1000 * 1000 := Nat.mul_le_mul (by omega) (by omega)
        have lr : (repC (L.take m) (L.length / m)).length ≤ 1000 := by
          unfold repC
          rw [PyProof.Rows.lm_len_rep_flat, List.length_take, Nat.min_eq_left hm]
          have := Nat.div_mul_le_self L.length m
          omega
        refine ⟨eqOk_plain (plain_rows (by omega) fun c mc => ?_) (plain_rows (by omega) fun c mc => by have := hc c mc; omega) (by omega) (by omega), ?_⟩
        · obtain ⟨r, hr, hx⟩ := List.mem_flatten.mp mc
          rw [List.eq_of_mem_replicate hr] at hx
          have := hc c (List.mem_of_mem_take hx)
          omega
        · rw [eqv_rows]
          show if decide (repC (L.take m) (L.length / m) = L) = true then P1 else P2
          by_cases c2 : repC (L.take m) (L.length / m) = L
          · rw [decide_eq_true c2]
            rw [decide_eq_true ⟨c, c2⟩] at q
            exact q
          · rw [decide_eq_false c2]
            rw [decide_eq_false fun h => c2 h.2] at q
            exact q
  · rw [if_neg fun h => c (em.mp h)]
    rw [decide_eq_false fun h => c h.1] at q
    simpa using q
def S_shortest_lead : FS A := fun ds s Q => ∃ (st : Int) (L : List (List Int)), ds = [methD st L] ∧ MethOk L ∧ L.length ≤ 1000 ∧ Q (methD st (shortL L)) s
theorem p_shortest_lead (h : S_shortest_lead ds s Q) : t_shortest_lead (retE Q) (startR 4 ds) s := by
  obtain ⟨st, L, rfl, ok, hl, q⟩ := h
  have e : startR 4 [methD st L] = [.fz (methD st L), .un, .un, .un] := rfl
  have hs : 100000 ≤ sizeLine := by decide
  have l1 := ok.1
  unfold t_shortest_lead
  rw [e, q_dSeq]
  simp [-q_dSeq, -q_dIfS]
  refine ⟨rfl, ?_⟩
  rw [q_dgsC, q_dgN, q_dgsC, q_dgN, q_dgs0]
  refine ⟨rfl, ?_⟩
  simp only [List.set_cons_succ, List.set_cons_zero]
  rw [q_dSeq]
  refine for_of (xs := (twoTo L.length).map fun m => PyData.int (m : Nat)) (fun k z => ?_) (fun r ρ' s' => s' = s ∧ ∃ (ms : List Nat) (c : Cell), r = ms.map (fun m => PyData.int (m : Nat)) ∧ (∀ m ∈ ms, 2 ≤ m ∧ m ≤ L.length) ∧ ms.find? (shortP L) = (twoTo L.length).find? (shortP L) ∧ ρ' = [.fz (methD st L), .fz (.int st), .fz (.tuple (L.map tupI)), c]) ⟨rfl, twoTo L.length, .un, rfl, fun m => mem_twoTo, rfl, rfl⟩ ?_ ?_
  · rw [q_dRg2]
    simp
    refine ⟨_, _, ⟨rfl, rfl⟩, ⟨by omega, by omega, by omega, by omega⟩, ?_⟩
    rw [show ((L.length : Int) + 1 - 2).toNat = L.length - 1 by omega, twoTo_rng]
    exact z
  · rintro x r ρ s' ⟨rfl, ms, c, hr, hm, hf, rfl⟩ D' hrt hbk hnx hct
    cases ms with
    | nil => cases hr
    | cons m ms =>
      obtain ⟨rfl, rfl⟩ := List.cons.inj hr
      obtain ⟨m2, mn⟩ := hm m (List.mem_cons_self ..)
      rw [List.find?_cons] at hf
      simp
      refine short_test hl m2 mn ok.2.2 ?_
      cases hp : shortP L m with
      | true =>
        rw [hp] at hf
        refine ⟨by omega, ?_⟩
        rw [hrt, cutD_to (by omega), Int.toNat_natCast, ← List.map_take]
        have es : shortL L = L.take m := by unfold shortL; rw [← hf]
        rw [es] at q
        exact q
      | false =>
        rw [hp] at hf
        exact hnx _ _ ⟨rfl, ms, _, rfl, fun x m => hm x (List.mem_cons_of_mem _ m), hf, rfl⟩
  · rintro ρ s' ⟨rfl, ms, c, hr, hm, hf, rfl⟩
    have : ms = [] := List.map_eq_nil_iff.mp hr.symm
    subst this
    have es : shortL L = L := by unfold shortL; rw [← hf]; rfl
    rw [es] at q
    simpa using q
/-! ### the law's own way -/
theorem p_L_way (h : S_turned ds s Q) : t_L_way (retE Q) (startR 7 ds) s := by
  obtain ⟨st, L, ⟨a, b, k⟩, rfl, ok, q⟩ := h
  have e : startR 7 [methD st L, wayD (a, b, k)] = [.fz (methD st L), .fz (wayD (a, b, k)), .un, .un, .un, .un, .un] := rfl
  have hs : 100000 ≤ sizeLine := by decide
  have l1 := ok.2.1
  unfold t_L_way
  rw [e, q_dSeq]
  simp [-q_dSeq, -q_dIfS]
  refine ⟨rfl, ?_⟩
  rw [q_dgsC, q_dgN, q_dgsC, q_dgN, q_dgs0]
  refine ⟨rfl, ?_⟩
  simp only [List.set_cons_succ, List.set_cons_zero]
  refine seq_inv (fun ρ' s' => s' = s ∧ ∃ M : List (List Int), M = (if a then L.reverse else L) ∧ MethOk M ∧ ρ' = [.fz (methD st L), .fz (wayD (a, b, k)), .fz (.int st), .fz (.tuple (L.map tupI)), .fz (.list (M.map tupI)), .un, .un]) ?_ fun U hU => ?_
  rotate_left
  · cases a
    · simp [way0]
      exact hU _ _ ⟨rfl, L, rfl, ok, rfl⟩
    · simp [way0]
      refine hU _ _ ⟨rfl, L.reverse, rfl, ⟨by rw [List.length_reverse]; exact ok.1, by rw [List.length_reverse]; exact ok.2.1, fun c m => ok.2.2 c (List.mem_reverse.mp m)⟩, by rw [List.map_reverse]⟩
  rintro ρ' s1 ⟨rfl, M, hM, okM, rfl⟩
  have lM := okM.2.1
  refine seq_inv (fun ρ' s' => s' = s1 ∧ ∃ c5 c6, ρ' = [.fz (methD st L), .fz (wayD (a, b, k)), .fz (.int st), .fz (.tuple (L.map tupI)), .fz (.list ((M.map (phi st b)).map tupI)), c5, c6]) ?_ fun U hU => ?_
  rotate_left
  · cases b
    · simp [way1]
      exact hU _ _ ⟨rfl, _, _, by rw [map_phi_f]⟩
    · simp [way1]
      refine comp_map (L := M) tupI (fun k z => by simpa using z) (by simp) (by omega) (fun c => some (tupI (mirC st c))) (fun c m s k z => ?_) ?_
      · have lc := okM.2.2 c m
        simp [tupI]
        refine comp_pure (xs := intsD c) (fun k z => by simpa using z) (by simp) (by rw [intsD_length]; omega) (fun x => some (.int (st + 1 - numD x))) (fun x m s k z => ?_) ?_
        · obtain ⟨j, _, rfl⟩ := List.mem_map.mp m
          simpa [numD] using z
        · rw [fm_some]
          have e2 : (intsD c).map (fun x => PyData.int (st + 1 - numD x)) = intsD (c.map fun c => st + 1 - c) := by
            unfold intsD
            rw [List.map_map, List.map_map]
            rfl
          rw [e2]
          simp
          refine ⟨sortOk_ints' _, ?_⟩
          rw [mirC_ok]
          exact z
      · rw [fm_map]
        exact hU _ _ ⟨rfl, _, _, by rw [map_phi_t, List.map_map]; rfl⟩
  rintro ρ' s2 ⟨rfl, c5, c6, rfl⟩
  simp [way2]
  rw [cutD_to (by omega), cutD_from (by omega), Int.toNat_natCast]
  refine ⟨?_, by omega, ?_⟩
  · simp
    omega
  · have q' := q
    unfold turnA methD at q'
    dsimp only at q'
    rw [← hM, List.map_append, List.map_drop, List.map_take] at q'
    simpa using q'
end
end Dl
/-! The law k09 over data. -/
namespace Dl
open PySem L2
def t_law_k09 {A : Amb} (S_L_method S_L_draw S_L_same S_reversed_method S_mirrored_method S_started_at S_normal_method S_L_way S_shortest_lead S_L_pick S_way_between S_L_changes : FS A) : DS A :=
  (dSeq (dSet 2 (dCall S_L_method (dCons (dVar 1) (dCons (dC (.int 6)) dNil))))
  (dSeq (dAsg (dVar 2) (dgT 2 (dgsC (dgN 3) (dgsC (dgN 4) dgs0))))
  (dSeq (dSet 5 (dLst dNil))
  (dSeq (dFor (dIt (dTup (dCons (dC (.int 0)) (dCons (dC (.int 1)) dNil)))) (dgN 6)
  (dFor (dIt (dTup (dCons (dC (.int 0)) (dCons (dC (.int 1)) dNil)))) (dgN 7)
  (dSet 5 (dOp fAdd (dVarB 5) (dOfN (nComp (dRg1 (dCons (dFn fLen (dCons (dVarB 4) dNil)) dNil)) (dgN 8) dYes (dTup (dCons (dVar 6) (dCons (dVar 7) (dCons (dVar 8) dNil)))) [8]))))))
  (dSeq (dSet 8 (dCall S_L_draw (dCons (dVar 1) (dCons (dFn fLen (dCons (dVarB 4) dNil)) dNil))))
  (dSeq (dSet 9 (dLst (dCons (dCall S_reversed_method (dCons (dVar 2) dNil)) (dCons (dCall S_mirrored_method (dCons (dVar 2) dNil)) (dCons (dCall S_started_at (dCons (dVar 2) (dCons (dVar 8) dNil))) (dCons (dCall S_normal_method (dCons (dVar 2) dNil)) dNil))))))
  (dSeq (dIfS (dNotT (dTest (dCall S_L_same (dCons (dVar 9) (dCons (dLst (dCons (dCall S_L_way (dCons (dVar 2) (dCons (dTup (dCons (dC (.int 1)) (dCons (dC (.int 0)) (dCons (dC (.int 0)) dNil)))) dNil))) (dCons (dCall S_L_way (dCons (dVar 2) (dCons (dTup (dCons (dC (.int 0)) (dCons (dC (.int 1)) (dCons (dC (.int 0)) dNil)))) dNil))) (dCons (dCall S_L_way (dCons (dVar 2) (dCons (dTup (dCons (dC (.int 0)) (dCons (dC (.int 0)) (dCons (dVar 8) dNil)))) dNil))) (dCons (dOp fIx (dOfN (nFn gSorted (dCons (dOfN (nComp (dIt (dVar 5)) (dgN 10) dYes (dCall S_L_way (dCons (dVar 2) (dCons (dVar 10) dNil))) [10])) dNil))) (dC (.int 0))) dNil))))) dNil)))))
  (dRet (dC (.bool false)))
  dNx)
  (dSeq (dSet 11 (dLst (dCons (dCall S_L_way (dCons (dVar 2) (dCons (dCall S_L_pick (dCons (dVar 1) (dCons (dVar 5) dNil))) dNil))) (dCons (dVar 2) (dCons (dTup (dCons (dVar 3) (dCons (dOp fAdd (dOp fAdd (dSl (dVarB 4) oNone (oSome (dVarB 8))) (dTup (dCons (dCall S_L_pick (dCons (dVar 1) (dCons (dCall S_L_changes (dCons (dVar 3) dNil)) dNil))) dNil))) (dSl (dVarB 4) (oSome (dOp fAdd (dVarB 8) (dC (.int 1)))) oNone)) dNil))) (dCons (dCall S_L_method (dCons (dVar 1) (dCons (dC (.int 6)) dNil))) dNil))))))
  (dSeq (dSet 11 (dOp fAdd (dVarB 11) (dLst (dCons (dTup (dCons (dVar 3) (dCons (dOp fAdd (dOp fAdd (dSl (dVarB 4) (oSome (dC (.int 1))) oNone) (dSl (dVarB 4) oNone (oSome (dC (.int 1))))) (dSl (dVarB 4) oNone (oSome (dC (.int 1))))) dNil))) dNil))))
  (dSeq (dFor (dIt (dVar 11)) (dgN 12)
  (dSeq (dSet 13 (dOfN (nComp (dIt (dVar 5)) (dgN 10) (dTest (dOp fEqU (dCall S_L_way (dCons (dVar 2) (dCons (dVar 10) dNil))) (dVarB 12))) (dVar 10) [10])))
  (dSeq (dIfS (dNotT (dTest (dCall S_L_same (dCons (dCall S_way_between (dCons (dVar 2) (dCons (dVar 12) dNil))) (dCons (dIf (dTest (dOp fGt (dFn fLen (dCons (dVarB 13) dNil)) (dC (.int 0)))) (dOp fIx (dVarB 13) (dC (.int 0))) (dC .none)) dNil)))))
  (dRet (dC (.bool false)))
  dNx)
  (dIfS (dAndT (dTest (dOp fGt (dFn fLen (dCons (dVarB 13) dNil)) (dC (.int 0)))) (dNotT (dTest (dCall S_L_same (dCons (dCall S_normal_method (dCons (dVar 12) dNil)) (dCons (dOp fIx (dVarB 9) (dC (.int 3))) dNil))))))
  (dRet (dC (.bool false)))
  dNx))))
  (dSeq (dSet 14 (dOfN (nComp (dRg2 (dCons (dC (.int 2)) (dCons (dOp fAdd (dFn fLen (dCons (dVarB 4) dNil)) (dC (.int 1))) dNil))) (dgN 15) (dAndT (dTest (dOp fEqU (dOp fMod (dFn fInt (dCons (dFn fLen (dCons (dVarB 4) dNil)) dNil)) (dVarB 15)) (dC (.int 0)))) (dTest (dOp fEqU (dOp fMul (dSl (dVarB 4) oNone (oSome (dVarB 15))) (dOp fDiv (dFn fLen (dCons (dVarB 4) dNil)) (dVarB 15))) (dVarB 4)))) (dVar 15) [15])))
  (dRet (dCall S_L_same (dCons (dCall S_shortest_lead (dCons (dVar 2) dNil)) (dCons (dTup (dCons (dVar 3) (dCons (dSl (dVarB 4) oNone (oSome (dOp fIx (dVarB 14) (dC (.int 0))))) dNil))) dNil)))))))))))))))
theorem norm_same {st : Int} {L M : List (List Int)} (hs : ∀ c ∈ L, mirC st (mirC st c) = c) (h1 : 1 ≤ L.length) {w : Wy} (hw : w ∈ waysA L.length) (e : turnA st w L = M) : normL st M = normL st L := by
  subst e
  exact (least_uniq (orbit_same hs hw) (norm_least h1) (norm_least (by rw [turn_len]; exact h1))).symm
theorem sort_first {st : Int} {L : List (List Int)} (h1 : 1 ≤ L.length) : atI (sortD ((waysA L.length).map fun w => methD st (turnA st w L))) 0 = some (methD st (normL st L)) := by
  have e : ((waysA L.length).map fun w => methD st (turnA st w L)) = ((waysA L.length).map fun w => turnA st w L).map (methD st) := by rw [List.map_map]; rfl
  rw [e, sort_meth]
  refine atI_nat (j := 0) ?_
  rw [List.getElem?_map]
  cases hx : (((waysA L.length).map fun w => turnA st w L).mergeSort fun a b => !decide (b < a))[0]? with
  | none =>
    rw [List.getElem?_eq_none_iff, (List.mergeSort_perm _ _).length_eq, List.length_map, ways_len] at hx
    omega
  | some x =>
    rw [least_uniq (fun z => Iff.rfl) (sort_least hx) (norm_least h1)]
    rfl
theorem short_last {L : List (List Int)} (h : 2 ≤ L.length) : ∃ m ∈ twoTo L.length, shortP L m = true := by
  refine ⟨L.length, List.mem_map.mpr ⟨L.length - 2, List.mem_range.mpr (by omega), by omega⟩, ?_⟩
  unfold shortP
  rw [Nat.mod_self, Nat.div_self (by omega), List.take_length]
  simp [repC]
theorem find_filter {α : Type} {p : α → Bool} {xs : List α} : xs.find? p = (xs.filter p)[0]? := by
  rw [← List.head?_eq_getElem?, List.head?_filter]
theorem fm_filter {α : Type} {p : α → Bool} {f : α → D} : ∀ ws : List α, ws.filterMap (fun w => if p w = true then some (f w) else none) = (ws.filter p).map f
  | [] => rfl
  | w :: ws => by
    rw [List.filterMap_cons, List.filter_cons, fm_filter ws]
    cases h : p w <;> simp
def K9C (a : Addr) (st : Int) (L : List (List Int)) (cs : List Cell) : Rho := .un :: .fz (refD a) :: .fz (methD st L) :: .fz (.int st) :: .fz (.tuple (L.map tupI)) :: cs
theorem p_law_k09 (a : Addr) (s : (poolA a).S) : t_law_k09 (S_L_method a) (S_draw a) (S_same 10) S_reversed_method S_mirrored_method S_started_at S_normal_method S_turned S_shortest_lead (S_L_pick a) S_way_between S_changes_of (lawEnds _) (ρLaw a 14) s := by
  have e : ρLaw a 14 = [.un, .fz (refD a), .un, .un, .un, .un, .un, .un, .un, .un, .un, .un, .un, .un, .un, .un] := rfl
  have hs : 1000000 ≤ sizeLine := by decide
  unfold t_law_k09
  rw [e, q_dSeq]
  simp [-q_dSeq, -q_dIfS]
  refine ⟨6, rfl, by omega, by omega, fun st L s3 s6 hL l2 l60 => ?_⟩
  try dsimp only
  rw [q_dSeq]
  simp [-q_dSeq, -q_dIfS]
  refine ⟨rfl, ?_⟩
  rw [q_dgsC, q_dgN, q_dgsC, q_dgN, q_dgs0]
  refine ⟨rfl, ?_⟩
  simp only [List.set_cons_succ, List.set_cons_zero]
  have hc8 : ∀ c ∈ L, c.length ≤ 1000 := fun c m => by
    have := (ch_wt s3 (by omega) c (hL c m)).2
    omega
  have ok : MethOk L := ⟨by omega, by omega, hc8⟩
  have hm2 : ∀ c ∈ L, mirC st (mirC st c) = c := fun c m => mirC_twice (ch_sorted (hL c m))
  have lw : ∀ x y : Bool, ((List.range L.length).map fun k => wayD (x, y, k)).length = L.length := fun x y => by rw [List.length_map, List.length_range]
  rw [q_dSeq]
  simp [-q_dSeq, -q_dIfS]
  refine seq_inv (fun ρ' s' => s' = s ∧ ρ' = [.un, .fz (refD a), .fz (methD st L), .fz (.int st), .fz (.tuple (L.map tupI)), .fz (.list ((waysA L.length).map wayD)), .fz (.int 1), .fz (.int 1), .un, .un, .un, .un, .un, .un, .un, .un]) ?_ fun U hU => ?_
  rotate_left
  · unfold dFor
    simp [forW, -q_dSeq]
    have it : ∀ (c5 c6 c7 c8 c9 c10 c11 c12 c13 c14 c15 : Cell) (s : (poolA a).S) (k : List D → (poolA a).S → Prop), k (rngD 0 L.length) s → dRg1 (dCons (dFn fLen (dCons (dVarB 4) dNil)) dNil) [.un, .fz (refD a), .fz (methD st L), .fz (.int st), .fz (.tuple (L.map tupI)), c5, c6, c7, c8, c9, c10, c11, c12, c13, c14, c15] s k := fun _ _ _ _ _ _ _ _ _ _ _ s k z => by
      simp
      exact ⟨by omega, z⟩
    refine ⟨by omega, ways_comp false false (it _ _ _ _ _ _ _ _ _ _ _ _) (by simp) (by decide) (by decide) (by simp) (by omega) rfl rfl ?_⟩
    simp only [Cell.data, q_addL, List.nil_append]
    refine ⟨by rw [lw, List.length_nil]; omega, ways_comp false true (it _ _ _ _ _ _ _ _ _ _ _ _) (by simp) (by decide) (by decide) (by simp) (by omega) rfl rfl ?_⟩
    simp only [Cell.data, q_addL]
    refine ⟨by rw [lw, lw]; omega, by omega, ways_comp true false (it _ _ _ _ _ _ _ _ _ _ _ _) (by simp) (by decide) (by decide) (by simp) (by omega) rfl rfl ?_⟩
    simp only [Cell.data, q_addL]
    refine ⟨by rw [List.length_append, lw, lw, lw]; omega, ways_comp true true (it _ _ _ _ _ _ _ _ _ _ _ _) (by simp) (by decide) (by decide) (by simp) (by omega) rfl rfl ?_⟩
    simp only [Cell.data, q_addL]
    refine ⟨by rw [List.length_append, List.length_append, lw, lw, lw, lw]; omega, hU _ _ ⟨rfl, ?_⟩⟩
    have ew : (waysA L.length).map wayD = ((((List.range L.length).map fun k => wayD (false, false, k)) ++ ((List.range L.length).map fun k => wayD (false, true, k))) ++ ((List.range L.length).map fun k => wayD (true, false, k))) ++ ((List.range L.length).map fun k => wayD (true, true, k)) := by
      simp [waysA, Function.comp_def]
    rw [ew]
  rintro ρ' s1 ⟨rfl, rfl⟩
  have wl := ways_len L.length
  rw [q_dSeq]
  simp [-q_dSeq, -q_dIfS]
  refine ⟨_, rfl, by omega, by omega, fun k0 kl0 kl1 => ?_⟩
  obtain ⟨k, rfl⟩ : ∃ k : Nat, k0 = (k : Nat) := ⟨k0.toNat, by omega⟩
  have kl : k < L.length := by omega
  try dsimp only
  have t3 : atI [methD st L.reverse, methD st (L.map (mirC st)), methD st (L.drop k ++ L.take k), methD st (normL st L)] 3 = some (methD st (normL st L)) := rfl
  refine seq_inv (fun ρ' s' => s' = s1 ∧ ρ' = [.un, .fz (refD a), .fz (methD st L), .fz (.int st), .fz (.tuple (L.map tupI)), .fz (.list ((waysA L.length).map wayD)), .fz (.int 1), .fz (.int 1), .fz (.int (k : Nat)), .fz (.list [methD st L.reverse, methD st (L.map (mirC st)), methD st (L.drop k ++ L.take k), methD st (normL st L)]), .un, .un, .un, .un, .un, .un]) ?_ fun U hU => ?_
  rotate_left
  · simp [-q_dSeq, -q_dIfS]
    refine ⟨st, L, rfl, by omega, ?_⟩
    refine ⟨st, L, rfl, by omega, hc8, ?_⟩
    refine ⟨st, L, (k : Nat), rfl, by omega, by omega, ?_⟩
    rw [Int.toNat_natCast]
    refine ⟨st, L, rfl, ok, ?_⟩
    exact ⟨by omega, hU _ _ ⟨rfl, rfl⟩⟩
  rintro ρ' s2 ⟨rfl, rfl⟩
  have pm : ∀ M : List (List Int), MethOk M → plainB 8 (methD st M) = true := fun M o => plain_mono o.plain (by omega)
  have okr : MethOk L.reverse := ⟨by rw [List.length_reverse]; omega, by rw [List.length_reverse]; omega, fun c m => hc8 c (List.mem_reverse.mp m)⟩
  have okm : MethOk (L.map (mirC st)) := ⟨by rw [List.length_map]; omega, by rw [List.length_map]; omega, fun c m => by
    obtain ⟨d, hd, rfl⟩ := List.mem_map.mp m
    rw [mirC_len]
    exact hc8 d hd⟩
  have okt : MethOk (L.drop k ++ L.take k) := ⟨by rw [List.length_append, List.length_drop, List.length_take]; omega, by rw [List.length_append, List.length_drop, List.length_take]; omega, fun c m => by
    rcases List.mem_append.mp m with m | m
    · exact hc8 c (List.mem_of_mem_drop m)
    · exact hc8 c (List.mem_of_mem_take m)⟩
  have okn : MethOk (normL st L) := by
    obtain ⟨w, _, ew⟩ := List.mem_map.mp (norm_least (st := st) ok.1).1
    rw [← ew]
    exact ok.turn
  have pl : plainB 9 (.list [methD st L.reverse, methD st (L.map (mirC st)), methD st (L.drop k ++ L.take k), methD st (normL st L)]) = true := plain_list (n := 8) (fun x m => by
    simp only [List.mem_cons, List.not_mem_nil, or_false] at m
    rcases m with rfl | rfl | rfl | rfl
    · exact pm _ okr
    · exact pm _ okm
    · exact pm _ okt
    · exact pm _ okn) (by simp)
  refine seq_inv (fun ρ' s' => s' = s2 ∧ ρ' = [.un, .fz (refD a), .fz (methD st L), .fz (.int st), .fz (.tuple (L.map tupI)), .fz (.list ((waysA L.length).map wayD)), .fz (.int 1), .fz (.int 1), .fz (.int (k : Nat)), .fz (.list [methD st L.reverse, methD st (L.map (mirC st)), methD st (L.drop k ++ L.take k), methD st (normL st L)]), .un, .un, .un, .un, .un, .un]) ?_ fun U hU => ?_
  rotate_left
  · simp only [q_dIfS, q_dNotT, q_dTest, q_dCall, q_dCons, q_dVar, q_dLst, q_dTup, q_dC, q_dNil, List.getElem?_cons_succ, List.getElem?_cons_zero, atF_fz]
    refine ⟨by simp; omega, st, L, (true, false, 0), rfl, ok, by simp; omega, st, L, (false, true, 0), rfl, ok, by simp; omega, st, L, (false, false, k), rfl, ok, ?_⟩
    have e1 : turnA st (true, false, 0) L = L.reverse := by
      show (L.reverse.map (phi st false)).drop 0 ++ (L.reverse.map (phi st false)).take 0 = _
      rw [map_phi_f, List.drop_zero, List.take_zero, List.append_nil]
    have e2 : turnA st (false, true, 0) L = L.map (mirC st) := by
      show (L.map (phi st true)).drop 0 ++ (L.map (phi st true)).take 0 = _
      rw [map_phi_t, List.drop_zero, List.take_zero, List.append_nil]
    have e3 : turnA st (false, false, k) L = L.drop k ++ L.take k := by
      show (L.map (phi st false)).drop k ++ (L.map (phi st false)).take k = _
      rw [map_phi_f]
    rw [e1, e2, e3]
    simp [-q_dSeq]
    refine comp_map (L := waysA L.length) wayD (fun k z => by simpa using z) (by simp) (by omega) (fun w => some (methD st (turnA st w L))) (fun w m s k z => ?_) ?_
    · simp
      exact ⟨st, L, w, rfl, ok, z⟩
    · rw [fm_map]
      simp [-q_dSeq]
      have so := sortOk_meth (st := st) (Ls := (waysA L.length).map fun w => turnA st w L)
      rw [List.map_map] at so
      refine ⟨so, ?_⟩
      rw [sort_first ok.1]
      simp
      refine ⟨by omega, _, _, 9, rfl, rfl, ⟨9, pl⟩, pl, ?_⟩
      rw [sameB_eq]
      simp
      exact hU _ _ ⟨rfl, rfl⟩
  rintro ρ' s3' ⟨rfl, rfl⟩
  refine seq_inv (fun ρ' s' => s' = s3' ∧ ∃ os : List (Int × List (List Int)), (∀ o ∈ os, MethOk o.2) ∧ os.length = 4 ∧ ρ' = [.un, .fz (refD a), .fz (methD st L), .fz (.int st), .fz (.tuple (L.map tupI)), .fz (.list ((waysA L.length).map wayD)), .fz (.int 1), .fz (.int 1), .fz (.int (k : Nat)), .fz (.list [methD st L.reverse, methD st (L.map (mirC st)), methD st (L.drop k ++ L.take k), methD st (normL st L)]), .un, .fz (.list (os.map fun o => methD o.1 o.2)), .un, .un, .un, .un]) ?_ fun U hU => ?_
  rotate_left
  · simp only [dSet, q_dAsg, q_dOp, q_dVarB, q_dVar, q_dCall, q_dCons, q_dTup, q_dC, q_dNil, q_dLst, q_dgN, List.getElem?_cons_succ, List.getElem?_cons_zero, atF_fz, atB_fz]
    have cs3 := ch_some (st := st) (by omega) (by omega)
    refine ⟨_, _, rfl, rfl, fun z => by rw [List.map_eq_nil_iff] at z; rw [z] at wl; simp at wl; omega, by rw [List.length_map]; omega, fun x hx => ?_⟩
    obtain ⟨w, hw, rfl⟩ := List.mem_map.mp hx
    refine ⟨st, L, w, rfl, ok, ?_⟩
    simp
    refine ⟨st, rfl, s3, by omega, ?_⟩
    refine ⟨_, _, rfl, rfl, cs3.1, by omega, fun y hy => ?_⟩
    obtain ⟨c, hc, rfl⟩ := mem_changesD hy
    have t1 : cutD (L.map tupI) none (some (k : Nat)) = (L.take k).map tupI := by
      rw [cutD_to (by omega), Int.toNat_natCast, List.map_take]
    have t2 : cutD (L.map tupI) (some ((k : Nat) + 1)) none = (L.drop (k + 1)).map tupI := by
      rw [cutD_from (by omega), show ((k : Int) + 1).toNat = k + 1 by omega, List.map_drop]
    rw [t1, t2]
    have lt1 : ((L.take k).map tupI).length ≤ 60 := by rw [List.length_map, List.length_take]; omega
    have lt2 : ((L.drop (k + 1)).map tupI).length ≤ 60 := by rw [List.length_map, List.length_drop]; omega
    have lc : c.length ≤ 1000 := by
      have := (ch_wt s3 (by omega) c hc).2
      omega
    refine ⟨by omega, by omega, by omega, by omega, ?_⟩
    refine ⟨6, rfl, by omega, by omega, fun sm M m3 m6 hM m2 m60 => ?_⟩
    have okM : MethOk M := ⟨by omega, by omega, fun d m => by
      have := (ch_wt m3 (by omega) d (hM d m)).2
      omega⟩
    have okc : MethOk (L.take k ++ c :: L.drop (k + 1)) := ⟨by simp; omega, by simp; omega, fun d m => by
      rcases List.mem_append.mp m with m | m
      · exact hc8 d (List.mem_of_mem_take m)
      · rcases List.mem_cons.mp m with rfl | m
        · exact lc
        · exact hc8 d (List.mem_of_mem_drop m)⟩
    refine ⟨by omega, hU _ _ ⟨rfl, [(st, turnA st w L), (st, L), (st, L.take k ++ c :: L.drop (k + 1)), (sm, M)], fun o m => ?_, rfl, ?_⟩⟩
    · simp only [List.mem_cons, List.not_mem_nil, or_false] at m
      rcases m with rfl | rfl | rfl | rfl
      · exact ok.turn
      · exact ok
      · exact okc
      · exact okM
    · simp [methD, tupI]
  rintro ρ' s4 ⟨rfl, os, hos, los, rfl⟩
  refine seq_inv (fun ρ' s' => s' = s4 ∧ ∃ os : List (Int × List (List Int)), (∀ o ∈ os, MethOk o.2) ∧ os.length ≤ 10 ∧ ρ' = [.un, .fz (refD a), .fz (methD st L), .fz (.int st), .fz (.tuple (L.map tupI)), .fz (.list ((waysA L.length).map wayD)), .fz (.int 1), .fz (.int 1), .fz (.int (k : Nat)), .fz (.list [methD st L.reverse, methD st (L.map (mirC st)), methD st (L.drop k ++ L.take k), methD st (normL st L)]), .un, .fz (.list (os.map fun o => methD o.1 o.2)), .un, .un, .un, .un]) ?_ fun U hU => ?_
  rotate_left
  · simp only [dSet, q_dAsg, q_dOp, q_dVarB, q_dVar, q_dCall, q_dCons, q_dTup, q_dC, q_dNil, q_dLst, q_dgN, List.getElem?_cons_succ, List.getElem?_cons_zero, atF_fz, atB_fz]
    simp
    have t1 : cutD (L.map tupI) none (some 1) = (L.take 1).map tupI := by
      rw [cutD_to (by omega), show Int.toNat 1 = 1 from rfl, List.map_take]
    have t2 : cutD (L.map tupI) (some 1) none = (L.drop 1).map tupI := by
      rw [cutD_from (by omega), show Int.toNat 1 = 1 from rfl, List.map_drop]
    rw [t1, t2]
    have lt1 : ((L.take 1).map tupI).length = 1 := by rw [List.length_map, List.length_take]; omega
    have lt2 : ((L.drop 1).map tupI).length ≤ 60 := by rw [List.length_map, List.length_drop]; omega
    have okc : MethOk (L.drop 1 ++ (L.take 1 ++ L.take 1)) := ⟨by simp; omega, by simp; omega, fun d m => by
      rcases List.mem_append.mp m with m | m
      · exact hc8 d (List.mem_of_mem_drop m)
      · rcases List.mem_append.mp m with m | m <;> exact hc8 d (List.mem_of_mem_take m)⟩
    refine ⟨by omega, by omega, by omega, by omega, by omega, hU _ _ ⟨rfl, os ++ [(st, L.drop 1 ++ (L.take 1 ++ L.take 1))], fun o m => ?_, by simp; omega, ?_⟩⟩
    · rcases List.mem_append.mp m with m | m
      · exact hos o m
      · rw [List.mem_singleton.mp m]
        exact okc
    · simp [methD]
  rintro ρ' s5 ⟨rfl, os, hos, los, rfl⟩
  refine seq_inv (fun ρ' s' => s' = s5 ∧ ∃ c12 c13 : Cell, ρ' = [.un, .fz (refD a), .fz (methD st L), .fz (.int st), .fz (.tuple (L.map tupI)), .fz (.list ((waysA L.length).map wayD)), .fz (.int 1), .fz (.int 1), .fz (.int (k : Nat)), .fz (.list [methD st L.reverse, methD st (L.map (mirC st)), methD st (L.drop k ++ L.take k), methD st (normL st L)]), .un, .fz (.list (os.map fun o => methD o.1 o.2)), c12, c13, .un, .un]) ?_ fun U hU => ?_
  · rintro ρ' s' ⟨rfl, c12, c13, rfl⟩
    obtain ⟨mm, hmm, hsm⟩ := short_last l2
    refine seq_inv (fun ρ' s'' => s'' = s' ∧ ρ' = [.un, .fz (refD a), .fz (methD st L), .fz (.int st), .fz (.tuple (L.map tupI)), .fz (.list ((waysA L.length).map wayD)), .fz (.int 1), .fz (.int 1), .fz (.int (k : Nat)), .fz (.list [methD st L.reverse, methD st (L.map (mirC st)), methD st (L.drop k ++ L.take k), methD st (normL st L)]), .un, .fz (.list (os.map fun o => methD o.1 o.2)), c12, c13, .fz (.list (((twoTo L.length).filter (shortP L)).map fun m => PyData.int (m : Nat))), .un]) ?_ fun U2 hU2 => ?_
    rotate_left
    · simp [-q_dSeq]
      have tl : (twoTo L.length).length ≤ 60 := by simp [twoTo]; omega
      refine comp_map (L := twoTo L.length) (fun m => PyData.int (m : Nat)) (fun k z => ?_) (by simp) (by omega) (fun m => if shortP L m = true then some (.int (m : Nat)) else none) (fun m hm s k z => ?_) ?_
      · rw [q_dRg2]
        simp
        refine ⟨_, _, ⟨rfl, rfl⟩, ⟨by omega, by omega, by omega, by omega⟩, ?_⟩
        rw [show ((L.length : Int) + 1 - 2).toNat = L.length - 1 by omega, twoTo_rng]
        exact z
      · obtain ⟨m2, mn⟩ := mem_twoTo hm
        simp
        refine short_test (by omega) m2 mn hc8 ?_
        cases hp : shortP L m with
        | true => rw [hp] at z; exact z
        | false => rw [hp] at z; exact z
      · rw [fm_filter]
        exact hU2 _ _ ⟨rfl, rfl⟩
    rintro ρ' s6 ⟨rfl, rfl⟩
    have hfd : (twoTo L.length).find? (shortP L) = ((twoTo L.length).filter (shortP L))[0]? := find_filter
    cases hF : (twoTo L.length).filter (shortP L) with
    | nil =>
      have := List.mem_filter.mpr ⟨hmm, hsm⟩
      rw [hF] at this
      cases this
    | cons m ms =>
      rw [hF] at hfd
      have hm := mem_twoTo (List.mem_filter.mp (show m ∈ (twoTo L.length).filter (shortP L) by rw [hF]; exact List.mem_cons_self ..)).1
      have es : shortL L = L.take m := by unfold shortL; rw [hfd]; rfl
      have a0 : atI (PyData.int (m : Nat) :: ms.map fun m => PyData.int (m : Nat)) 0 = some (.int (m : Nat)) := atI_nat (j := 0) rfl
      simp
      refine ⟨st, L, rfl, ok, by omega, ?_⟩
      simp [a0]
      have t1 : cutD (L.map tupI) none (some (m : Nat)) = (L.take m).map tupI := by
        rw [cutD_to (by omega), Int.toNat_natCast, List.map_take]
      rw [t1]
      have okS : MethOk (L.take m) := ⟨by rw [List.length_take]; omega, by rw [List.length_take]; omega, fun c m => hc8 c (List.mem_of_mem_take m)⟩
      have pS := plain_mono (m := 9) (okS.plain (st := st)) (by omega)
      refine ⟨by omega, _, _, 9, rfl, rfl, ⟨9, by rw [es]; exact pS⟩, pS, ?_⟩
      rw [es, show PyData.tuple [PyData.int st, PyData.tuple ((L.take m).map tupI)] = methD st (L.take m) from rfl, sameB_eq]
  refine for_of (xs := os.map fun o => methD o.1 o.2) (fun k z => by simpa using z) (fun r ρ' s' => s' = s5 ∧ ∃ (ps : List (Int × List (List Int))) (c12 c13 : Cell), r = ps.map (fun o => methD o.1 o.2) ∧ (∀ o ∈ ps, MethOk o.2) ∧ ρ' = [.un, .fz (refD a), .fz (methD st L), .fz (.int st), .fz (.tuple (L.map tupI)), .fz (.list ((waysA L.length).map wayD)), .fz (.int 1), .fz (.int 1), .fz (.int (k : Nat)), .fz (.list [methD st L.reverse, methD st (L.map (mirC st)), methD st (L.drop k ++ L.take k), methD st (normL st L)]), .un, .fz (.list (os.map fun o => methD o.1 o.2)), c12, c13, .un, .un]) ⟨rfl, os, _, _, rfl, hos, rfl⟩ ?_ (fun ρ s' ⟨e1, _, c12, c13, _, _, e2⟩ => hU _ _ ⟨e1, c12, c13, e2⟩)
  rintro x r ρ s' ⟨rfl, ps, c12, c13, hr, hps, rfl⟩ D' hrt hbk hnx hct
  cases ps with
  | nil => cases hr
  | cons o ps =>
    obtain ⟨rfl, rfl⟩ := List.cons.inj hr
    obtain ⟨sm, M⟩ := o
    have okM := hps _ (List.mem_cons_self ..)
    dsimp only at okM
    have next : ∀ c13, D'.nx [.un, .fz (refD a), .fz (methD st L), .fz (.int st), .fz (.tuple (L.map tupI)), .fz (.list ((waysA L.length).map wayD)), .fz (.int 1), .fz (.int 1), .fz (.int (k : Nat)), .fz (.list [methD st L.reverse, methD st (L.map (mirC st)), methD st (L.drop k ++ L.take k), methD st (normL st L)]), .un, .fz (.list (os.map fun o => methD o.1 o.2)), .fz (methD sm M), c13, .un, .un] s' := fun c13 => hnx _ _ ⟨rfl, ps, _, _, rfl, fun o m => hps o (List.mem_cons_of_mem _ m), rfl⟩
    rw [q_dgN]
    simp only [List.set_cons_succ, List.set_cons_zero]
    refine seq_inv (fun ρ' s'' => s'' = s' ∧ ρ' = [.un, .fz (refD a), .fz (methD st L), .fz (.int st), .fz (.tuple (L.map tupI)), .fz (.list ((waysA L.length).map wayD)), .fz (.int 1), .fz (.int 1), .fz (.int (k : Nat)), .fz (.list [methD st L.reverse, methD st (L.map (mirC st)), methD st (L.drop k ++ L.take k), methD st (normL st L)]), .un, .fz (.list (os.map fun o => methD o.1 o.2)), .fz (methD sm M), .fz (.list (((waysA L.length).filter fun w => decide (st = sm ∧ turnA st w L = M)).map wayD)), .un, .un]) ?_ fun U2 hU2 => ?_
    rotate_left
    · simp [-q_dSeq]
      refine comp_map (L := waysA L.length) wayD (fun k z => by simpa using z) (by simp) (by omega) (fun w => if decide (st = sm ∧ turnA st w L = M) = true then some (wayD w) else none) (fun w m s k z => ?_) ?_
      · simp [-decide_eq_true_eq, -Bool.decide_and]
        refine ⟨st, L, w, rfl, ok, ?_⟩
        refine ⟨eqOk_plain ok.turn.plain okM.plain (by omega) (by omega), ?_⟩
        rw [eqv_meth]
        cases hd : decide (st = sm ∧ turnA st w L = M) with
        | true => rw [hd] at z; exact z
        | false => rw [hd] at z; exact z
      · have ef : (waysA L.length).filterMap (fun w => if decide (st = sm ∧ turnA st w L = M) = true then some (wayD w) else none) = ((waysA L.length).filter fun w => decide (st = sm ∧ turnA st w L = M)).map wayD := by
          exact fm_filter _
        rw [ef]
        exact hU2 _ _ ⟨rfl, rfl⟩
    rintro ρ' s6 ⟨rfl, rfl⟩
    have hb : betwW st L sm M = ((waysA L.length).filter fun w => decide (st = sm ∧ turnA st w L = M))[0]? := find_filter
    have pw : ∀ w : Wy, plainB 9 (wayD w) = true := fun w => plain_mono (plain_tuple (plain_ints (wyI w)) (by rw [intsD_length]; simp [wyI])) (by omega)
    cases hF : (waysA L.length).filter (fun w => decide (st = sm ∧ turnA st w L = M)) with
    | nil =>
      rw [hF] at hb
      refine seq_if ?_ fun U3 hU3 => ?_
      · simp
        exact next _
      · simp
        refine ⟨st, sm, L, M, rfl, ok, okM, ?_⟩
        rw [hb]
        refine ⟨_, _, 9, rfl, rfl, ⟨9, rfl⟩, rfl, ?_⟩
        rw [show optD ([] : List Wy)[0]? = .none from rfl, sameB_eq]
        simpa using hU3
    | cons w ws =>
      rw [hF] at hb
      have hw := List.mem_filter.mp (show w ∈ (waysA L.length).filter (fun w => decide (st = sm ∧ turnA st w L = M)) by rw [hF]; exact List.mem_cons_self ..)
      obtain ⟨rfl, ew⟩ := of_decide_eq_true hw.2
      have a0 : atI (wayD w :: ws.map wayD) 0 = some (wayD w) := atI_nat (j := 0) rfl
      refine seq_if ?_ fun U3 hU3 => ?_
      · simp
        refine ⟨st, M, rfl, okM, ?_⟩
        rw [t3, norm_same hm2 ok.1 hw.1 ew]
        have pn := plain_mono (m := 9) (okn.plain (st := st)) (by omega)
        refine ⟨_, _, 9, rfl, rfl, ⟨9, pn⟩, pn, ?_⟩
        rw [sameB_eq]
        simpa using next _
      · simp
        refine ⟨st, st, L, M, rfl, ok, okM, ?_⟩
        rw [hb, a0]
        refine ⟨_, _, 9, rfl, rfl, ⟨9, pw w⟩, pw w, ?_⟩
        rw [show optD (w :: ws)[0]? = wayD w from rfl, sameB_eq]
        simpa using hU3
end Dl
/-! How many arguments each promise has: ways. -/
namespace Dl
open PySem L2
section
variable {A : Amb} {ds : List D} {s : A.S} {Q : D → A.S → Prop}
theorem len_turned (h : S_turned ds s Q) : ds.length = 2 := by obtain ⟨_, _, _, e, _⟩ := h; rw [e]; rfl
theorem len_L_way (h : S_turned ds s Q) : ds.length = 2 := len_turned h
theorem len_ways_of (h : S_ways_of ds s Q) : ds.length = 1 := by obtain ⟨_, _, e, _⟩ := h; rw [e]; rfl
theorem len_way_between (h : S_way_between ds s Q) : ds.length = 2 := by obtain ⟨_, _, _, _, e, _⟩ := h; rw [e]; rfl
theorem len_normal_method (h : S_normal_method ds s Q) : ds.length = 1 := by obtain ⟨_, _, e, _⟩ := h; rw [e]; rfl
theorem len_shortest_lead (h : S_shortest_lead ds s Q) : ds.length = 1 := by obtain ⟨_, _, e, _⟩ := h; rw [e]; rfl
end
end Dl
namespace Dl
open PySem L2 PySem.Spec
def top (i : Nat) : Stmt := PySem.Challenge.pw_bellstrue_k09_whole_alike_methods.main.body.getD i (.Pass ⟨0, 0, 0, 0⟩)
section
variable {P : Program} {w : World} {K : PySem.W.Frag} {mg : Str → Option Value} {base : Heap} {f : Addr} {cdv : Value} {Ar : Around} {outer : List PySem.Env} {s : Shared} {H : Hp} {E : XK}
abbrev N_mirrored : List Str := ["stage", "change", "place"]
theorem sc_mirrored : FnScope N_mirrored ["stage", "change"] (defScope (top 1)) := ⟨rfl, rfl, rfl, by decide +kernel, rfl, by decide +kernel, by decide +kernel⟩
theorem d_mirrored {j : Nat} {A : Amb} (B : Bt mg) (hr : Room j (Ar.deeper (PyProof.Rows.envOfC "mirrored" (defScope (top 1)) s.heap.objs.size f cdv))) (Nt : Ent) :
    PSs (cxOf CX0 P w K mg base N_mirrored "mirrored" (defScope (top 1)) f cdv Ar outer s H E).nox (defBody (top 1)) (liftS A K Nt (t_mirrored)) :=
  have nd := sc_mirrored.nd
  (ss_one (s_ret (e_callTy call_tupleF dn_tuple B.tuple bt_tuple (b_cons (e_bw (e_ofW (n_callB (cr_sortedD hr.units) dw_sorted B.sorted bt_sorted (b_cons (e_bw (e_ofW (eC [("place", 2)] nd (iA (vF 1)) (fun _ _ _ _ _ _ => (gN 2 nd)) (fun _ _ _ _ _ _ => ts_nil) (fun _ _ _ _ _ _ => (e_op op_sub dr_sub (e_bw (e_op op_addA dr_add (vB 0) (e_bw e_int))) (vB 2)))))) b_nil)))) b_nil))))

abbrev N_reversed_method : List Str := ["method"]
theorem sc_reversed_method : FnScope N_reversed_method ["method"] (defScope (top 3)) := ⟨rfl, rfl, rfl, by decide +kernel, rfl, by decide +kernel, by decide +kernel⟩
theorem d_reversed_method {j : Nat} {A : Amb} (B : Bt mg) (hr : Room j (Ar.deeper (PyProof.Rows.envOfC "reversed_method" (defScope (top 3)) s.heap.objs.size f cdv))) (Nt : Ent) :
    PSs (cxOf CX0 P w K mg base N_reversed_method "reversed_method" (defScope (top 3)) f cdv Ar outer s H E).nox (defBody (top 3)) (liftS A K Nt (t_reversed_method)) :=
  have nd := sc_reversed_method.nd
  (ss_one (s_ret (e_tup (a_cons (e_ix ix_seq dr_ix (vB 0) (e_bw e_int)) (a_cons (e_rev (e_bw (e_ix ix_seq dr_ix (vB 0) (e_bw e_int)))) a_nil)))))

abbrev N_mirrored_method : List Str := ["method", "change"]
theorem sc_mirrored_method : FnScope N_mirrored_method ["method"] (defScope (top 4)) := ⟨rfl, rfl, rfl, by decide +kernel, rfl, by decide +kernel, by decide +kernel⟩
theorem d_mirrored_method {j : Nat} {A : Amb} (B : Bt mg) {k_mirrored : Nat} {S_mirrored : FS A} (G_mirrored : DFn P w K mg base A k_mirrored "mirrored" ["stage", "change"] S_mirrored) (h_mirrored : k_mirrored ≤ j) (hr : Room j (Ar.deeper (PyProof.Rows.envOfC "mirrored_method" (defScope (top 4)) s.heap.objs.size f cdv))) (Nt : Ent) :
    PSs (cxOf CX0 P w K mg base N_mirrored_method "mirrored_method" (defScope (top 4)) f cdv Ar outer s H E).nox (defBody (top 4)) (liftS A K Nt (t_mirrored_method S_mirrored)) :=
  have nd := sc_mirrored_method.nd
  (ss_one (s_ret (e_tup (a_cons (e_ix ix_seq dr_ix (vB 0) (e_bw e_int)) (a_cons (e_callTy call_tupleF dn_tuple B.tuple bt_tuple (b_cons (e_bw (e_ofW (eC [("change", 1)] nd (iA (e_ix ix_seq dr_ix (vB 0) (e_bw e_int))) (fun _ _ _ _ _ _ => (gN 1 nd)) (fun _ _ _ _ _ _ => ts_nil) (fun _ _ _ _ _ _ => (e_call G_mirrored hr h_mirrored (a_cons (e_ix ix_seq dr_ix (vB 0) (e_bw e_int)) (a_cons (vF 1) a_nil))))))) b_nil)) a_nil)))))

abbrev N_started_at : List Str := ["method", "k"]
theorem sc_started_at : FnScope N_started_at ["method", "k"] (defScope (top 5)) := ⟨rfl, rfl, rfl, by decide +kernel, rfl, by decide +kernel, by decide +kernel⟩
theorem d_started_at {j : Nat} {A : Amb} (B : Bt mg) (hr : Room j (Ar.deeper (PyProof.Rows.envOfC "started_at" (defScope (top 5)) s.heap.objs.size f cdv))) (Nt : Ent) :
    PSs (cxOf CX0 P w K mg base N_started_at "started_at" (defScope (top 5)) f cdv Ar outer s H E).nox (defBody (top 5)) (liftS A K Nt (t_started_at)) :=
  have nd := sc_started_at.nd
  (ss_one (s_ret (e_tup (a_cons (e_ix ix_seq dr_ix (vB 0) (e_bw e_int)) (a_cons (e_op op_addA dr_add (e_bw (e_sl (e_bw (e_ix ix_seq dr_ix (vB 0) (e_bw e_int))) (o_some (vB 1)) o_none)) (e_bw (e_sl (e_bw (e_ix ix_seq dr_ix (vB 0) (e_bw e_int))) o_none (o_some (vB 1))))) a_nil)))))

abbrev N_turned : List Str := ["method", "way"]
theorem sc_turned : FnScope N_turned ["method", "way"] (defScope (top 6)) := ⟨rfl, rfl, rfl, by decide +kernel, rfl, by decide +kernel, by decide +kernel⟩
theorem d_turned {j : Nat} {A : Amb} (B : Bt mg) {k_started_at : Nat} {S_started_at : FS A} (G_started_at : DFn P w K mg base A k_started_at "started_at" ["method", "k"] S_started_at) (h_started_at : k_started_at ≤ j) {k_reversed_method : Nat} {S_reversed_method : FS A} (G_reversed_method : DFn P w K mg base A k_reversed_method "reversed_method" ["method"] S_reversed_method) (h_reversed_method : k_reversed_method ≤ j) {k_mirrored_method : Nat} {S_mirrored_method : FS A} (G_mirrored_method : DFn P w K mg base A k_mirrored_method "mirrored_method" ["method"] S_mirrored_method) (h_mirrored_method : k_mirrored_method ≤ j) (hr : Room j (Ar.deeper (PyProof.Rows.envOfC "turned" (defScope (top 6)) s.heap.objs.size f cdv))) (Nt : Ent) :
    PSs (cxOf CX0 P w K mg base N_turned "turned" (defScope (top 6)) f cdv Ar outer s H E).nox (defBody (top 6)) (liftS A K Nt (t_turned S_started_at S_reversed_method S_mirrored_method)) :=
  have nd := sc_turned.nd
  (ss_cons (s_if (t_cmp (op_eqU hr.units) dr_eqU (e_bw (e_ix ix_seq dr_ix (vB 1) (e_bw e_int))) (e_bw e_int))
  (ss_one (sS 0 nd (e_call G_reversed_method hr h_reversed_method (a_cons (vF 0) a_nil))))
  ss_nil)
  (ss_cons (s_if (t_cmp (op_eqU hr.units) dr_eqU (e_bw (e_ix ix_seq dr_ix (vB 1) (e_bw e_int))) (e_bw e_int))
  (ss_one (sS 0 nd (e_call G_mirrored_method hr h_mirrored_method (a_cons (vF 0) a_nil))))
  ss_nil)
  (ss_one (s_ret (e_call G_started_at hr h_started_at (a_cons (vF 0) (a_cons (e_ix ix_seq dr_ix (vB 1) (e_bw e_int)) a_nil)))))))

abbrev N_ways_of : List Str := ["method", "found", "first", "second", "k"]
theorem sc_ways_of : FnScope N_ways_of ["method"] (defScope (top 7)) := ⟨rfl, rfl, rfl, by decide +kernel, rfl, by decide +kernel, by decide +kernel⟩
theorem d_ways_of {j : Nat} {A : Amb} (B : Bt mg) (hr : Room j (Ar.deeper (PyProof.Rows.envOfC "ways_of" (defScope (top 7)) s.heap.objs.size f cdv))) (Nt : Ent) :
    PSs (cxOf CX0 P w K mg base N_ways_of "ways_of" (defScope (top 7)) f cdv Ar outer s H E).nox (defBody (top 7)) (liftS A K Nt (t_ways_of)) :=
  have nd := sc_ways_of.nd
  (ss_cons (sN 1 nd (n_lst a_nil))
  (ss_cons (s_for (iA (e_tup (a_cons e_int (a_cons e_int a_nil)))) (gN 2 nd)
  (ss_one (s_for (iA (e_tup (a_cons e_int (a_cons e_int a_nil)))) (gN 3 nd)
  (ss_one (s_extend (ps_expr (pe_bm PySem.F.plainAttrs_list PySem.F.slot_list_extend PySem.F.type_list_extend mt_extend (vP 1) (pa_cons (e_bw (e_ofW (eC [("k", 4)] nd (i_rg1 B.range (a_cons (e_callB call_len dn_len B.len bt_len (b_cons (e_bw (e_ix ix_seq dr_ix (vB 0) (e_bw e_int))) b_nil)) a_nil)) (fun _ _ _ _ _ _ => (gN 4 nd)) (fun _ _ _ _ _ _ => ts_nil) (fun _ _ _ _ _ _ => (e_tup (a_cons (vF 2) (a_cons (vF 3) (a_cons (vF 4) a_nil)))))))) pa_nil))))) PassesOwn.never rfl)) PassesOwn.never rfl)
  (ss_one (s_frz (s_ret (vF 1))))))

abbrev N_way_between : List Str := ["first", "second", "way"]
theorem sc_way_between : FnScope N_way_between ["first", "second"] (defScope (top 8)) := ⟨rfl, rfl, rfl, by decide +kernel, rfl, by decide +kernel, by decide +kernel⟩
theorem d_way_between {j : Nat} {A : Amb} (B : Bt mg) {k_ways_of : Nat} {S_ways_of : FS A} (G_ways_of : DFn P w K mg base A k_ways_of "ways_of" ["method"] S_ways_of) (h_ways_of : k_ways_of ≤ j) {k_turned : Nat} {S_turned : FS A} (G_turned : DFn P w K mg base A k_turned "turned" ["method", "way"] S_turned) (h_turned : k_turned ≤ j) (hr : Room j (Ar.deeper (PyProof.Rows.envOfC "way_between" (defScope (top 8)) s.heap.objs.size f cdv))) (Nt : Ent) :
    PSs (cxOf CX0 P w K mg base N_way_between "way_between" (defScope (top 8)) f cdv Ar outer s H E).nox (defBody (top 8)) (liftS A K Nt (t_way_between S_ways_of S_turned)) :=
  have nd := sc_way_between.nd
  (ss_cons (s_for (iA (e_call G_ways_of hr h_ways_of (a_cons (vF 0) a_nil))) (gN 2 nd)
  (ss_one (s_if (t_cmp (op_eqU hr.units) dr_eqU (e_bw (e_call G_turned hr h_turned (a_cons (vF 0) (a_cons (vF 2) a_nil)))) (vB 1))
  (ss_one (s_ret (vF 2)))
  ss_nil)) PassesOwn.never rfl)
  (ss_one (s_ret e_non)))

abbrev N_normal_method : List Str := ["method", "way"]
theorem sc_normal_method : FnScope N_normal_method ["method"] (defScope (top 9)) := ⟨rfl, rfl, rfl, by decide +kernel, rfl, by decide +kernel, by decide +kernel⟩
theorem d_normal_method {j : Nat} {A : Amb} (B : Bt mg) {k_turned : Nat} {S_turned : FS A} (G_turned : DFn P w K mg base A k_turned "turned" ["method", "way"] S_turned) (h_turned : k_turned ≤ j) {k_ways_of : Nat} {S_ways_of : FS A} (G_ways_of : DFn P w K mg base A k_ways_of "ways_of" ["method"] S_ways_of) (h_ways_of : k_ways_of ≤ j) (hr : Room j (Ar.deeper (PyProof.Rows.envOfC "normal_method" (defScope (top 9)) s.heap.objs.size f cdv))) (Nt : Ent) :
    PSs (cxOf CX0 P w K mg base N_normal_method "normal_method" (defScope (top 9)) f cdv Ar outer s H E).nox (defBody (top 9)) (liftS A K Nt (t_normal_method S_turned S_ways_of)) :=
  have nd := sc_normal_method.nd
  (ss_one (s_ret (e_callB (cr_minD rfl hr.units) dn_minD B.min bt_min (b_cons (e_bw (e_ofW (eC [("way", 1)] nd (iA (e_call G_ways_of hr h_ways_of (a_cons (vF 0) a_nil))) (fun _ _ _ _ _ _ => (gN 1 nd)) (fun _ _ _ _ _ _ => ts_nil) (fun _ _ _ _ _ _ => (e_call G_turned hr h_turned (a_cons (vF 0) (a_cons (vF 1) a_nil))))))) b_nil))))

abbrev N_shortest_lead : List Str := ["method", "stage", "lead", "many"]
theorem sc_shortest_lead : FnScope N_shortest_lead ["method"] (defScope (top 10)) := ⟨rfl, rfl, rfl, by decide +kernel, rfl, by decide +kernel, by decide +kernel⟩
theorem d_shortest_lead {j : Nat} {A : Amb} (B : Bt mg) (hr : Room j (Ar.deeper (PyProof.Rows.envOfC "shortest_lead" (defScope (top 10)) s.heap.objs.size f cdv))) (Nt : Ent) :
    PSs (cxOf CX0 P w K mg base N_shortest_lead "shortest_lead" (defScope (top 10)) f cdv Ar outer s H E).nox (defBody (top 10)) (liftS A K Nt (t_shortest_lead)) :=
  have nd := sc_shortest_lead.nd
  (ss_cons (s_asg (ps_asg (vF 0) (g_tup rfl (gs_cons (gN 1 nd) (gs_cons (gN 2 nd) gs_nil)))))
  (ss_cons (s_for (i_rg2 B.range (a_cons e_int (a_cons (e_op op_addA dr_add (e_bw (e_callB call_len dn_len B.len bt_len (b_cons (vB 2) b_nil))) (e_bw e_int)) a_nil))) (gN 3 nd)
  (ss_one (s_if (PW.pt (w_and (t_cmp (op_eqU hr.units) dr_eqU (e_bw (e_op op_mod dr_mod (e_bw (e_callB call_len dn_len B.len bt_len (b_cons (vB 2) b_nil))) (vB 3))) (e_bw e_int)) (w_and1 (t_cmp (op_eqU hr.units) dr_eqU (e_bw (e_op op_mulU dr_mulU (e_bw (e_sl (vB 2) o_none (o_some (vB 3)))) (e_bw (e_op op_fdiv dr_div (e_bw (e_callB call_len dn_len B.len bt_len (b_cons (vB 2) b_nil))) (vB 3))))) (vB 2)))))
  (ss_one (s_ret (e_tup (a_cons (vF 1) (a_cons (e_sl (vB 2) o_none (o_some (vB 3))) a_nil)))))
  ss_nil)) PassesOwn.never rfl)
  (ss_one (s_ret (vF 0)))))

abbrev N_L_same : List Str := ["actual", "due", "k"]
theorem sc_L_same : FnScope N_L_same ["actual", "due"] (defScope (top 12)) := ⟨rfl, rfl, rfl, by decide +kernel, rfl, by decide +kernel, by decide +kernel⟩
theorem d_L_same {j : Nat} {A : Amb} (B : Bt mg) {k_L_same : Nat} {S_L_same : FS A} (G_L_same : DFn P w K mg base A k_L_same "_law_same" ["actual", "due"] S_L_same) (h_L_same : k_L_same ≤ j) (hr : Room j (Ar.deeper (PyProof.Rows.envOfC "_law_same" (defScope (top 12)) s.heap.objs.size f cdv))) (Nt : Ent) :
    PSs (cxOf CX0 P w K mg base N_L_same "_law_same" (defScope (top 12)) f cdv Ar outer s H E).nox (defBody (top 12)) (liftS A K Nt (t_L_same S_L_same)) :=
  have nd := sc_L_same.nd
  (ss_cons (s_if (PW.pt (w_or (t_val (e_isi .tuple (vB 1) B.isinstance B.tuple bt_tuple)) (w_or1 (t_val (e_isi .list (vB 1) B.isinstance B.list bt_list)))))
  (ss_cons (s_if (PW.pt (w_or (t_cmp (op_neU hr.units) dr_neU (e_bw (e_isi .tuple (vB 1) B.isinstance B.tuple bt_tuple)) (e_bw (e_isi .tuple (vB 0) B.isinstance B.tuple bt_tuple))) (w_or (t_cmp (op_neU hr.units) dr_neU (e_bw (e_isi .list (vB 1) B.isinstance B.list bt_list)) (e_bw (e_isi .list (vB 0) B.isinstance B.list bt_list))) (w_or1 (t_cmp (op_neU hr.units) dr_neU (e_bw (e_callB call_len dn_len B.len bt_len (b_cons (vB 0) b_nil))) (e_bw (e_callB call_len dn_len B.len bt_len (b_cons (vB 1) b_nil))))))))
  (ss_one (s_ret e_bl))
  ss_nil)
  (ss_one (s_ret (e_cmp (op_eqU hr.units) dr_eqU (e_bw (e_callB call_len dn_len B.len bt_len (b_cons (e_bw (e_ofW (eC [("k", 2)] nd (i_rg1 B.range (a_cons (e_callB call_len dn_len B.len bt_len (b_cons (vB 1) b_nil)) a_nil)) (fun _ _ _ _ _ _ => (gN 2 nd)) (fun _ _ _ _ _ _ => (ts_one (t_not (t_val (e_call G_L_same hr h_L_same (a_cons (e_ix ix_seq dr_ix (vB 0) (vB 2)) (a_cons (e_ix ix_seq dr_ix (vB 1) (vB 2)) a_nil))))))) (fun _ _ _ _ _ _ => (vF 2))))) b_nil))) (e_bw e_int)))))
  ss_nil)
  (ss_cons (s_if (t_cmp op_isN dr_is (vB 1) (e_bw e_non))
  (ss_one (s_ret (e_cmp op_isN dr_is (vB 0) (e_bw e_non))))
  ss_nil)
  (ss_cons (s_if (PW.pt (w_or (t_val (e_isi .bool (vB 1) B.isinstance B.bool bt_bool)) (w_or1 (t_val (e_isi .bool (vB 0) B.isinstance B.bool bt_bool)))))
  (ss_one (s_ret (e_and (e_isi .bool (vB 1) B.isinstance B.bool bt_bool) (e_and (e_isi .bool (vB 0) B.isinstance B.bool bt_bool) (pe_one (e_cmp (op_eqU hr.units) dr_eqU (vB 0) (vB 1)))))))
  ss_nil)
  (ss_cons (s_if (t_val (e_isi .int (vB 1) B.isinstance B.int bt_int))
  (ss_one (s_ret (e_and (e_isi .int (vB 0) B.isinstance B.int bt_int) (pe_one (e_cmp (op_eqU hr.units) dr_eqU (vB 0) (vB 1))))))
  ss_nil)
  (ss_one (s_ret (e_and (e_isi .str (vB 0) B.isinstance B.str bt_str) (pe_one (e_cmp (op_eqU hr.units) dr_eqU (vB 0) (vB 1))))))))))

abbrev N_L_is_integer : List Str := ["actual"]
theorem sc_L_is_integer : FnScope N_L_is_integer ["actual"] (defScope (top 13)) := ⟨rfl, rfl, rfl, by decide +kernel, rfl, by decide +kernel, by decide +kernel⟩
theorem d_L_is_integer {j : Nat} {A : Amb} (B : Bt mg) (hr : Room j (Ar.deeper (PyProof.Rows.envOfC "_law_is_integer" (defScope (top 13)) s.heap.objs.size f cdv))) (Nt : Ent) :
    PSs (cxOf CX0 P w K mg base N_L_is_integer "_law_is_integer" (defScope (top 13)) f cdv Ar outer s H E).nox (defBody (top 13)) (liftS A K Nt (t_L_is_integer)) :=
  have nd := sc_L_is_integer.nd
  (ss_one (s_ret (e_and (e_isi .int (vB 0) B.isinstance B.int bt_int) (pe_one (e_not (e_isi .bool (vB 0) B.isinstance B.bool bt_bool))))))

abbrev N_L_spread : List Str := ["cell", "mixed", "total", "k"]
theorem sc_L_spread : FnScope N_L_spread ["cell"] (defScope (top 15)) := ⟨rfl, rfl, rfl, by decide +kernel, rfl, by decide +kernel, by decide +kernel⟩
theorem d_L_spread {j : Nat} {A : Amb} (B : Bt mg) (hr : Room j (Ar.deeper (PyProof.Rows.envOfC "_law_spread" (defScope (top 15)) s.heap.objs.size f cdv))) (Nt : Ent) :
    PSs (cxOf CX0 P w K mg base N_L_spread "_law_spread" (defScope (top 15)) f cdv Ar outer s H E).nox (defBody (top 15)) (liftS A K Nt (t_L_spread)) :=
  have nd := sc_L_spread.nd
  (ss_cons (sS 1 nd (e_op op_mod dr_mod (e_bw (e_callTy call_int1 dn_int B.int bt_int (b_cons (vB 0) b_nil))) (e_bw e_int)))
  (ss_cons (sS 2 nd e_int)
  (ss_cons (s_for (i_rg1 B.range (a_cons e_int a_nil)) (gN 3 nd)
  (ss_cons (sS 1 nd (e_op op_mod dr_mod (e_bw (e_callTy call_int1 dn_int B.int bt_int (b_cons (e_bw (e_op op_addA dr_add (e_bw (e_op op_addA dr_add (e_bw (e_op op_mulU dr_mulU (vB 1) (e_bw e_int))) (e_bw e_int))) (vB 3))) b_nil))) (e_bw e_int)))
  (ss_one (sS 2 nd (e_op op_addA dr_add (e_bw (e_op op_mulU dr_mulU (vB 2) (e_bw e_int))) (vB 1))))) PassesOwn.never rfl)
  (ss_one (s_ret (vF 2))))))

abbrev N_L_pick : List Str := ["pool", "items"]
theorem sc_L_pick : FnScope N_L_pick ["pool", "items"] (defScope (top 17)) := ⟨rfl, rfl, rfl, by decide +kernel, rfl, by decide +kernel, by decide +kernel⟩
theorem d_L_pick {j : Nat} {A : Amb} (B : Bt mg) {k_L_draw : Nat} {S_L_draw : FS A} (G_L_draw : DFn P w K mg base A k_L_draw "_law_draw" ["pool", "many"] S_L_draw) (h_L_draw : k_L_draw ≤ j) (hr : Room j (Ar.deeper (PyProof.Rows.envOfC "_law_pick" (defScope (top 17)) s.heap.objs.size f cdv))) (Nt : Ent) :
    PSs (cxOf CX0 P w K mg base N_L_pick "_law_pick" (defScope (top 17)) f cdv Ar outer s H E).nox (defBody (top 17)) (liftS A K Nt (t_L_pick S_L_draw)) :=
  have nd := sc_L_pick.nd
  (ss_one (s_ret (e_ix ix_seq dr_ix (vB 1) (e_bw (e_call G_L_draw hr h_L_draw (a_cons (vF 0) (a_cons (e_callB call_len dn_len B.len bt_len (b_cons (vB 1) b_nil)) a_nil)))))))

abbrev N_L_is_number : List Str := ["value", "top"]
theorem sc_L_is_number : FnScope N_L_is_number ["value", "top"] (defScope (top 18)) := ⟨rfl, rfl, rfl, by decide +kernel, rfl, by decide +kernel, by decide +kernel⟩
theorem d_L_is_number {j : Nat} {A : Amb} (B : Bt mg) {k_L_is_integer : Nat} {S_L_is_integer : FS A} (G_L_is_integer : DFn P w K mg base A k_L_is_integer "_law_is_integer" ["actual"] S_L_is_integer) (h_L_is_integer : k_L_is_integer ≤ j) (hr : Room j (Ar.deeper (PyProof.Rows.envOfC "_law_is_number" (defScope (top 18)) s.heap.objs.size f cdv))) (Nt : Ent) :
    PSs (cxOf CX0 P w K mg base N_L_is_number "_law_is_number" (defScope (top 18)) f cdv Ar outer s H E).nox (defBody (top 18)) (liftS A K Nt (t_L_is_number S_L_is_integer)) :=
  have nd := sc_L_is_number.nd
  (ss_one (s_ret (e_and (e_call G_L_is_integer hr h_L_is_integer (a_cons (vF 0) a_nil)) (e_and (e_cmp op_le dr_cmpI (e_bw e_int) (vB 0)) (pe_one (e_cmp op_le dr_cmpI (vB 0) (vB 1)))))))

abbrev N_L_is_change : List Str := ["stage", "value", "place", "loose"]
theorem sc_L_is_change : FnScope N_L_is_change ["stage", "value"] (defScope (top 19)) := ⟨rfl, rfl, rfl, by decide +kernel, rfl, by decide +kernel, by decide +kernel⟩
theorem d_L_is_change {j : Nat} {A : Amb} (B : Bt mg) {k_L_is_number : Nat} {S_L_is_number : FS A} (G_L_is_number : DFn P w K mg base A k_L_is_number "_law_is_number" ["value", "top"] S_L_is_number) (h_L_is_number : k_L_is_number ≤ j) (hr : Room j (Ar.deeper (PyProof.Rows.envOfC "_law_is_change" (defScope (top 19)) s.heap.objs.size f cdv))) (Nt : Ent) :
    PSs (cxOf CX0 P w K mg base N_L_is_change "_law_is_change" (defScope (top 19)) f cdv Ar outer s H E).nox (defBody (top 19)) (liftS A K Nt (t_L_is_change S_L_is_number)) :=
  have nd := sc_L_is_change.nd
  (ss_cons (s_if (PW.pt (w_or (t_not (t_val (e_isi .tuple (vB 1) B.isinstance B.tuple bt_tuple))) (w_or1 (t_cmp op_gt dr_cmpI (e_bw (e_callB call_len dn_len B.len bt_len (b_cons (e_bw (e_ofW (eC [("place", 2)] nd (iA (vF 1)) (fun _ _ _ _ _ _ => (gN 2 nd)) (fun _ _ _ _ _ _ => (ts_one (PW.pt (w_or (t_not (t_val (e_call G_L_is_number hr h_L_is_number (a_cons (vF 2) (a_cons (vF 0) a_nil))))) (w_or1 (t_cmp (op_ltA hr.units65) dr_ltA (vB 2) (e_bw e_int))))))) (fun _ _ _ _ _ _ => (vF 2))))) b_nil))) (e_bw e_int)))))
  (ss_one (s_ret e_bl))
  ss_nil)
  (ss_cons (s_if (PW.pt (w_or (t_cmp (op_neU hr.units) dr_neU (e_bw (e_ofW (n_callTy call_list_of dw_list B.list bt_list (b_cons (vB 1) b_nil)))) (e_bw (e_ofW (n_sortedSet rfl (b_cons (vB 1) b_nil) B.sorted B.set)))) (w_or1 (t_cmp (op_eqU hr.units) dr_eqU (e_bw (e_callB call_len dn_len B.len bt_len (b_cons (vB 1) b_nil))) (vB 0)))))
  (ss_one (s_ret e_bl))
  ss_nil)
  (ss_cons (sS 3 nd e_int)
  (ss_cons (s_for (i_rg2 B.range (a_cons e_int (a_cons (e_op op_addA dr_add (vB 0) (e_bw e_int)) a_nil))) (gN 2 nd)
  (ss_one (s_if (PW.pt (w_or (t_cmp (op_inA hr.units65) dr_inG (vB 2) (vB 1)) (w_or1 (t_cmp op_gt dr_cmpI (vB 2) (vB 0)))))
  (ss_cons (s_if (t_cmp (op_eqU hr.units) dr_eqU (e_bw (e_op op_mod dr_mod (e_bw (e_callTy call_int1 dn_int B.int bt_int (b_cons (vB 3) b_nil))) (e_bw e_int))) (e_bw e_int))
  (ss_one (s_ret e_bl))
  ss_nil)
  (ss_one (sS 3 nd e_int)))
  (ss_one (sS 3 nd (e_op op_addA dr_add (vB 3) (e_bw e_int)))))) PassesOwn.never rfl)
  (ss_one (s_ret e_bl))))))

abbrev N_L_changes : List Str := ["stage", "found", "place", "row"]
theorem sc_L_changes : FnScope N_L_changes ["stage"] (defScope (top 20)) := ⟨rfl, rfl, rfl, by decide +kernel, rfl, by decide +kernel, by decide +kernel⟩
theorem d_L_changes {j : Nat} {A : Amb} (B : Bt mg) {k_L_is_change : Nat} {S_L_is_change : FS A} (G_L_is_change : DFn P w K mg base A k_L_is_change "_law_is_change" ["stage", "value"] S_L_is_change) (h_L_is_change : k_L_is_change ≤ j) (hr : Room j (Ar.deeper (PyProof.Rows.envOfC "_law_changes" (defScope (top 20)) s.heap.objs.size f cdv))) (Nt : Ent) :
    PSs (cxOf CX0 P w K mg base N_L_changes "_law_changes" (defScope (top 20)) f cdv Ar outer s H E).nox (defBody (top 20)) (liftS A K Nt (t_L_changes S_L_is_change)) :=
  have nd := sc_L_changes.nd
  (ss_cons (sS 1 nd (e_lst (a_cons (e_tup a_nil) a_nil)))
  (ss_cons (s_for (i_rg2 B.range (a_cons e_int (a_cons (e_op op_addA dr_add (vB 0) (e_bw e_int)) a_nil))) (gN 2 nd)
  (ss_one (sS 1 nd (e_op op_addA dr_add (vB 1) (e_bw (e_ofW (eC [("row", 3)] nd (iA (vF 1)) (fun _ _ _ _ _ _ => (gN 3 nd)) (fun _ _ _ _ _ _ => ts_nil) (fun _ _ _ _ _ _ => (e_op op_addA dr_add (vB 3) (e_bw (e_tup (a_cons (vF 2) a_nil))))))))))) PassesOwn.never rfl)
  (ss_one (s_ret (e_ofW (n_callB (cr_sortedD hr.units) dw_sorted B.sorted bt_sorted (b_cons (e_bw (e_ofW (eC [("row", 3)] nd (iA (vF 1)) (fun _ _ _ _ _ _ => (gN 3 nd)) (fun _ _ _ _ _ _ => (ts_one (t_val (e_call G_L_is_change hr h_L_is_change (a_cons (vF 0) (a_cons (vF 3) a_nil)))))) (fun _ _ _ _ _ _ => (vF 3))))) b_nil)))))))

abbrev N_L_piece : List Str := ["pool", "stage", "most", "changes", "turn", "body", "k", "hunt", "many"]
theorem sc_L_piece : FnScope N_L_piece ["pool", "stage", "most"] (defScope (top 21)) := ⟨rfl, rfl, rfl, by decide +kernel, rfl, by decide +kernel, by decide +kernel⟩
theorem d_L_piece {j : Nat} {A : Amb} (B : Bt mg) {k_L_changes : Nat} {S_L_changes : FS A} (G_L_changes : DFn P w K mg base A k_L_changes "_law_changes" ["stage"] S_L_changes) (h_L_changes : k_L_changes ≤ j) {k_L_draw : Nat} {S_L_draw : FS A} (G_L_draw : DFn P w K mg base A k_L_draw "_law_draw" ["pool", "many"] S_L_draw) (h_L_draw : k_L_draw ≤ j) {k_L_pick : Nat} {S_L_pick : FS A} (G_L_pick : DFn P w K mg base A k_L_pick "_law_pick" ["pool", "items"] S_L_pick) (h_L_pick : k_L_pick ≤ j) (hr : Room j (Ar.deeper (PyProof.Rows.envOfC "_law_piece" (defScope (top 21)) s.heap.objs.size f cdv))) (Nt : Ent) :
    PSs (cxOf CX0 P w K mg base N_L_piece "_law_piece" (defScope (top 21)) f cdv Ar outer s H E).nox (defBody (top 21)) (liftS A K Nt (t_L_piece S_L_changes S_L_draw S_L_pick)) :=
  have nd := sc_L_piece.nd
  (ss_cons (sS 3 nd (e_call G_L_changes hr h_L_changes (a_cons (vF 1) a_nil)))
  (ss_cons (sS 4 nd (e_call G_L_draw hr h_L_draw (a_cons (vF 0) (a_cons e_int a_nil))))
  (ss_cons (s_if (t_cmp (op_eqU hr.units) dr_eqU (vB 4) (e_bw e_int))
  (ss_cons (sCf 5 [("k", 6)] nd (i_rg1 B.range (a_cons (e_op op_addA dr_add (e_bw e_int) (e_bw (e_call G_L_draw hr h_L_draw (a_cons (vF 0) (a_cons (e_op op_fdiv dr_div (vB 2) (e_bw e_int)) a_nil))))) a_nil)) (fun _ _ _ _ _ _ => (gN 6 nd)) (fun _ _ _ _ _ _ => ts_nil) (fun _ _ _ _ _ _ => (e_call G_L_pick hr h_L_pick (a_cons (vF 0) (a_cons (vF 3) a_nil)))))
  (ss_one (s_ret (e_callTy call_tupleF dn_tuple B.tuple bt_tuple (b_cons (e_bw (e_sl (e_bw (e_op op_addA dr_add (e_bw (e_op op_addA dr_add (e_bw (e_op op_addA dr_add (vB 5) (e_bw (e_lst (a_cons (e_call G_L_pick hr h_L_pick (a_cons (vF 0) (a_cons (vF 3) a_nil))) a_nil))))) (e_bw (e_rev (vB 5))))) (e_bw (e_lst (a_cons (e_call G_L_pick hr h_L_pick (a_cons (vF 0) (a_cons (vF 3) a_nil))) a_nil))))) o_none (o_some (vB 2)))) b_nil)))))
  ss_nil)
  (ss_cons (s_if (t_cmp (op_eqU hr.units) dr_eqU (vB 4) (e_bw e_int))
  (ss_cons (sS 7 nd (e_ifExp (t_cmp (op_eqU hr.units) dr_eqU (e_bw (e_op op_mod dr_mod (e_bw (e_callTy call_int1 dn_int B.int bt_int (b_cons (vB 1) b_nil))) (e_bw e_int))) (e_bw e_int)) (e_lst (a_cons (e_tup (a_cons e_int a_nil)) (a_cons (e_tup (a_cons (vF 1) a_nil)) a_nil))) (e_lst (a_cons (e_tup a_nil) (a_cons (e_tup (a_cons e_int (a_cons (vF 1) a_nil))) a_nil)))))
  (ss_cons (sS 8 nd (e_op op_mulU dr_mulU (e_bw e_int) (vB 1)))
  (ss_one (s_ret (e_sl (e_bw (e_callTy call_tupleF dn_tuple B.tuple bt_tuple (b_cons (e_bw (e_op op_addA dr_add (e_bw (e_sl (e_bw (e_op op_mulU dr_mulU (vB 7) (vB 1))) o_none (o_some (e_bw (e_op op_sub dr_sub (vB 8) (e_bw e_int)))))) (e_bw (e_lst (a_cons (e_call G_L_pick hr h_L_pick (a_cons (vF 0) (a_cons (vF 3) a_nil))) a_nil))))) b_nil))) o_none (o_some (vB 2)))))))
  ss_nil)
  (ss_one (s_ret (e_callTy call_tupleF dn_tuple B.tuple bt_tuple (b_cons (e_bw (e_ofW (eC [("k", 6)] nd (i_rg1 B.range (a_cons (e_op op_addA dr_add (e_bw e_int) (e_bw (e_call G_L_draw hr h_L_draw (a_cons (vF 0) (a_cons (vF 2) a_nil))))) a_nil)) (fun _ _ _ _ _ _ => (gN 6 nd)) (fun _ _ _ _ _ _ => ts_nil) (fun _ _ _ _ _ _ => (e_call G_L_pick hr h_L_pick (a_cons (vF 0) (a_cons (vF 3) a_nil))))))) b_nil))))))))

abbrev N_L_stage : List Str := ["pool", "most"]
theorem sc_L_stage : FnScope N_L_stage ["pool", "most"] (defScope (top 22)) := ⟨rfl, rfl, rfl, by decide +kernel, rfl, by decide +kernel, by decide +kernel⟩
theorem d_L_stage {j : Nat} {A : Amb} (B : Bt mg) {k_L_draw : Nat} {S_L_draw : FS A} (G_L_draw : DFn P w K mg base A k_L_draw "_law_draw" ["pool", "many"] S_L_draw) (h_L_draw : k_L_draw ≤ j) (hr : Room j (Ar.deeper (PyProof.Rows.envOfC "_law_stage" (defScope (top 22)) s.heap.objs.size f cdv))) (Nt : Ent) :
    PSs (cxOf CX0 P w K mg base N_L_stage "_law_stage" (defScope (top 22)) f cdv Ar outer s H E).nox (defBody (top 22)) (liftS A K Nt (t_L_stage S_L_draw)) :=
  have nd := sc_L_stage.nd
  (ss_one (s_ret (e_op op_addA dr_add (e_bw e_int) (e_bw (e_call G_L_draw hr h_L_draw (a_cons (vF 0) (a_cons (e_op op_sub dr_sub (vB 1) (e_bw e_int)) a_nil)))))))

abbrev N_L_method : List Str := ["pool", "most", "stage", "lead"]
theorem sc_L_method : FnScope N_L_method ["pool", "most"] (defScope (top 23)) := ⟨rfl, rfl, rfl, by decide +kernel, rfl, by decide +kernel, by decide +kernel⟩
theorem d_L_method {j : Nat} {A : Amb} (B : Bt mg) {k_L_stage : Nat} {S_L_stage : FS A} (G_L_stage : DFn P w K mg base A k_L_stage "_law_stage" ["pool", "most"] S_L_stage) (h_L_stage : k_L_stage ≤ j) {k_L_piece : Nat} {S_L_piece : FS A} (G_L_piece : DFn P w K mg base A k_L_piece "_law_piece" ["pool", "stage", "most"] S_L_piece) (h_L_piece : k_L_piece ≤ j) {k_L_draw : Nat} {S_L_draw : FS A} (G_L_draw : DFn P w K mg base A k_L_draw "_law_draw" ["pool", "many"] S_L_draw) (h_L_draw : k_L_draw ≤ j) (hr : Room j (Ar.deeper (PyProof.Rows.envOfC "_law_method" (defScope (top 23)) s.heap.objs.size f cdv))) (Nt : Ent) :
    PSs (cxOf CX0 P w K mg base N_L_method "_law_method" (defScope (top 23)) f cdv Ar outer s H E).nox (defBody (top 23)) (liftS A K Nt (t_L_method S_L_stage S_L_piece S_L_draw)) :=
  have nd := sc_L_method.nd
  (ss_cons (sS 2 nd (e_call G_L_stage hr h_L_stage (a_cons (vF 0) (a_cons (vF 1) a_nil))))
  (ss_cons (sS 3 nd (e_call G_L_piece hr h_L_piece (a_cons (vF 0) (a_cons (vF 2) (a_cons e_int a_nil)))))
  (ss_cons (s_if (t_cmp (op_ltA hr.units65) dr_ltA (e_bw (e_callB call_len dn_len B.len bt_len (b_cons (vB 3) b_nil))) (e_bw e_int))
  (ss_one (sS 3 nd (e_op op_addA dr_add (vB 3) (vB 3))))
  ss_nil)
  (ss_cons (s_if (PW.pt (w_and (t_cmp (op_eqU hr.units) dr_eqU (e_bw (e_call G_L_draw hr h_L_draw (a_cons (vF 0) (a_cons e_int a_nil)))) (e_bw e_int)) (w_and1 (t_cmp op_le dr_cmpI (e_bw (e_callB call_len dn_len B.len bt_len (b_cons (vB 3) b_nil))) (e_bw e_int)))))
  (ss_one (sS 3 nd (e_op op_mulU dr_mulU (vB 3) (e_bw (e_op op_addA dr_add (e_bw e_int) (e_bw (e_call G_L_draw hr h_L_draw (a_cons (vF 0) (a_cons e_int a_nil)))))))))
  ss_nil)
  (ss_one (s_ret (e_tup (a_cons (vF 2) (a_cons (vF 3) a_nil)))))))))

abbrev N_L_way : List Str := ["method", "way", "stage", "lead", "row", "place", "change"]
theorem sc_L_way : FnScope N_L_way ["method", "way"] (defScope (top 24)) := ⟨rfl, rfl, rfl, by decide +kernel, rfl, by decide +kernel, by decide +kernel⟩
theorem d_L_way {j : Nat} {A : Amb} (B : Bt mg) (hr : Room j (Ar.deeper (PyProof.Rows.envOfC "_law_way" (defScope (top 24)) s.heap.objs.size f cdv))) (Nt : Ent) :
    PSs (cxOf CX0 P w K mg base N_L_way "_law_way" (defScope (top 24)) f cdv Ar outer s H E).nox (defBody (top 24)) (liftS A K Nt (t_L_way)) :=
  have nd := sc_L_way.nd
  (ss_cons (s_asg (ps_asg (vF 0) (g_tup rfl (gs_cons (gN 2 nd) (gs_cons (gN 3 nd) gs_nil)))))
  (ss_cons (sS 4 nd (e_ifExp (t_cmp (op_eqU hr.units) dr_eqU (e_bw (e_ix ix_seq dr_ix (vB 1) (e_bw e_int))) (e_bw e_int)) (e_rev (e_bw (e_ofW (n_callTy call_list_of dw_list B.list bt_list (b_cons (vB 3) b_nil))))) (e_ofW (n_callTy call_list_of dw_list B.list bt_list (b_cons (vB 3) b_nil)))))
  (ss_cons (s_if (t_cmp (op_eqU hr.units) dr_eqU (e_bw (e_ix ix_seq dr_ix (vB 1) (e_bw e_int))) (e_bw e_int))
  (ss_one (sCf 4 [("change", 6)] nd (iA (vF 4)) (fun _ _ _ _ _ _ => (gN 6 nd)) (fun _ _ _ _ _ _ => ts_nil) (fun _ _ _ _ _ _ => (e_callTy call_tupleF dn_tuple B.tuple bt_tuple (b_cons (e_bw (e_ofW (n_callB (cr_sortedD hr.units) dw_sorted B.sorted bt_sorted (b_cons (e_bw (e_ofW (eC [("place", 5)] nd (iA (vF 6)) (fun _ _ _ _ _ _ => (gN 5 nd)) (fun _ _ _ _ _ _ => ts_nil) (fun _ _ _ _ _ _ => (e_op op_sub dr_sub (e_bw (e_op op_addA dr_add (vB 2) (e_bw e_int))) (vB 5)))))) b_nil)))) b_nil)))))
  ss_nil)
  (ss_one (s_ret (e_tup (a_cons (vF 2) (a_cons (e_callTy call_tupleF dn_tuple B.tuple bt_tuple (b_cons (e_bw (e_op op_addA dr_add (e_bw (e_sl (vB 4) (o_some (e_bw (e_ix ix_seq dr_ix (vB 1) (e_bw e_int)))) o_none)) (e_bw (e_sl (vB 4) o_none (o_some (e_bw (e_ix ix_seq dr_ix (vB 1) (e_bw e_int)))))))) b_nil)) a_nil))))))))
abbrev N_law : List Str := ["script", "pool", "method", "stage", "lead", "ways", "one", "two", "k", "told", "way", "others", "other", "found", "many", "n"]
theorem sc_law : FnScope N_law ["script"] (defScope (top 25)) := ⟨rfl, rfl, rfl, by decide +kernel, rfl, by decide +kernel, by decide +kernel⟩
def law0 : Stmt := (defBody (top 25)).head!
def lawR : List Stmt := (defBody (top 25)).tail
theorem d_law0 {j : Nat} {g : Addr} {gd : FuncData} (G : FnOk P w K mg base CX0 1 g gd ["script"] (spPool K)) (mG : mg "_law_pool" = some (.ref g)) (kG : PySem.W.keepIn K (.ref g) = true) (bG : Binds K gd ["script"] []) (hj : 1 ≤ j) (hr : Room j (callerA.deeper (PyProof.Rows.envOfC "law" (defScope (top 25)) s.heap.objs.size f cdv))) :
    PS (cxOf CX0 P w K mg base N_law "law" (defScope (top 25)) f cdv callerA outer s H E).nox law0 (tAsg (tCall (spPool K) [] (fun _ _ _ => False) (tCons (tVar 0) tNil)) (gName 1)) :=
  ps_set (i := 1) sc_law.nd rfl (by first | exact Or.inl rfl | exact Or.inr rfl) (pe_call G (hr.mono hj) rfl mG kG bG .nil pass0 (pa_cons (pv 0) pa_nil))
theorem d_law {j : Nat} {A : Amb} (B : Bt mg) {k_L_method : Nat} {S_L_method : FS A} (G_L_method : DFn P w K mg base A k_L_method "_law_method" ["pool", "most"] S_L_method) (h_L_method : k_L_method ≤ j) {k_L_draw : Nat} {S_L_draw : FS A} (G_L_draw : DFn P w K mg base A k_L_draw "_law_draw" ["pool", "many"] S_L_draw) (h_L_draw : k_L_draw ≤ j) {k_L_same : Nat} {S_L_same : FS A} (G_L_same : DFn P w K mg base A k_L_same "_law_same" ["actual", "due"] S_L_same) (h_L_same : k_L_same ≤ j) {k_reversed_method : Nat} {S_reversed_method : FS A} (G_reversed_method : DFn P w K mg base A k_reversed_method "reversed_method" ["method"] S_reversed_method) (h_reversed_method : k_reversed_method ≤ j) {k_mirrored_method : Nat} {S_mirrored_method : FS A} (G_mirrored_method : DFn P w K mg base A k_mirrored_method "mirrored_method" ["method"] S_mirrored_method) (h_mirrored_method : k_mirrored_method ≤ j) {k_started_at : Nat} {S_started_at : FS A} (G_started_at : DFn P w K mg base A k_started_at "started_at" ["method", "k"] S_started_at) (h_started_at : k_started_at ≤ j) {k_normal_method : Nat} {S_normal_method : FS A} (G_normal_method : DFn P w K mg base A k_normal_method "normal_method" ["method"] S_normal_method) (h_normal_method : k_normal_method ≤ j) {k_L_way : Nat} {S_L_way : FS A} (G_L_way : DFn P w K mg base A k_L_way "_law_way" ["method", "way"] S_L_way) (h_L_way : k_L_way ≤ j) {k_shortest_lead : Nat} {S_shortest_lead : FS A} (G_shortest_lead : DFn P w K mg base A k_shortest_lead "shortest_lead" ["method"] S_shortest_lead) (h_shortest_lead : k_shortest_lead ≤ j) {k_L_pick : Nat} {S_L_pick : FS A} (G_L_pick : DFn P w K mg base A k_L_pick "_law_pick" ["pool", "items"] S_L_pick) (h_L_pick : k_L_pick ≤ j) {k_way_between : Nat} {S_way_between : FS A} (G_way_between : DFn P w K mg base A k_way_between "way_between" ["first", "second"] S_way_between) (h_way_between : k_way_between ≤ j) {k_L_changes : Nat} {S_L_changes : FS A} (G_L_changes : DFn P w K mg base A k_L_changes "_law_changes" ["stage"] S_L_changes) (h_L_changes : k_L_changes ≤ j) (hr : Room j (callerA.deeper (PyProof.Rows.envOfC "law" (defScope (top 25)) s.heap.objs.size f cdv))) (Nt : Ent) :
    PSs (cxOf CX0 P w K mg base N_law "law" (defScope (top 25)) f cdv callerA outer s H E).nox lawR (liftS A K Nt (t_law_k09 S_L_method S_L_draw S_L_same S_reversed_method S_mirrored_method S_started_at S_normal_method S_L_way S_shortest_lead S_L_pick S_way_between S_L_changes)) :=
  have nd := sc_law.nd
  have hg : (cxOf CX0 P w K mg base N_law "law" (defScope (top 25)) f cdv callerA outer s H E).nox.A.guards = some [] := rfl
  (ss_cons (sS 2 nd (e_call G_L_method hr h_L_method (a_cons (vF 1) (a_cons e_int a_nil))))
  (ss_cons (s_asg (ps_asg (vF 2) (g_tup rfl (gs_cons (gN 3 nd) (gs_cons (gN 4 nd) gs_nil)))))
  (ss_cons (sS 5 nd (e_lst a_nil))
  (ss_cons (s_for (iA (e_tup (a_cons e_int (a_cons e_int a_nil)))) (gN 6 nd)
  (ss_one (s_for (iA (e_tup (a_cons e_int (a_cons e_int a_nil)))) (gN 7 nd)
  (ss_one (sS 5 nd (e_op op_addA dr_add (vB 5) (e_bw (e_ofW (eC [("k", 8)] nd (i_rg1 B.range (a_cons (e_callB call_len dn_len B.len bt_len (b_cons (vB 4) b_nil)) a_nil)) (fun _ _ _ _ _ _ => (gN 8 nd)) (fun _ _ _ _ _ _ => ts_nil) (fun _ _ _ _ _ _ => (e_tup (a_cons (vF 6) (a_cons (vF 7) (a_cons (vF 8) a_nil))))))))))) PassesOwn.never rfl)) PassesOwn.never rfl)
  (ss_cons (sS 8 nd (e_call G_L_draw hr h_L_draw (a_cons (vF 1) (a_cons (e_callB call_len dn_len B.len bt_len (b_cons (vB 4) b_nil)) a_nil))))
  (ss_cons (sS 9 nd (e_lst (a_cons (e_call G_reversed_method hr h_reversed_method (a_cons (vF 2) a_nil)) (a_cons (e_call G_mirrored_method hr h_mirrored_method (a_cons (vF 2) a_nil)) (a_cons (e_call G_started_at hr h_started_at (a_cons (vF 2) (a_cons (vF 8) a_nil))) (a_cons (e_call G_normal_method hr h_normal_method (a_cons (vF 2) a_nil)) a_nil))))))
  (ss_cons (s_if (t_not (t_val (e_call G_L_same hr h_L_same (a_cons (vF 9) (a_cons (e_lst (a_cons (e_call G_L_way hr h_L_way (a_cons (vF 2) (a_cons (e_tup (a_cons e_int (a_cons e_int (a_cons e_int a_nil)))) a_nil))) (a_cons (e_call G_L_way hr h_L_way (a_cons (vF 2) (a_cons (e_tup (a_cons e_int (a_cons e_int (a_cons e_int a_nil)))) a_nil))) (a_cons (e_call G_L_way hr h_L_way (a_cons (vF 2) (a_cons (e_tup (a_cons e_int (a_cons e_int (a_cons (vF 8) a_nil)))) a_nil))) (a_cons (e_ix ix_seq dr_ix (e_bw (e_ofW (n_callB (cr_sortedD hr.units) dw_sorted B.sorted bt_sorted (b_cons (e_bw (e_ofW (eC [("way", 10)] nd (iA (vF 5)) (fun _ _ _ _ _ _ => (gN 10 nd)) (fun _ _ _ _ _ _ => ts_nil) (fun _ _ _ _ _ _ => (e_call G_L_way hr h_L_way (a_cons (vF 2) (a_cons (vF 10) a_nil))))))) b_nil)))) (e_bw e_int)) a_nil))))) a_nil)))))
  (ss_one (s_ret e_bl))
  ss_nil)
  (ss_cons (sS 11 nd (e_lst (a_cons (e_call G_L_way hr h_L_way (a_cons (vF 2) (a_cons (e_call G_L_pick hr h_L_pick (a_cons (vF 1) (a_cons (vF 5) a_nil))) a_nil))) (a_cons (vF 2) (a_cons (e_tup (a_cons (vF 3) (a_cons (e_op op_addA dr_add (e_bw (e_op op_addA dr_add (e_bw (e_sl (vB 4) o_none (o_some (vB 8)))) (e_bw (e_tup (a_cons (e_call G_L_pick hr h_L_pick (a_cons (vF 1) (a_cons (e_call G_L_changes hr h_L_changes (a_cons (vF 3) a_nil)) a_nil))) a_nil))))) (e_bw (e_sl (vB 4) (o_some (e_bw (e_op op_addA dr_add (vB 8) (e_bw e_int)))) o_none))) a_nil))) (a_cons (e_call G_L_method hr h_L_method (a_cons (vF 1) (a_cons e_int a_nil))) a_nil))))))
  (ss_cons (sS 11 nd (e_op op_addA dr_add (vB 11) (e_bw (e_lst (a_cons (e_tup (a_cons (vF 3) (a_cons (e_op op_addA dr_add (e_bw (e_op op_addA dr_add (e_bw (e_sl (vB 4) (o_some (e_bw e_int)) o_none)) (e_bw (e_sl (vB 4) o_none (o_some (e_bw e_int)))))) (e_bw (e_sl (vB 4) o_none (o_some (e_bw e_int))))) a_nil))) a_nil)))))
  (ss_cons (s_for (iA (vF 11)) (gN 12 nd)
  (ss_cons (sCf 13 [("way", 10)] nd (iA (vF 5)) (fun _ _ _ _ _ _ => (gN 10 nd)) (fun _ _ _ _ _ _ => (ts_one (t_cmp (op_eqU hr.units) dr_eqU (e_bw (e_call G_L_way hr h_L_way (a_cons (vF 2) (a_cons (vF 10) a_nil)))) (vB 12)))) (fun _ _ _ _ _ _ => (vF 10)))
  (ss_cons (s_if (t_not (t_val (e_call G_L_same hr h_L_same (a_cons (e_call G_way_between hr h_way_between (a_cons (vF 2) (a_cons (vF 12) a_nil))) (a_cons (e_ifExp (t_cmp op_gt dr_cmpI (e_bw (e_callB call_len dn_len B.len bt_len (b_cons (vB 13) b_nil))) (e_bw e_int)) (e_ix ix_seq dr_ix (vB 13) (e_bw e_int)) e_non) a_nil)))))
  (ss_one (s_ret e_bl))
  ss_nil)
  (ss_one (s_if (PW.pt (w_and (t_cmp op_gt dr_cmpI (e_bw (e_callB call_len dn_len B.len bt_len (b_cons (vB 13) b_nil))) (e_bw e_int)) (w_and1 (t_not (t_val (e_call G_L_same hr h_L_same (a_cons (e_call G_normal_method hr h_normal_method (a_cons (vF 12) a_nil)) (a_cons (e_ix ix_seq dr_ix (vB 9) (e_bw e_int)) a_nil))))))))
  (ss_one (s_ret e_bl))
  ss_nil)))) PassesOwn.never rfl)
  (ss_cons (sCf 14 [("n", 15)] nd (i_rg2 B.range (a_cons e_int (a_cons (e_op op_addA dr_add (e_bw (e_callB call_len dn_len B.len bt_len (b_cons (vB 4) b_nil))) (e_bw e_int)) a_nil))) (fun _ _ _ _ _ _ => (gN 15 nd)) (fun _ _ _ _ _ _ => (ts_one (PW.pt (w_and (t_cmp (op_eqU hr.units) dr_eqU (e_bw (e_op op_mod dr_mod (e_bw (e_callTy call_int1 dn_int B.int bt_int (b_cons (e_bw (e_callB call_len dn_len B.len bt_len (b_cons (vB 4) b_nil))) b_nil))) (vB 15))) (e_bw e_int)) (w_and1 (t_cmp (op_eqU hr.units) dr_eqU (e_bw (e_op op_mulU dr_mulU (e_bw (e_sl (vB 4) o_none (o_some (vB 15)))) (e_bw (e_op op_fdiv dr_div (e_bw (e_callB call_len dn_len B.len bt_len (b_cons (vB 4) b_nil))) (vB 15))))) (vB 4))))))) (fun _ _ _ _ _ _ => (vF 15)))
  (ss_one (s_ret (e_call G_L_same hr h_L_same (a_cons (e_call G_shortest_lead hr h_shortest_lead (a_cons (vF 2) a_nil)) (a_cons (e_tup (a_cons (vF 3) (a_cons (e_sl (vB 4) o_none (o_some (e_bw (e_ix ix_seq dr_ix (vB 14) (e_bw e_int))))) a_nil))) a_nil))))))))))))))))
end
theorem sc_pool : FnScope Npool ["script"] (defScope (top 14)) := ⟨rfl, rfl, rfl, by decide +kernel, rfl, by decide +kernel, by decide +kernel⟩
theorem sc_draw : FnScope Ndraw ["pool", "many"] (defScope (top 16)) := ⟨rfl, rfl, rfl, by decide +kernel, rfl, by decide +kernel, by decide +kernel⟩
section
variable {P : Program} {w : World} {K : PySem.W.Frag} {mg : Str → Option Value} {base : Heap} {f : Addr} {cdv : Value} {Ar : Around} {outer : List PySem.Env} {s : Shared} {H : Hp} {E : XK}
theorem d_pool (B : Bt mg) : PSs (cxOf CX0 P w K mg base Npool "_law_pool" (defScope (top 14)) f cdv Ar outer s H E).nox (defBody (top 14)) (rdPool K) :=
  pss_cons (ps_set (i := 1) sc_pool.nd rfl (Or.inl rfl) pe_int) (pss_cons (ps_for (PassesOwn.never) rfl (pi_list (pe_slice sl_list (pv 0) po_none (po_some pe_int))) (pg_name (i := 2) sc_pool.nd rfl (Or.inl rfl))
    (pss_one (ps_set (i := 1) sc_pool.nd rfl (Or.inl rfl) (pe_op op_mod (pe_callTy call_int1 rfl B.int bt_int (pa_cons (pe_op op_add (pe_op op_mul (pv 1) pe_int) (pv 2)) pa_nil)) pe_int))))
    (pss_one (ps_ret (pe_lst (pa_cons (pe_callTy call_list_of rfl B.list bt_list (pa_cons (pv 0) pa_nil)) (pa_cons pe_int (pa_cons pe_int (pa_cons pe_int (pa_cons (pv 1) pa_nil)))))))))
theorem d_draw (B : Bt mg) {g : Addr} {gd : FuncData} {k : Nat} {sp : Sp} (G : FnOk P w K mg base CX0 k g gd ["cell"] sp) (mG : mg "_law_spread" = some (.ref g)) (kG : PySem.W.keepIn K (.ref g) = true) (bG : Binds K gd ["cell"] []) (hr : Room k (Ar.deeper (PyProof.Rows.envOfC "_law_draw" (defScope (top 16)) s.heap.objs.size f cdv))) :
    PSs (cxOf CX0 P w K mg base Ndraw "_law_draw" (defScope (top 16)) f cdv Ar outer s H E).nox (defBody (top 16)) (rdDraw K sp fun _ _ _ => False) :=
  have ix : PlainIx (.Constant (.int 0) 0 ⟨0, 0, 0, 0⟩) := fun _ _ => rfl
  pss_cons (ps_if (pw_and (pt_cmpR op_le (pe_ix ix_list (pv 0) pe_int fun _ _ => rfl) pe_int (nomark _)) (pw_and1 (pt_cmpR op_lt (pe_ix ix_list (pv 0) pe_int fun _ _ => rfl) (pe_callB call_len_seq (by rfl) B.len bt_len (pa_cons (pe_ix ix_list (pv 0) pe_int fun _ _ => rfl) pa_nil)) rfl))).pt
      (pss_cons (ps_set (i := 2) sc_draw.nd rfl (Or.inl rfl) (pe_ix ix_list (pe_ix ix_list (pv 0) pe_int fun _ _ => rfl) (pe_ix ix_list (pv 0) pe_int fun _ _ => rfl) fun _ _ => rfl))
      (pss_cons (ps_asg (pe_op op_add (pe_ix ix_list (pv 0) pe_int fun _ _ => rfl) pe_int) (pg_sub (pv 0) pe_int set_list))
      (pss_cons (ps_asg (pv 2) (pg_sub (pv 0) pe_int set_list))
      (pss_one (ps_if (pt_cmpR op_lt (pv 2) pe_int (nomark _)) (pss_one (ps_asg (pe_call G hr rfl mG kG bG .nil pass0 (pa_cons (pv 2) pa_nil)) (pg_sub (pv 0) pe_int set_list))) pss_nil))))) pss_nil)
    (pss_cons (ps_asg (pe_op op_add (pe_ix ix_list (pv 0) pe_int fun _ _ => rfl) pe_int) (pg_sub (pv 0) pe_int set_list))
    (pss_cons (ps_if (pt_cmpR op_le (pe_ix ix_list (pv 0) pe_int fun _ _ => rfl) pe_int (nomark _))
      (pss_cons (ps_set (i := 3) sc_draw.nd rfl (Or.inl rfl) (pe_op op_mod (pe_callTy call_int1 rfl B.int bt_int (pa_cons (pe_op op_add (pe_op op_add (pe_op op_mul (pe_ix ix_list (pv 0) pe_int fun _ _ => rfl) pe_int) (pe_op op_mul (pe_ix ix_list (pv 0) pe_int fun _ _ => rfl) pe_int)) pe_int) pa_nil)) pe_int))
      (pss_cons (ps_set (i := 3) sc_draw.nd rfl (Or.inl rfl) (pe_op op_mod (pe_callTy call_int1 rfl B.int bt_int (pa_cons (pe_op op_add (pe_op op_mul (pv 3) pe_int) (pe_ix ix_list (pv 0) pe_int fun _ _ => rfl)) pa_nil)) pe_int))
      (pss_one (ps_ret (pe_op op_mod (pe_op op_fdiv (pv 3) pe_int) (pv 1)))))) pss_nil)
    (pss_cons (ps_set (i := 4) sc_draw.nd rfl (Or.inl rfl) (pe_op op_mod (pe_callTy call_int1 rfl B.int bt_int (pa_cons (pe_ix ix_list (pv 0) pe_int fun _ _ => rfl) pa_nil)) (pv 1)))
    (pss_cons (ps_asg (pe_op op_fdivW (pe_ix ix_list (pv 0) pe_int fun _ _ => rfl) (pv 1)) (pg_sub (pv 0) pe_int set_list))
    (pss_one (ps_ret (pv 4)))))))
end
theorem all_mk {l : PySem.W.OpenLaw} {w : World} {K : PySem.W.Frag} {h : Heap} {mg : Str → Option Value} {fa f1 f3 f4 f5 f6 f7 f8 f9 f10 f12 f13 f14 f15 f16 f17 f18 f19 f20 f21 f22 f23 f24 f25 : Addr} (X : K.In h) (G : h.Ns mainGlobals mg) (hfa : mg "law" = some (.ref fa))
    {od1 an1 od3 an3 od4 an4 od5 an5 od6 an6 od7 an7 od8 an8 od9 an9 od10 an10 od12 an12 od13 an13 od14 an14 od15 an15 od16 an16 od17 an17 od18 an18 od19 an19 od20 an20 od21 an21 od22 an22 od23 an23 od24 an24 od25 an25 : Option Addr} {sl1 sl3 sl4 sl5 sl6 sl7 sl8 sl9 sl10 sl12 sl13 sl14 sl15 sl16 sl17 sl18 sl19 sl20 sl21 sl22 sl23 sl24 sl25 : Array (Option Value)} {oc1 kV1 dc1 pm1 cd1 ct1 oc3 kV3 dc3 pm3 cd3 ct3 oc4 kV4 dc4 pm4 cd4 ct4 oc5 kV5 dc5 pm5 cd5 ct5 oc6 kV6 dc6 pm6 cd6 ct6 oc7 kV7 dc7 pm7 cd7 ct7 oc8 kV8 dc8 pm8 cd8 ct8 oc9 kV9 dc9 pm9 cd9 ct9 oc10 kV10 dc10 pm10 cd10 ct10 oc12 kV12 dc12 pm12 cd12 ct12 oc13 kV13 dc13 pm13 cd13 ct13 oc14 kV14 dc14 pm14 cd14 ct14 oc15 kV15 dc15 pm15 cd15 ct15 oc16 kV16 dc16 pm16 cd16 ct16 oc17 kV17 dc17 pm17 cd17 ct17 oc18 kV18 dc18 pm18 cd18 ct18 oc19 kV19 dc19 pm19 cd19 ct19 oc20 kV20 dc20 pm20 cd20 ct20 oc21 kV21 dc21 pm21 cd21 ct21 oc22 kV22 dc22 pm22 cd22 ct22 oc23 kV23 dc23 pm23 cd23 ct23 oc24 kV24 dc24 pm24 cd24 ct24 oc25 kV25 dc25 pm25 cd25 ct25 : Value}
    (a1 : PySem.W.nsIn K mainGlobals "mirrored" = some (some (.ref f1))) (l1 : K.lookup f1 = some ⟨oc1, od1, .func (PySem.W.fnOf "mirrored" "mirrored" (defArgs (top 1)) (defBody (top 1)) (defScope (top 1)) .none kV1 dc1 pm1 an1 cd1 ct1), sl1⟩) (c1 : PySem.W.codeIn K cd1 "mirrored" = true) (k1 : PySem.W.keepIn K (.ref f1) = true)
    (a3 : PySem.W.nsIn K mainGlobals "reversed_method" = some (some (.ref f3))) (l3 : K.lookup f3 = some ⟨oc3, od3, .func (PySem.W.fnOf "reversed_method" "reversed_method" (defArgs (top 3)) (defBody (top 3)) (defScope (top 3)) .none kV3 dc3 pm3 an3 cd3 ct3), sl3⟩) (c3 : PySem.W.codeIn K cd3 "reversed_method" = true) (k3 : PySem.W.keepIn K (.ref f3) = true)
    (a4 : PySem.W.nsIn K mainGlobals "mirrored_method" = some (some (.ref f4))) (l4 : K.lookup f4 = some ⟨oc4, od4, .func (PySem.W.fnOf "mirrored_method" "mirrored_method" (defArgs (top 4)) (defBody (top 4)) (defScope (top 4)) .none kV4 dc4 pm4 an4 cd4 ct4), sl4⟩) (c4 : PySem.W.codeIn K cd4 "mirrored_method" = true) (k4 : PySem.W.keepIn K (.ref f4) = true)
    (a5 : PySem.W.nsIn K mainGlobals "started_at" = some (some (.ref f5))) (l5 : K.lookup f5 = some ⟨oc5, od5, .func (PySem.W.fnOf "started_at" "started_at" (defArgs (top 5)) (defBody (top 5)) (defScope (top 5)) .none kV5 dc5 pm5 an5 cd5 ct5), sl5⟩) (c5 : PySem.W.codeIn K cd5 "started_at" = true) (k5 : PySem.W.keepIn K (.ref f5) = true)
    (a6 : PySem.W.nsIn K mainGlobals "turned" = some (some (.ref f6))) (l6 : K.lookup f6 = some ⟨oc6, od6, .func (PySem.W.fnOf "turned" "turned" (defArgs (top 6)) (defBody (top 6)) (defScope (top 6)) .none kV6 dc6 pm6 an6 cd6 ct6), sl6⟩) (c6 : PySem.W.codeIn K cd6 "turned" = true) (k6 : PySem.W.keepIn K (.ref f6) = true)
    (a7 : PySem.W.nsIn K mainGlobals "ways_of" = some (some (.ref f7))) (l7 : K.lookup f7 = some ⟨oc7, od7, .func (PySem.W.fnOf "ways_of" "ways_of" (defArgs (top 7)) (defBody (top 7)) (defScope (top 7)) .none kV7 dc7 pm7 an7 cd7 ct7), sl7⟩) (c7 : PySem.W.codeIn K cd7 "ways_of" = true) (k7 : PySem.W.keepIn K (.ref f7) = true)
    (a8 : PySem.W.nsIn K mainGlobals "way_between" = some (some (.ref f8))) (l8 : K.lookup f8 = some ⟨oc8, od8, .func (PySem.W.fnOf "way_between" "way_between" (defArgs (top 8)) (defBody (top 8)) (defScope (top 8)) .none kV8 dc8 pm8 an8 cd8 ct8), sl8⟩) (c8 : PySem.W.codeIn K cd8 "way_between" = true) (k8 : PySem.W.keepIn K (.ref f8) = true)
    (a9 : PySem.W.nsIn K mainGlobals "normal_method" = some (some (.ref f9))) (l9 : K.lookup f9 = some ⟨oc9, od9, .func (PySem.W.fnOf "normal_method" "normal_method" (defArgs (top 9)) (defBody (top 9)) (defScope (top 9)) .none kV9 dc9 pm9 an9 cd9 ct9), sl9⟩) (c9 : PySem.W.codeIn K cd9 "normal_method" = true) (k9 : PySem.W.keepIn K (.ref f9) = true)
    (a10 : PySem.W.nsIn K mainGlobals "shortest_lead" = some (some (.ref f10))) (l10 : K.lookup f10 = some ⟨oc10, od10, .func (PySem.W.fnOf "shortest_lead" "shortest_lead" (defArgs (top 10)) (defBody (top 10)) (defScope (top 10)) .none kV10 dc10 pm10 an10 cd10 ct10), sl10⟩) (c10 : PySem.W.codeIn K cd10 "shortest_lead" = true) (k10 : PySem.W.keepIn K (.ref f10) = true)
    (a12 : PySem.W.nsIn K mainGlobals "_law_same" = some (some (.ref f12))) (l12 : K.lookup f12 = some ⟨oc12, od12, .func (PySem.W.fnOf "_law_same" "_law_same" (defArgs (top 12)) (defBody (top 12)) (defScope (top 12)) .none kV12 dc12 pm12 an12 cd12 ct12), sl12⟩) (c12 : PySem.W.codeIn K cd12 "_law_same" = true) (k12 : PySem.W.keepIn K (.ref f12) = true)
    (a13 : PySem.W.nsIn K mainGlobals "_law_is_integer" = some (some (.ref f13))) (l13 : K.lookup f13 = some ⟨oc13, od13, .func (PySem.W.fnOf "_law_is_integer" "_law_is_integer" (defArgs (top 13)) (defBody (top 13)) (defScope (top 13)) .none kV13 dc13 pm13 an13 cd13 ct13), sl13⟩) (c13 : PySem.W.codeIn K cd13 "_law_is_integer" = true) (k13 : PySem.W.keepIn K (.ref f13) = true)
    (a14 : PySem.W.nsIn K mainGlobals "_law_pool" = some (some (.ref f14))) (l14 : K.lookup f14 = some ⟨oc14, od14, .func (PySem.W.fnOf "_law_pool" "_law_pool" (defArgs (top 14)) (defBody (top 14)) (defScope (top 14)) .none kV14 dc14 pm14 an14 cd14 ct14), sl14⟩) (c14 : PySem.W.codeIn K cd14 "_law_pool" = true) (k14 : PySem.W.keepIn K (.ref f14) = true)
    (a15 : PySem.W.nsIn K mainGlobals "_law_spread" = some (some (.ref f15))) (l15 : K.lookup f15 = some ⟨oc15, od15, .func (PySem.W.fnOf "_law_spread" "_law_spread" (defArgs (top 15)) (defBody (top 15)) (defScope (top 15)) .none kV15 dc15 pm15 an15 cd15 ct15), sl15⟩) (c15 : PySem.W.codeIn K cd15 "_law_spread" = true) (k15 : PySem.W.keepIn K (.ref f15) = true)
    (a16 : PySem.W.nsIn K mainGlobals "_law_draw" = some (some (.ref f16))) (l16 : K.lookup f16 = some ⟨oc16, od16, .func (PySem.W.fnOf "_law_draw" "_law_draw" (defArgs (top 16)) (defBody (top 16)) (defScope (top 16)) .none kV16 dc16 pm16 an16 cd16 ct16), sl16⟩) (c16 : PySem.W.codeIn K cd16 "_law_draw" = true) (k16 : PySem.W.keepIn K (.ref f16) = true)
    (a17 : PySem.W.nsIn K mainGlobals "_law_pick" = some (some (.ref f17))) (l17 : K.lookup f17 = some ⟨oc17, od17, .func (PySem.W.fnOf "_law_pick" "_law_pick" (defArgs (top 17)) (defBody (top 17)) (defScope (top 17)) .none kV17 dc17 pm17 an17 cd17 ct17), sl17⟩) (c17 : PySem.W.codeIn K cd17 "_law_pick" = true) (k17 : PySem.W.keepIn K (.ref f17) = true)
    (a18 : PySem.W.nsIn K mainGlobals "_law_is_number" = some (some (.ref f18))) (l18 : K.lookup f18 = some ⟨oc18, od18, .func (PySem.W.fnOf "_law_is_number" "_law_is_number" (defArgs (top 18)) (defBody (top 18)) (defScope (top 18)) .none kV18 dc18 pm18 an18 cd18 ct18), sl18⟩) (c18 : PySem.W.codeIn K cd18 "_law_is_number" = true) (k18 : PySem.W.keepIn K (.ref f18) = true)
    (a19 : PySem.W.nsIn K mainGlobals "_law_is_change" = some (some (.ref f19))) (l19 : K.lookup f19 = some ⟨oc19, od19, .func (PySem.W.fnOf "_law_is_change" "_law_is_change" (defArgs (top 19)) (defBody (top 19)) (defScope (top 19)) .none kV19 dc19 pm19 an19 cd19 ct19), sl19⟩) (c19 : PySem.W.codeIn K cd19 "_law_is_change" = true) (k19 : PySem.W.keepIn K (.ref f19) = true)
    (a20 : PySem.W.nsIn K mainGlobals "_law_changes" = some (some (.ref f20))) (l20 : K.lookup f20 = some ⟨oc20, od20, .func (PySem.W.fnOf "_law_changes" "_law_changes" (defArgs (top 20)) (defBody (top 20)) (defScope (top 20)) .none kV20 dc20 pm20 an20 cd20 ct20), sl20⟩) (c20 : PySem.W.codeIn K cd20 "_law_changes" = true) (k20 : PySem.W.keepIn K (.ref f20) = true)
    (a21 : PySem.W.nsIn K mainGlobals "_law_piece" = some (some (.ref f21))) (l21 : K.lookup f21 = some ⟨oc21, od21, .func (PySem.W.fnOf "_law_piece" "_law_piece" (defArgs (top 21)) (defBody (top 21)) (defScope (top 21)) .none kV21 dc21 pm21 an21 cd21 ct21), sl21⟩) (c21 : PySem.W.codeIn K cd21 "_law_piece" = true) (k21 : PySem.W.keepIn K (.ref f21) = true)
    (a22 : PySem.W.nsIn K mainGlobals "_law_stage" = some (some (.ref f22))) (l22 : K.lookup f22 = some ⟨oc22, od22, .func (PySem.W.fnOf "_law_stage" "_law_stage" (defArgs (top 22)) (defBody (top 22)) (defScope (top 22)) .none kV22 dc22 pm22 an22 cd22 ct22), sl22⟩) (c22 : PySem.W.codeIn K cd22 "_law_stage" = true) (k22 : PySem.W.keepIn K (.ref f22) = true)
    (a23 : PySem.W.nsIn K mainGlobals "_law_method" = some (some (.ref f23))) (l23 : K.lookup f23 = some ⟨oc23, od23, .func (PySem.W.fnOf "_law_method" "_law_method" (defArgs (top 23)) (defBody (top 23)) (defScope (top 23)) .none kV23 dc23 pm23 an23 cd23 ct23), sl23⟩) (c23 : PySem.W.codeIn K cd23 "_law_method" = true) (k23 : PySem.W.keepIn K (.ref f23) = true)
    (a24 : PySem.W.nsIn K mainGlobals "_law_way" = some (some (.ref f24))) (l24 : K.lookup f24 = some ⟨oc24, od24, .func (PySem.W.fnOf "_law_way" "_law_way" (defArgs (top 24)) (defBody (top 24)) (defScope (top 24)) .none kV24 dc24 pm24 an24 cd24 ct24), sl24⟩) (c24 : PySem.W.codeIn K cd24 "_law_way" = true) (k24 : PySem.W.keepIn K (.ref f24) = true)
    (a25 : PySem.W.nsIn K mainGlobals "law" = some (some (.ref f25))) (l25 : K.lookup f25 = some ⟨oc25, od25, .func (PySem.W.fnOf "law" "law" (defArgs (top 25)) (defBody (top 25)) (defScope (top 25)) .none kV25 dc25 pm25 an25 cd25 ct25), sl25⟩) (c25 : PySem.W.codeIn K cd25 "law" = true) (k25 : PySem.W.keepIn K (.ref f25) = true)
    (z_len : PySem.W.nsIn K mainGlobals "len" = some none)
    (z_range : PySem.W.nsIn K mainGlobals "range" = some none)
    (z_tuple : PySem.W.nsIn K mainGlobals "tuple" = some none)
    (z_list : PySem.W.nsIn K mainGlobals "list" = some none)
    (z_int : PySem.W.nsIn K mainGlobals "int" = some none)
    (z_bool : PySem.W.nsIn K mainGlobals "bool" = some none)
    (z_str : PySem.W.nsIn K mainGlobals "str" = some none)
    (z_dict : PySem.W.nsIn K mainGlobals "dict" = some none)
    (z_set : PySem.W.nsIn K mainGlobals "set" = some none)
    (z_sorted : PySem.W.nsIn K mainGlobals "sorted" = some none)
    (z_isinstance : PySem.W.nsIn K mainGlobals "isinstance" = some none)
    (z_all : PySem.W.nsIn K mainGlobals "all" = some none)
    (z_any : PySem.W.nsIn K mainGlobals "any" = some none)
    (z_abs : PySem.W.nsIn K mainGlobals "abs" = some none)
    (z_max : PySem.W.nsIn K mainGlobals "max" = some none)
    (z_min : PySem.W.nsIn K mainGlobals "min" = some none)
    (z_sum : PySem.W.nsIn K mainGlobals "sum" = some none)
    (z_repr : PySem.W.nsIn K mainGlobals "repr" = some none)
    (z_zip : PySem.W.nsIn K mainGlobals "zip" = some none)
    (z_type : PySem.W.nsIn K mainGlobals "type" = some none) :
    ∃ fd : FuncData, (∀ (s : Shared) (v : Value), BindsTo s fd ⟨[v], []⟩ [("script", v)]) ∧ ∀ base : Heap, K.In base → base.Ns mainGlobals mg → RunAt l.prog w K mg base callerA fa fd ["script"] (spLaw K) := by
  have e := hfa.symm.trans (PySem.W.mg_of X G a25)
  cases e
  have B : Bt mg := ⟨PySem.W.mg_none_of X G z_len, PySem.W.mg_none_of X G z_range, PySem.W.mg_none_of X G z_tuple, PySem.W.mg_none_of X G z_list, PySem.W.mg_none_of X G z_int, PySem.W.mg_none_of X G z_bool, PySem.W.mg_none_of X G z_str, PySem.W.mg_none_of X G z_dict, PySem.W.mg_none_of X G z_set, PySem.W.mg_none_of X G z_sorted, PySem.W.mg_none_of X G z_isinstance, PySem.W.mg_none_of X G z_all, PySem.W.mg_none_of X G z_any, PySem.W.mg_none_of X G z_abs, PySem.W.mg_none_of X G z_max, PySem.W.mg_none_of X G z_min, PySem.W.mg_none_of X G z_sum, PySem.W.mg_none_of X G z_repr, PySem.W.mg_none_of X G z_zip, PySem.W.mg_none_of X G z_type⟩
  have F1 := fun_mk (st := top 1) l1 c1 k1
  have b1 := F1.binds (ps := ["stage", "change"]) fun _ _ _ _ _ _ us hl => match us, hl with | [_, _], _ => rfl
  have m1 := PySem.W.mg_of X G a1
  have F3 := fun_mk (st := top 3) l3 c3 k3
  have b3 := F3.binds (ps := ["method"]) fun _ _ _ _ _ _ us hl => match us, hl with | [_], _ => rfl
  have m3 := PySem.W.mg_of X G a3
  have F4 := fun_mk (st := top 4) l4 c4 k4
  have b4 := F4.binds (ps := ["method"]) fun _ _ _ _ _ _ us hl => match us, hl with | [_], _ => rfl
  have m4 := PySem.W.mg_of X G a4
  have F5 := fun_mk (st := top 5) l5 c5 k5
  have b5 := F5.binds (ps := ["method", "k"]) fun _ _ _ _ _ _ us hl => match us, hl with | [_, _], _ => rfl
  have m5 := PySem.W.mg_of X G a5
  have F6 := fun_mk (st := top 6) l6 c6 k6
  have b6 := F6.binds (ps := ["method", "way"]) fun _ _ _ _ _ _ us hl => match us, hl with | [_, _], _ => rfl
  have m6 := PySem.W.mg_of X G a6
  have F7 := fun_mk (st := top 7) l7 c7 k7
  have b7 := F7.binds (ps := ["method"]) fun _ _ _ _ _ _ us hl => match us, hl with | [_], _ => rfl
  have m7 := PySem.W.mg_of X G a7
  have F8 := fun_mk (st := top 8) l8 c8 k8
  have b8 := F8.binds (ps := ["first", "second"]) fun _ _ _ _ _ _ us hl => match us, hl with | [_, _], _ => rfl
  have m8 := PySem.W.mg_of X G a8
  have F9 := fun_mk (st := top 9) l9 c9 k9
  have b9 := F9.binds (ps := ["method"]) fun _ _ _ _ _ _ us hl => match us, hl with | [_], _ => rfl
  have m9 := PySem.W.mg_of X G a9
  have F10 := fun_mk (st := top 10) l10 c10 k10
  have b10 := F10.binds (ps := ["method"]) fun _ _ _ _ _ _ us hl => match us, hl with | [_], _ => rfl
  have m10 := PySem.W.mg_of X G a10
  have F12 := fun_mk (st := top 12) l12 c12 k12
  have b12 := F12.binds (ps := ["actual", "due"]) fun _ _ _ _ _ _ us hl => match us, hl with | [_, _], _ => rfl
  have m12 := PySem.W.mg_of X G a12
  have F13 := fun_mk (st := top 13) l13 c13 k13
  have b13 := F13.binds (ps := ["actual"]) fun _ _ _ _ _ _ us hl => match us, hl with | [_], _ => rfl
  have m13 := PySem.W.mg_of X G a13
  have F14 := fun_mk (st := top 14) l14 c14 k14
  have b14 := F14.binds (ps := ["script"]) fun _ _ _ _ _ _ us hl => match us, hl with | [_], _ => rfl
  have m14 := PySem.W.mg_of X G a14
  have F15 := fun_mk (st := top 15) l15 c15 k15
  have b15 := F15.binds (ps := ["cell"]) fun _ _ _ _ _ _ us hl => match us, hl with | [_], _ => rfl
  have m15 := PySem.W.mg_of X G a15
  have F16 := fun_mk (st := top 16) l16 c16 k16
  have b16 := F16.binds (ps := ["pool", "many"]) fun _ _ _ _ _ _ us hl => match us, hl with | [_, _], _ => rfl
  have m16 := PySem.W.mg_of X G a16
  have F17 := fun_mk (st := top 17) l17 c17 k17
  have b17 := F17.binds (ps := ["pool", "items"]) fun _ _ _ _ _ _ us hl => match us, hl with | [_, _], _ => rfl
  have m17 := PySem.W.mg_of X G a17
  have F18 := fun_mk (st := top 18) l18 c18 k18
  have b18 := F18.binds (ps := ["value", "top"]) fun _ _ _ _ _ _ us hl => match us, hl with | [_, _], _ => rfl
  have m18 := PySem.W.mg_of X G a18
  have F19 := fun_mk (st := top 19) l19 c19 k19
  have b19 := F19.binds (ps := ["stage", "value"]) fun _ _ _ _ _ _ us hl => match us, hl with | [_, _], _ => rfl
  have m19 := PySem.W.mg_of X G a19
  have F20 := fun_mk (st := top 20) l20 c20 k20
  have b20 := F20.binds (ps := ["stage"]) fun _ _ _ _ _ _ us hl => match us, hl with | [_], _ => rfl
  have m20 := PySem.W.mg_of X G a20
  have F21 := fun_mk (st := top 21) l21 c21 k21
  have b21 := F21.binds (ps := ["pool", "stage", "most"]) fun _ _ _ _ _ _ us hl => match us, hl with | [_, _, _], _ => rfl
  have m21 := PySem.W.mg_of X G a21
  have F22 := fun_mk (st := top 22) l22 c22 k22
  have b22 := F22.binds (ps := ["pool", "most"]) fun _ _ _ _ _ _ us hl => match us, hl with | [_, _], _ => rfl
  have m22 := PySem.W.mg_of X G a22
  have F23 := fun_mk (st := top 23) l23 c23 k23
  have b23 := F23.binds (ps := ["pool", "most"]) fun _ _ _ _ _ _ us hl => match us, hl with | [_, _], _ => rfl
  have m23 := PySem.W.mg_of X G a23
  have F24 := fun_mk (st := top 24) l24 c24 k24
  have b24 := F24.binds (ps := ["method", "way"]) fun _ _ _ _ _ _ us hl => match us, hl with | [_, _], _ => rfl
  have m24 := PySem.W.mg_of X G a24
  have F25 := fun_mk (st := top 25) l25 c25 k25
  have m25 := PySem.W.mg_of X G a25
  refine ⟨PySem.W.fnOf "law" "law" (defArgs (top 25)) (defBody (top 25)) (defScope (top 25)) .none kV25 dc25 pm25 an25 cd25 ct25, fun s v => .of_eq rfl, fun base _ _ => ?_⟩
  have Gp := pool_fn (P := l.prog) (w := w) (mg := mg) (base := base) F14 sc_pool (fun cdv Ar outer s H E => d_pool B)
  have Gs : DFn l.prog w K mg base amb0 1 "_law_spread" ["cell"] S_spread := .mk' F15 m15 b15 sc_L_spread (fun xs s P h => len_spread h) (fun cdv Ar outer s H E hr Nt => d_L_spread B hr Nt) fun ds s Q h => p_L_spread h
  obtain ⟨gs, gsd, gm, gk, gb, gF⟩ := Gs.fn
  have G_L_draw : ∀ a : Addr, DFn l.prog w K mg base (poolA a) 2 "_law_draw" ["pool", "many"] (S_draw a) := fun a => draw_fn (g := gs) (gd := gsd) F16 m16 b16 sc_draw fun cdv Ar outer s H E hr => d_draw B gF gm gk gb hr
  have G_mirrored : ∀ a : Addr, DFn l.prog w K mg base (poolA a) 1 "mirrored" ["stage", "change"] (S_mirrored) := fun a => .mk' F1 m1 b1 sc_mirrored (fun xs s P h => len_mirrored h) (fun cdv Ar outer s H E hr Nt => d_mirrored B  hr Nt) fun ds s Q h => p_mirrored h
  have G_reversed_method : ∀ a : Addr, DFn l.prog w K mg base (poolA a) 1 "reversed_method" ["method"] (S_reversed_method) := fun a => .mk' F3 m3 b3 sc_reversed_method (fun xs s P h => len_reversed_method h) (fun cdv Ar outer s H E hr Nt => d_reversed_method B  hr Nt) fun ds s Q h => p_reversed_method h
  have G_mirrored_method : ∀ a : Addr, DFn l.prog w K mg base (poolA a) 2 "mirrored_method" ["method"] (S_mirrored_method) := fun a => .mk' F4 m4 b4 sc_mirrored_method (fun xs s P h => len_mirrored_method h) (fun cdv Ar outer s H E hr Nt => d_mirrored_method B (G_mirrored a) (by show 1 ≤ 1; omega) hr Nt) fun ds s Q h => p_mirrored_method h
  have G_started_at : ∀ a : Addr, DFn l.prog w K mg base (poolA a) 1 "started_at" ["method", "k"] (S_started_at) := fun a => .mk' F5 m5 b5 sc_started_at (fun xs s P h => len_started_at h) (fun cdv Ar outer s H E hr Nt => d_started_at B  hr Nt) fun ds s Q h => p_started_at h
  have G_turned : ∀ a : Addr, DFn l.prog w K mg base (poolA a) 3 "turned" ["method", "way"] (S_turned) := fun a => .mk' F6 m6 b6 sc_turned (fun xs s P h => len_turned h) (fun cdv Ar outer s H E hr Nt => d_turned B (G_started_at a) (by show 1 ≤ 2; omega) (G_reversed_method a) (by show 1 ≤ 2; omega) (G_mirrored_method a) (by show 2 ≤ 2; omega) hr Nt) fun ds s Q h => p_turned h
  have G_ways_of : ∀ a : Addr, DFn l.prog w K mg base (poolA a) 1 "ways_of" ["method"] (S_ways_of) := fun a => .mk' F7 m7 b7 sc_ways_of (fun xs s P h => len_ways_of h) (fun cdv Ar outer s H E hr Nt => d_ways_of B  hr Nt) fun ds s Q h => p_ways_of h
  have G_way_between : ∀ a : Addr, DFn l.prog w K mg base (poolA a) 4 "way_between" ["first", "second"] (S_way_between) := fun a => .mk' F8 m8 b8 sc_way_between (fun xs s P h => len_way_between h) (fun cdv Ar outer s H E hr Nt => d_way_between B (G_ways_of a) (by show 1 ≤ 3; omega) (G_turned a) (by show 3 ≤ 3; omega) hr Nt) fun ds s Q h => p_way_between h
  have G_normal_method : ∀ a : Addr, DFn l.prog w K mg base (poolA a) 4 "normal_method" ["method"] (S_normal_method) := fun a => .mk' F9 m9 b9 sc_normal_method (fun xs s P h => len_normal_method h) (fun cdv Ar outer s H E hr Nt => d_normal_method B (G_turned a) (by show 3 ≤ 3; omega) (G_ways_of a) (by show 1 ≤ 3; omega) hr Nt) fun ds s Q h => p_normal_method h
  have G_shortest_lead : ∀ a : Addr, DFn l.prog w K mg base (poolA a) 1 "shortest_lead" ["method"] (S_shortest_lead) := fun a => .mk' F10 m10 b10 sc_shortest_lead (fun xs s P h => len_shortest_lead h) (fun cdv Ar outer s H E hr Nt => d_shortest_lead B  hr Nt) fun ds s Q h => p_shortest_lead h
  have R_L_same : ∀ (a : Addr) (n : Nat), DFn l.prog w K mg base (poolA a) (0 + n) "_law_same" ["actual", "due"] (S_same n) := fun a n => by
    induction n with
    | zero => exact (DFn.zero F12 m12 b12 fun ds s Q h => no_L_same h).mono (Nat.zero_le _)
    | succ n ih => exact .mk' F12 m12 b12 sc_L_same (fun xs s P h => len_L_same h) (fun cdv Ar outer s H E hr Nt => d_L_same B ih (Nat.le_refl _) hr Nt) fun ds s Q h => p_L_same h
  have G_L_same := fun a : Addr => R_L_same a 10
  have G_L_is_integer : ∀ a : Addr, DFn l.prog w K mg base (poolA a) 1 "_law_is_integer" ["actual"] (S_is_whole) := fun a => .mk' F13 m13 b13 sc_L_is_integer (fun xs s P h => len_L_is_integer h) (fun cdv Ar outer s H E hr Nt => d_L_is_integer B  hr Nt) fun ds s Q h => p_L_is_integer h
  have G_L_pick : ∀ a : Addr, DFn l.prog w K mg base (poolA a) 3 "_law_pick" ["pool", "items"] (S_L_pick a) := fun a => .mk' F17 m17 b17 sc_L_pick (fun xs s P h => len_L_pick h) (fun cdv Ar outer s H E hr Nt => d_L_pick B (G_L_draw a) (by show 2 ≤ 2; omega) hr Nt) fun ds s Q h => p_L_pick h
  have G_L_is_number : ∀ a : Addr, DFn l.prog w K mg base (poolA a) 2 "_law_is_number" ["value", "top"] (S_L_is_number) := fun a => .mk' F18 m18 b18 sc_L_is_number (fun xs s P h => len_L_is_number h) (fun cdv Ar outer s H E hr Nt => d_L_is_number B (G_L_is_integer a) (by show 1 ≤ 1; omega) hr Nt) fun ds s Q h => p_L_is_number h
  have G_L_is_change : ∀ a : Addr, DFn l.prog w K mg base (poolA a) 3 "_law_is_change" ["stage", "value"] (S_L_is_change) := fun a => .mk' F19 m19 b19 sc_L_is_change (fun xs s P h => len_L_is_change h) (fun cdv Ar outer s H E hr Nt => d_L_is_change B (G_L_is_number a) (by show 2 ≤ 2; omega) hr Nt) fun ds s Q h => p_L_is_change h
  have G_L_changes : ∀ a : Addr, DFn l.prog w K mg base (poolA a) 4 "_law_changes" ["stage"] (S_changes_of) := fun a => .mk' F20 m20 b20 sc_L_changes (fun xs s P h => len_L_changes h) (fun cdv Ar outer s H E hr Nt => d_L_changes B (G_L_is_change a) (by show 3 ≤ 3; omega) hr Nt) fun ds s Q h => p_L_changes h
  have G_L_piece : ∀ a : Addr, DFn l.prog w K mg base (poolA a) 5 "_law_piece" ["pool", "stage", "most"] (S_L_piece a) := fun a => .mk' F21 m21 b21 sc_L_piece (fun xs s P h => len_L_piece h) (fun cdv Ar outer s H E hr Nt => d_L_piece B (G_L_changes a) (by show 4 ≤ 4; omega) (G_L_draw a) (by show 2 ≤ 4; omega) (G_L_pick a) (by show 3 ≤ 4; omega) hr Nt) fun ds s Q h => p_L_piece h
  have G_L_stage : ∀ a : Addr, DFn l.prog w K mg base (poolA a) 3 "_law_stage" ["pool", "most"] (S_stage a) := fun a => .mk' F22 m22 b22 sc_L_stage (fun xs s P h => len_L_stage h) (fun cdv Ar outer s H E hr Nt => d_L_stage B (G_L_draw a) (by show 2 ≤ 2; omega) hr Nt) fun ds s Q h => p_L_stage h
  have G_L_method : ∀ a : Addr, DFn l.prog w K mg base (poolA a) 6 "_law_method" ["pool", "most"] (S_L_method a) := fun a => .mk' F23 m23 b23 sc_L_method (fun xs s P h => len_L_method h) (fun cdv Ar outer s H E hr Nt => d_L_method B (G_L_stage a) (by show 3 ≤ 5; omega) (G_L_piece a) (by show 5 ≤ 5; omega) (G_L_draw a) (by show 2 ≤ 5; omega) hr Nt) fun ds s Q h => p_L_method h
  have G_L_way : ∀ a : Addr, DFn l.prog w K mg base (poolA a) 1 "_law_way" ["method", "way"] (S_turned) := fun a => .mk' F24 m24 b24 sc_L_way (fun xs s P h => len_L_way h) (fun cdv Ar outer s H E hr Nt => d_L_way B  hr Nt) fun ds s Q h => p_L_way h
  exact law_at (k := 10) (s0 := law0) (rest := lawR) (tb := fun a => _) F25 sc_law ⟨rfl, by decide, by decide⟩ ⟨14, rfl⟩ rfl (fun cdv outer s H E hr => d_law0 Gp m14 k14 b14 (by show 1 ≤ 10; omega) hr) (fun a Nt cdv outer s H E hr => d_law B (G_L_method a) (by show 6 ≤ 10; omega) (G_L_draw a) (by show 2 ≤ 10; omega) (G_L_same a) (by show 10 ≤ 10; omega) (G_reversed_method a) (by show 1 ≤ 10; omega) (G_mirrored_method a) (by show 2 ≤ 10; omega) (G_started_at a) (by show 1 ≤ 10; omega) (G_normal_method a) (by show 4 ≤ 10; omega) (G_L_way a) (by show 1 ≤ 10; omega) (G_shortest_lead a) (by show 1 ≤ 10; omega) (G_L_pick a) (by show 3 ≤ 10; omega) (G_way_between a) (by show 4 ≤ 10; omega) (G_L_changes a) (by show 4 ≤ 10; omega) hr Nt) fun a => p_law_k09 a ()
theorem walk {l : PySem.W.OpenLaw} {q : Program} {loose : List Str} {XP : (Str → Option Value) → Heap → Prop} {YP : World → Heap → Prop} {d : DefRec} {K : Params → PySem.W.Frag} (hn : l.most = some 63) (hdf : d.params.defaults = [])
    (hY : ∀ (w : World) (h : Heap), YP w h → (K w.params).In h)
    (F : ∀ (w : World) (mg : Str → Option Value) (fa : Addr) (h : Heap), (K w.params).In h → h.Ns mainGlobals mg → mg d.name = some (.ref fa) →
      ∃ fd : FuncData, (∀ (s : Shared) (u : Value), BindsTo s fd ⟨[u], []⟩ [("script", u)]) ∧ ∀ base : Heap, (K w.params).In base → base.Ns mainGlobals mg → RunAt l.prog w (K w.params) mg base callerA fa fd ["script"] (spLaw (K w.params))) :
    PySem.W.WalkO q loose XP YP l.row.toRowW d [] (fun f vs => PySem.call f vs) :=
  walk_at (n := 63) (x := "script") (sp := spLaw) hn (by decide) hdf hY F fun _ H a ns hl _ hS => ⟨a, ns, rfl, hS, hl, fun _ => rfl⟩
end Dl
open PySem PySem.W PyProof.Rows
set_option maxRecDepth 100000 in
set_option maxHeartbeats 0 in
theorem PySem.Challenge.cw_bellstrue_k09_whole_alike_methods_holds : PySem.Challenge.rw_bellstrue_k09_whole_alike_methods.Holds := by
  w_on; o_law; k_head; (case hw => w_witness2)
  k_fill
  refine Dl.walk (l := PySem.Challenge.rw_bellstrue_k09_whole_alike_methods) rfl rfl (fun w h Y => PySem.W.kIn_of Y) ?F
  case F =>
    intro w mg fa h KX G hmg
    refine' Dl.all_mk KX G hmg ?a1 ?l1 ?c1 ?k1 ?a3 ?l3 ?c3 ?k3 ?a4 ?l4 ?c4 ?k4 ?a5 ?l5 ?c5 ?k5 ?a6 ?l6 ?c6 ?k6 ?a7 ?l7 ?c7 ?k7 ?a8 ?l8 ?c8 ?k8 ?a9 ?l9 ?c9 ?k9 ?a10 ?l10 ?c10 ?k10 ?a12 ?l12 ?c12 ?k12 ?a13 ?l13 ?c13 ?k13 ?a14 ?l14 ?c14 ?k14 ?a15 ?l15 ?c15 ?k15 ?a16 ?l16 ?c16 ?k16 ?a17 ?l17 ?c17 ?k17 ?a18 ?l18 ?c18 ?k18 ?a19 ?l19 ?c19 ?k19 ?a20 ?l20 ?c20 ?k20 ?a21 ?l21 ?c21 ?k21 ?a22 ?l22 ?c22 ?k22 ?a23 ?l23 ?c23 ?k23 ?a24 ?l24 ?c24 ?k24 ?a25 ?l25 ?c25 ?k25  ?z_len ?z_range ?z_tuple ?z_list ?z_int ?z_bool ?z_str ?z_dict ?z_set ?z_sorted ?z_isinstance ?z_all ?z_any ?z_abs ?z_max ?z_min ?z_sum ?z_repr ?z_zip ?z_type
    (case a1 => k_is); (case l1 => k_is); (case c1 => k_is); (case k1 => k_is)
    (case a3 => k_is); (case l3 => k_is); (case c3 => k_is); (case k3 => k_is)
    (case a4 => k_is); (case l4 => k_is); (case c4 => k_is); (case k4 => k_is)
    (case a5 => k_is); (case l5 => k_is); (case c5 => k_is); (case k5 => k_is)
    (case a6 => k_is); (case l6 => k_is); (case c6 => k_is); (case k6 => k_is)
    (case a7 => k_is); (case l7 => k_is); (case c7 => k_is); (case k7 => k_is)
    (case a8 => k_is); (case l8 => k_is); (case c8 => k_is); (case k8 => k_is)
    (case a9 => k_is); (case l9 => k_is); (case c9 => k_is); (case k9 => k_is)
    (case a10 => k_is); (case l10 => k_is); (case c10 => k_is); (case k10 => k_is)
    (case a12 => k_is); (case l12 => k_is); (case c12 => k_is); (case k12 => k_is)
    (case a13 => k_is); (case l13 => k_is); (case c13 => k_is); (case k13 => k_is)
    (case a14 => k_is); (case l14 => k_is); (case c14 => k_is); (case k14 => k_is)
    (case a15 => k_is); (case l15 => k_is); (case c15 => k_is); (case k15 => k_is)
    (case a16 => k_is); (case l16 => k_is); (case c16 => k_is); (case k16 => k_is)
    (case a17 => k_is); (case l17 => k_is); (case c17 => k_is); (case k17 => k_is)
    (case a18 => k_is); (case l18 => k_is); (case c18 => k_is); (case k18 => k_is)
    (case a19 => k_is); (case l19 => k_is); (case c19 => k_is); (case k19 => k_is)
    (case a20 => k_is); (case l20 => k_is); (case c20 => k_is); (case k20 => k_is)
    (case a21 => k_is); (case l21 => k_is); (case c21 => k_is); (case k21 => k_is)
    (case a22 => k_is); (case l22 => k_is); (case c22 => k_is); (case k22 => k_is)
    (case a23 => k_is); (case l23 => k_is); (case c23 => k_is); (case k23 => k_is)
    (case a24 => k_is); (case l24 => k_is); (case c24 => k_is); (case k24 => k_is)
    (case a25 => k_is); (case l25 => k_is); (case c25 => k_is); (case k25 => k_is)
    (case z_len => k_is)
    (case z_range => k_is)
    (case z_tuple => k_is)
    (case z_list => k_is)
    (case z_int => k_is)
    (case z_bool => k_is)
    (case z_str => k_is)
    (case z_dict => k_is)
    (case z_set => k_is)
    (case z_sorted => k_is)
    (case z_isinstance => k_is)
    (case z_all => k_is)
    (case z_any => k_is)
    (case z_abs => k_is)
    (case z_max => k_is)
    (case z_min => k_is)
    (case z_sum => k_is)
    (case z_repr => k_is)
    (case z_zip => k_is)
    (case z_type => k_is)
