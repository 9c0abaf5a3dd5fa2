import PyProof.Rows.All
import Wide.All
import OpenK.AllK
import Wide.FinOn
import HandS.ForMost
import HandS.TupAny
import HandS.Conv
import HandS.IsInst
import HandS.Deep
import HandS.Zip
import HandS.Flow
import HandS.Style
import HandS.Dict
import HandS.Small
import KE.SortData
import HandS.ExcValue
import HandS.Wide
import HandS.Lambda
import HandS.Exc
import HandS.ExcOwn
import HandS.ExcIs
import HandS.WordsExc
import HandS.TryOnly
import HandS.RaiseMore
import HandS.TupMul
import HandS.Text
import KE.KRevSl
import HandS.SetFor
import HandS.Strs
import KE.KDictPairs
import HandS.DictComp
import KE.DataMinMax
import KE.KIndexOf
import KE.KDictDisplayH
import KE.KDictCopyH
import KE.KDictOf
import HandS.ReplaceLit
import PyProof.StrLawsReplace
import PyProof.StrLawsTight
import HandS.CallRecv
import HandS.Set
import HandS.TupSets
import HandS.List
import HandS.WordsDict
import HandS.HotCalls
import HandS.TupLen
import HandS.TryMany
import KE.KIntText
import HandS.FStr
import HandS.Replace
import PyProof.StrLawsFirst
import KE.KTypeName
import KE.KTypeOf
import PyProof.StrOps2
import HandS.ExcCtx
import HandS.SuiteRaise
import HandS.ExcInit
import HandS.ExcInitHot
import HandS.ExcField
import HandS.ExcSuper
import KE.KExcSuper
import KE.KExcIs
import KE.OsRunLaw
import PySem.Challenge.RW_bellstrue_k21_texts_of_books_and_touches
set_option Elab.async false
set_option linter.all false
set_option maxRecDepth 100000
set_option maxHeartbeats 4000000
namespace Dl
open PySem L2 PySem.Spec PyProof.Rows
def TObj (xs : List V) (_ds : List PyData) (o : HO) : Prop := ∃ ob : Obj, ob.dict = none ∧ o = .frz ob (.tup xs)
def TAt (F : Hp) (a : Addr) (xs : List V) (ds : List PyData) : Prop := ∃ o, TObj xs ds o ∧ F a = some o
theorem TAt.sqT {K : PySem.W.Frag} {F : Hp} {a : Addr} {xs : List V} {ds : List PyData} (h : TAt F a xs ds) : SqT K F a xs := by
  obtain ⟨o, ⟨ob, _, rfl⟩, e⟩ := h
  exact .inl (.inr ⟨ob, e⟩)
theorem TAt.mono {F F' : Hp} {a : Addr} {xs : List V} {ds : List PyData} (h : TAt F a xs ds) (le : ∀ b o, F b = some o → F' b = some o) : TAt F' a xs ds := by
  obtain ⟨o, d, e⟩ := h
  exact ⟨o, d, le _ _ e⟩
theorem TAt.frz {F : Hp} {a : Addr} {xs : List V} {ds : List PyData} (h : TAt F a xs ds) : ∃ ob : Obj, ob.dict = none ∧ F a = some (.frz ob (.tup xs)) := by
  obtain ⟨o, ⟨ob, d, rfl⟩, e⟩ := h
  exact ⟨ob, d, e⟩
def NewT (Q : VK) (H : Hp) (xs : List V) : Prop := ∃ ds : List PyData, ∀ (p : Addr) (o : HO), H p = none → TObj xs ds o → Q (.ref p) (upd H p o)
section
variable {X : Cx} {pins : List (Addr × Obj)} {σ : L2.St} {H : Hp} {s : Shared} {Q : VK} {xs : List V} {its : List Value} {n : Nat}
theorem laidT (I : Inv X pins σ H s) (r : Vals xs its) (hz : xs.length ≤ sizeLine) (q : NewT Q H xs) : EP X pins σ Q (.ref s.heap.objs.size) { s with heap := s.heap.push { cls := .type "tuple", data := .seq its.toArray n } } := by
  obtain ⟨ds, q⟩ := q
  have hn := I.hok.fresh (Nat.le_refl _)
  exact ⟨.ref s.heap.objs.size, _, I.laid (t' := s.toks) (o := .frz { cls := .type "tuple", data := .seq its.toArray n } (.tup xs)) (fun _ _ z => Heap.get?_push_of_some _ z) (Nat.le_refl _) ⟨Heap.get?_push_size _ rfl, hz, its, r, ⟨_, Heap.get?_push_size _ rfl, rfl, _, rfl⟩⟩, rfl, q _ _ hn ⟨_, rfl, rfl⟩⟩
variable {es : List Expr} {t : TA} {pos : Pos}
def tTupF (t : TA) : TE := fun σ H Q => t σ H fun xs H1 => xs.length ≤ sizeLine ∧ NewT Q H1 xs
theorem pe_tupF {x1} (h : PA X es t) : PE X (.Tuple es x1 pos) (tTupF t) :=
  ⟨fun pins s σ H Q I hq => wpAny_Tuple_spliced (thn (h.run pos pins s σ H _ I hq) fun us s1 ⟨xs, H1, I1, r, z, q⟩ => ⟨by rw [← r.length]; exact z, laidT I1 r z q⟩)⟩
def rCatF (K : PySem.W.Frag) : R2 := fun x y H Q => ∃ a b xs ys, x = .ref a ∧ y = .ref b ∧ SqT K H a xs ∧ SqT K H b ys ∧ xs.length + ys.length ≤ sizeLine ∧
  (xs = [] → Q (.ref b) H) ∧ (xs ≠ [] → ys = [] → Q (.ref a) H) ∧ (xs ≠ [] → ys ≠ [] → NewT Q H (xs ++ ys))
theorem op_catF : OpR X (binaryOp .Add) (rCatF X.K) := by
  intro pins s σ H x y v u Q I rx ry h
  obtain ⟨a, b, xs, ys, rfl, rfl, ha, hb, hz, q0, q1, q2⟩ := h
  cases rx
  cases ry
  obtain ⟨its, r1, p1, _⟩ := I.tuple ha
  obtain ⟨its2, r2, p2, _⟩ := I.tuple hb
  by_cases hx : xs = []
  · subst hx
    cases r1
    exact cat_tup0 p1 p2 ⟨.ref b, H, I, rfl, q0 rfl⟩
  · exact HT.cat_tup p1 p2 (fun z => hx (r1.nil_iff.mp z)) (fun z => ⟨.ref a, H, I, rfl, q1 hx (r2.nil_iff.mp z)⟩)
      (fun z => laidT I (r1.append r2) (by rw [List.length_append]; exact hz) (q2 hx fun w => z (r2.nil_iff.mpr w))) (by rw [← r1.length, ← r2.length]; exact hz)
def rSlF (K : PySem.W.Frag) : V → Option Int → Option Int → Hp → VK → Prop := fun x lo hi H Q => ∃ a xs, x = .ref a ∧ SqT K H a xs ∧
  (HT.sIx xs.length 0 lo = 0 ∧ HT.sIx xs.length xs.length hi = xs.length → Q (.ref a) H) ∧ (¬ (HT.sIx xs.length 0 lo = 0 ∧ HT.sIx xs.length xs.length hi = xs.length) → NewT Q H (cutV xs lo hi))
theorem sl_tupF : SlR X (rSlF X.K) := by
  intro pins s σ H x v vl vu lo hi sl Q I rx hs pl pu h
  obtain ⟨a, xs, rfl, hx, q1, q2⟩ := h
  cases rx
  obtain ⟨its, r, ht, hz⟩ := I.tuple hx
  have hlen : its.toArray.size = xs.length := by rw [List.size_toArray]; exact r.length.symm
  refine ⟨"tuple", _, PyProof.Rows.slot_tuple_getitem.lookup, ht.typeIs, ?_⟩
  by_cases hw : HT.sIx xs.length 0 lo = 0 ∧ HT.sIx xs.length xs.length hi = xs.length
  · exact getItem_tuple_whole ht hs pl pu (by rw [hlen]; exact hw) ⟨.ref a, H, I, rfl, q1 hw⟩
  · refine HT.getItem_tuple_cut ht hs pl pu (by rw [hlen]; exact hw) ?_ (by rw [hlen]; exact hz)
    rw [hlen]
    exact laidT I ((r.drop (HT.sIx xs.length 0 lo)).take (HT.sIx xs.length xs.length hi - HT.sIx xs.length 0 lo)) (Nat.le_trans (cutV_length xs lo hi) hz) (q2 hw)
theorem call_tupleF : CallR X (.type "tuple") (fun xs H Q => ∃ p ys, xs = [.ref p] ∧ ((SqL X.K H p ys ∧ NewT Q H ys) ∨ (SqT X.K H p ys ∧ Q (.ref p) H))) := by
  intro pins s σ H xs us Q I r h
  obtain ⟨p, ys, rfl, h⟩ := h
  obtain ⟨u, rfl, rx⟩ := vals1 r
  cases rx
  rcases h with ⟨hq, q⟩ | ⟨hq, q⟩
  · obtain ⟨its, r', pl, hz⟩ := I.list hq
    have hlen := r'.length
    refine call_tuple_list pl.isList (fun h' kp => ?_) (by simp only [List.size_toArray] <;> omega)
    have I1 : Inv X pins σ H { s with heap := h' } := I.kept (t' := s.toks) kp
    exact laidT I1 r' hz q
  · obtain ⟨its, r', pl, hz⟩ := I.tuple hq
    exact call_tuple_same pl ⟨.ref p, H, I, rfl, q⟩
variable {e : Expr} {te : L2.St → Hp → (Int → Int → Hp → Prop) → Prop}
end
end Dl
namespace Dl
open PySem L2 PySem.Spec PyProof.Rows
def allI (ks : List Key) : Prop := ∀ k ∈ ks, ∃ i, k = .inl i
def hkI : Key → Int
  | .inl i => hashInt i
  | .inr _ => 0
def hashI (ks : List Key) : Int := reduceHash (Builtin.Tuple.tupleHashOf (ks.map hkI))
abbrev XRow := List Key × Addr × V
abbrev XR : List XRow → List (List Key × Addr × Value) → Prop := Paired fun p q => p.1 = q.1 ∧ p.2.1 = q.2.1 ∧ RelV p.2.2 q.2.2
def entI (x : List Key × Addr × Value) : DictEntry := ⟨hashI x.1, .ref x.2.1, x.2.2⟩
def DXφ (a : Addr) (kvs : List XRow) (h : Heap) : Prop := kvs.length ≤ sizeLine ∧ (a == sysModules) = false ∧ ∃ xs, XR kvs xs ∧ ∃ o es ep, h.get? a = some o ∧ o.ExactDict ∧ o.data = .dict es ep ∧ es.toList = xs.map entI ∧ (xs.map (·.1)).Nodup
def DX (a : Addr) (kvs : List XRow) : HO := .ext (DXφ a kvs)
def DXo (a : Addr) (ob : Obj) (kvs : List XRow) : HO := .ext fun h => DXφ a kvs h ∧ h.get? a = some ob
def XAO (H : Hp) (a : Addr) (kvs : List XRow) : Prop := ∃ ob, H a = some (DXo a ob kvs)
theorem XAO.mono {H H' : Hp} {a : Addr} {kvs : List XRow} (h : XAO H a kvs) (le : ∀ b o, H b = some o → H' b = some o) : XAO H' a kvs := let ⟨ob, e⟩ := h; ⟨ob, le _ _ e⟩
def frzT (H : Hp) (b : Addr) (ks : List Key) : Prop := ∃ ob : Obj, ob.dict = none ∧ H b = some (.frz ob (.tup (ks.map kV)))
def KX (H : Hp) (kvs : List XRow) : Prop := ∀ p ∈ kvs, allI p.1 ∧ frzT H p.2.1 p.1
theorem frzT.mono {H H' : Hp} {b : Addr} {ks : List Key} (h : frzT H b ks) (le : ∀ b o, H b = some o → H' b = some o) : frzT H' b ks := by
  obtain ⟨ob, d, e⟩ := h
  exact ⟨ob, d, le _ _ e⟩
theorem KX.mono {H H' : Hp} {kvs : List XRow} (h : KX H kvs) (le : ∀ b o, H b = some o → H' b = some o) : KX H' kvs := fun p m => ⟨(h p m).1, (h p m).2.mono le⟩
def valX (kvs : List XRow) (k : List Key) : Option V := (kvs.find? fun x => decide (x.1 = k)).map (·.2.2)
def putX (kvs : List XRow) (k : List Key) (b : Addr) (v : V) : List XRow :=
  if (kvs.any fun x => decide (x.1 = k)) = true then kvs.map (fun x => if x.1 = k then (x.1, x.2.1, v) else x) else kvs ++ [(k, b, v)]
theorem XR.mem {kvs : List XRow} {xs : List (List Key × Addr × Value)} (r : XR kvs xs) : ∀ x ∈ xs, ∃ p ∈ kvs, p.1 = x.1 ∧ p.2.1 = x.2.1 := by
  induction r with
  | nil => intro x m; cases m
  | @cons p q ps qs h t ih =>
    intro x m
    rcases List.mem_cons.mp m with rfl | m
    · exact ⟨p, List.mem_cons_self .., h.1, h.2.1⟩
    · obtain ⟨p', m', e⟩ := ih x m
      exact ⟨p', List.mem_cons_of_mem _ m', e⟩
theorem XR.val {kvs : List XRow} {xs : List (List Key × Addr × Value)} (r : XR kvs xs) (k : List Key) : RelO (valX kvs k) ((atKey xs k).map (·.2)) := by
  induction r with
  | nil => exact True.intro
  | @cons p q ps qs h t ih =>
    obtain ⟨h1, _, h2⟩ := h
    by_cases e : p.1 = k
    · have e' : q.1 = k := h1.symm.trans e
      have a : valX (p :: ps) k = some p.2.2 := by simp [valX, List.find?_cons, e]
      have b : atKey (q :: qs) k = some q.2 := by simp [atKey, List.find?_cons, e']
      rw [a, b]; exact h2
    · have e' : ¬ q.1 = k := fun z => e (h1.trans z)
      have a : valX (p :: ps) k = valX ps k := by simp [valX, List.find?_cons, e]
      have b : atKey (q :: qs) k = atKey qs k := by simp [atKey, List.find?_cons, e']
      rw [a, b]; exact ih
theorem XR.any {kvs : List XRow} {xs : List (List Key × Addr × Value)} (r : XR kvs xs) (k : List Key) : (kvs.any fun x => decide (x.1 = k)) = (atKey xs k).isSome := by
  induction r with
  | nil => rfl
  | @cons p q ps qs h t ih =>
    rw [List.any_cons, ih]
    by_cases e : p.1 = k
    · have e' : q.1 = k := h.1.symm.trans e
      have b : atKey (q :: qs) k = some q.2 := by simp [atKey, List.find?_cons, e']
      rw [b]; simp [e]
    · have e' : ¬ q.1 = k := fun z => e (h.1.trans z)
      have b : atKey (q :: qs) k = atKey qs k := by simp [atKey, List.find?_cons, e']
      rw [b]; simp [e]
theorem XR.repl {kvs : List XRow} {xs : List (List Key × Addr × Value)} (r : XR kvs xs) (k : List Key) {y : V} {u : Value} (ry : RelV y u) : XR (kvs.map fun x => if x.1 = k then (x.1, x.2.1, y) else x) (xs.map (putAt k u)) := by
  induction r with
  | nil => exact .nil
  | @cons p q ps qs h t ih =>
    rw [List.map_cons, List.map_cons]
    refine .cons ?_ ih
    obtain ⟨h1, h2, h3⟩ := h
    unfold putAt
    by_cases e : p.1 = k
    · rw [if_pos e, if_pos (h1.symm.trans e)]; exact ⟨h1, h2, ry⟩
    · rw [if_neg e, if_neg (fun z => e (h1.trans z))]; exact ⟨h1, h2, h3⟩
theorem XR.put {kvs : List XRow} {xs : List (List Key × Addr × Value)} (r : XR kvs xs) (k : List Key) {b : Addr} {y : V} {u : Value} (ry : RelV y u) : XR (putX kvs k b y) (storedH xs k b u) := by
  unfold putX storedH
  rw [r.any k]
  by_cases q : (atKey xs k).isSome = true
  · rw [if_pos q, if_pos q]; exact r.repl k ry
  · rw [if_neg q, if_neg q]; exact Paired.snoc r ⟨rfl, rfl, ry⟩
theorem KX.put {H : Hp} {kvs : List XRow} {k : List Key} {b : Addr} {v : V} (h : KX H kvs) (hk : allI k) (hb : frzT H b k) : KX H (putX kvs k b v) := by
  unfold putX
  split
  · intro p m
    obtain ⟨q, mq, rfl⟩ := List.mem_map.mp m
    split
    · exact h q mq
    · exact h q mq
  · intro p m
    rcases List.mem_append.mp m with m | m
    · exact h p m
    · rw [List.mem_singleton.mp m]
      exact ⟨hk, hb⟩
section
variable {P : Program} {w : World} {H : Hp} {h : Heap} {a b : Addr}
theorem dxo_new {kvs : List XRow} {P' : Program} {w' : World} {H' : Hp} {ob : Obj} (q : DXφ a kvs h) (e : h.get? a = some ob) : ObjOk P' w' H' h a (DXo a ob kvs) :=
  ⟨⟨q, e⟩, ⟨ob, e⟩, fun h1 h2 ⟨⟨z, y, xs, r, o, es, ep, g1, g2, g3, g4, g5⟩, g6⟩ k => ⟨⟨z, y, xs, r, o, es, ep, k _ g1, g2, g3, g4, g5⟩, k _ g6⟩⟩
end
theorem upd_id {H : Hp} {p : Addr} {o : HO} (e : H p = some o) : upd H p o = H := by
  funext b
  by_cases z : b = p
  · subst z; rw [upd_same, e]
  · rw [upd_ne z]
theorem seal_id {X : Cx} {pins : List (Addr × Obj)} {σ : L2.St} {H : Hp} {s : Shared} {p : Addr} {o : HO} (I : Inv X pins σ H s) (e : H p = some o) : Inv X pins σ (upd H p o) s := by
  rw [upd_id e]; exact I
theorem seal_dt {X : Cx} {pins : List (Addr × Obj)} {σ : L2.St} {H : Hp} {s : Shared} {p : Addr} {kv : List XRow} (I : Inv X pins σ H s) (e : H p = some (DX p kv)) : ∃ ob, Inv X pins σ (upd H p (DXo p ob kv)) s := by
  have φ : DXφ p kv s.heap := (show ObjOk X.prog X.w H s.heap p (DX p kv) from I.hok p _ e).1
  have ⟨_, _, _, _, o, _, _, ho, _⟩ := φ
  exact ⟨o, d_write (h' := s.heap) (t' := s.toks) I (by rw [e]; exact True.intro) ⟨rfl, fun _ _ => rfl⟩ ⟨o, ho⟩ (dxo_new φ ho)⟩
theorem seal_dtE {X : Cx} {pins : List (Addr × Obj)} {σ : L2.St} {H : Hp} {s : Shared} {p : Addr} (I : Inv X pins σ H s) (e : H p = some (DX p [])) : Inv X pins σ (upd H p (.dK [])) s := by
  have φ : DXφ p [] s.heap := (show ObjOk X.prog X.w H s.heap p (DX p []) from I.hok p _ e).1
  obtain ⟨z, y, xs, r, o, es, ep, h1, h2, h3, h4, h5⟩ := φ
  cases r
  have he : es = #[] := by
    apply Array.toList_inj.mp
    rw [h4]
    rfl
  subst he
  exact d_write (h' := s.heap) (t' := s.toks) I (by rw [e]; exact True.intro) ⟨rfl, fun _ _ => rfl⟩ ⟨o, h1⟩ (dk_new (vs := []) z y .nil ⟨o, #[], ep, h1, h2, h3, by first | exact fun _ m => absurd m (by simp) | simp [KeysOf], .nil, List.nodup_nil⟩)
end Dl
namespace Dl
open PySem L2
abbrev D := PyData
def refD (a : Addr) : D := .dict [(.none, .int (a : Int))]
def objD (C : Addr) (fs : List Str) (ds : List D) : D := .dict ((.none, .tuple [.int (C : Int)]) :: (fs.map PyData.str).zip ds)
def keyD : Key → D
  | .inl i => .int i
  | .inr x => .str x
def keysD (k : List Key) : D := .tuple (k.map keyD)
mutual
inductive Rp (K : PySem.W.Frag) (F : Hp) : V → D → Prop
  | non : Rp K F .non .none
  | bl (b : Bool) : Rp K F (.bl b) (.bool b)
  | int (i : Int) : Rp K F (.int i) (.int i)
  | str (x : Str) : Rp K F (.str x) (.str x)
  | lst {a : Addr} {xs : List V} {ds : List D} : F a = some (.lst xs) → RpL K F xs ds → Rp K F (.ref a) (.list ds)
  | tup {a : Addr} {xs : List V} {ds : List D} : TAt F a xs ds → RpL K F xs ds → Rp K F (.ref a) (.tuple ds)
  | obj (a : Addr) : Rp K F (.ref a) (refD a)
  | dK {a : Addr} {kvs : List (Key × V)} {ds : List D} : F a = some (.dK kvs) → RpL K F (kvs.map (·.2)) ds → Rp K F (.ref a) (.dict ((kvs.map fun p => keyD p.1).zip ds))
  | dT {a : Addr} {kvs : List XRow} {ds : List D} : kvs ≠ [] → XAO F a kvs → KX F kvs → RpL K F (kvs.map (·.2.2)) ds → Rp K F (.ref a) (.dict ((kvs.map fun p => keysD p.1).zip ds))
  | ins {a C dx : Addr} {fs : List (Str × V)} {ds : List D} : F a = some (.ins C dx fs) → RpL K F (fs.map (·.2)) ds → Rp K F (.ref a) (objD C (fs.map (·.1)) ds)
inductive RpL (K : PySem.W.Frag) (F : Hp) : List V → List D → Prop
  | nil : RpL K F [] []
  | cons {v : V} {vs : List V} {d : D} {ds : List D} : Rp K F v d → RpL K F vs ds → RpL K F (v :: vs) (d :: ds)
end
abbrev Hle (F F' : Hp) : Prop := ∀ b o, F b = some o → F' b = some o
theorem Hle.refl (F : Hp) : Hle F F := fun _ _ h => h
theorem Hle.trans {F F1 F2 : Hp} (a : Hle F F1) (b : Hle F1 F2) : Hle F F2 := fun c o h => b c o (a c o h)
theorem Hle.sqT {K : PySem.W.Frag} {F F' : Hp} (h : Hle F F') {a : Addr} {xs : List V} (s : SqT K F a xs) : SqT K F' a xs := by
  rcases s with (s | ⟨o, s⟩) | s
  · exact .inl (.inl (h _ _ s))
  · exact .inl (.inr ⟨o, h _ _ s⟩)
  · exact .inr s
section
variable {K : PySem.W.Frag} {F F' : Hp}
mutual
theorem Rp.mono (h : Hle F F') : ∀ {v : V} {d : D}, Rp K F v d → Rp K F' v d
  | _, _, .non => .non
  | _, _, .bl b => .bl b
  | _, _, .int i => .int i
  | _, _, .str x => .str x
  | _, _, .lst s r => .lst (h _ _ s) (RpL.mono h r)
  | _, _, .tup s r => .tup (s.mono h) (RpL.mono h r)
  | _, _, .obj a => .obj a
  | _, _, .dK s r => .dK (h _ _ s) (RpL.mono h r)
  | _, _, .dT ne s x r => .dT ne (s.mono h) (x.mono h) (RpL.mono h r)
  | _, _, .ins s r => .ins (h _ _ s) (RpL.mono h r)
theorem RpL.mono (h : Hle F F') : ∀ {vs : List V} {ds : List D}, RpL K F vs ds → RpL K F' vs ds
  | _, _, .nil => .nil
  | _, _, .cons r t => .cons (Rp.mono h r) (RpL.mono h t)
end
theorem RpL.length : ∀ {vs : List V} {ds : List D}, RpL K F vs ds → vs.length = ds.length
  | _, _, .nil => rfl
  | _, _, .cons _ t => congrArg (· + 1) t.length
theorem RpL.get : ∀ {vs : List V} {ds : List D} {i : Nat} {v : V}, RpL K F vs ds → vs[i]? = some v → ∃ d, ds[i]? = some d ∧ Rp K F v d
  | _, _, _, _, .nil, h => by simp at h
  | _, _, 0, _, .cons r _, h => by
    simp at h
    subst h
    exact ⟨_, rfl, r⟩
  | _, _, i + 1, _, .cons _ t, h => by
    obtain ⟨d, e, r⟩ := RpL.get (i := i) t (by simpa using h)
    exact ⟨d, by simpa using e, r⟩
theorem RpL.get' : ∀ {vs : List V} {ds : List D} {i : Nat} {d : D}, RpL K F vs ds → ds[i]? = some d → ∃ v, vs[i]? = some v ∧ Rp K F v d
  | _, _, _, _, .nil, h => by simp at h
  | _, _, 0, _, .cons r _, h => by
    simp at h
    subst h
    exact ⟨_, rfl, r⟩
  | _, _, i + 1, _, .cons _ t, h => by
    obtain ⟨d, e, r⟩ := RpL.get' (i := i) t (by simpa using h)
    exact ⟨d, by simpa using e, r⟩
theorem RpL.append : ∀ {vs ws : List V} {ds es : List D}, RpL K F vs ds → RpL K F ws es → RpL K F (vs ++ ws) (ds ++ es)
  | _, _, _, _, .nil, s => s
  | _, _, _, _, .cons r t, s => .cons r (RpL.append t s)
theorem RpL.one {v : V} {d : D} (r : Rp K F v d) : RpL K F [v] [d] := .cons r .nil
theorem RpL.take : ∀ {vs : List V} {ds : List D} (n : Nat), RpL K F vs ds → RpL K F (vs.take n) (ds.take n)
  | _, _, 0, _ => .nil
  | _, _, _ + 1, .nil => .nil
  | _, _, n + 1, .cons r t => .cons r (RpL.take n t)
theorem RpL.drop : ∀ {vs : List V} {ds : List D} (n : Nat), RpL K F vs ds → RpL K F (vs.drop n) (ds.drop n)
  | _, _, 0, r => r
  | _, _, _ + 1, .nil => .nil
  | _, _, n + 1, .cons _ t => RpL.drop n t
theorem RpL.set : ∀ {vs : List V} {ds : List D} {v : V} {d : D} (n : Nat), Rp K F v d → RpL K F vs ds → RpL K F (vs.set n v) (ds.set n d)
  | _, _, _, _, _, _, .nil => .nil
  | _, _, _, _, 0, q, .cons _ t => .cons q t
  | _, _, _, _, n + 1, q, .cons r t => .cons r (RpL.set n q t)
theorem RpL.reverse : ∀ {vs : List V} {ds : List D}, RpL K F vs ds → RpL K F vs.reverse ds.reverse
  | _, _, .nil => .nil
  | _, _, .cons r t => by
    rw [List.reverse_cons, List.reverse_cons]
    exact (RpL.reverse t).append (.one r)
theorem RpL.rep {vs : List V} {ds : List D} (r : RpL K F vs ds) : ∀ k : Nat, RpL K F (List.replicate k vs).flatten (List.replicate k ds).flatten
  | 0 => .nil
  | k + 1 => by
    rw [List.replicate_succ, List.replicate_succ, List.flatten_cons, List.flatten_cons]
    exact r.append (RpL.rep r k)
theorem RpL.nil_iff {vs : List V} {ds : List D} (r : RpL K F vs ds) : vs = [] ↔ ds = [] := by
  cases r <;> simp
mutual
theorem Rp.dp : ∀ (d : D) (v : V), Rp K F v d → d.canLay0 = true → Dp K F v d
  | .none, _, r, _ => by cases r; exact .non
  | .bool b, _, r, _ => by cases r; exact .bl b
  | .int i, _, r, _ => by cases r; exact .int i
  | .str x, _, r, _ => by cases r; exact .str x
  | .list ds, _, r, h => by
    cases r with
    | lst s t => exact .lst (SqL.of s) (RpL.dp ds _ t (by simpa [PyData.canLay0] using h))
  | .tuple ds, _, r, h => by
    cases r with
    | tup s t => exact .tup s.sqT (RpL.dp ds _ t (by simpa [PyData.canLay0] using h))
  | .dict _, _, _, h => by simp [PyData.canLay0] at h
theorem RpL.dp : ∀ (ds : List D) (vs : List V), RpL K F vs ds → PyData.canLayAll0 ds = true → DpAll K F vs ds
  | [], _, r, _ => by cases r; exact .nil
  | d :: ds, _, r, h => by
    cases r with
    | cons r t =>
      simp only [PyData.canLayAll0, Bool.and_eq_true] at h
      exact .cons (Rp.dp d _ r h.1) (RpL.dp ds _ t h.2)
end
end
open Classical in
noncomputable def fzP (H : Hp) (P : Addr → Prop) : Hp := fun b => if P b then none else H b
section
variable {H H' : Hp} {P P' : Addr → Prop} {b : Addr} {o : HO}
theorem fzP_some : fzP H P b = some o ↔ ¬ P b ∧ H b = some o := by
  unfold fzP
  by_cases h : P b
  · simp [h]
  · simp [h]
theorem fzP_of (h : ¬ P b) (e : H b = some o) : fzP H P b = some o := fzP_some.mpr ⟨h, e⟩
theorem fzP_mono (h : Hle H H') (hp : ∀ b o, H b = some o → P' b → P b) : Hle (fzP H P) (fzP H' P') := fun b o e => by
  obtain ⟨n, e⟩ := fzP_some.mp e
  exact fzP_of (fun z => n (hp b o e z)) (h b o e)
theorem fzP_le : Hle (fzP H P) H := fun b o e => (fzP_some.mp e).2
theorem Dp.up {K : PySem.W.Frag} {F F' : Hp} (h : Hle F F') {v : V} {d : D} (r : Rp K F v d) (l : d.canLay0 = true) : Dp K F' v d := (r.mono h).dp _ _ l
end
open Classical in
noncomputable def hide (H : Hp) (D : Addr) : Hp := fun b => if b = D then none else H b
theorem hide_self {H : Hp} {D : Addr} : hide H D D = none := by simp [hide]
theorem hide_ne {H : Hp} {D b : Addr} (h : b ≠ D) : hide H D b = H b := by simp [hide, h]
theorem hide_upd {H : Hp} {D : Addr} {o : HO} : hide (upd H D o) D = hide H D := by
  funext b
  by_cases e : b = D
  · subst e; rw [hide_self, hide_self]
  · rw [hide_ne e, hide_ne e, upd_ne e]
theorem upd_hide {H : Hp} {D : Addr} {o : HO} (h : H D = some o) : upd (hide H D) D o = H := by
  funext b
  by_cases e : b = D
  · subst e; rw [upd_same, h]
  · rw [upd_ne e, hide_ne e]
theorem hide_of {H : Hp} {D : Addr} (h : H D = none) : hide H D = H := by
  funext b
  by_cases e : b = D
  · subst e; rw [hide_self, h]
  · rw [hide_ne e]
theorem fz_hide {H : Hp} {D : Addr} {P P' : Addr → Prop} (h : ∀ b, b ≠ D → (P' b ↔ P b)) (hD : P' D) : fzP H P' = fzP (hide H D) P := by
  funext b
  unfold fzP
  by_cases e : b = D
  · subst e
    simp [hD, hide_self]
  · have q : P' b = P b := propext (h b e)
    rw [hide_ne e]
    by_cases z : P b
    · rw [if_pos z, if_pos (q ▸ z)]
    · rw [if_neg z, if_neg (q ▸ z)]
structure Amb where
  S : Type
  at_ : S → (Addr → Prop) → Hp → Hp → Prop
  dom : ∀ {s O F H b}, at_ s O F H → O b → ∃ o, H b = some o
  stay : ∀ {s O F F' H H'}, at_ s O F H → Hle F F' → (∀ b, O b → H' b = H b) → at_ s O F' H'
inductive Cell where
  | un
  | fz (d : D)
  | ol (ds : List D)
  | dk (kvs : List (Key × D))
  | dt (kvs : List (List Key × D))
abbrev Rho := List Cell
def Cell.own : Cell → Prop
  | .un => False
  | .fz _ => False
  | .ol _ => True
  | .dk _ => True
  | .dt _ => True
def CellOk (K : PySem.W.Frag) (F H : Hp) (v : Option V) : Cell → Prop
  | .un => True
  | .fz d => ∃ x, v = some x ∧ Rp K F x d
  | .ol ds => ∃ p xs, v = some (.ref p) ∧ H p = some (.lst xs) ∧ RpL K F xs ds
  | .dk kvs => ∃ p kv, v = some (.ref p) ∧ H p = some (.dK kv) ∧ kv.map (·.1) = kvs.map (·.1) ∧ RpL K F (kv.map (·.2)) (kvs.map (·.2))
  | .dt kvs => ∃ (p : Addr) (kv : List XRow), v = some (.ref p) ∧ H p = some (DX p kv) ∧ (kv.map (·.1) = kvs.map (·.1) ∧ KX F kv) ∧ RpL K F (kv.map (·.2.2)) (kvs.map (·.2))
def OwnS (σ : St) (ρ : Rho) (b : Addr) : Prop := ∃ (i : Nat) (c : Cell), ρ[i]? = some c ∧ c.own ∧ σ[i]? = some (some (.ref b))
structure Ent where
  H0 : Hp
  O0 : Addr → Prop
  X0 : Addr → Prop
def Px (N : Ent) (σ : St) (ρ : Rho) (O : Addr → Prop) : Addr → Prop := fun b => O b ∨ OwnS σ ρ b ∨ N.X0 b
structure Rel (A : Amb) (K : PySem.W.Frag) (N : Ent) (s : A.S) (σ : St) (H : Hp) (ρ : Rho) (O : Addr → Prop) : Prop where
  amb : A.at_ s O (fzP H (Px N σ ρ O)) H
  keep : ∀ b o, N.H0 b = some o → ¬ N.O0 b → H b = some o ∧ ¬ O b
  xd : ∀ b, N.X0 b → (∃ o, N.H0 b = some o) ∧ ¬ N.O0 b
  len : σ.length = ρ.length
  cell : ∀ (i : Nat) v c, σ[i]? = some v → ρ[i]? = some c → CellOk K (fzP H (Px N σ ρ O)) H v c
  new : ∀ b, OwnS σ ρ b → (∀ o, N.H0 b = some o → N.O0 b) ∧ ¬ O b
  inj : ∀ (i j : Nat) c c' b, ρ[i]? = some c → c.own → ρ[j]? = some c' → c'.own → σ[i]? = some (some (.ref b)) → σ[j]? = some (some (.ref b)) → i = j
theorem CellOk.own_at {K : PySem.W.Frag} {F H : Hp} {v : Option V} {c : Cell} (h : CellOk K F H v c) (o : c.own) : ∃ p ob, v = some (.ref p) ∧ H p = some ob := by
  cases c with
  | un => exact o.elim
  | fz d => exact o.elim
  | ol ds => obtain ⟨p, xs, e, h, _⟩ := h; exact ⟨p, _, e, h⟩
  | dk ds => obtain ⟨p, xs, e, h, _⟩ := h; exact ⟨p, _, e, h⟩
  | dt ds => obtain ⟨p, xs, e, h, _⟩ := h; exact ⟨p, _, e, h⟩
theorem CellOk.mono {K : PySem.W.Frag} {F F' H H' : Hp} {v : Option V} {c : Cell} (h : CellOk K F H v c) (hF : Hle F F') (hH : ∀ p, c.own → v = some (.ref p) → H' p = H p) : CellOk K F' H' v c := by
  cases c with
  | un => trivial
  | fz d => obtain ⟨x, e, r⟩ := h; exact ⟨x, e, r.mono hF⟩
  | ol ds => obtain ⟨p, xs, e, h, r⟩ := h; exact ⟨p, xs, e, (hH p trivial e).trans h, r.mono hF⟩
  | dk ds => obtain ⟨p, xs, e, h, k, r⟩ := h; exact ⟨p, xs, e, (hH p trivial e).trans h, k, r.mono hF⟩
  | dt ds => obtain ⟨p, xs, e, h, k, r⟩ := h; exact ⟨p, xs, e, (hH p trivial e).trans h, ⟨k.1, k.2.mono hF⟩, r.mono hF⟩
section
variable {A : Amb} {K : PySem.W.Frag} {N : Ent} {s : A.S} {σ : St} {H H' : Hp} {ρ : Rho} {O : Addr → Prop}
theorem Rel.ownD (R : Rel A K N s σ H ρ O) {b : Addr} (h : OwnS σ ρ b) : ∃ o, H b = some o := by
  obtain ⟨i, c, e, o, e'⟩ := h
  obtain ⟨p, ob, q, z⟩ := (R.cell i _ c e' e).own_at o
  cases q
  exact ⟨ob, z⟩
theorem Rel.dom (R : Rel A K N s σ H ρ O) {b : Addr} (h : Px N σ ρ O b) : ∃ o, H b = some o := by
  rcases h with h | h | h
  · exact A.dom R.amb h
  · exact R.ownD h
  · obtain ⟨⟨o, e⟩, n⟩ := R.xd b h
    exact ⟨o, (R.keep b o e n).1⟩
theorem Rel.fzle (R : Rel A K N s σ H ρ O) (h : Same H H') : Hle (fzP H (Px N σ ρ O)) (fzP H' (Px N σ ρ O)) := fzP_mono h fun _ _ _ z => z
theorem Rel.alloc (R : Rel A K N s σ H ρ O) (h : Same H H') : Rel A K N s σ H' ρ O := by
  have st : ∀ b, (∃ o, H b = some o) → H' b = H b := fun b ⟨o, e⟩ => by rw [e]; exact h b o e
  refine ⟨A.stay R.amb (R.fzle h) fun b z => st b (A.dom R.amb z), fun b o e n => ⟨h _ _ (R.keep b o e n).1, (R.keep b o e n).2⟩, R.xd, R.len, fun i v c e1 e2 => ?_, R.new, R.inj⟩
  refine (R.cell i v c e1 e2).mono (R.fzle h) fun p o e => st p ?_
  subst e
  exact R.ownD ⟨i, c, e2, o, e1⟩
theorem Rel.fresh (R : Rel A K N s σ H ρ O) {p : Addr} (h : H p = none) : ¬ Px N σ ρ O p := fun z => by
  obtain ⟨o, e⟩ := R.dom z
  rw [h] at e
  cases e
end
theorem same_upd {H : Hp} {p : Addr} {o : HO} (h : H p = none) : Same H (upd H p o) := fun b x e => by rw [upd_ne (ne_of_none e h)]; exact e
section
variable (A : Amb)
abbrev DE := Rho → A.S → (D → A.S → Prop) → Prop
abbrev DT := Rho → A.S → (Bool → A.S → Prop) → Prop
abbrev DA := Rho → A.S → (List D → A.S → Prop) → Prop
structure DEnds where
  nx : Rho → A.S → Prop
  rt : D → A.S → Prop
  bk : Rho → A.S → Prop := fun _ _ => False
  ct : Rho → A.S → Prop := fun _ _ => False
abbrev DS := DEnds A → Rho → A.S → Prop
end
section
variable (A : Amb) (K : PySem.W.Frag) (N : Ent)
noncomputable abbrev Rel.F {A : Amb} {K : PySem.W.Frag} {N : Ent} {s : A.S} {σ : St} {H : Hp} {ρ : Rho} {O : Addr → Prop} (_ : Rel A K N s σ H ρ O) : Hp := fzP H (Px N σ ρ O)
def liftE (t : DE A) : TE := fun σ H Q => ∃ ρ s O P, Rel A K N s σ H ρ O ∧ t ρ s P ∧ ∀ d s' v H' O', P d s' → Rel A K N s' σ H' ρ O' → Hle (fzP H (Px N σ ρ O)) (fzP H' (Px N σ ρ O')) → Rp K (fzP H' (Px N σ ρ O')) v d → Q v H'
def liftT (t : DT A) : TT := fun σ H Q => ∃ ρ s O P, Rel A K N s σ H ρ O ∧ t ρ s P ∧ ∀ b s' H' O', P b s' → Rel A K N s' σ H' ρ O' → Hle (fzP H (Px N σ ρ O)) (fzP H' (Px N σ ρ O')) → Q b H'
def liftA (t : DA A) : TA := fun σ H Q => ∃ ρ s O P, Rel A K N s σ H ρ O ∧ t ρ s P ∧ ∀ ds s' vs H' O', P ds s' → Rel A K N s' σ H' ρ O' → Hle (fzP H (Px N σ ρ O)) (fzP H' (Px N σ ρ O')) → RpL K (fzP H' (Px N σ ρ O')) vs ds → Q vs H'
structure EndsOk (F : Hp) (Dd : DEnds A) (D : Ends) : Prop where
  nx : ∀ ρ s σ H O, Rel A K N s σ H ρ O → Hle F (fzP H (Px N σ ρ O)) → Dd.nx ρ s → D.nx σ H
  rt : ∀ ρ s σ H O d v, Rel A K N s σ H ρ O → Hle F (fzP H (Px N σ ρ O)) → Rp K (fzP H (Px N σ ρ O)) v d → Dd.rt d s → D.rt v H
  bk : ∀ ρ s σ H O, Rel A K N s σ H ρ O → Hle F (fzP H (Px N σ ρ O)) → Dd.bk ρ s → D.bk σ H
  ct : ∀ ρ s σ H O, Rel A K N s σ H ρ O → Hle F (fzP H (Px N σ ρ O)) → Dd.ct ρ s → D.ct σ H
def liftS (t : DS A) : TS := fun D σ H => ∃ ρ s O Dd, Rel A K N s σ H ρ O ∧ EndsOk A K N (fzP H (Px N σ ρ O)) Dd D ∧ t Dd ρ s
variable {A K N}
theorem EndsOk.up {F F' : Hp} {Dd : DEnds A} {D : Ends} (E : EndsOk A K N F Dd D) (h : Hle F F') : EndsOk A K N F' Dd D :=
  ⟨fun ρ s σ H O R le => E.nx ρ s σ H O R (h.trans le), fun ρ s σ H O d v R le => E.rt ρ s σ H O d v R (h.trans le), fun ρ s σ H O R le => E.bk ρ s σ H O R (h.trans le), fun ρ s σ H O R le => E.ct ρ s σ H O R (h.trans le)⟩
theorem Rel.newAt {s : A.S} {σ : St} {H : Hp} {ρ : Rho} {O : Addr → Prop} (R : Rel A K N s σ H ρ O) {p : Addr} (h : H p = none) : ∀ o, N.H0 p = some o → N.O0 p := fun o e => by
  by_cases z : N.O0 p
  · exact z
  · have q := (R.keep p o e z).1
    rw [h] at q
    cases q
end
section
variable {X : Cx}
theorem PE.imp {e : Expr} {t t' : TE} (h : PE X e t) (i : ∀ σ H Q, t' σ H Q → t σ H Q) : PE X e t' := ⟨fun pins s σ H Q I q => h.run pins s σ H Q I (i _ _ _ q)⟩
theorem PT.imp {e : Expr} {t t' : TT} (h : PT X e t) (i : ∀ σ H Q, t' σ H Q → t σ H Q) : PT X e t' := ⟨fun pins s σ H Q I q => h.run pins s σ H Q I (i _ _ _ q)⟩
theorem PW.imp {e : Expr} {t t' : TT} (h : PW X e t) (i : ∀ σ H Q, t' σ H Q → t σ H Q) : PW X e t' := ⟨fun wh pins s σ H Q I q => h.run wh pins s σ H Q I (i _ _ _ q)⟩
theorem PA.imp {es : List Expr} {t t' : TA} (h : PA X es t) (i : ∀ σ H Q, t' σ H Q → t σ H Q) : PA X es t' := ⟨fun pos pins s σ H Q I q => h.run pos pins s σ H Q I (i _ _ _ q)⟩
theorem PS.imp {st : Stmt} {t t' : TS} (h : PS X st t) (i : ∀ D σ H, t' D σ H → t D σ H) : PS X st t' := ⟨fun pins s σ H D I q => h.run pins s σ H D I (i _ _ _ q)⟩
theorem PSs.imp {st : List Stmt} {t t' : TS} (h : PSs X st t) (i : ∀ D σ H, t' D σ H → t D σ H) : PSs X st t' := ⟨fun pins s σ H D I q => h.run pins s σ H D I (i _ _ _ q)⟩
theorem PG.imp {st : Expr} {t t' : TG} (h : PG X st t) (i : ∀ v σ H Q, t' v σ H Q → t v σ H Q) : PG X st t' := ⟨fun pins s σ H v u Q I r q => h.run pins s σ H v u Q I r (i _ _ _ _ q)⟩
end
end Dl
namespace Dl
open PySem L2
def Cell.data : Cell → D
  | .un => .none
  | .fz d => d
  | .ol ds => .list ds
  | .dk kvs => .dict (kvs.map fun p => (keyD p.1, p.2))
  | .dt kvs => .dict (kvs.map fun p => (keysD p.1, p.2))
def Bw (K : PySem.W.Frag) (F : Hp) (σ : St) (ρ : Rho) (v : V) (d : D) : Prop :=
  Rp K F v d ∨ ∃ (i : Nat) (c : Cell), ρ[i]? = some c ∧ c.own ∧ σ[i]? = some (some v) ∧ d = c.data
inductive Bh (K : PySem.W.Frag) (F H : Hp) : V → D → Prop
  | rp {v d} : Rp K F v d → Bh K F H v d
  | ol {p xs ds} : H p = some (.lst xs) → RpL K F xs ds → Bh K F H (.ref p) (.list ds)
  | dk {p kv} {kvs : List (Key × D)} : H p = some (.dK kv) → kv.map (·.1) = kvs.map (·.1) → RpL K F (kv.map (·.2)) (kvs.map (·.2)) → Bh K F H (.ref p) (.dict (kvs.map fun p => (keyD p.1, p.2)))
  | dt {p} {kv : List XRow} {kvs : List (List Key × D)} : H p = some (DX p kv) → (kv.map (·.1) = kvs.map (·.1) ∧ KX F kv) → RpL K F (kv.map (·.2.2)) (kvs.map (·.2)) → Bh K F H (.ref p) (.dict (kvs.map fun p => (keysD p.1, p.2)))
section
variable {A : Amb} {K : PySem.W.Frag} {N : Ent} {s s' : A.S} {σ : St} {H H' : Hp} {ρ : Rho} {O O' : Addr → Prop}
theorem Bw.mono {F F' : Hp} {v : V} {d : D} (b : Bw K F σ ρ v d) (h : Hle F F') : Bw K F' σ ρ v d := by
  rcases b with r | r
  · exact .inl (r.mono h)
  · exact .inr r
theorem Rel.bh (R : Rel A K N s σ H ρ O) {v : V} {d : D} (b : Bw K (fzP H (Px N σ ρ O)) σ ρ v d) : Bh K (fzP H (Px N σ ρ O)) H v d := by
  rcases b with r | ⟨i, c, e, o, e', rfl⟩
  · exact .rp r
  · have q := R.cell i _ c e' e
    cases c with
    | un => exact o.elim
    | fz _ => exact o.elim
    | ol ds => obtain ⟨p, xs, z, h, r⟩ := q; cases z; exact .ol h r
    | dk kvs => obtain ⟨p, xs, z, h, k, r⟩ := q; cases z; exact .dk h k r
    | dt kvs => obtain ⟨p, xs, z, h, k, r⟩ := q; cases z; exact .dt h k r
end
section
variable {K : PySem.W.Frag} {F H : Hp}
theorem Bh.int {v : V} {i : Int} (b : Bh K F H v (.int i)) : v = .int i := by
  cases b with
  | rp r => cases r; rfl
theorem Bh.bool {v : V} {i : Bool} (b : Bh K F H v (.bool i)) : v = .bl i := by
  cases b with
  | rp r => cases r; rfl
theorem Bh.str {v : V} {i : Str} (b : Bh K F H v (.str i)) : v = .str i := by
  cases b with
  | rp r => cases r; rfl
theorem Bh.none {v : V} (b : Bh K F H v .none) : v = .non := by
  cases b with
  | rp r => cases r; rfl
theorem Bh.tup {v : V} {ds : List D} (b : Bh K F H v (.tuple ds)) (h : Hle F H) : ∃ a xs, v = .ref a ∧ TAt F a xs ds ∧ SqT K H a xs ∧ RpL K F xs ds := by
  cases b with
  | rp r => cases r with | tup s t => exact ⟨_, _, rfl, s, (s.mono h).sqT, t⟩
theorem Bh.list {v : V} {ds : List D} (b : Bh K F H v (.list ds)) (h : Hle F H) : ∃ a xs, v = .ref a ∧ H a = some (.lst xs) ∧ RpL K F xs ds := by
  cases b with
  | rp r => cases r with | lst s t => exact ⟨_, _, rfl, h _ _ s, t⟩
  | ol s t => exact ⟨_, _, rfl, s, t⟩
theorem Bh.dp {v : V} {d : D} (b : Bh K F H v d) (h : Hle F H) (l : d.canLay0 = true) : Dp K H v d := by
  cases b with
  | rp r => exact (r.mono h).dp _ _ l
  | ol s t =>
    refine .lst (SqL.of s) ((t.mono h).dp _ _ ?_)
    simpa [PyData.canLay0] using l
  | dk s k t => simp [PyData.canLay0] at l
  | dt s k t => simp [PyData.canLay0] at l
end
section
variable (A : Amb) (K : PySem.W.Frag) (N : Ent)
def liftB (t : DE A) : TE := fun σ H Q => ∃ ρ s O P, Rel A K N s σ H ρ O ∧ t ρ s P ∧ ∀ d s' v H' O', P d s' → Rel A K N s' σ H' ρ O' → Hle (fzP H (Px N σ ρ O)) (fzP H' (Px N σ ρ O')) → Bw K (fzP H' (Px N σ ρ O')) σ ρ v d → Q v H'
end
section
variable {A : Amb}
def dC (d : D) : DE A := fun _ s Q => Q d s
def dVar (i : Nat) : DE A := fun ρ s Q => match ρ[i]? with
  | some (.fz d) => Q d s
  | _ => False
def dVarB (i : Nat) : DE A := fun ρ s Q => match ρ[i]? with
  | some (.fz d) => Q d s
  | some (.ol ds) => Q (.list ds) s
  | some (.dk kvs) => Q (Cell.data (.dk kvs)) s
  | some (.dt kvs) => Q (Cell.data (.dt kvs)) s
  | _ => False
abbrev F2 := D → D → (D → Prop) → Prop
abbrev F1 := D → (D → Prop) → Prop
abbrev FN := List D → (D → Prop) → Prop
def dOp (f : F2) (a b : DE A) : DE A := fun ρ s Q => a ρ s fun x s1 => b ρ s1 fun y s2 => f x y fun z => Q z s2
def dUn (f : F1) (a : DE A) : DE A := fun ρ s Q => a ρ s fun x s1 => f x fun z => Q z s1
def dAnd (a b : DE A) : DE A := fun ρ s Q => a ρ s fun x s1 => match x with
  | .bool true => b ρ s1 Q
  | .bool false => Q (.bool false) s1
  | _ => False
def dNot (a : DE A) : DE A := fun ρ s Q => a ρ s fun x s1 => match x with
  | .bool b => Q (.bool (!b)) s1
  | _ => False
def dIf (c : DT A) (a b : DE A) : DE A := fun ρ s Q => c ρ s fun k s1 => match k with
  | true => a ρ s1 Q
  | false => b ρ s1 Q
def dTest (a : DE A) : DT A := fun ρ s Q => a ρ s fun x s1 => match x with
  | .bool b => Q b s1
  | _ => False
def dAndT (a b : DT A) : DT A := fun ρ s Q => a ρ s fun k s1 => match k with
  | true => b ρ s1 Q
  | false => Q false s1
def dOrT (a b : DT A) : DT A := fun ρ s Q => a ρ s fun k s1 => match k with
  | true => Q true s1
  | false => b ρ s1 Q
def dNotT (a : DT A) : DT A := fun ρ s Q => a ρ s fun k s1 => Q (!k) s1
def dNil : DA A := fun _ s Q => Q [] s
def dCons (a : DE A) (r : DA A) : DA A := fun ρ s Q => a ρ s fun x s1 => r ρ s1 fun xs s2 => Q (x :: xs) s2
def dTup (a : DA A) : DE A := fun ρ s Q => a ρ s fun xs s1 => xs.length ≤ sizeLine ∧ Q (.tuple xs) s1
def dLst (a : DA A) : DE A := fun ρ s Q => a ρ s fun xs s1 => xs.length ≤ sizeLine ∧ Q (.list xs) s1
def dFn (f : FN) (a : DA A) : DE A := fun ρ s Q => a ρ s fun xs s1 => f xs fun z => Q z s1
def dChain (f g : F2) (a b c : DE A) : DE A := fun ρ s Q => a ρ s fun x s1 => b ρ s1 fun y s2 => f x y fun z => match z with
  | .bool true => c ρ s2 fun w s3 => g y w fun z => Q z s3
  | .bool false => Q (.bool false) s2
  | _ => False
end
def DR2 (K : PySem.W.Frag) (r : R2) (f : F2) : Prop := ∀ (H : Hp) (P : Addr → Prop) (x y : V) (dx dy : D) (k : D → Prop) (Q : VK), (∀ b, P b → ∃ o, H b = some o) → Bh K (fzP H P) H x dx → Bh K (fzP H P) H y dy → f dx dy k →
  (∀ v H' d, Same H H' → Rp K (fzP H' P) v d → k d → Q v H') → r x y H Q
def DR1 (K : PySem.W.Frag) (r : V → Hp → VK → Prop) (f : F1) : Prop := ∀ (H : Hp) (P : Addr → Prop) (x : V) (dx : D) (k : D → Prop) (Q : VK), (∀ b, P b → ∃ o, H b = some o) → Bh K (fzP H P) H x dx → f dx k →
  (∀ v H' d, Same H H' → Rp K (fzP H' P) v d → k d → Q v H') → r x H Q
inductive BhL (K : PySem.W.Frag) (F H : Hp) : List V → List D → Prop
  | nil : BhL K F H [] []
  | cons {v vs d ds} : Bh K F H v d → BhL K F H vs ds → BhL K F H (v :: vs) (d :: ds)
def DRN (K : PySem.W.Frag) (r : List V → Hp → VK → Prop) (f : FN) : Prop := ∀ (H : Hp) (P : Addr → Prop) (xs : List V) (ds : List D) (k : D → Prop) (Q : VK), (∀ b, P b → ∃ o, H b = some o) → BhL K (fzP H P) H xs ds → f ds k →
  (∀ v H' d, Same H H' → Rp K (fzP H' P) v d → k d → Q v H') → r xs H Q
section
variable {A : Amb} {X : Cx} {N : Ent} {a b c e : Expr} {ta tb tc te : DE A} {pos : Pos} {es : List Expr}
theorem e_bw (h : PE X e (liftE A X.K N te)) : PE X e (liftB A X.K N te) := PE.imp h fun σ H Q ⟨ρ, s, O, P, R, q, k⟩ => ⟨ρ, s, O, P, R, q, fun d s' v H' O' p R' le r => k d s' v H' O' p R' le (.inl r)⟩
theorem e_c {v : V} {d : D} (h : PE X e (tC v)) (r : ∀ F, Rp X.K F v d) : PE X e (liftE A X.K N (dC d)) := PE.imp h fun σ H Q ⟨ρ, s, O, P, R, q, k⟩ => k d s v H O q R (Hle.refl _) (r _)
theorem e_int {i j pos} : PE X (.Constant (.int i) j pos) (liftE A X.K N (dC (.int i))) := e_c pe_int fun _ => .int i
theorem e_bl {i j pos} : PE X (.Constant (.bool i) j pos) (liftE A X.K N (dC (.bool i))) := e_c pe_bl fun _ => .bl i
theorem e_non {j pos} : PE X (.Constant .none j pos) (liftE A X.K N (dC .none)) := e_c pe_non fun _ => .non
theorem e_str {i j pos} : PE X (.Constant (.str i) j pos) (liftE A X.K N (dC (.str i))) := e_c pe_str fun _ => .str i
theorem Rel.slot {K : PySem.W.Frag} {s : A.S} {σ : St} {H : Hp} {ρ : Rho} {O : Addr → Prop} (R : Rel A K N s σ H ρ O) {i : Nat} {c : Cell} (e : ρ[i]? = some c) : ∃ v, σ[i]? = some v ∧ CellOk K (fzP H (Px N σ ρ O)) H v c := by
  have hi : i < σ.length := by
    rw [R.len]
    exact (List.getElem?_eq_some_iff.mp e).1
  exact ⟨σ[i], List.getElem?_eq_getElem hi, R.cell i _ c (List.getElem?_eq_getElem hi) e⟩
theorem e_varF {i : Nat} (h : PE X e (tVar i)) : PE X e (liftE A X.K N (dVar i)) := PE.imp h fun σ H Q ⟨ρ, s, O, P, R, q, k⟩ => by
  unfold dVar at q
  split at q
  · next d hd =>
    obtain ⟨v, e1, x, rfl, r⟩ := R.slot hd
    exact ⟨x, e1, k d s x H O q R (Hle.refl _) r⟩
  · exact q.elim
theorem e_var {i : Nat} (h : PE X e (tVar i)) : PE X e (liftB A X.K N (dVarB i)) := PE.imp h fun σ H Q ⟨ρ, s, O, P, R, q, k⟩ => by
  unfold dVarB at q
  split at q
  · next d hd =>
    obtain ⟨v, e1, x, rfl, r⟩ := R.slot hd
    exact ⟨x, e1, k d s x H O q R (Hle.refl _) (.inl r)⟩
  · next d hd =>
    obtain ⟨v, e1, p, xs, rfl, r⟩ := R.slot hd
    exact ⟨_, e1, k _ s _ H O q R (Hle.refl _) (.inr ⟨i, _, hd, trivial, e1, rfl⟩)⟩
  · next d hd =>
    obtain ⟨v, e1, p, xs, rfl, r⟩ := R.slot hd
    exact ⟨_, e1, k _ s _ H O q R (Hle.refl _) (.inr ⟨i, _, hd, trivial, e1, rfl⟩)⟩
  · next d hd =>
    obtain ⟨v, e1, p, xs, rfl, r⟩ := R.slot hd
    exact ⟨_, e1, k _ s _ H O q R (Hle.refl _) (.inr ⟨i, _, hd, trivial, e1, rfl⟩)⟩
  · exact q.elim
theorem lift2 {r : R2} {f : F2} (hR : DR2 X.K r f) : ∀ σ H Q, liftE A X.K N (dOp f ta tb) σ H Q → tOp r (liftB A X.K N ta) (liftB A X.K N tb) σ H Q := fun σ H Q ⟨ρ, s, O, P, R0, q, k⟩ =>
  ⟨ρ, s, O, _, R0, q, fun x s1 vx H1 O1 q1 R1 le1 rx => ⟨ρ, s1, O1, _, R1, q1, fun y s2 vy H2 O2 q2 R2 le2 ry =>
    hR H2 (Px N σ ρ O2) vx vy x y (fun z => P z s2) Q (fun _ z => R2.dom z) (R2.bh (rx.mono le2)) (R2.bh ry) q2 fun v H' d sm rd pd =>
      k d s2 v H' O2 pd (R2.alloc sm) (le1.trans (le2.trans (R2.fzle sm))) rd⟩⟩
theorem e_op {op : Operator} {r : R2} {f : F2} (ho : OpR X (binaryOp op) r) (hR : DR2 X.K r f) (ha : PE X a (liftB A X.K N ta)) (hb : PE X b (liftB A X.K N tb)) : PE X (.BinOp a op b pos) (liftE A X.K N (dOp f ta tb)) := PE.imp (pe_op ho ha hb) (lift2 hR)
theorem e_cmp {op : CmpOp} {r : R2} {f : F2} (ho : OpR X (compareOp op) r) (hR : DR2 X.K r f) (ha : PE X a (liftB A X.K N ta)) (hb : PE X b (liftB A X.K N tb)) (hm : behindInMarks op b = false := by first | exact nomark _ | rfl) : PE X (.Compare a [op] [b] pos) (liftE A X.K N (dOp f ta tb)) := PE.imp (pe_cmpR ho ha hb hm) (lift2 hR)
theorem e_ix {r : R2} {f : F2} (ho : IxR X r) (hR : DR2 X.K r f) (ha : PE X a (liftB A X.K N ta)) (hb : PE X b (liftB A X.K N tb)) (hs : PlainIx b := by intro _ _; rfl) : PE X (.Subscript a b pos) (liftE A X.K N (dOp f ta tb)) := PE.imp (pe_ix ho ha hb hs) (lift2 hR)
theorem lift1 {r : V → Hp → VK → Prop} {f : F1} (hR : DR1 X.K r f) : ∀ σ H Q, liftE A X.K N (dUn f ta) σ H Q → tUn r (liftB A X.K N ta) σ H Q := fun σ H Q ⟨ρ, s, O, P, R0, q, k⟩ =>
  ⟨ρ, s, O, _, R0, q, fun x s1 vx H1 O1 q1 R1 le1 rx => hR H1 (Px N σ ρ O1) vx x (fun z => P z s1) Q (fun _ z => R1.dom z) (R1.bh rx) q1 fun v H' d sm rd pd =>
      k d s1 v H' O1 pd (R1.alloc sm) (le1.trans (R1.fzle sm)) rd⟩
theorem e_un {op : UnaryOp} {r : V → Hp → VK → Prop} {f : F1} (ho : UnR X (unaryOp op) r) (hR : DR1 X.K r f) (ha : PE X a (liftB A X.K N ta)) : PE X (.UnaryOp op a pos) (liftE A X.K N (dUn f ta)) := PE.imp (pe_un ho ha) (lift1 hR)
theorem Rp.bl_of {K : PySem.W.Frag} {F : Hp} {v : V} {b : Bool} (r : Rp K F v (.bool b)) : v = .bl b := by cases r; rfl
theorem e_and {rest : List Expr} (ha : PE X a (liftE A X.K N ta)) (hb : PE X (.BoolOp .And (b :: rest) pos) (liftE A X.K N tb)) : PE X (.BoolOp .And (a :: b :: rest) pos) (liftE A X.K N (dAnd ta tb)) :=
  PE.imp (pe_and ha hb) fun σ H Q ⟨ρ, s, O, P, R0, q, k⟩ => ⟨ρ, s, O, _, R0, q, fun x s1 vx H1 O1 q1 R1 le1 rx => by
    split at q1
    · cases rx.bl_of
      exact ⟨true, rfl, iteT ⟨ρ, s1, O1, P, R1, q1, fun d s' v H' O' p R' le r => k d s' v H' O' p R' (le1.trans le) r⟩⟩
    · cases rx.bl_of
      exact ⟨false, rfl, iteF (k _ s1 _ H1 O1 q1 R1 le1 (.bl false))⟩
    · exact q1.elim⟩
theorem e_not (ha : PE X a (liftE A X.K N ta)) : PE X (.UnaryOp .Not a pos) (liftE A X.K N (dNot ta)) :=
  PE.imp (pe_not ha) fun σ H Q ⟨ρ, s, O, P, R0, q, k⟩ => ⟨ρ, s, O, _, R0, q, fun x s1 vx H1 O1 q1 R1 le1 rx => by
    split at q1
    · cases rx.bl_of
      exact ⟨_, rfl, k _ s1 _ H1 O1 q1 R1 le1 (.bl _)⟩
    · exact q1.elim⟩
theorem t_val {e : Expr} (h : PE X e (liftE A X.K N te)) (he : ∀ whole, isTrue e X.env whole = (do let v ← whole; standAt e.pos; holding [v] (truthy v)) := by intro _; rfl) : PT X e (liftT A X.K N (dTest te)) :=
  PT.imp (pt_val h he) fun σ H Q ⟨ρ, s, O, P, R0, q, k⟩ => ⟨ρ, s, O, _, R0, q, fun x s1 vx H1 O1 q1 R1 le1 rx => by
    split at q1
    · cases rx.bl_of
      exact ⟨_, rfl, k _ s1 H1 O1 q1 R1 le1⟩
    · exact q1.elim⟩
theorem t_cmp {op : CmpOp} {r : R2} {f : F2} (ho : OpR X (compareOp op) r) (hR : DR2 X.K r f) (ha : PE X a (liftB A X.K N ta)) (hb : PE X b (liftB A X.K N tb)) (hm : behindInMarks op b = false := by first | exact nomark _ | rfl) : PT X (.Compare a [op] [b] pos) (liftT A X.K N (dTest (dOp f ta tb))) :=
  PT.imp (pt_cmpR ho ha hb hm) fun σ H Q ⟨ρ, s, O, P, R0, q, k⟩ => lift2 hR σ H _ ⟨ρ, s, O, _, R0, q, fun x s1 vx H1 O1 q1 R1 le1 rx => by
    split at q1
    · cases rx.bl_of
      exact ⟨_, rfl, k _ s1 H1 O1 q1 R1 le1⟩
    · exact q1.elim⟩
variable {tA tB tC' : DT A} {rest : List Expr}
theorem w_and1 (ha : PT X a (liftT A X.K N tA)) : PW X (.BoolOp .And [a] pos) (liftT A X.K N tA) := pw_and1 ha
theorem w_or1 (ha : PT X a (liftT A X.K N tA)) : PW X (.BoolOp .Or [a] pos) (liftT A X.K N tA) := pw_or1 ha
theorem w_and (ha : PT X a (liftT A X.K N tA)) (hb : PW X (.BoolOp .And (b :: rest) pos) (liftT A X.K N tB)) : PW X (.BoolOp .And (a :: b :: rest) pos) (liftT A X.K N (dAndT tA tB)) :=
  PW.imp (pw_and ha hb) fun σ H Q ⟨ρ, s, O, P, R0, q, k⟩ => ⟨ρ, s, O, _, R0, q, fun x s1 H1 O1 q1 R1 le1 => by
    cases x with
    | true => exact iteT ⟨ρ, s1, O1, P, R1, q1, fun d s' H' O' p R' le => k d s' H' O' p R' (le1.trans le)⟩
    | false => exact iteF (k _ s1 H1 O1 q1 R1 le1)⟩
theorem w_or (ha : PT X a (liftT A X.K N tA)) (hb : PW X (.BoolOp .Or (b :: rest) pos) (liftT A X.K N tB)) : PW X (.BoolOp .Or (a :: b :: rest) pos) (liftT A X.K N (dOrT tA tB)) :=
  PW.imp (pw_or ha hb) fun σ H Q ⟨ρ, s, O, P, R0, q, k⟩ => ⟨ρ, s, O, _, R0, q, fun x s1 H1 O1 q1 R1 le1 => by
    cases x with
    | true => exact iteT (k _ s1 H1 O1 q1 R1 le1)
    | false => exact iteF ⟨ρ, s1, O1, P, R1, q1, fun d s' H' O' p R' le => k d s' H' O' p R' (le1.trans le)⟩⟩
theorem t_not (ha : PT X a (liftT A X.K N tA)) : PT X (.UnaryOp .Not a pos) (liftT A X.K N (dNotT tA)) :=
  PT.imp (pt_not ha) fun σ H Q ⟨ρ, s, O, P, R0, q, k⟩ => ⟨ρ, s, O, _, R0, q, fun x s1 H1 O1 q1 R1 le1 => k _ s1 H1 O1 q1 R1 le1⟩
theorem e_ifExp (hc : PT X c (liftT A X.K N tA)) (ha : PE X a (liftE A X.K N ta)) (hb : PE X b (liftE A X.K N tb)) : PE X (.IfExp c a b pos) (liftE A X.K N (dIf tA ta tb)) :=
  PE.imp (pe_ifExp hc ha hb) fun σ H Q ⟨ρ, s, O, P, R0, q, k⟩ => ⟨ρ, s, O, _, R0, q, fun x s1 H1 O1 q1 R1 le1 => by
    cases x with
    | true => exact iteT ⟨ρ, s1, O1, P, R1, q1, fun d s' v H' O' p R' le r => k d s' v H' O' p R' (le1.trans le) r⟩
    | false => exact iteF ⟨ρ, s1, O1, P, R1, q1, fun d s' v H' O' p R' le r => k d s' v H' O' p R' (le1.trans le) r⟩⟩
theorem liftChain {r r' : R2} {f g : F2} (hR : DR2 X.K r f) (hR' : DR2 X.K r' g) : ∀ σ H Q, liftE A X.K N (dChain f g ta tb tc) σ H Q → tChain r r' (liftB A X.K N ta) (liftB A X.K N tb) (liftB A X.K N tc) σ H Q :=
  fun σ H Q ⟨ρ, s, O, P, R0, q, k⟩ => ⟨ρ, s, O, _, R0, q, fun x s1 vx H1 O1 q1 R1 le1 rx => ⟨ρ, s1, O1, _, R1, q1, fun y s2 vy H2 O2 q2 R2 le2 ry => by
    refine hR H2 (Px N σ ρ O2) vx vy x y _ _ (fun _ z => R2.dom z) (R2.bh (rx.mono le2)) (R2.bh ry) q2 fun v H' d sm rd pd => ?_
    split at pd
    · cases rd.bl_of
      refine ⟨true, rfl, ?_⟩
      first | (refine iteT ?_) | skip
      refine ⟨ρ, s2, O2, _, R2.alloc sm, pd, fun w s3 vw H3 O3 q3 R3 le3 rw' => ?_⟩
      exact hR' H3 (Px N σ ρ O3) vy vw y w (fun z => P z s3) Q (fun _ z => R3.dom z) (R3.bh (ry.mono ((R2.fzle sm).trans le3))) (R3.bh rw') q3 fun v H' d sm' rd pd =>
        k d s3 v H' O3 pd (R3.alloc sm') (le1.trans (le2.trans ((R2.fzle sm).trans (le3.trans (R3.fzle sm'))))) rd
    · cases rd.bl_of
      refine ⟨false, rfl, ?_⟩
      first | (refine iteF ?_) | skip
      exact k _ s2 _ H' O2 pd (R2.alloc sm) (le1.trans (le2.trans (R2.fzle sm))) (.bl false)
    · exact pd.elim⟩⟩
theorem e_chain {op op' : CmpOp} {r r' : R2} {f g : F2} (ho : OpR X (compareOp op) r) (ho' : OpR X (compareOp op') r') (hR : DR2 X.K r f) (hR' : DR2 X.K r' g) (ha : PE X a (liftB A X.K N ta)) (hb : PE X b (liftB A X.K N tb)) (hc : PE X c (liftB A X.K N tc))
    (hm : lastMarks [op, op'] [b, c] = false := by with_unfolding_all rfl) : PE X (.Compare a [op, op'] [b, c] pos) (liftE A X.K N (dChain f g ta tb tc)) := PE.imp (pe_chain ho ho' ha hb hc hm) (liftChain hR hR')
theorem t_chain {op op' : CmpOp} {r r' : R2} {f g : F2} (ho : OpR X (compareOp op) r) (ho' : OpR X (compareOp op') r') (hR : DR2 X.K r f) (hR' : DR2 X.K r' g) (ha : PE X a (liftB A X.K N ta)) (hb : PE X b (liftB A X.K N tb)) (hc : PE X c (liftB A X.K N tc))
    (hm : lastMarks [op, op'] [b, c] = false := by with_unfolding_all rfl) : PT X (.Compare a [op, op'] [b, c] pos) (liftT A X.K N (dTest (dChain f g ta tb tc))) :=
  PT.imp (pt_chain ho ho' ha hb hc hm) fun σ H Q ⟨ρ, s, O, P, R0, q, k⟩ => liftChain hR hR' σ H _ ⟨ρ, s, O, _, R0, q, fun x s1 vx H1 O1 q1 R1 le1 rx => by
    split at q1
    · cases rx.bl_of
      exact ⟨_, rfl, k _ s1 H1 O1 q1 R1 le1⟩
    · exact q1.elim⟩
variable {tL : DA A}
theorem a_nil : PA X [] (liftA A X.K N dNil) := PA.imp pa_nil fun σ H Q ⟨ρ, s, O, P, R0, q, k⟩ => k _ s _ H O q R0 (Hle.refl _) .nil
theorem a_cons (ha : PE X e (liftE A X.K N te)) (hr : PA X es (liftA A X.K N tL)) (hs : starEach (e :: es) X.env = (false, eval e X.env) :: starEach es X.env := by rfl) : PA X (e :: es) (liftA A X.K N (dCons te tL)) :=
  PA.imp (pa_cons ha hr hs) fun σ H Q ⟨ρ, s, O, P, R0, q, k⟩ => ⟨ρ, s, O, _, R0, q, fun x s1 vx H1 O1 q1 R1 le1 rx => ⟨ρ, s1, O1, _, R1, q1, fun ys s2 vys H2 O2 q2 R2 le2 rys => k _ s2 _ H2 O2 q2 R2 (le1.trans le2) (.cons (rx.mono le2) rys)⟩⟩
theorem e_tup {k} (h : PA X es (liftA A X.K N tL)) : PE X (.Tuple es k pos) (liftE A X.K N (dTup tL)) :=
  PE.imp (pe_tupF h) fun σ H Q ⟨ρ, s, O, P, R0, q, k⟩ => ⟨ρ, s, O, _, R0, q, fun x s1 vx H1 O1 ⟨q0, q1⟩ R1 le1 rx => ⟨by rw [rx.length]; exact q0, _, fun p o hp ho =>
    k _ s1 _ _ O1 q1 (R1.alloc (same_upd hp)) (le1.trans (R1.fzle (same_upd hp))) (.tup ⟨o, ho, fzP_of (R1.fresh hp) upd_same⟩ (rx.mono (R1.fzle (same_upd hp))))⟩⟩
theorem e_lst (h : PA X es (liftA A X.K N tL)) : PE X (.List es pos) (liftE A X.K N (dLst tL)) :=
  PE.imp (pe_lst h) fun σ H Q ⟨ρ, s, O, P, R0, q, k⟩ => ⟨ρ, s, O, _, R0, q, fun x s1 vx H1 O1 ⟨q0, q1⟩ R1 le1 rx => ⟨by rw [rx.length]; exact q0, fun p hp =>
    k _ s1 _ _ O1 q1 (R1.alloc (same_upd hp)) (le1.trans (R1.fzle (same_upd hp))) (.lst (fzP_of (R1.fresh hp) upd_same) (rx.mono (R1.fzle (same_upd hp))))⟩⟩
end
section
variable (A : Amb) (K : PySem.W.Frag) (N : Ent)
inductive BwL (K : PySem.W.Frag) (F : Hp) (σ : St) (ρ : Rho) : List V → List D → Prop
  | nil : BwL K F σ ρ [] []
  | cons {v vs d ds} : Bw K F σ ρ v d → BwL K F σ ρ vs ds → BwL K F σ ρ (v :: vs) (d :: ds)
def liftAB (t : DA A) : TA := fun σ H Q => ∃ ρ s O P, Rel A K N s σ H ρ O ∧ t ρ s P ∧ ∀ ds s' vs H' O', P ds s' → Rel A K N s' σ H' ρ O' → Hle (fzP H (Px N σ ρ O)) (fzP H' (Px N σ ρ O')) → BwL K (fzP H' (Px N σ ρ O')) σ ρ vs ds → Q vs H'
end
section
variable {A : Amb} {X : Cx} {N : Ent} {a b c e : Expr} {ta tb tc te : DE A} {pos : Pos} {es : List Expr} {tL : DA A}
theorem Rel.bhL {K : PySem.W.Frag} {s : A.S} {σ : St} {H : Hp} {ρ : Rho} {O : Addr → Prop} (R : Rel A K N s σ H ρ O) : ∀ {vs : List V} {ds : List D}, BwL K (fzP H (Px N σ ρ O)) σ ρ vs ds → BhL K (fzP H (Px N σ ρ O)) H vs ds
  | _, _, .nil => .nil
  | _, _, .cons b t => .cons (R.bh b) (R.bhL t)
theorem b_nil : PA X [] (liftAB A X.K N dNil) := PA.imp pa_nil fun σ H Q ⟨ρ, s, O, P, R0, q, k⟩ => k _ s _ H O q R0 (Hle.refl _) .nil
theorem b_cons (ha : PE X e (liftB A X.K N te)) (hr : PA X es (liftAB A X.K N tL)) (hs : starEach (e :: es) X.env = (false, eval e X.env) :: starEach es X.env := by rfl) : PA X (e :: es) (liftAB A X.K N (dCons te tL)) :=
  PA.imp (pa_cons ha hr hs) fun σ H Q ⟨ρ, s, O, P, R0, q, k⟩ => ⟨ρ, s, O, _, R0, q, fun x s1 vx H1 O1 q1 R1 le1 rx => ⟨ρ, s1, O1, _, R1, q1, fun ys s2 vys H2 O2 q2 R2 le2 rys => k _ s2 _ H2 O2 q2 R2 (le1.trans le2) (.cons (rx.mono le2) rys)⟩⟩
theorem liftN {r : List V → Hp → VK → Prop} {f : FN} (hR : DRN X.K r f) : ∀ σ H Q, liftE A X.K N (dFn f tL) σ H Q → tCB r (liftAB A X.K N tL) σ H Q := fun σ H Q ⟨ρ, s, O, P, R0, q, k⟩ =>
  ⟨ρ, s, O, _, R0, q, fun x s1 vx H1 O1 q1 R1 le1 rx => hR H1 (Px N σ ρ O1) vx x (fun z => P z s1) Q (fun _ z => R1.dom z) (R1.bhL rx) q1 fun v H' d sm rd pd =>
      k d s1 v H' O1 pd (R1.alloc sm) (le1.trans (R1.fzle sm)) rd⟩
theorem e_callB {id : String} {x : Str} {p : Pos} {r : List V → Hp → VK → Prop} {f : FN} (hc : CallR X (.builtin id) r) (hR : DRN X.K r f) (hm : X.mg x = none) (hv : bootBuiltins x = some (.builtin id)) (ha : PA X (e :: es) (liftAB A X.K N tL))
    (hg : Gl X x := by rfl) (hn : x ≠ "__name__" := by decide) (hdb : (x == ("__debug__" : Str)) = false := by decide) (h1 : starEach (e :: es) X.env = (false, eval e X.env) :: starEach es X.env := by rfl) (h2 : (backTo pos (starEach es X.env)).any (·.1) = false := by rfl) :
    PE X (.Call (.Name x p) (e :: es) [] pos) (liftE A X.K N (dFn f tL)) := PE.imp (pe_callB hc hg hm hv ha hn hdb h1 h2) (liftN hR)
theorem e_callTy {T : String} {x : Str} {p : Pos} {r : List V → Hp → VK → Prop} {f : FN} (hc : CallR X (.type T) r) (hR : DRN X.K r f) (hm : X.mg x = none) (hv : bootBuiltins x = some (.type T)) (ha : PA X (e :: es) (liftAB A X.K N tL))
    (hg : Gl X x := by rfl) (hn : x ≠ "__name__" := by decide) (hdb : (x == ("__debug__" : Str)) = false := by decide) (h1 : starEach (e :: es) X.env = (false, eval e X.env) :: starEach es X.env := by rfl) (h2 : (backTo pos (starEach es X.env)).any (·.1) = false := by rfl) :
    PE X (.Call (.Name x p) (e :: es) [] pos) (liftE A X.K N (dFn f tL)) := PE.imp (pe_callTy hc hg hm hv ha hn hdb h1 h2) (liftN hR)
end
end Dl
namespace Dl
open PySem L2
section
variable {A : Amb} {K : PySem.W.Frag} {N : Ent} {s s' : A.S} {σ : St} {H H' : Hp} {ρ : Rho} {O O' : Addr → Prop}
theorem set_same {α : Type} : ∀ {l : List α} {i : Nat} {x : α}, l[i]? = some x → l.set i x = l
  | [], _, _, h => by simp at h
  | _ :: _, 0, _, h => by simp at h; subst h; rfl
  | a :: r, i + 1, x, h => by rw [List.set_cons_succ, set_same (by simpa using h)]
theorem set_get {α : Type} {l : List α} {i j : Nat} {x y : α} (h : (l.set i x)[j]? = some y) : (j = i ∧ y = x) ∨ (j ≠ i ∧ l[j]? = some y) := by
  by_cases e : i = j
  · subst e
    rw [List.getElem?_set] at h
    simp at h
    exact .inl ⟨rfl, h.2.symm⟩
  · rw [List.getElem?_set_ne e] at h
    exact .inr ⟨fun z => e z.symm, h⟩
theorem Rel.setFz (R : Rel A K N s σ H ρ O) {i : Nat} {v : V} {c : Cell} (nc : ¬ c.own) (r : CellOk K (fzP H (Px N σ ρ O)) H (some v) c) : Rel A K N s (σ.set i (some v)) H (ρ.set i c) O ∧ Hle (fzP H (Px N σ ρ O)) (fzP H (Px N (σ.set i (some v)) (ρ.set i c) O)) := by
  have own : ∀ b, OwnS (σ.set i (some v)) (ρ.set i c) b → ∃ (j : Nat) (c' : Cell), j ≠ i ∧ ρ[j]? = some c' ∧ c'.own ∧ σ[j]? = some (some (.ref b)) := fun b ⟨j, c', e1, o, e2⟩ => by
    rcases set_get e1 with ⟨_, rfl⟩ | ⟨n, e1⟩
    · exact (nc o).elim
    · rcases set_get e2 with ⟨z, _⟩ | ⟨_, e2⟩
      · exact (n z).elim
      · exact ⟨j, c', n, e1, o, e2⟩
  have sub : ∀ b, Px N (σ.set i (some v)) (ρ.set i c) O b → Px N σ ρ O b := fun b z => by
    rcases z with z | z | z
    · exact .inl z
    · obtain ⟨j, c', _, e1, o, e2⟩ := own b z
      exact .inr (.inl ⟨j, c', e1, o, e2⟩)
    · exact .inr (.inr z)
  have le : Hle (fzP H (Px N σ ρ O)) (fzP H (Px N (σ.set i (some v)) (ρ.set i c) O)) := fzP_mono (Hle.refl _) fun b _ _ z => sub b z
  refine ⟨⟨A.stay R.amb le fun _ _ => rfl, R.keep, R.xd, by rw [List.length_set, List.length_set]; exact R.len, fun j v' c' e1 e2 => ?_, fun b z => ?_, fun j l c1 c2 b e1 o1 e2 o2 e3 e4 => ?_⟩, le⟩
  · rcases set_get e1 with ⟨rfl, rfl⟩ | ⟨n, e1⟩
    · rcases set_get e2 with ⟨_, rfl⟩ | ⟨z, _⟩
      · exact r.mono le fun _ _ _ => rfl
      · exact (z rfl).elim
    · rcases set_get e2 with ⟨z, _⟩ | ⟨_, e2⟩
      · exact (n z).elim
      · exact (R.cell j v' c' e1 e2).mono le fun _ _ _ => rfl
  · obtain ⟨j, c', _, e1, o, e2⟩ := own b z
    exact R.new b ⟨j, c', e1, o, e2⟩
  · rcases set_get e1 with ⟨_, rfl⟩ | ⟨n1, e1⟩
    · exact (nc o1).elim
    · rcases set_get e2 with ⟨_, rfl⟩ | ⟨n2, e2⟩
      · exact (nc o2).elim
      · rcases set_get e3 with ⟨z, _⟩ | ⟨_, e3⟩
        · exact (n1 z).elim
        · rcases set_get e4 with ⟨z, _⟩ | ⟨_, e4⟩
          · exact (n2 z).elim
          · exact R.inj j l c1 c2 b e1 o1 e2 o2 e3 e4
theorem zip_map {κ : Type} (f : κ → D) : ∀ (kv : List (κ × V)) (kvs : List (κ × D)), kv.map (·.1) = kvs.map (·.1) → (kv.map fun p => f p.1).zip (kvs.map (·.2)) = kvs.map fun p => (f p.1, p.2)
  | [], [], _ => rfl
  | [], _ :: _, h => by simp at h
  | _ :: _, [], h => by simp at h
  | (k, v) :: kv, (k', d) :: kvs, h => by
    simp only [List.map_cons, List.cons.injEq] at h
    obtain ⟨h1, h2⟩ := h
    simp only [List.map_cons, List.zip_cons_cons, zip_map f kv kvs h2, h1]
theorem zip_mapX : ∀ (kv : List XRow) (kvs : List (List Key × D)), kv.map (·.1) = kvs.map (·.1) → (kv.map fun p => keysD p.1).zip (kvs.map (·.2)) = kvs.map fun p => (keysD p.1, p.2)
  | [], [], _ => rfl
  | [], _ :: _, h => by simp at h
  | _ :: _, [], h => by simp at h
  | (k, b, v) :: kv, (k', d) :: kvs, h => by
    simp only [List.map_cons, List.cons.injEq] at h
    obtain ⟨h1, h2⟩ := h
    simp only [List.map_cons, List.zip_cons_cons, zip_mapX kv kvs h2, h1]
inductive Holds (K : PySem.W.Frag) (F : Hp) (p : Addr) : HO → Cell → Prop
  | ol {xs ds} : RpL K F xs ds → Holds K F p (.lst xs) (.ol ds)
  | dk {kv kvs} : kv.map (·.1) = kvs.map (·.1) → RpL K F (kv.map (·.2)) (kvs.map (·.2)) → Holds K F p (.dK kv) (.dk kvs)
  | dt {kv : List XRow} {kvs} : (kv.map (·.1) = kvs.map (·.1) ∧ KX F kv) → RpL K F (kv.map (·.2.2)) (kvs.map (·.2)) → Holds K F p (DX p kv) (.dt kvs)
theorem Holds.mono {F F' : Hp} {p : Addr} {o : HO} {c : Cell} (h : Holds K F p o c) (le : Hle F F') : Holds K F' p o c := by
  cases h with
  | ol r => exact .ol (r.mono le)
  | dk k r => exact .dk k (r.mono le)
  | dt k r => exact .dt ⟨k.1, k.2.mono le⟩ (r.mono le)
theorem Holds.own {F : Hp} {p : Addr} {o : HO} {c : Cell} (h : Holds K F p o c) : c.own := by cases h <;> trivial
theorem Holds.cell {F H : Hp} {o : HO} {c : Cell} {p : Addr} (h : Holds K F p o c) (e : H p = some o) : CellOk K F H (some (.ref p)) c := by
  cases h with
  | ol r => exact ⟨p, _, rfl, e, r⟩
  | dk k r => exact ⟨p, _, rfl, e, k, r⟩
  | dt k r => exact ⟨p, _, rfl, e, k, r⟩
theorem Holds.seal {X : Cx} {pins : List (Addr × Obj)} {σ : L2.St} {F H : Hp} {s : Shared} {p : Addr} {o : HO} {c : Cell} (h : Holds K F p o c) (I : Inv X pins σ H s) (e : H p = some o) : ∃ o', Inv X pins σ (upd H p o') s ∧ ∀ F', Hle F F' → F' p = some o' → Rp K F' (.ref p) c.data := by
  cases h with
  | ol r => exact ⟨_, seal_id I e, fun F' le e' => .lst e' (r.mono le)⟩
  | dk k r =>
    refine ⟨_, seal_id I e, fun F' le e' => ?_⟩
    have q := Rp.dK e' (r.mono le)
    rw [zip_map keyD _ _ k] at q
    exact q
  | dt k r =>
    rename_i kv kvs
    cases kv with
    | nil =>
      cases kvs with
      | cons p q => cases k.1
      | nil => exact ⟨_, seal_dtE I e, fun F' le e' => .dK (ds := []) e' .nil⟩
    | cons x kv =>
      obtain ⟨ob, I'⟩ := seal_dt I e
      refine ⟨_, I', fun F' le e' => ?_⟩
      have q := Rp.dT (List.cons_ne_nil x kv) ⟨ob, e'⟩ (k.2.mono le) (r.mono le)
      rw [zip_mapX _ _ k.1] at q
      exact q
theorem CellOk.holds {F H : Hp} {v : Option V} {c : Cell} (h : CellOk K F H v c) (o : c.own) : ∃ p ob, v = some (.ref p) ∧ H p = some ob ∧ Holds K F p ob c := by
  cases c with
  | un => exact o.elim
  | fz _ => exact o.elim
  | ol ds => obtain ⟨p, xs, e, h, r⟩ := h; exact ⟨p, _, e, h, .ol r⟩
  | dk ds => obtain ⟨p, xs, e, h, k, r⟩ := h; exact ⟨p, _, e, h, .dk k r⟩
  | dt ds => obtain ⟨p, xs, e, h, k, r⟩ := h; exact ⟨p, _, e, h, .dt k r⟩
theorem Rel.setNew (R : Rel A K N s σ H ρ O) {i : Nat} {p : Addr} {ob : HO} {c : Cell} (hp : H p = none) (h : Holds K (fzP H (Px N σ ρ O)) p ob c) : Rel A K N s (σ.set i (some (.ref p))) (upd H p ob) (ρ.set i c) O ∧ Hle (fzP H (Px N σ ρ O)) (fzP (upd H p ob) (Px N (σ.set i (some (.ref p))) (ρ.set i c) O)) := by
  have own : ∀ b, OwnS (σ.set i (some (.ref p))) (ρ.set i c) b → b = p ∨ ∃ (j : Nat) (c' : Cell), j ≠ i ∧ ρ[j]? = some c' ∧ c'.own ∧ σ[j]? = some (some (.ref b)) := fun b ⟨j, c', e1, o, e2⟩ => by
    rcases set_get e2 with ⟨_, z⟩ | ⟨n, e2⟩
    · cases z; exact .inl rfl
    · rcases set_get e1 with ⟨z, _⟩ | ⟨_, e1⟩
      · exact (n z).elim
      · exact .inr ⟨j, c', n, e1, o, e2⟩
  have np : ¬ Px N σ ρ O p := R.fresh hp
  have ne : ∀ b, Px N σ ρ O b → b ≠ p := fun b z e => np (e ▸ z)
  have le : Hle (fzP H (Px N σ ρ O)) (fzP (upd H p ob) (Px N (σ.set i (some (.ref p))) (ρ.set i c) O)) := fun b o e => by
    obtain ⟨n, e⟩ := fzP_some.mp e
    have nb : b ≠ p := ne_of_none e hp
    refine fzP_of (fun z => ?_) (by rw [upd_ne nb]; exact e)
    rcases z with z | z | z
    · exact n (.inl z)
    · rcases own b z with z | ⟨j, c', _, e1, o, e2⟩
      · exact nb z
      · exact n (.inr (.inl ⟨j, c', e1, o, e2⟩))
    · exact n (.inr (.inr z))
  refine ⟨⟨A.stay R.amb le fun b z => upd_ne (ne b (.inl z)), fun b o e n => ?_, R.xd, by rw [List.length_set, List.length_set]; exact R.len, fun j v' c' e1 e2 => ?_, fun b z => ?_, fun j l c1 c2 b e1 o1 e2 o2 e3 e4 => ?_⟩, le⟩
  · have q := R.keep b o e n
    rw [upd_ne (ne_of_none q.1 hp)]
    exact q
  · rcases set_get e1 with ⟨rfl, rfl⟩ | ⟨n, e1⟩
    · rcases set_get e2 with ⟨_, rfl⟩ | ⟨z, _⟩
      · exact (h.mono le).cell upd_same
      · exact (z rfl).elim
    · rcases set_get e2 with ⟨z, _⟩ | ⟨_, e2⟩
      · exact (n z).elim
      · exact (R.cell j v' c' e1 e2).mono le fun q o e => by
          subst e
          exact upd_ne (ne q (.inr (.inl ⟨j, c', e2, o, e1⟩)))
  · rcases own b z with rfl | ⟨j, c', _, e1, o, e2⟩
    · exact ⟨R.newAt hp, fun z => np (.inl z)⟩
    · exact R.new b ⟨j, c', e1, o, e2⟩
  · have back : ∀ (j : Nat) (c' : Cell), (ρ.set i c)[j]? = some c' → c'.own → (σ.set i (some (.ref p)))[j]? = some (some (.ref b)) → (j = i ∧ b = p) ∨ (j ≠ i ∧ ρ[j]? = some c' ∧ σ[j]? = some (some (.ref b)) ∧ b ≠ p) := fun j c' e1 o e2 => by
      rcases set_get e2 with ⟨q, z⟩ | ⟨n, e2⟩
      · cases z; exact .inl ⟨q, rfl⟩
      · rcases set_get e1 with ⟨z, _⟩ | ⟨_, e1⟩
        · exact (n z).elim
        · exact .inr ⟨n, e1, e2, ne b (.inr (.inl ⟨j, c', e1, o, e2⟩))⟩
    rcases back j c1 e1 o1 e3 with ⟨q1, z1⟩ | ⟨n1, a1, b1, z1⟩
    · rcases back l c2 e2 o2 e4 with ⟨q2, _⟩ | ⟨_, _, _, z2⟩
      · rw [q1, q2]
      · exact (z2 z1).elim
    · rcases back l c2 e2 o2 e4 with ⟨_, z2⟩ | ⟨_, a2, b2, _⟩
      · exact (z1 z2).elim
      · exact R.inj j l c1 c2 b a1 o1 a2 o2 b1 b2
theorem Rel.write (R : Rel A K N s σ H ρ O) {i : Nat} {p : Addr} {ob : HO} {c c' : Cell} (e : ρ[i]? = some c) (o : c.own) (ev : σ[i]? = some (some (.ref p))) (h : Holds K (fzP H (Px N σ ρ O)) p ob c') : Rel A K N s σ (upd H p ob) (ρ.set i c') O ∧ Hle (fzP H (Px N σ ρ O)) (fzP (upd H p ob) (Px N σ (ρ.set i c') O)) := by
  have me : OwnS σ ρ p := ⟨i, c, e, o, ev⟩
  have hi : i < ρ.length := (List.getElem?_eq_some_iff.mp e).1
  have own : ∀ b, OwnS σ (ρ.set i c') b ↔ OwnS σ ρ b := fun b => ⟨fun ⟨j, d, e1, o1, e2⟩ => by
    rcases set_get e1 with ⟨rfl, rfl⟩ | ⟨n, e1⟩
    · rw [ev] at e2; cases e2; exact me
    · exact ⟨j, d, e1, o1, e2⟩, fun ⟨j, d, e1, o1, e2⟩ => by
    by_cases q : i = j
    · subst q
      exact ⟨i, c', by rw [List.getElem?_set_self hi], h.own, e2⟩
    · exact ⟨j, d, by rw [List.getElem?_set_ne q]; exact e1, o1, e2⟩⟩
  have px : ∀ b, Px N σ (ρ.set i c') O b ↔ Px N σ ρ O b := fun b => by
    unfold Px
    rw [own b]
  have le : Hle (fzP H (Px N σ ρ O)) (fzP (upd H p ob) (Px N σ (ρ.set i c') O)) := fun b o' e' => by
    obtain ⟨n, e'⟩ := fzP_some.mp e'
    have nb : b ≠ p := fun z => n (z ▸ .inr (.inl me))
    exact fzP_of (fun z => n ((px b).mp z)) (by rw [upd_ne nb]; exact e')
  obtain ⟨hn0, hnO⟩ := R.new p me
  refine ⟨⟨A.stay R.amb le fun b z => upd_ne fun q => hnO (q ▸ z), fun b o' e' n => ?_, R.xd, by rw [List.length_set]; exact R.len, fun j v' d e1 e2 => ?_, fun b z => R.new b ((own b).mp z), fun j l c1 c2 b e1 o1 e2 o2 e3 e4 => ?_⟩, le⟩
  · have q := R.keep b o' e' n
    have nb : b ≠ p := fun z => n (z ▸ hn0 o' (z ▸ e'))
    rw [upd_ne nb]
    exact q
  · rcases set_get e2 with ⟨rfl, rfl⟩ | ⟨n, e2⟩
    · rw [ev] at e1; cases e1
      exact (h.mono le).cell upd_same
    · refine (R.cell j v' d e1 e2).mono le fun q od z => upd_ne fun w => ?_
      subst z
      subst w
      exact n (R.inj j i d c q e2 od e o e1 ev)
  · obtain ⟨d1, f1, g1⟩ : ∃ d, ρ[j]? = some d ∧ d.own := by
      rcases set_get e1 with ⟨rfl, _⟩ | ⟨_, e1⟩
      · exact ⟨c, e, o⟩
      · exact ⟨c1, e1, o1⟩
    obtain ⟨d2, f2, g2⟩ : ∃ d, ρ[l]? = some d ∧ d.own := by
      rcases set_get e2 with ⟨rfl, _⟩ | ⟨_, e2⟩
      · exact ⟨c, e, o⟩
      · exact ⟨c2, e2, o2⟩
    exact R.inj j l d1 d2 b f1 g1 f2 g2 e3 e4
end
section
variable {A : Amb}
def dNx : DS A := fun D ρ s => D.nx ρ s
def dSeq (t u : DS A) : DS A := fun D ρ s => t ⟨fun ρ s => u D ρ s, D.rt, D.bk, D.ct⟩ ρ s
def dRet (t : DE A) : DS A := fun D ρ s => t ρ s D.rt
def dIfS (c : DT A) (t u : DS A) : DS A := fun D ρ s => c ρ s fun b s' => match b with
  | true => t D ρ s'
  | false => u D ρ s'
abbrev DG (A : Amb) := D → Rho → A.S → (Rho → A.S → Prop) → Prop
abbrev DGs (A : Amb) := List D → Rho → A.S → (Rho → A.S → Prop) → Prop
def dgN (i : Nat) : DG A := fun d ρ s k => k (ρ.set i (.fz d)) s
def dAsg (t : DE A) (g : DG A) : DS A := fun D ρ s => t ρ s fun d s' => g d ρ s' D.nx
abbrev dSet (i : Nat) (t : DE A) : DS A := dAsg t (dgN i)
abbrev DC (A : Amb) := Rho → A.S → (Cell → A.S → Prop) → Prop
def dOfN (t : DC A) : DE A := fun ρ s Q => t ρ s fun c s' => Q c.data s'
def dSetN (i : Nat) (t : DC A) : DS A := fun D ρ s => t ρ s fun c s' => D.nx (ρ.set i c) s'
def frzC : Cell → Cell
  | .ol ds => .fz (.list ds)
  | .dk kvs => .fz (Cell.data (.dk kvs))
  | .dt kvs => .fz (Cell.data (.dt kvs))
  | c => c
def dFrz (i : Nat) (t : DS A) : DS A := fun D ρ s => t D (match ρ[i]? with | some c => ρ.set i (frzC c) | none => ρ) s
def forW (f : D → DEnds A → Rho → A.S → Prop) : List D → DEnds A → Rho → A.S → Prop
  | [], D, ρ, s => D.nx ρ s
  | x :: xs, D, ρ, s => f x ⟨fun ρ' s' => forW f xs D ρ' s', D.rt, D.nx, fun ρ' s' => forW f xs D ρ' s'⟩ ρ s
abbrev DI (A : Amb) := Rho → A.S → (List D → A.S → Prop) → Prop
def dFor (it : DI A) (g : DG A) (b : DS A) : DS A := fun D ρ s => it ρ s fun xs s' => forW (fun x D ρ s => g x ρ s fun ρ' s' => b D ρ' s') xs D ρ s'
def dWhile (c : DT A) (b : DS A) : DS A := fun D ρ s => ∃ I : Nat → Rho → A.S → Prop, (∃ n, I n ρ s) ∧ ∀ n ρ s, I n ρ s → c ρ s fun k s' => match k with
  | true => b ⟨fun ρ' s' => ∃ m, m < n ∧ I m ρ' s', D.rt, D.nx, fun ρ' s' => ∃ m, m < n ∧ I m ρ' s'⟩ ρ s'
  | false => D.nx ρ s'
end
section
variable {A : Amb} {X : Cx} {N : Ent} {st : Stmt} {rest sts body orelse : List Stmt} {t u : DS A} {e c : Expr} {te : DE A} {tc : DT A} {pos : Pos} {g : DG A} {gs : DGs A}
theorem s_imp {t' : TS} (h : PS X st t') (i : ∀ (D : Ends) (σ : St) (H : Hp) (ρ : Rho) (s : A.S) (O : Addr → Prop) (Dd : DEnds A), Rel A X.K N s σ H ρ O → EndsOk A X.K N (fzP H (Px N σ ρ O)) Dd D → t Dd ρ s → t' D σ H) : PS X st (liftS A X.K N t) :=
  PS.imp h fun D σ H ⟨ρ, s, O, Dd, R, E, q⟩ => i D σ H ρ s O Dd R E q
theorem ss_nil : PSs X [] (liftS A X.K N dNx) := PSs.imp pss_nil fun D σ H ⟨ρ, s, O, Dd, R, E, q⟩ => E.nx ρ s σ H O R (Hle.refl _) q
theorem ss_cons (h1 : PS X st (liftS A X.K N t)) (h2 : PSs X rest (liftS A X.K N u)) : PSs X (st :: rest) (liftS A X.K N (dSeq t u)) :=
  PSs.imp (pss_cons h1 h2) fun D σ H ⟨ρ, s, O, Dd, R, E, q⟩ => ⟨ρ, s, O, ⟨fun ρ s => u Dd ρ s, Dd.rt, Dd.bk, Dd.ct⟩, R, ⟨fun ρ' s' σ' H' O' R' le q' => ⟨ρ', s', O', Dd, R', E.up le, q'⟩, E.rt, E.bk, E.ct⟩, q⟩
theorem ss_one (h1 : PS X st (liftS A X.K N t)) : PSs X [st] (liftS A X.K N t) := pss_one h1
theorem s_ret (he : PE X e (liftE A X.K N te)) : PS X (.Return (some e) pos) (liftS A X.K N (dRet te)) :=
  s_imp (ps_ret he) fun D σ H ρ s O Dd R E q => ⟨ρ, s, O, _, R, q, fun d s' v H' O' p R' le r => E.rt ρ s' σ H' O' d v R' le r p⟩
theorem s_if {a b : List Stmt} (hc : PT X c (liftT A X.K N tc)) (ha : PSs X a (liftS A X.K N t)) (hb : PSs X b (liftS A X.K N u)) : PS X (.If c a b pos) (liftS A X.K N (dIfS tc t u)) :=
  s_imp (ps_if hc ha hb) fun D σ H ρ s O Dd R E q => ⟨ρ, s, O, _, R, q, fun b s' H' O' p R' le => by
    cases b with
    | true => exact iteT ⟨ρ, s', O', Dd, R', E.up le, p⟩
    | false => exact iteF ⟨ρ, s', O', Dd, R', E.up le, p⟩⟩
theorem Rel.away {K : PySem.W.Frag} {s : A.S} {σ : St} {H : Hp} {ρ : Rho} {O : Addr → Prop} (R : Rel A K N s σ H ρ O) {i : Nat} {c : Cell} {p : Addr} (e : ρ[i]? = some c) (o : c.own) (ev : σ[i]? = some (some (.ref p))) :
    Rel A K N s σ (hide H p) (ρ.set i .un) O ∧ fzP (hide H p) (Px N σ (ρ.set i .un) O) = fzP H (Px N σ ρ O) := by
  obtain ⟨hn0, hnO⟩ := R.new p ⟨i, c, e, o, ev⟩
  have own : ∀ b, OwnS σ ρ b ↔ OwnS σ (ρ.set i .un) b ∨ b = p := fun b => by
    constructor
    · rintro ⟨j, c', e1, o1, e2⟩
      by_cases n : j = i
      · subst n
        rw [ev] at e2
        cases e2
        exact .inr rfl
      · exact .inl ⟨j, c', by rw [List.getElem?_set_ne (fun z => n z.symm)]; exact e1, o1, e2⟩
    · rintro (⟨j, c', e1, o1, e2⟩ | rfl)
      · rcases set_get e1 with ⟨_, rfl⟩ | ⟨n, e1⟩
        · exact o1.elim
        · exact ⟨j, c', e1, o1, e2⟩
      · exact ⟨i, c, e, o, ev⟩
  have np : ∀ b, OwnS σ (ρ.set i .un) b → b ≠ p := fun b ⟨j, c', e1, o1, e2⟩ z => by
    subst z
    rcases set_get e1 with ⟨_, rfl⟩ | ⟨n, e1⟩
    · exact o1
    · exact n (R.inj j i c' c b e1 o1 e o e2 ev)
  have nX : ¬ N.X0 p := fun z => by
    obtain ⟨⟨o', e'⟩, n⟩ := R.xd p z
    exact n (hn0 o' e')
  have hF : fzP (hide H p) (Px N σ (ρ.set i .un) O) = fzP H (Px N σ ρ O) := (fz_hide (fun b nb => by
    unfold Px
    rw [own]
    simp [nb]) (.inr (.inl ⟨i, c, e, o, ev⟩))).symm
  refine ⟨⟨?_, fun b x e' n => ?_, R.xd, by rw [List.length_set]; exact R.len, fun j v c' e1 e2 => ?_, fun b z => R.new b ((own b).mpr (.inl z)), fun j l c1 c2 b e1 o1 e2 o2 e3 e4 => ?_⟩, hF⟩
  · rw [hF]
    exact A.stay R.amb (Hle.refl _) fun b z => hide_ne fun w => hnO (w ▸ z)
  · have q := R.keep b x e' n
    have nb : b ≠ p := fun z => n (hn0 x (z ▸ e') |> fun w => z ▸ w)
    rw [hide_ne nb]
    exact q
  · rw [hF]
    rcases set_get e2 with ⟨_, rfl⟩ | ⟨n, e2⟩
    · trivial
    · refine (R.cell j v c' e1 e2).mono (Hle.refl _) fun p' o' z => hide_ne fun w => ?_
      subst z
      subst w
      exact n (R.inj j i c' c p' e2 o' e o e1 ev)
  · rcases set_get e1 with ⟨_, rfl⟩ | ⟨n1, e1⟩
    · exact o1.elim
    · rcases set_get e2 with ⟨_, rfl⟩ | ⟨n2, e2⟩
      · exact o2.elim
      · exact R.inj j l c1 c2 b e1 o1 e2 o2 e3 e4
theorem Rel.toFz {X : Cx} {pins : List (Addr × Obj)} {sh : Shared} {s : A.S} {σ : St} {H : Hp} {ρ : Rho} {O : Addr → Prop} (R : Rel A X.K N s σ H ρ O) (i : Nat) (I : Inv X pins σ H sh) : ∃ H', Inv X pins σ H' sh ∧ Rel A X.K N s σ H' (match ρ[i]? with | some c => ρ.set i (frzC c) | none => ρ) O ∧ Hle (fzP H (Px N σ ρ O)) (fzP H' (Px N σ (match ρ[i]? with | some c => ρ.set i (frzC c) | none => ρ) O)) := by
  cases e : ρ[i]? with
  | none => exact ⟨H, I, R, Hle.refl _⟩
  | some c =>
    dsimp only
    obtain ⟨v, ev, ok⟩ := R.slot e
    have same : ∀ c', c' = c → ∃ H', Inv X pins σ H' sh ∧ Rel A X.K N s σ H' (ρ.set i c') O ∧ Hle (fzP H (Px N σ ρ O)) (fzP H' (Px N σ (ρ.set i c') O)) := fun c' z => by
      subst z
      rw [(set_same e : ρ.set i c' = ρ)]
      exact ⟨H, I, R, Hle.refl _⟩
    have go : c.own → frzC c = .fz c.data → ∃ H', Inv X pins σ H' sh ∧ Rel A X.K N s σ H' (ρ.set i (frzC c)) O ∧ Hle (fzP H (Px N σ ρ O)) (fzP H' (Px N σ (ρ.set i (frzC c)) O)) := fun o z => by
      obtain ⟨p, ob, rfl, hp, ho⟩ := ok.holds o
      have sv : σ.set i (some (.ref p)) = σ := set_same ev
      obtain ⟨o', I', rp⟩ := ho.seal I hp
      obtain ⟨R1, hF⟩ := R.away e o ev
      have R2 := R1.alloc (same_upd (o := o') hide_self)
      have le2 := R1.fzle (same_upd (o := o') hide_self)
      have fr := R1.fresh (p := p) hide_self
      have hu : upd (hide H p) p o' = upd H p o' := by
        funext b
        by_cases z : b = p
        · subst z; rw [upd_same, upd_same]
        · rw [upd_ne z, upd_ne z, hide_ne z]
      rw [hu] at R2 le2
      have fin := R2.setFz (i := i) (v := .ref p) (c := .fz c.data) (fun z => z) ⟨_, rfl, rp _ (by rw [← hF]; exact le2) (fzP_of fr upd_same)⟩
      rw [sv, List.set_set] at fin
      rw [z]
      rw [hF] at le2
      exact ⟨_, I', fin.1, le2.trans fin.2⟩
    cases c with
    | un => exact same _ rfl
    | fz d => exact same _ rfl
    | ol ds => exact go trivial rfl
    | dk ds => exact go trivial rfl
    | dt ds => exact go trivial rfl
theorem s_frz {i : Nat} (h : PS X st (liftS A X.K N t)) : PS X st (liftS A X.K N (dFrz i t)) := ⟨fun pins s0 σ H D I ⟨ρ, s, O, Dd, R, E, q⟩ => by
  obtain ⟨H', I', R', le⟩ := R.toFz i I
  exact h.run pins s0 σ H' D I' ⟨_, s, O, Dd, R', E.up le, q⟩⟩
end
end Dl
namespace Dl
open PySem L2
section
variable (A : Amb) (K : PySem.W.Frag) (N : Ent)
def Off (vs : List Nat) (σ σ' : St) : Prop := σ'.length = σ.length ∧ ∀ j : Nat, j ∉ vs → σ'[j]? = σ[j]?
def OffR (vs : List Nat) (ρ ρ' : Rho) : Prop := ρ'.length = ρ.length ∧ ∀ j : Nat, j ∉ vs → ρ'[j]? = ρ[j]?
structure Tch (vs : List Nat) (σ : St) (ρ : Rho) (σ' : St) (ρ' : Rho) : Prop where
  st : Off vs σ σ'
  rh : OffR vs ρ ρ'
  own : ∀ b, OwnS σ' ρ' b → OwnS σ ρ b
def liftG (vs : List Nat) (g : DG A) : TG := fun v σ H Q => ∃ ρ s O d P, Rel A K N s σ H ρ O ∧ Rp K (fzP H (Px N σ ρ O)) v d ∧ g d ρ s P ∧ ∀ ρ' s' σ' H' O', P ρ' s' → Rel A K N s' σ' H' ρ' O' → Hle (fzP H (Px N σ ρ O)) (fzP H' (Px N σ' ρ' O')) → Tch vs σ ρ σ' ρ' → Q σ' H'
def liftW (t : DC A) : TE := fun σ H Q => ∃ ρ s O P, Rel A K N s σ H ρ O ∧ t ρ s P ∧ ∀ c s' p ob H1 O1, P c s' → Rel A K N s' σ H1 ρ O1 → Hle (fzP H (Px N σ ρ O)) (fzP H1 (Px N σ ρ O1)) → H1 p = none → Holds K (fzP H1 (Px N σ ρ O1)) p ob c → Q (.ref p) (upd H1 p ob)
def ItOk (K : PySem.W.Frag) (F : Hp) (J : It) (xs : List D) : Prop := ∀ (i : Nat) (H : Hp) (P : Addr → Prop), (∀ b, P b → ∃ o, H b = some o) → Hle F (fzP H P) →
  (i < xs.length → J.go i H ∧ ∀ x H', J.yld i H x H' → Same H H' ∧ ∃ d, xs[i]? = some d ∧ Rp K (fzP H' P) x d) ∧ (xs.length ≤ i → J.stop i H)
def liftI (t : DI A) : TI := fun σ H R => ∃ ρ s O P, Rel A K N s σ H ρ O ∧ t ρ s P ∧ ∀ xs s' J H' O', P xs s' → Rel A K N s' σ H' ρ O' → Hle (fzP H (Px N σ ρ O)) (fzP H' (Px N σ ρ O')) → ItOk K (fzP H' (Px N σ ρ O')) J xs → R J H'
end
theorem Off.refl (vs : List Nat) (σ : St) : Off vs σ σ := ⟨rfl, fun _ _ => rfl⟩
theorem Off.trans {vs : List Nat} {σ σ1 σ2 : St} (a : Off vs σ σ1) (b : Off vs σ1 σ2) : Off vs σ σ2 := ⟨b.1.trans a.1, fun j h => (b.2 j h).trans (a.2 j h)⟩
theorem Off.up {vs ws : List Nat} {σ σ1 : St} (a : Off vs σ σ1) (h : ∀ i ∈ vs, i ∈ ws) : Off ws σ σ1 := ⟨a.1, fun j z => a.2 j fun q => z (h j q)⟩
theorem Off.set {i : Nat} {σ : St} {v : Option V} : Off [i] σ (σ.set i v) := ⟨by rw [List.length_set], fun j h => List.getElem?_set_ne fun e => h (by simp [e])⟩
theorem wipe_at {σ : St} {i : Nat} : ∀ {vs : List Nat}, i < σ.length → (wipe σ vs)[i]? = if i ∈ vs then some none else σ[i]?
  | [], h => by simp [wipe]
  | v :: vs, h => by
    unfold wipe
    rw [List.getElem?_set]
    have q := wipe_at (vs := vs) h
    by_cases e : v = i
    · subst e
      simp [wipe_length, h]
    · simp only [if_neg e, q, List.mem_cons]
      have e' : ¬ i = v := fun z => e z.symm
      simp [e']
theorem Off.wipe {vs : List Nat} {σ σ' : St} (h : Off vs σ σ') : L2.wipe σ' vs = L2.wipe σ vs := by
  apply List.ext_getElem?
  intro i
  by_cases hi : i < σ.length
  · rw [wipe_at hi, wipe_at (by rw [h.1]; exact hi)]
    by_cases m : i ∈ vs
    · simp [m]
    · simp [m, h.2 i m]
  · rw [List.getElem?_eq_none (by rw [wipe_length, h.1]; omega), List.getElem?_eq_none (by rw [wipe_length]; omega)]
theorem Tch.refl (vs : List Nat) (σ : St) (ρ : Rho) : Tch vs σ ρ σ ρ := ⟨Off.refl _ _, ⟨rfl, fun _ _ => rfl⟩, fun _ z => z⟩
theorem Tch.trans {vs ws : List Nat} {σ σ1 σ2 : St} {ρ ρ1 ρ2 : Rho} (a : Tch vs σ ρ σ1 ρ1) (b : Tch ws σ1 ρ1 σ2 ρ2) : Tch (vs ++ ws) σ ρ σ2 ρ2 :=
  ⟨(a.st.up fun i z => List.mem_append_left _ z).trans (b.st.up fun i z => List.mem_append_right _ z), ⟨b.rh.1.trans a.rh.1, fun j h => (b.rh.2 j fun z => h (List.mem_append_right _ z)).trans (a.rh.2 j fun z => h (List.mem_append_left _ z))⟩, fun x z => a.own x (b.own x z)⟩
theorem Tch.fz {i : Nat} {σ : St} {ρ : Rho} {v : V} {c : Cell} (nc : ¬ c.own) : Tch [i] σ ρ (σ.set i (some v)) (ρ.set i c) :=
  ⟨Off.set, ⟨by rw [List.length_set], fun j h => List.getElem?_set_ne fun e => h (by simp [e])⟩, fun b ⟨j, c', e1, o, e2⟩ => by
    rcases set_get e1 with ⟨_, rfl⟩ | ⟨n, e1⟩
    · exact (nc o).elim
    · rcases set_get e2 with ⟨z, _⟩ | ⟨_, e2⟩
      · exact (n z).elim
      · exact ⟨j, c', e1, o, e2⟩⟩
section
variable {A : Amb} {X : Cx} {N : Ent} {st : Stmt} {e e1 c tg iter : Expr} {body : List Stmt} {es ts : List Expr} {te ti : DE A} {t u : DS A} {tc : DT A} {g : DG A} {gs : DGs A} {vs ws : List Nat} {pos : Pos} {it : DI A} {tn : DC A}
theorem PGs.imp {ts : List Expr} {t t' : TGs} (h : PGs X ts t) (i : ∀ v σ H Q, t' v σ H Q → t v σ H Q) : PGs X ts t' := ⟨fun pins s σ H v u Q I r q => h.run pins s σ H v u Q I r (i _ _ _ _ q)⟩
theorem PI.imp {wi wi' : TI} (h : PI X tg iter wi) (i : ∀ σ H R, wi' σ H R → wi σ H R) : PI X tg iter wi' := ⟨fun pins s σ H R I q => h.run pins s σ H R I (i _ _ _ q)⟩
theorem g_name {i : Nat} (h : PG X e (gName i)) : PG X e (liftG A X.K N [i] (dgN i)) := PG.imp h fun v σ H Q ⟨ρ, s, O, d, P, R, r, q, k⟩ =>
  k _ s _ H O q (R.setFz (c := .fz d) (fun z => z) ⟨v, rfl, r⟩).1 (R.setFz (c := .fz d) (fun z => z) ⟨v, rfl, r⟩).2 (Tch.fz fun z => z)
theorem s_set {i : Nat} (h : PS X st (tAsg (liftE A X.K N te) (gName i))) : PS X st (liftS A X.K N (dSet i te)) := s_imp h fun D σ H ρ s O Dd R E q =>
  ⟨ρ, s, O, _, R, q, fun d s1 v H1 O1 q1 R1 le1 r => E.nx _ s1 _ H1 O1 (R1.setFz (c := .fz d) (fun z => z) ⟨v, rfl, r⟩).1 (le1.trans (R1.setFz (c := .fz d) (fun z => z) ⟨v, rfl, r⟩).2) q1⟩
theorem s_setW {i : Nat} (h : PS X st (tAsg (liftW A X.K N tn) (gName i))) : PS X st (liftS A X.K N (dSetN i tn)) := s_imp h fun D σ H ρ s O Dd R E q =>
  ⟨ρ, s, O, _, R, q, fun c s1 p ob H1 O1 q1 R1 le1 hp hh => E.nx _ s1 _ _ O1 (R1.setNew hp hh).1 (le1.trans (R1.setNew hp hh).2) q1⟩
theorem e_ofW (h : PE X e (liftW A X.K N tn)) : PE X e (liftE A X.K N (dOfN tn)) := ⟨fun pins s0 σ H Q I ⟨ρ, s, O, P, R, q, k⟩ => by
  refine thn (h.run pins s0 σ H (fun v H2 => ∃ c s1 p ob H1 O1, P (Cell.data c) s1 ∧ Rel A X.K N s1 σ H1 ρ O1 ∧ Hle (fzP H (Px N σ ρ O)) (fzP H1 (Px N σ ρ O1)) ∧ H1 p = none ∧ Holds X.K (fzP H1 (Px N σ ρ O1)) p ob c ∧ v = .ref p ∧ H2 = upd H1 p ob) I
    ⟨ρ, s, O, _, R, q, fun c s1 p ob H1 O1 q1 R1 le1 hp hh => ⟨c, s1, p, ob, H1, O1, q1, R1, le1, hp, hh, rfl, rfl⟩⟩) fun u s2 ⟨x, H2, I2, rx, c, s1, p, ob, H1, O1, q1, R1, le1, hp, hh, e1, e2⟩ => ?_
  subst e1 e2
  obtain ⟨o', I', rp⟩ := hh.seal I2 upd_same
  rw [upd_upd] at I'
  have R2 := R1.alloc (same_upd (o := o') hp)
  have le2 := R1.fzle (same_upd (o := o') hp)
  exact ⟨_, _, I', rx, k _ s1 _ _ O1 q1 R2 (le1.trans le2) (rp _ le2 (fzP_of (R1.fresh hp) upd_same))⟩⟩
def nLst (a : DA A) : DC A := fun ρ s Q => a ρ s fun xs s1 => xs.length ≤ sizeLine ∧ Q (.ol xs) s1
theorem n_lst {tL : DA A} (h : PA X es (liftA A X.K N tL)) : PE X (.List es pos) (liftW A X.K N (nLst tL)) :=
  PE.imp (pe_lst h) fun σ H Q ⟨ρ, s, O, P, R0, q, k⟩ => ⟨ρ, s, O, _, R0, q, fun x s1 vx H1 O1 ⟨q0, q1⟩ R1 le1 rx => ⟨by rw [rx.length]; exact q0, fun p hp => k _ s1 p _ H1 O1 q1 R1 le1 hp (.ol rx)⟩⟩
def DR2W (K : PySem.W.Frag) (r : R2) (f : D → D → (Cell → Prop) → Prop) : Prop := ∀ (H : Hp) (P : Addr → Prop) (x y : V) (dx dy : D) (k : Cell → Prop) (Q : VK), (∀ b, P b → ∃ o, H b = some o) → Bh K (fzP H P) H x dx → Bh K (fzP H P) H y dy → f dx dy k →
  (∀ p ob c, H p = none → Holds K (fzP H P) p ob c → k c → Q (.ref p) (upd H p ob)) → r x y H Q
def DRNW (K : PySem.W.Frag) (r : List V → Hp → VK → Prop) (f : List D → (Cell → Prop) → Prop) : Prop := ∀ (H : Hp) (P : Addr → Prop) (xs : List V) (ds : List D) (k : Cell → Prop) (Q : VK), (∀ b, P b → ∃ o, H b = some o) → BhL K (fzP H P) H xs ds → f ds k →
  (∀ p ob c, H p = none → Holds K (fzP H P) p ob c → k c → Q (.ref p) (upd H p ob)) → r xs H Q
def nOp (f : D → D → (Cell → Prop) → Prop) (a b : DE A) : DC A := fun ρ s Q => a ρ s fun x s1 => b ρ s1 fun y s2 => f x y fun z => Q z s2
def nFn (f : List D → (Cell → Prop) → Prop) (a : DA A) : DC A := fun ρ s Q => a ρ s fun xs s1 => f xs fun z => Q z s1
variable {a b : Expr} {ta tb : DE A}
theorem n_op {op : Operator} {r : R2} {f : D → D → (Cell → Prop) → Prop} (ho : OpR X (binaryOp op) r) (hR : DR2W X.K r f) (ha : PE X a (liftB A X.K N ta)) (hb : PE X b (liftB A X.K N tb)) : PE X (.BinOp a op b pos) (liftW A X.K N (nOp f ta tb)) :=
  PE.imp (pe_op ho ha hb) fun σ H Q ⟨ρ, s, O, P, R0, q, k⟩ => ⟨ρ, s, O, _, R0, q, fun x s1 vx H1 O1 q1 R1 le1 rx => ⟨ρ, s1, O1, _, R1, q1, fun y s2 vy H2 O2 q2 R2 le2 ry =>
    hR H2 (Px N σ ρ O2) vx vy x y (fun z => P z s2) Q (fun _ z => R2.dom z) (R2.bh (rx.mono le2)) (R2.bh ry) q2 fun p ob c hp hh pc => k c s2 p ob H2 O2 pc R2 (le1.trans le2) hp hh⟩⟩
theorem liftNW {tL : DA A} {r : List V → Hp → VK → Prop} {f : List D → (Cell → Prop) → Prop} (hR : DRNW X.K r f) : ∀ σ H Q, liftW A X.K N (nFn f tL) σ H Q → tCB r (liftAB A X.K N tL) σ H Q := fun σ H Q ⟨ρ, s, O, P, R0, q, k⟩ =>
  ⟨ρ, s, O, _, R0, q, fun x s1 vx H1 O1 q1 R1 le1 rx => hR H1 (Px N σ ρ O1) vx x (fun z => P z s1) Q (fun _ z => R1.dom z) (R1.bhL rx) q1 fun p ob c hp hh pc => k c s1 p ob H1 O1 pc R1 le1 hp hh⟩
theorem n_callB {id : String} {x : Str} {p : Pos} {r : List V → Hp → VK → Prop} {f : List D → (Cell → Prop) → Prop} {tL : DA A} (hc : CallR X (.builtin id) r) (hR : DRNW X.K r f) (hm : X.mg x = none) (hv : bootBuiltins x = some (.builtin id)) (ha : PA X (e :: es) (liftAB A X.K N tL))
    (hg : Gl X x := by rfl) (hn : x ≠ "__name__" := by decide) (hdb : (x == ("__debug__" : Str)) = false := by decide) (h1 : starEach (e :: es) X.env = (false, eval e X.env) :: starEach es X.env := by rfl) (h2 : (backTo pos (starEach es X.env)).any (·.1) = false := by rfl) :
    PE X (.Call (.Name x p) (e :: es) [] pos) (liftW A X.K N (nFn f tL)) := PE.imp (pe_callB hc hg hm hv ha hn hdb h1 h2) (liftNW hR)
theorem n_callTy {T : String} {x : Str} {p : Pos} {r : List V → Hp → VK → Prop} {f : List D → (Cell → Prop) → Prop} {tL : DA A} (hc : CallR X (.type T) r) (hR : DRNW X.K r f) (hm : X.mg x = none) (hv : bootBuiltins x = some (.type T)) (ha : PA X (e :: es) (liftAB A X.K N tL))
    (hg : Gl X x := by rfl) (hn : x ≠ "__name__" := by decide) (hdb : (x == ("__debug__" : Str)) = false := by decide) (h1 : starEach (e :: es) X.env = (false, eval e X.env) :: starEach es X.env := by rfl) (h2 : (backTo pos (starEach es X.env)).any (·.1) = false := by rfl) :
    PE X (.Call (.Name x p) (e :: es) [] pos) (liftW A X.K N (nFn f tL)) := PE.imp (pe_callTy hc hg hm hv ha hn hdb h1 h2) (liftNW hR)
def dApp (i : Nat) (te : DE A) : DS A := fun D ρ s => match ρ[i]? with
  | some (.ol ds) => te ρ s fun d s' => ds.length < sizeLine ∧ D.nx (ρ.set i (.ol (ds ++ [d]))) s'
  | _ => False
def dExt (i : Nat) (te : DE A) : DS A := fun D ρ s => match ρ[i]? with
  | some (.ol ds) => te ρ s fun d s' => (match d with
    | .list es => ds.length + es.length ≤ sizeLine ∧ D.nx (ρ.set i (.ol (ds ++ es))) s'
    | _ => False)
  | _ => False
theorem s_append {i : Nat} (h : PS X st (tDrop (tBM X.K "list" rAppend (tVar i) (tCons (liftE A X.K N te) tNil)))) : PS X st (liftS A X.K N (dApp i te)) := s_imp h fun D σ H ρ s O Dd R E q => by
  unfold dApp at q
  split at q
  · next ds hd =>
    obtain ⟨w, e1, p, xs, rfl, hp, rl⟩ := R.slot hd
    refine ⟨_, e1, .inl ⟨rfl, _, .inl (.inl hp)⟩, ρ, s, O, _, R, q, fun d s1 v H1 O1 q1 R1 le1 r => ?_⟩
    obtain ⟨w', e1', p', xs', z', hp', rl'⟩ := R1.slot hd
    rw [e1] at e1'
    cases e1'
    cases z'
    have W := R1.write (c' := .ol (ds ++ [d])) hd trivial e1 (.ol (rl'.append (.one r)))
    exact ⟨p, xs', v, rfl, rfl, hp', by rw [rl'.length]; exact q1.1, E.nx _ s1 σ _ O1 W.1 (le1.trans W.2) q1.2⟩
  · exact q.elim
theorem s_extend {i : Nat} (h : PS X st (tDrop (tBM X.K "list" rExtend (tVar i) (tCons (liftB A X.K N te) tNil)))) : PS X st (liftS A X.K N (dExt i te)) := s_imp h fun D σ H ρ s O Dd R E q => by
  unfold dExt at q
  split at q
  · next ds hd =>
    obtain ⟨w, e1, p, xs, rfl, hp, rl⟩ := R.slot hd
    refine ⟨_, e1, .inl ⟨rfl, _, .inl (.inl hp)⟩, ρ, s, O, _, R, q, fun d s1 v H1 O1 q1 R1 le1 r => ?_⟩
    split at q1
    · next es =>
      obtain ⟨w', e1', p', xs', z', hp', rl'⟩ := R1.slot hd
      rw [e1] at e1'
      cases e1'
      cases z'
      obtain ⟨a, zs, rfl, ha, rz⟩ := (R1.bh r).list fzP_le
      have W := R1.write (c' := .ol (ds ++ es)) hd trivial e1 (.ol (rl'.append rz))
      exact ⟨p, a, xs', zs, rfl, rfl, hp', ha, by rw [rl'.length, rz.length]; exact q1.1, E.nx _ s1 σ _ O1 W.1 (le1.trans W.2) q1.2⟩
    · exact q1.elim
  · exact q.elim
theorem s_while (hc : PT X c (liftT A X.K N tc)) (hb : PSs X body (liftS A X.K N t)) (hp : PassesOwn (model X.prog X.w) X.A X.env X.xe) : PS X (.While c body [] pos) (liftS A X.K N (dWhile tc t)) :=
  s_imp (ps_while hp hc hb) fun D σ H ρ s O Dd R E ⟨I, ⟨n, i0⟩, turn⟩ =>
    ⟨fun m σ' H' => ∃ ρ' s' O', Rel A X.K N s' σ' H' ρ' O' ∧ Hle (fzP H (Px N σ ρ O)) (fzP H' (Px N σ' ρ' O')) ∧ I m ρ' s', ⟨n, ρ, s, O, R, Hle.refl _, i0⟩, fun m σ1 H1 ⟨ρ1, s1, O1, R1, le1, i1⟩ =>
      ⟨ρ1, s1, O1, _, R1, turn m ρ1 s1 i1, fun b s2 H2 O2 q2 R2 le2 => by
        cases b with
        | false => exact iteF (E.nx ρ1 s2 σ1 H2 O2 R2 (le1.trans le2) q2)
        | true =>
          refine iteT ⟨fun σ' H' => ∃ m', m' < m ∧ ∃ ρ' s' O', Rel A X.K N s' σ' H' ρ' O' ∧ Hle (fzP H (Px N σ ρ O)) (fzP H' (Px N σ' ρ' O')) ∧ I m' ρ' s', fun σ' H' z => z, ρ1, s2, O2, _, R2, ?_, q2⟩
          have E' := E.up (le1.trans le2)
          exact ⟨fun ρ' s' σ' H' O' R' le ⟨m', hm, i'⟩ => ⟨m', hm, ρ', s', O', R', le1.trans (le2.trans le), i'⟩, E'.rt, E'.nx, fun ρ' s' σ' H' O' R' le ⟨m', hm, i'⟩ => ⟨m', hm, ρ', s', O', R', le1.trans (le2.trans le), i'⟩⟩⟩⟩
theorem s_for (hi : PI X tg iter (liftI A X.K N it)) (hg : PG X tg (liftG A X.K N vs g)) (hb : PSs X body (liftS A X.K N t)) (hp : PassesOwn (model X.prog X.w) X.A X.env X.xe) (hc : X.calm = true) (hs : ∀ x, foldedSetIterable iter X.env x = pure x := by intro _; rfl) :
    PS X (.For tg iter body [] pos) (liftS A X.K N (dFor it g t)) :=
  s_imp (ps_for hp hc hi hg hb hs) fun D σ H ρ s O Dd R E q => ⟨ρ, s, O, _, R, q, fun xs s0 J H0 O0 q0 R0 le0 ok => by
    refine ⟨fun i m σ' H' => m = xs.length - i ∧ i ≤ xs.length ∧ ∃ ρ' s' O', Rel A X.K N s' σ' H' ρ' O' ∧ Hle (fzP H0 (Px N σ ρ O0)) (fzP H' (Px N σ' ρ' O')) ∧ forW (fun x D ρ s => g x ρ s fun ρ' s' => t D ρ' s') (xs.drop i) Dd ρ' s',
      ⟨xs.length, rfl, Nat.zero_le _, ρ, s0, O0, R0, Hle.refl _, q0⟩, ?_⟩
    rintro i m σ1 H1 ⟨rfl, hi, ρ1, s1, O1, R1, le1, q1⟩
    have ok1 := ok i H1 (Px N σ1 ρ1 O1) (fun _ z => R1.dom z) le1
    by_cases hlt : i < xs.length
    · refine .inr ⟨(ok1.1 hlt).1, fun σ' H' => i + 1 ≤ xs.length ∧ ∃ ρ' s' O', Rel A X.K N s' σ' H' ρ' O' ∧ Hle (fzP H0 (Px N σ ρ O0)) (fzP H' (Px N σ' ρ' O')) ∧ forW (fun x D ρ s => g x ρ s fun ρ' s' => t D ρ' s') (xs.drop (i + 1)) Dd ρ' s', fun σ' H' z => ⟨xs.length - (i + 1), by omega, rfl, z.1, z.2⟩, fun x H2 y => ?_⟩
      obtain ⟨sm, d, hd, rx⟩ := (ok1.1 hlt).2 x H2 y
      have R2 := R1.alloc sm
      have le2 := R1.fzle sm
      have hx : xs.drop i = d :: xs.drop (i + 1) := by
        rw [List.drop_eq_getElem_cons hlt]
        rw [List.getElem?_eq_getElem hlt] at hd
        cases hd
        rfl
      rw [hx] at q1
      refine ⟨ρ1, s1, O1, d, _, R2, rx, q1, fun ρ3 s3 σ3 H3 O3 q3 R3 le3 _ => ⟨ρ3, s3, O3, _, R3, ?_, q3⟩⟩
      have E' := E.up (le0.trans (le1.trans (le2.trans le3)))
      exact ⟨fun ρ' s' σ' H' O' R' le z => ⟨hlt, ρ', s', O', R', le1.trans (le2.trans (le3.trans le)), z⟩, E'.rt, E'.nx, fun ρ' s' σ' H' O' R' le z => ⟨hlt, ρ', s', O', R', le1.trans (le2.trans (le3.trans le)), z⟩⟩
    · have e : i = xs.length := by omega
      subst e
      rw [List.drop_length] at q1
      exact .inl ⟨ok1.2 (Nat.le_refl _), E.nx ρ1 s1 σ1 H1 O1 R1 (le0.trans le1) q1⟩⟩
end
end Dl
namespace Dl
open PySem L2
section
variable {X : Cx} {N : Ent} {A : Amb} {tg e : Expr} {te : DE A} {pos : Pos}
section
variable {pins : List (Addr × Obj)} {σ : St} {H : Hp} {s : Shared} {R : It → Hp → Prop} {E : Value → Shared → Prop}
theorem newIt {J : It} {tn : Nat → Heap → Prop} {ob : Obj} {tk : Nat} (I : Inv X pins σ H s) (T : Turn X.prog X.w X.K tg J [s.heap.objs.size] s.heap.objs.size tn) (h0 : tn 0 (s.heap.push ob)) (q : R J H) :
    PIE X pins σ tg R (.ref s.heap.objs.size) { s with heap := s.heap.push ob, toks := tk } :=
  ⟨_, _, tn, J, H, rfl, I.kept fun b o e => Heap.get?_push_of_some _ e, T, h0, fun b hb => by
    rw [List.mem_singleton.mp hb]
    exact I.fpOk (Nat.le_refl _) (I.hok.fresh (Nat.le_refl _)), q⟩
theorem it_list {a : Addr} {xs : List V} (I : Inv X pins σ H s) (h : SqL X.K H a xs) (q : R (Itl X.K a) H) : wpAny (model X.prog X.w) X.A (pyIter (.ref a)) (PIE X pins σ tg R) E s := by
  obtain ⟨its, rv, p, hz⟩ := I.list h
  exact wpAny_pyIter_list p.isList (newIt (tk := s.toks) I (turn_list a _) ⟨_, Heap.get?_push_size _ rfl, rfl, rfl⟩ q)
theorem it_tup {a : Addr} {xs : List V} (I : Inv X pins σ H s) (h : SqT X.K H a xs) (q : R (Itt X.K a) H) : wpAny (model X.prog X.w) X.A (pyIter (.ref a)) (PIE X pins σ tg R) E s := by
  obtain ⟨its, rv, p, hz⟩ := I.tuple h
  exact wpAny_pyIter_tuple (show s.heap.IsTuple a its.toArray from p) (newIt (tk := s.toks) I (turn_tuple a _) ⟨_, Heap.get?_push_size _ rfl, rfl, rfl⟩ q)
end
theorem PI.by {wi : TI} {te : TE} (he : PE X e te) (h : ∀ σ H R, wi σ H R → te σ H fun v H1 => ∀ (pins : List (Addr × Obj)) (s : Shared) (u : Value), Inv X pins σ H1 s → RelV v u → wpAny (model X.prog X.w) X.A (pyIter u) (PIE X pins σ tg R) X.xe s) : PI X tg e wi :=
  ⟨fun pins s σ H R I q => thn (he.run pins s σ H _ I (h σ H R q)) fun u s1 ⟨v, H1, I1, r1, k⟩ => k pins s1 u I1 r1⟩
def signsD (z : Str) : List D := z.cps.toList.map fun c => .str ⟨#[c]⟩
theorem ok_list {K : PySem.W.Frag} {F : Hp} {a : Addr} {xs : List V} {ds : List D} (h : F a = some (.lst xs)) (r : RpL K F xs ds) : ItOk K F (Itl K a) ds := fun i H P dm le => by
  have hs : SqL K H a xs := SqL.of (fzP_le _ _ (le _ _ h))
  refine ⟨fun hi => ?_, fun hi => ⟨xs, hs, by rw [r.length]; exact hi⟩⟩
  have hx : i < xs.length := by rw [r.length]; exact hi
  refine ⟨⟨xs, xs[i], hs, List.getElem?_eq_getElem hx⟩, fun x H' ⟨e, y⟩ => ?_⟩
  subst e
  obtain ⟨d, e1, e2⟩ := r.get (y xs hs)
  exact ⟨Same.refl _, d, e1, e2.mono le⟩
theorem ok_tup {K : PySem.W.Frag} {F : Hp} {a : Addr} {xs : List V} {ds : List D} (h : SqT K F a xs) (r : RpL K F xs ds) : ItOk K F (Itt K a) ds := fun i H P dm le => by
  have hs : SqT K H a xs := (le.trans fzP_le).sqT h
  refine ⟨fun hi => ?_, fun hi => ⟨xs, hs, by rw [r.length]; exact hi⟩⟩
  have hx : i < xs.length := by rw [r.length]; exact hi
  refine ⟨⟨xs, xs[i], hs, List.getElem?_eq_getElem hx⟩, fun x H' ⟨e, y⟩ => ?_⟩
  subst e
  obtain ⟨d, e1, e2⟩ := r.get (y xs hs)
  exact ⟨Same.refl _, d, e1, e2.mono le⟩
theorem ok_str {K : PySem.W.Frag} {F : Hp} {z : Str} : ItOk K F (Its z) (signsD z) := fun i H P dm le => by
  have hl : (signsD z).length = z.cps.size := by unfold signsD; rw [List.length_map, Array.length_toList]
  refine ⟨fun hi => ⟨by rw [hl] at hi; exact hi, fun x H' ⟨e, c, hc, ex⟩ => ?_⟩, fun hi => by rw [hl] at hi; exact hi⟩
  subst e
  subst ex
  refine ⟨Same.refl _, .str ⟨#[c]⟩, ?_, .str _⟩
  unfold signsD
  rw [List.getElem?_map, Array.getElem?_toList, hc]
  rfl
def rngD (lo : Int) (n : Nat) : List D := (List.range n).map fun i => .int (lo + (i : Nat))
theorem ok_rng {K : PySem.W.Frag} {F : Hp} {lo : Int} {n : Nat} : ItOk K F (Itr lo n) (rngD lo n) := fun i H P dm le => by
  have hl : (rngD lo n).length = n := by unfold rngD; simp
  refine ⟨fun hi => ⟨by rw [hl] at hi; exact hi, fun x H' ⟨e, ex⟩ => ?_⟩, fun hi => by rw [hl] at hi; exact hi⟩
  subst e
  subst ex
  rw [hl] at hi
  refine ⟨Same.refl _, .int (lo + (i : Nat)), ?_, .int _⟩
  unfold rngD
  rw [List.getElem?_map, List.getElem?_range hi]
  rfl
def dIt (te : DE A) : DI A := fun ρ s Q => te ρ s fun d s' => match d with
  | .list ds => Q ds s'
  | .tuple ds => Q ds s'
  | .str z => Q (signsD z) s'
  | _ => False
theorem i_any (he : PE X e (liftE A X.K N te)) (hstr : ∀ (pins : List (Addr × Obj)) (s : Shared) (σ : St) (H : Hp) (R : It → Hp → Prop) (z : Str) (u : Value), Inv X pins σ H s → RelV (.str z) u → R (Its z) H → wpAny (model X.prog X.w) X.A (pyIter u) (PIE X pins σ tg R) X.xe s) : PI X tg e (liftI A X.K N (dIt te)) :=
  PI.by he fun σ H R ⟨ρ, s, O, P, R0, q, k⟩ => ⟨ρ, s, O, _, R0, q, fun d s1 v H1 O1 q1 R1 le1 r pins sh u I ru => by
    split at q1
    · cases r with
      | lst hs rl =>
        cases ru
        exact it_list I (SqL.of (fzP_le _ _ hs)) (k _ s1 _ H1 O1 q1 R1 le1 (ok_list hs rl))
    · cases r with
      | tup hs rl =>
        cases ru
        exact it_tup I ((fzP_le : Hle _ H1).sqT hs.sqT) (k _ s1 _ H1 O1 q1 R1 le1 (ok_tup hs.sqT rl))
    · cases r
      exact hstr pins sh σ H1 R _ u I ru (k _ s1 _ H1 O1 q1 R1 le1 ok_str)
    · exact q1.elim⟩
def dRg1 (ta : DA A) : DI A := fun ρ s Q => ta ρ s fun xs s' => match xs with
  | [.int j] => (-(2 ^ 62) ≤ j ∧ j < 2 ^ 62) ∧ Q (rngD 0 j.toNat) s'
  | _ => False
def dRg2 (ta : DA A) : DI A := fun ρ s Q => ta ρ s fun xs s' => match xs with
  | [.int i, .int j] => (-(2 ^ 62) ≤ i ∧ i < 2 ^ 62 ∧ -(2 ^ 62) ≤ j ∧ j < 2 ^ 62) ∧ Q (rngD i (j - i).toNat) s'
  | _ => False
theorem RpL.one_of {K : PySem.W.Frag} {F : Hp} {vs : List V} {d : D} (r : RpL K F vs [d]) : ∃ v, vs = [v] ∧ Rp K F v d := by
  cases r with
  | cons r t => cases t; exact ⟨_, rfl, r⟩
theorem RpL.two_of {K : PySem.W.Frag} {F : Hp} {vs : List V} {d d' : D} (r : RpL K F vs [d, d']) : ∃ v v', vs = [v, v'] ∧ Rp K F v d ∧ Rp K F v' d' := by
  cases r with
  | cons r t => obtain ⟨v, rfl, r'⟩ := t.one_of; exact ⟨_, _, rfl, r, r'⟩
theorem Rp.int_of {K : PySem.W.Frag} {F : Hp} {v : V} {i : Int} (r : Rp K F v (.int i)) : v = .int i := by cases r; rfl
theorem i_rg1 {a : Expr} {ta : DA A} {p : Pos} (hm : X.mg "range" = none) (ha : PA X [a] (liftA A X.K N ta)) (hg : Gl X "range" := by rfl) (hs : starEach [a] X.env = [(false, eval a X.env)] := by rfl) : PI X tg (.Call (.Name "range" p) [a] [] pos) (liftI A X.K N (dRg1 ta)) :=
  PI.imp (pi_range1 hg hm ha hs) fun σ H R ⟨ρ, s, O, P, R0, q, k⟩ => ⟨ρ, s, O, _, R0, q, fun xs s1 vs H1 O1 q1 R1 le1 r => by
    split at q1
    · obtain ⟨v, rfl, r1⟩ := r.one_of
      cases r1.int_of
      exact ⟨_, rfl, q1.1.1, q1.1.2, k _ s1 _ H1 O1 q1.2 R1 le1 ok_rng⟩
    · exact q1.elim⟩
theorem i_rg2 {a b : Expr} {ta : DA A} {p : Pos} (hm : X.mg "range" = none) (ha : PA X [a, b] (liftA A X.K N ta)) (hg : Gl X "range" := by rfl) (hs : starEach [a, b] X.env = [(false, eval a X.env), (false, eval b X.env)] := by rfl) (hs2 : starEach [b] X.env = [(false, eval b X.env)] := by rfl) :
    PI X tg (.Call (.Name "range" p) [a, b] [] pos) (liftI A X.K N (dRg2 ta)) :=
  PI.imp (pi_range2 hg hm ha hs hs2) fun σ H R ⟨ρ, s, O, P, R0, q, k⟩ => ⟨ρ, s, O, _, R0, q, fun xs s1 vs H1 O1 q1 R1 le1 r => by
    split at q1
    · obtain ⟨v, v', rfl, r1, r2⟩ := r.two_of
      cases r1.int_of
      cases r2.int_of
      exact ⟨_, _, rfl, q1.1, k _ s1 _ H1 O1 q1.2 R1 le1 ok_rng⟩
    · exact q1.elim⟩
end
def compW {S : Type} (f : D → S → (Option D → S → Prop) → Prop) : List D → S → (List D → S → Prop) → Prop
  | [], s, Q => Q [] s
  | x :: xs, s, Q => f x s fun r s' => compW f xs s' fun out s'' => Q (match r with | some d => d :: out | none => out) s''
def wipeR (ρ : Rho) : List Nat → Rho
  | [] => ρ
  | v :: vs => (wipeR ρ vs).set v .un
def clean (ρ : Rho) : List Nat → Prop
  | [] => True
  | v :: vs => (match ρ[v]? with
    | some (.ol _) => False
    | some (.dk _) => False
    | some (.dt _) => False
    | _ => True) ∧ clean ρ vs
section
variable {A : Amb}
def nComp (it : DI A) (g : DG A) (tt : DT A) (te : DE A) (vs : List Nat) : DC A := fun ρ s Q => it ρ s fun xs s' => clean ρ vs ∧ xs.length ≤ sizeLine ∧
  compW (fun x s k => g x (wipeR ρ vs) s fun ρ1 s1 => tt ρ1 s1 fun b s2 => match b with
    | true => te ρ1 s2 fun d s3 => k (some d) s3
    | false => k none s2) xs s' fun out s'' => Q (.ol out) s''
end
theorem wipeR_length (ρ : Rho) : ∀ vs, (wipeR ρ vs).length = ρ.length
  | [] => rfl
  | v :: vs => by unfold wipeR; rw [List.length_set, wipeR_length ρ vs]
theorem wipeR_at {ρ : Rho} {i : Nat} : ∀ {vs : List Nat}, i < ρ.length → (wipeR ρ vs)[i]? = if i ∈ vs then some .un else ρ[i]?
  | [], h => by simp [wipeR]
  | v :: vs, h => by
    unfold wipeR
    rw [List.getElem?_set]
    have q := wipeR_at (vs := vs) h
    by_cases e : v = i
    · subst e
      simp [wipeR_length, h]
    · simp only [if_neg e, q, List.mem_cons]
      have e' : ¬ i = v := fun z => e z.symm
      simp [e']
theorem clean_at {ρ : Rho} : ∀ {vs : List Nat} {i : Nat} {c : Cell}, clean ρ vs → i ∈ vs → ρ[i]? = some c → ¬ c.own
  | v :: vs, i, c, ⟨h, t⟩, m, e, o => by
    rcases List.mem_cons.mp m with rfl | m
    · rw [e] at h
      cases c with
      | un => exact o
      | fz d => exact o
      | ol d => exact h
      | dk d => exact h
      | dt d => exact h
    · exact clean_at t m e o
def Ent.put (N : Ent) (D : Addr) (o : HO) : Ent := ⟨fun b => if b = D then some o else N.H0 b, fun b => N.O0 b ∧ b ≠ D, fun b => N.X0 b ∨ b = D⟩
section
variable {A : Amb} {K : PySem.W.Frag} {N : Ent} {s s' : A.S} {σ σ' : St} {H H' : Hp} {ρ ρ' : Rho} {O O' : Addr → Prop} {D : Addr} {o : HO} {vs : List Nat}
theorem own_wipe (R : Rel A K N s σ H ρ O) (cl : clean ρ vs) (b : Addr) : OwnS (wipe σ vs) (wipeR ρ vs) b ↔ OwnS σ ρ b := by
  constructor
  · rintro ⟨i, c, e1, o1, e2⟩
    have hi : i < ρ.length := by
      have z := (List.getElem?_eq_some_iff.mp e1).1
      rw [wipeR_length] at z
      exact z
    rw [wipeR_at hi] at e1
    rw [wipe_at (by rw [R.len]; exact hi)] at e2
    by_cases m : i ∈ vs
    · rw [if_pos m] at e1
      cases e1
      exact o1.elim
    · rw [if_neg m] at e1 e2
      exact ⟨i, c, e1, o1, e2⟩
  · rintro ⟨i, c, e1, o1, e2⟩
    have hi : i < ρ.length := (List.getElem?_eq_some_iff.mp e1).1
    have m : ¬ i ∈ vs := fun m => clean_at cl m e1 o1
    exact ⟨i, c, by rw [wipeR_at hi, if_neg m]; exact e1, o1, by rw [wipe_at (by rw [R.len]; exact hi), if_neg m]; exact e2⟩
theorem Rel.block (R : Rel A K N s σ (hide H D) ρ O) (hD : H D = some o) (cl : clean ρ vs) : Rel A K (N.put D o) s (wipe σ vs) H (wipeR ρ vs) O ∧ fzP H (Px (N.put D o) (wipe σ vs) (wipeR ρ vs) O) = fzP (hide H D) (Px N σ ρ O) := by
  have nO : ¬ O D := fun z => by
    obtain ⟨x, e⟩ := A.dom R.amb z
    rw [hide_self] at e
    cases e
  have nOw : ¬ OwnS σ ρ D := fun z => by
    obtain ⟨x, e⟩ := R.ownD z
    rw [hide_self] at e
    cases e
  have hF : fzP H (Px (N.put D o) (wipe σ vs) (wipeR ρ vs) O) = fzP (hide H D) (Px N σ ρ O) := fz_hide (fun b nb => by
    unfold Px
    rw [own_wipe R cl]
    show (O b ∨ OwnS σ ρ b ∨ (N.X0 b ∨ b = D)) ↔ _
    simp [nb]) (.inr (.inr (.inr rfl)))
  refine ⟨⟨?_, fun b x e n => ?_, fun b z => ?_, by rw [wipe_length, wipeR_length]; exact R.len, fun i v c e1 e2 => ?_, fun b z => ?_, fun i j c c' b e1 o1 e2 o2 e3 e4 => ?_⟩, hF⟩
  · rw [hF]
    exact A.stay R.amb (Hle.refl _) fun b z => (hide_ne (H := H) (D := D) (b := b) fun e => nO (by rw [← e]; exact z)).symm
  · by_cases nb : b = D
    · subst nb
      have e' : (some o : Option HO) = some x := by simpa [Ent.put] using e
      cases e'
      exact ⟨hD, nO⟩
    · have e' : N.H0 b = some x := by simpa [Ent.put, nb] using e
      have n' : ¬ N.O0 b := fun z => n ⟨z, nb⟩
      have q := R.keep b x e' n'
      rw [hide_ne nb] at q
      exact q
  · rcases z with z | rfl
    · obtain ⟨⟨x, e⟩, n⟩ := R.xd b z
      have nb : b ≠ D := fun q => by
        have w := (R.keep b x e n).1
        rw [q, hide_self] at w
        cases w
      exact ⟨⟨x, by simp [Ent.put, nb, e]⟩, fun w => n w.1⟩
    · exact ⟨⟨o, by simp [Ent.put]⟩, fun w => w.2 rfl⟩
  · rw [hF]
    have hi : i < ρ.length := by
      have z := (List.getElem?_eq_some_iff.mp e2).1
      rw [wipeR_length] at z
      exact z
    rw [wipeR_at hi] at e2
    rw [wipe_at (by rw [R.len]; exact hi)] at e1
    by_cases m : i ∈ vs
    · rw [if_pos m] at e2
      cases e2
      trivial
    · rw [if_neg m] at e1 e2
      refine (R.cell i v c e1 e2).mono (Hle.refl _) fun p oc z => (hide_ne fun w => ?_).symm
      subst z
      subst w
      exact nOw ⟨i, c, e2, oc, e1⟩
  · rw [own_wipe R cl] at z
    refine ⟨fun x e => ?_, (R.new b z).2⟩
    have nb : b ≠ D := fun q => nOw (q ▸ z)
    have e' : N.H0 b = some x := by simpa [Ent.put, nb] using e
    exact ⟨(R.new b z).1 x e', nb⟩
  · have back : ∀ (i : Nat) (c : Cell), (wipeR ρ vs)[i]? = some c → c.own → (wipe σ vs)[i]? = some (some (.ref b)) → ρ[i]? = some c ∧ σ[i]? = some (some (.ref b)) := fun i c e1 o1 e2 => by
      have hi : i < ρ.length := by
        have z := (List.getElem?_eq_some_iff.mp e1).1
        rw [wipeR_length] at z
        exact z
      rw [wipeR_at hi] at e1
      rw [wipe_at (by rw [R.len]; exact hi)] at e2
      by_cases m : i ∈ vs
      · rw [if_pos m] at e1
        cases e1
        exact o1.elim
      · rw [if_neg m] at e1 e2
        exact ⟨e1, e2⟩
    obtain ⟨a1, a2⟩ := back i c e1 o1 e3
    obtain ⟨b1, b2⟩ := back j c' e2 o2 e4
    exact R.inj i j c c' b a1 o1 b1 o2 a2 b2
theorem Rel.unblock (R : Rel A K N s σ (hide H D) ρ O) (cl : clean ρ vs) (R' : Rel A K (N.put D o) s' σ' H' ρ' O') (T : Tch vs (wipe σ vs) (wipeR ρ vs) σ' ρ') (le : Hle (fzP (hide H D) (Px N σ ρ O)) (fzP H' (Px (N.put D o) σ' ρ' O'))) :
    Rel A K N s' σ (hide H' D) ρ O' ∧ fzP H' (Px (N.put D o) σ' ρ' O') = fzP (hide H' D) (Px N σ ρ O') ∧ H' D = some o ∧ ¬ Px N σ ρ O' D := by
  have kD := R'.keep D o (by simp [Ent.put]) fun z => z.2 rfl
  have same : ∀ (i : Nat), i ∉ vs → σ'[i]? = σ[i]? ∧ ρ'[i]? = ρ[i]? := fun i m => by
    by_cases hi : i < ρ.length
    · refine ⟨(T.st.2 i m).trans ?_, (T.rh.2 i m).trans ?_⟩
      · rw [wipe_at (by rw [R.len]; exact hi), if_neg m]
      · rw [wipeR_at hi, if_neg m]
    · have h1 : σ.length ≤ i := by rw [R.len]; omega
      refine ⟨?_, ?_⟩
      · rw [List.getElem?_eq_none h1, List.getElem?_eq_none (by rw [T.st.1, wipe_length]; exact h1)]
      · have n1 : ρ[i]? = none := List.getElem?_eq_none (by omega)
        have n2 : ρ'[i]? = none := List.getElem?_eq_none (by rw [T.rh.1, wipeR_length]; omega)
        rw [n1, n2]
  have own : ∀ b, OwnS σ' ρ' b ↔ OwnS σ ρ b := fun b => ⟨fun z => (own_wipe R cl b).mp (T.own b z), fun ⟨i, c, e1, o1, e2⟩ => by
    have m : ¬ i ∈ vs := fun m => clean_at cl m e1 o1
    exact ⟨i, c, by rw [(same i m).2]; exact e1, o1, by rw [(same i m).1]; exact e2⟩⟩
  have nOw : ¬ OwnS σ ρ D := fun z => by
    obtain ⟨x, e⟩ := R.ownD z
    rw [hide_self] at e
    cases e
  have nX : ¬ N.X0 D := fun z => by
    obtain ⟨⟨x, e⟩, n⟩ := R.xd D z
    have w := (R.keep D x e n).1
    rw [hide_self] at w
    cases w
  have hF : fzP H' (Px (N.put D o) σ' ρ' O') = fzP (hide H' D) (Px N σ ρ O') := fz_hide (fun b nb => by
    unfold Px
    rw [own]
    show (O' b ∨ OwnS σ ρ b ∨ (N.X0 b ∨ b = D)) ↔ _
    simp [nb]) (.inr (.inr (.inr rfl)))
  refine ⟨⟨?_, fun b x e n => ?_, R.xd, R.len, fun i v c e1 e2 => ?_, fun b z => ?_, R.inj⟩, hF, kD.1, ?_⟩
  · rw [← hF]
    exact A.stay R'.amb (Hle.refl _) fun b z => hide_ne (H := H') (D := D) (b := b) fun e => kD.2 (by rw [← e]; exact z)
  · have q := R.keep b x e n
    have nb : b ≠ D := fun z => by
      rw [z, hide_self] at q
      cases q.1
    have q' := R'.keep b x (by simp [Ent.put, nb, e]) fun z => n z.1
    rw [hide_ne nb]
    exact q'
  · by_cases m : i ∈ vs
    · have nc := clean_at cl m e2
      have q := R.cell i v c e1 e2
      refine q.mono ?_ fun p oc _ => (nc oc).elim
      rw [← hF]
      exact le
    · have q := R'.cell i v c ((same i m).1.trans e1) ((same i m).2.trans e2)
      rw [hF] at q
      refine q.mono (Hle.refl _) fun p oc z => hide_ne fun w => ?_
      subst z
      subst w
      exact nOw ⟨i, c, e2, oc, e1⟩
  · exact ⟨(R.new b z).1, (R'.new b ((own b).mpr z)).2⟩
  · rintro (z | z | z)
    · exact kD.2 z
    · exact nOw z
    · exact nX z
end
section
variable {A : Amb} {X : Cx} {N : Ent} {elt tg iter : Expr} {ifs : List Expr} {scope : Scope} {own : List (Str × Nat)} {pos : Pos} {it : DI A} {g : DG A} {tt : DT A} {te : DE A}
theorem PE.ex {e : Expr} {t : Ent → TE} (h : ∀ N, PE X e (t N)) : PE X e (fun σ H Q => ∃ N, t N σ H Q) := ⟨fun pins s σ H Q I ⟨N, q⟩ => (h N).run pins s σ H Q I q⟩
theorem PTs.ex {e : List Expr} {t : Ent → TT} (h : ∀ N, PTs X e (t N)) : PTs X e (fun σ H Q => ∃ N, t N σ H Q) := ⟨fun pins s σ H Q I ⟨N, q⟩ => (h N).run pins s σ H Q I q⟩
theorem PG.ex {e : Expr} {t : Ent → TG} (h : ∀ N, PG X e (t N)) : PG X e (fun v σ H Q => ∃ N, t N v σ H Q) := ⟨fun pins s σ H v u Q I r ⟨N, q⟩ => (h N).run pins s σ H v u Q I r q⟩
theorem PTs.imp {ifs : List Expr} {t t' : TT} (h : PTs X ifs t) (i : ∀ σ H Q, t' σ H Q → t σ H Q) : PTs X ifs t' := ⟨fun pins s σ H Q I q => h.run pins s σ H Q I (i _ _ _ q)⟩
def dYes : DT A := fun _ s Q => Q true s
theorem ts_nil : PTs X [] (liftT A X.K N dYes) := PTs.imp pts_nil fun σ H Q ⟨ρ, s, O, P, R0, q, k⟩ => k _ s H O q R0 (Hle.refl _)
theorem ts_one {c : Expr} {tc : DT A} (h : PT X c (liftT A X.K N tc)) : PTs X [c] (liftT A X.K N tc) := pts_one h
def tCompW (K : PySem.W.Frag) (wi : TI) (g : DG A) (tt : DT A) (te : DE A) (own : List (Str × Nat)) : TE := tLc wi (fun v σ H Q => ∃ N, liftG A K N (own.map (·.2)) g v σ H Q) (fun σ H Q => ∃ N, liftT A K N tt σ H Q) (fun σ H Q => ∃ N, liftE A K N te σ H Q) (own.map (·.2))
theorem lift_comp : ∀ σ H Q, liftW A X.K N (nComp it g tt te (own.map (·.2))) σ H Q → tCompW X.K (liftI A X.K N it) g tt te own σ H Q := by
  rintro σ H Q ⟨ρ, s, O, P, R, q, k⟩
  refine ⟨ρ, s, O, _, R, q, fun xs s0 J H0 O0 ⟨cl, hz, q0⟩ R0 le0 ok D hD => ?_⟩
  refine ⟨fun i m H' => m = xs.length - i ∧ i ≤ xs.length ∧ ∃ s' O' acc vacc, Rel A X.K N s' σ (hide H' D) ρ O' ∧ Hle (fzP H0 (Px N σ ρ O0)) (fzP (hide H' D) (Px N σ ρ O')) ∧ ¬ Px N σ ρ O' D ∧ H' D = some (.lst vacc) ∧ RpL X.K (fzP (hide H' D) (Px N σ ρ O')) vacc acc ∧ acc.length ≤ i ∧
    compW (fun x s k => g x (wipeR ρ (own.map (·.2))) s fun ρ1 s1 => tt ρ1 s1 fun b s2 => match b with
      | true => te ρ1 s2 fun d s3 => k (some d) s3
      | false => k none s2) (xs.drop i) s' fun out s'' => P (.ol (acc ++ out)) s'', ⟨xs.length, rfl, Nat.zero_le _, s0, O0, [], [], ?_⟩, ?_⟩
  · have e : hide (upd H0 D (.lst [])) D = H0 := by rw [hide_upd, hide_of hD]
    rw [e]
    exact ⟨R0, Hle.refl _, R0.fresh hD, upd_same, .nil, Nat.le_refl _, q0⟩
  · rintro i m H1 ⟨rfl, hi, s1, O1, acc, vacc, R1, le1, nD, eD, ra, hl, q1⟩
    have hP : fzP H1 (fun b => Px N σ ρ O1 b ∨ b = D) = fzP (hide H1 D) (Px N σ ρ O1) := fz_hide (fun b nb => by simp [nb]) (.inr rfl)
    have ok1 := ok i H1 (fun b => Px N σ ρ O1 b ∨ b = D) (fun b z => by
      rcases z with z | rfl
      · obtain ⟨x, e⟩ := R1.dom z
        have nb : b ≠ D := fun w => nD (w ▸ z)
        rw [hide_ne nb] at e
        exact ⟨x, e⟩
      · exact ⟨_, eD⟩) (by rw [hP]; exact le1)
    by_cases hlt : i < xs.length
    · refine .inr ⟨(ok1.1 hlt).1, fun H' => i + 1 ≤ xs.length ∧ ∃ s' O' acc vacc, Rel A X.K N s' σ (hide H' D) ρ O' ∧ Hle (fzP H0 (Px N σ ρ O0)) (fzP (hide H' D) (Px N σ ρ O')) ∧ ¬ Px N σ ρ O' D ∧ H' D = some (.lst vacc) ∧ RpL X.K (fzP (hide H' D) (Px N σ ρ O')) vacc acc ∧ acc.length ≤ i + 1 ∧
        compW (fun x s k => g x (wipeR ρ (own.map (·.2))) s fun ρ1 s1 => tt ρ1 s1 fun b s2 => match b with
          | true => te ρ1 s2 fun d s3 => k (some d) s3
          | false => k none s2) (xs.drop (i + 1)) s' fun out s'' => P (.ol (acc ++ out)) s'', fun H' z => ⟨xs.length - (i + 1), by omega, rfl, z.1, z.2⟩, fun x H2 y => ?_⟩
      obtain ⟨sm, d, hd, rx⟩ := (ok1.1 hlt).2 x H2 y
      have eD2 : H2 D = some (.lst vacc) := sm _ _ eD
      have sm' : Same (hide H1 D) (hide H2 D) := fun b o e => by
        by_cases nb : b = D
        · subst nb; rw [hide_self] at e; cases e
        · rw [hide_ne nb] at e ⊢
          exact sm b o e
      have R2 := R1.alloc sm'
      have le2 := R1.fzle sm'
      have hP2 : fzP H2 (fun b => Px N σ ρ O1 b ∨ b = D) = fzP (hide H2 D) (Px N σ ρ O1) := fz_hide (fun b nb => by simp [nb]) (.inr rfl)
      rw [hP2] at rx
      have hx : xs.drop i = d :: xs.drop (i + 1) := by
        rw [List.drop_eq_getElem_cons hlt]
        rw [List.getElem?_eq_getElem hlt] at hd
        cases hd
        rfl
      rw [hx] at q1
      unfold compW at q1
      obtain ⟨B, hF⟩ := R2.block (vs := own.map (·.2)) eD2 cl
      refine ⟨N.put D (.lst vacc), wipeR ρ (own.map (·.2)), s1, O1, d, _, B, by rw [hF]; exact rx, q1, fun ρ3 s3 σ3 H3 O3 q3 R3 le3 T3 => ⟨T3.st.wipe.trans ?_, N.put D (.lst vacc), ρ3, s3, O3, _, R3, q3, fun b s4 H4 O4 q4 R4 le4 => ?_⟩⟩
      · apply List.ext_getElem?
        intro j
        by_cases hj : j < σ.length
        · rw [wipe_at (by rw [wipe_length]; exact hj), wipe_at hj]
          by_cases mj : j ∈ own.map (·.2)
          · simp [mj]
          · simp [mj]
        · rw [List.getElem?_eq_none (by rw [wipe_length, wipe_length]; omega), List.getElem?_eq_none (by rw [wipe_length]; omega)]
      · have leB := le3.trans le4
        rw [hF] at leB
        cases b with
        | false =>
          refine iteF ?_
          obtain ⟨U, hU, eU, nU⟩ := R2.unblock cl R4 T3 leB
          have leU := leB
          rw [hU] at leU
          exact ⟨hlt, s4, O4, acc, vacc, U, le1.trans (le2.trans leU), nU, eU, ra.mono (le2.trans leU), by omega, q4⟩
        | true =>
          refine iteT ⟨N.put D (.lst vacc), ρ3, s4, O4, _, R4, q4, fun d5 s5 v5 H5 O5 q5 R5 le5 r5 => ?_⟩
          have leC := leB.trans le5
          obtain ⟨U, hU, eU, nU⟩ := R2.unblock cl R5 T3 leC
          have leU := leC
          rw [hU] at leU r5
          refine ⟨vacc, eU, by rw [ra.length]; omega, hlt, s5, O5, acc ++ [d5], vacc ++ [v5], ?_⟩
          rw [hide_upd]
          refine ⟨U, le1.trans (le2.trans leU), nU, upd_same, (ra.mono (le2.trans leU)).append (.one r5), by rw [List.length_append, List.length_singleton]; omega, ?_⟩
          have e : (fun out s'' => P (.ol (acc ++ (d5 :: out))) s'') = fun out s'' => P (.ol (acc ++ [d5] ++ out)) s'' := by
            funext out s''
            rw [List.append_assoc]
            rfl
          rw [← e]
          exact q5
    · have e : i = xs.length := by omega
      subst e
      rw [List.drop_length] at q1
      refine .inl ⟨ok1.2 (Nat.le_refl _), ?_⟩
      have q2 : P (.ol (acc ++ [])) s1 := q1
      rw [List.append_nil] at q2
      have fin := k (.ol acc) s1 D (.lst vacc) (hide H1 D) O1 q2 R1 (le0.trans le1) hide_self (.ol ra)
      rw [upd_hide eD] at fin
      exact fin
theorem n_comp (hN : X.N.Nodup) (ok : blkC X.N X.env.scope scope own = true) (hi : PI X tg iter (liftI A X.K N it))
    (hg : ∀ (N : Ent) (s : Shared) (H : Hp) (C : Addr) (cl : List (Str × Addr)) (fp : List Addr), PG (X.blk s H scope (compEnvC scope cl C X.env) fp) tg (liftG A X.K N (own.map (·.2)) g))
    (ht : ∀ (N : Ent) (s : Shared) (H : Hp) (C : Addr) (cl : List (Str × Addr)) (fp : List Addr), PTs (X.blk s H scope (compEnvC scope cl C X.env) fp) ifs (liftT A X.K N tt))
    (he : ∀ (N : Ent) (s : Shared) (H : Hp) (C : Addr) (cl : List (Str × Addr)) (fp : List Addr), PE (X.blk s H scope (compEnvC scope cl C X.env) fp) elt (liftE A X.K N te)) (hc : X.calm = true) (hs : ∀ x, foldedSetIterable iter X.env x = pure x := by intro _; rfl) :
    PE X (.ListComp elt [⟨tg, iter, ifs, 0⟩] scope pos) (liftW A X.K N (nComp it g tt te (own.map (·.2)))) :=
  PE.imp (pe_lc hc hN hi (blkOk_by ok) (fun s H C cl fp => PG.ex fun N => hg N s H C cl fp) (fun s H C cl fp => PTs.ex fun N => ht N s H C cl fp) (fun s H C cl fp => PE.ex fun N => he N s H C cl fp) hs) lift_comp
theorem PS.impE {st : Stmt} {t t' : TE} {g : TG} (h : PS X st (tAsg t g)) (i : ∀ σ H Q, t' σ H Q → t σ H Q) : PS X st (tAsg t' g) := PS.imp h fun D σ H q => i σ H _ q
end
end Dl
namespace Dl
open PySem L2
abbrev FS (A : Amb) := List D → A.S → (D → A.S → Prop) → Prop
theorem fzP_congr {H : Hp} {P P' : Addr → Prop} (h : ∀ b, P b ↔ P' b) : fzP H P = fzP H P' := by
  have e : P = P' := funext fun b => propext (h b)
  rw [e]
def liftF (A : Amb) (K : PySem.W.Frag) (n : Nat) (S : FS A) : Sp := fun vs H Q _ => vs.length = n ∧ ∃ (ds : List D) (s : A.S) (O Y : Addr → Prop) (P : D → A.S → Prop), A.at_ s O (fzP H fun b => O b ∨ Y b) H ∧ (∀ b, Y b → (∃ o, H b = some o) ∧ ¬ O b) ∧
  RpL K (fzP H fun b => O b ∨ Y b) vs ds ∧ S ds s P ∧
  ∀ (d : D) (s' : A.S) (v : V) (H' : Hp) (O' : Addr → Prop), P d s' → A.at_ s' O' (fzP H' fun b => O' b ∨ Y b) H' → (∀ b o, H b = some o → ¬ O b → H' b = some o ∧ ¬ O' b) → Rp K (fzP H' fun b => O' b ∨ Y b) v d → Q v H'
structure DFn (P : Program) (w : World) (K : PySem.W.Frag) (mg : Str → Option Value) (base : Heap) (A : Amb) (k : Nat) (x : Str) (ps : List Str) (S : FS A) : Prop where
  len : ∀ xs s P, S xs s P → xs.length = ps.length
  fn : ∃ f fd, mg x = some (.ref f) ∧ PySem.W.keepIn K (.ref f) = true ∧ Binds K fd ps [] ∧ FnOk P w K mg base CX0 k f fd ps (liftF A K ps.length S)
def dCall {A : Amb} (S : FS A) (a : DA A) : DE A := fun ρ s Q => a ρ s fun xs s1 => S xs s1 Q
section
variable {A : Amb} {K : PySem.W.Frag} {N : Ent} {s s' : A.S} {σ : St} {H H' : Hp} {ρ : Rho} {O O' : Addr → Prop}
theorem Rel.call (R : Rel A K N s σ H ρ O) (h : A.at_ s' O' (fzP H' (Px N σ ρ O')) H') (kp : ∀ b o, H b = some o → ¬ O b → H' b = some o ∧ ¬ O' b) : Rel A K N s' σ H' ρ O' ∧ Hle (fzP H (Px N σ ρ O)) (fzP H' (Px N σ ρ O')) := by
  have le : Hle (fzP H (Px N σ ρ O)) (fzP H' (Px N σ ρ O')) := fun b o e => by
    obtain ⟨n, e⟩ := fzP_some.mp e
    obtain ⟨e', n'⟩ := kp b o e fun z => n (.inl z)
    refine fzP_of (fun z => ?_) e'
    rcases z with z | z | z
    · exact n' z
    · exact n (.inr (.inl z))
    · exact n (.inr (.inr z))
  have ownK : ∀ b, OwnS σ ρ b → H' b = H b ∧ ¬ O' b := fun b z => by
    obtain ⟨o, e⟩ := R.ownD z
    obtain ⟨e', n'⟩ := kp b o e (R.new b z).2
    exact ⟨e'.trans e.symm, n'⟩
  refine ⟨⟨h, fun b o e n => ?_, R.xd, R.len, fun i v c e1 e2 => ?_, fun b z => ⟨(R.new b z).1, (ownK b z).2⟩, R.inj⟩, le⟩
  · obtain ⟨e1, n1⟩ := R.keep b o e n
    exact kp b o e1 n1
  · refine (R.cell i v c e1 e2).mono le fun p oc z => ?_
    subst z
    exact (ownK p ⟨i, c, e2, oc, e1⟩).1
end
section
variable {A : Amb} {X : Cx} {N : Ent} {e : Expr} {es : List Expr} {pos : Pos} {tL : DA A}
theorem e_call {k j : Nat} {x : Str} {p : Pos} {ps : List Str} {S : FS A} (G : DFn X.prog X.w X.K X.mg X.base A k x ps S) (hr : Room j X.A) (hj : k ≤ j) (ha : PA X (e :: es) (liftA A X.K N tL))
    (hg : Gl X x := by rfl) (hdb : (x == ("__debug__" : Str)) = false := by decide) (h1 : starEach (e :: es) X.env = (false, eval e X.env) :: starEach es X.env := by rfl) (h2 : (backTo pos (starEach es X.env)).any (·.1) = false := by rfl) :
    PE X (.Call (.Name x p) (e :: es) [] pos) (liftE A X.K N (dCall S tL)) := by
  obtain ⟨f, fd, hm, hk, hb, F⟩ := G.fn
  refine PE.imp (pe_call F (hr.mono hj) hg hm hk hb .nil pass0 ha hdb h1 h2) fun σ H Q ⟨ρ, s, O, P, R0, q, kk⟩ => ⟨ρ, s, O, _, R0, q, fun xs s1 vs H1 O1 q1 R1 le1 r => ?_⟩
  refine ⟨by rw [List.append_nil, r.length]; exact G.len _ _ _ q1, xs, s1, O1, fun b => OwnS σ ρ b ∨ N.X0 b, P, R1.amb, fun b z => ?_, by rw [List.append_nil]; exact r, q1, fun d s2 v H2 O2 p at2 kp rd => ?_⟩
  · refine ⟨R1.dom (.inr z), ?_⟩
    rcases z with z | z
    · exact (R1.new b z).2
    · obtain ⟨⟨o, e⟩, n⟩ := R1.xd b z
      exact (R1.keep b o e n).2
  · have C := R1.call at2 kp
    exact kk d s2 v H2 O2 p C.1 (le1.trans C.2) rd
end
def startR (n : Nat) (ds : List D) : Rho := ds.map Cell.fz ++ List.replicate (n - ds.length) .un
theorem startR_get {n : Nat} {ds : List D} {i : Nat} {c : Cell} (h : (startR n ds)[i]? = some c) : ¬ c.own ∧ ∀ {vs : List V} {K : PySem.W.Frag} {F H : Hp} {N : List Str} {v : Option V}, RpL K F vs ds → (L2.start N vs)[i]? = some v → CellOk K F H v c := by
  unfold startR at h
  by_cases hi : i < ds.length
  · rw [List.getElem?_append_left (by rw [List.length_map]; exact hi), List.getElem?_map, List.getElem?_eq_getElem hi] at h
    cases h
    refine ⟨fun z => z, fun {vs K F H N v} r e => ?_⟩
    unfold L2.start at e
    have hv : i < vs.length := by rw [r.length]; exact hi
    rw [List.getElem?_append_left (by rw [List.length_map]; exact hv), List.getElem?_map, List.getElem?_eq_getElem hv] at e
    cases e
    obtain ⟨d, e1, e2⟩ := r.get (List.getElem?_eq_getElem hv)
    rw [List.getElem?_eq_getElem hi] at e1
    cases e1
    exact ⟨_, rfl, e2⟩
  · rw [List.getElem?_append_right (by rw [List.length_map]; omega), List.getElem?_replicate] at h
    split at h
    · cases h
      exact ⟨fun z => z, fun _ _ => trivial⟩
    · cases h
section
variable {P : Program} {w : World} {K : PySem.W.Frag} {mg : Str → Option Value} {base : Heap} {A : Amb}
theorem Rel.start {N ps : List Str} {vs : List V} {ds : List D} {H : Hp} {s : A.S} {O Y : Addr → Prop} (hn : vs.length ≤ N.length) (a : A.at_ s O (fzP H fun b => O b ∨ Y b) H) (y : ∀ b, Y b → (∃ o, H b = some o) ∧ ¬ O b) (r : RpL K (fzP H fun b => O b ∨ Y b) vs ds) :
    Rel A K ⟨H, O, Y⟩ s (L2.start N vs) H (startR N.length ds) O ∧ fzP H (Px ⟨H, O, Y⟩ (L2.start N vs) (startR N.length ds) O) = fzP H fun b => O b ∨ Y b := by
  have no : ∀ b, ¬ OwnS (L2.start N vs) (startR N.length ds) b := fun b ⟨i, c, e1, o, _⟩ => (startR_get e1).1 o
  have hF : fzP H (Px ⟨H, O, Y⟩ (L2.start N vs) (startR N.length ds) O) = fzP H fun b => O b ∨ Y b := fzP_congr fun b => by
    unfold Px
    constructor
    · rintro (z | z | z)
      · exact .inl z
      · exact (no b z).elim
      · exact .inr z
    · rintro (z | z)
      · exact .inl z
      · exact .inr (.inr z)
  refine ⟨⟨by rw [hF]; exact a, fun b o e n => ⟨e, n⟩, y, ?_, fun i v c e1 e2 => ?_, fun b z => (no b z).elim, fun i j c c' b e1 o1 _ _ _ _ => ((startR_get e1).1 o1).elim⟩, hF⟩
  · have := r.length
    unfold L2.start startR
    rw [List.length_append, List.length_append, List.length_map, List.length_map, List.length_replicate, List.length_replicate]
    omega
  · rw [hF]
    exact (startR_get e2).2 r e1
theorem DFn.mk' {x qual : Str} {st : Stmt} {f : Addr} {fd : FuncData} {N ps : List Str} {k : Nat} {S : FS A} {tb : DS A} (F : Fun K x qual st f fd) (hm : mg x = some (.ref f)) (b : Binds K fd ps []) (sc : FnScope N ps (defScope st)) (len : ∀ xs s P, S xs s P → xs.length = ps.length)
    (hb : ∀ (cdv : Value) (Ar : Around) (outer : List PySem.Env) (s : Shared) (H : Hp) (E : XK), Room k (Ar.deeper (PyProof.Rows.envOfC qual (defScope st) s.heap.objs.size f cdv)) → ∀ (Nt : Ent), PSs (cxOf CX0 P w K mg base N qual (defScope st) f cdv Ar outer s H E).nox (defBody st) (liftS A K Nt tb))
    (ht : ∀ ds s Q, S ds s Q → tb ⟨fun _ s' => Q .none s', Q, fun _ _ => False, fun _ _ => False⟩ (startR N.length ds) s) : DFn P w K mg base A (k + 1) x ps S := by
  refine ⟨len, f, fd, hm, F.kp, b, F.ok sc (fun vs H Q E h => h.1) fun cdv Ar outer s H vs Q E hr h => ?_⟩
  obtain ⟨hl, ds, s0, O, Y, Pk, a, y, r, q, kk⟩ := h
  have hn : vs.length ≤ N.length := by
    have z := congrArg List.length sc.pre
    rw [List.length_take] at z
    omega
  obtain ⟨R, hF⟩ := Rel.start (N := N) (ps := ps) hn a y r
  refine ⟨_, hb cdv Ar outer s H E hr ⟨H, O, Y⟩, _, s0, O, ⟨fun _ s' => Pk .none s', Pk, fun _ _ => False, fun _ _ => False⟩, R, ⟨fun ρ s' σ' H' O' R' le p => ?_, fun ρ s' σ' H' O' d v R' le rd p => ?_, fun _ _ _ _ _ _ _ z => z.elim, fun _ _ _ _ _ _ _ z => z.elim⟩, ht ds s0 _ q⟩
  all_goals
    have le2 : Hle (fzP H' (Px ⟨H, O, Y⟩ σ' ρ O')) (fzP H' fun b => O' b ∨ Y b) := fzP_mono (Hle.refl _) fun b _ _ z => by
      rcases z with z | z
      · exact .inl z
      · exact .inr (.inr z)
  · exact kk _ s' .non H' O' p (A.stay R'.amb le2 fun _ _ => rfl) R'.keep .non
  · exact kk d s' v H' O' p (A.stay R'.amb le2 fun _ _ => rfl) R'.keep (rd.mono le2)
theorem DFn.mono {k j : Nat} {x : Str} {ps : List Str} {S : FS A} (G : DFn P w K mg base A k x ps S) (h : k ≤ j) : DFn P w K mg base A j x ps S := by
  obtain ⟨l, f, fd, h1, h2, h3, h4⟩ := G
  exact ⟨l, f, fd, h1, h2, h3, h4.mono h⟩
theorem DFn.imp {k : Nat} {x : Str} {ps : List Str} {S S' : FS A} (G : DFn P w K mg base A k x ps S) (h : ∀ ds s Q, S' ds s Q → ∃ P, S ds s P ∧ ∀ d s', P d s' → Q d s') : DFn P w K mg base A k x ps S' := by
  obtain ⟨l, f, fd, h1, h2, h3, h4⟩ := G
  refine ⟨fun xs s P q => ?_, f, fd, h1, h2, h3, h4.imp fun vs H Q E ⟨e, ds, s, O, Y, P, a, y, r, q, kk⟩ => ?_⟩
  · obtain ⟨P', q', _⟩ := h xs s P q
    exact l xs s P' q'
  · obtain ⟨P', q', i⟩ := h ds s P q
    exact ⟨e, ds, s, O, Y, P', a, y, r, q', fun d s' v H' O' p => kk d s' v H' O' (i d s' p)⟩
end
end Dl
namespace Dl
open PySem L2
def fAdd : F2 := fun x y k => match x, y with
  | .int i, .int j => k (.int (i + j))
  | .str a, .str b => a.length + b.length ≤ sizeLine ∧ k (.str (a ++ b))
  | .tuple xs, .tuple ys => xs.length + ys.length ≤ sizeLine ∧ k (.tuple (xs ++ ys))
  | .list xs, .list ys => xs.length + ys.length ≤ sizeLine ∧ k (.list (xs ++ ys))
  | _, _ => False
def fSub : F2 := fun x y k => match x, y with
  | .int i, .int j => k (.int (i - j))
  | _, _ => False
def fMod : F2 := fun x y k => match x, y with
  | .int i, .int j => 0 < j ∧ k (.int (i % j))
  | _, _ => False
def fDiv : F2 := fun x y k => match x, y with
  | .int i, .int j => CDiv i j ∧ k (.int (i / j))
  | _, _ => False
def fEq : F2 := fun x y k => SeqAt.shaped x = true ∧ SeqAt.shaped y = true ∧ k (.bool (PyData.eqv x y))
def fNe : F2 := fun x y k => SeqAt.shaped x = true ∧ SeqAt.shaped y = true ∧ k (.bool (!PyData.eqv x y))
def fCmpI (p : Int → Int → Bool) : F2 := fun x y k => match x, y with
  | .int i, .int j => k (.bool (p i j))
  | _, _ => False
def fLt : F2 := fun x y k => match x, y with
  | .int i, .int j => k (.bool (decide (i < j)))
  | .str a, .str b => k (.bool (decide (a.cps.toList < b.cps.toList)))
  | .tuple xs, .tuple ys => ∃ ns ms : List Int, xs = ns.map .int ∧ ys = ms.map .int ∧ k (.bool (HT.lexLt ns ms))
  | _, _ => False
abbrev fLe := fCmpI fun i j => decide (i ≤ j)
abbrev fGt := fCmpI fun i j => decide (j < i)
def notDict : D → Prop
  | .dict _ => False
  | _ => True
def isN : D → Bool
  | .none => true
  | _ => false
def fIs : F2 := fun x y k => match y with
  | .none => notDict x ∧ k (.bool (isN x))
  | _ => False
def fNeg : F1 := fun x k => match x with
  | .int i => k (.int (-i))
  | _ => False
def atS (z : Str) (i : Int) : Option Str := (atI z.cps.toList i).map fun c => ⟨#[c]⟩
def fIx : F2 := fun x y k => match x, y with
  | .list ds, .int i => (match atI ds i with | some d => k d | none => False)
  | .tuple ds, .int i => (match atI ds i with | some d => k d | none => False)
  | .str z, .int i => z.length ≤ sizeLine ∧ (match atS z i with | some d => k (.str d) | none => False)
  | _, _ => False
section
variable {X : Cx}
theorem Same.up {H : Hp} (p : Addr) (o : HO) (h : H p = none) : Same H (upd H p o) := same_upd h
theorem dom_not {H : Hp} {P : Addr → Prop} (dm : ∀ b, P b → ∃ o, H b = some o) {p : Addr} (h : H p = none) : ¬ P p := fun z => by
  obtain ⟨o, e⟩ := dm p z
  rw [h] at e
  cases e
theorem new_fz {H : Hp} {P : Addr → Prop} (dm : ∀ b, P b → ∃ o, H b = some o) {p : Addr} {o : HO} (h : H p = none) : fzP (upd H p o) P p = some o ∧ Hle (fzP H P) (fzP (upd H p o) P) :=
  ⟨fzP_of (dom_not dm h) upd_same, fzP_mono (same_upd h) fun _ _ _ z => z⟩
theorem dr_sub : DR2 X.K (rI0 fun i j => .int (i - j)) fSub := fun H P x y dx dy k Q dm bx by_ f kk => by
  unfold fSub at f
  split at f
  · exact ⟨_, _, bx.int, by_.int, kk _ H _ (Same.refl _) (.int _) f⟩
  · exact f.elim
theorem dr_mod : DR2 X.K (rI (fun _ j => 0 < j) fun i j => .int (i % j)) fMod := fun H P x y dx dy k Q dm bx by_ f kk => by
  unfold fMod at f
  split at f
  · exact ⟨_, _, bx.int, by_.int, f.1, kk _ H _ (Same.refl _) (.int _) f.2⟩
  · exact f.elim
theorem dr_div : DR2 X.K (rI CDiv fun i j => .int (i / j)) fDiv := fun H P x y dx dy k Q dm bx by_ f kk => by
  unfold fDiv at f
  split at f
  · exact ⟨_, _, bx.int, by_.int, f.1, kk _ H _ (Same.refl _) (.int _) f.2⟩
  · exact f.elim
theorem dr_cmpI {p : Int → Int → Bool} : DR2 X.K (rI0 fun i j => .bl (p i j)) (fCmpI p) := fun H P x y dx dy k Q dm bx by_ f kk => by
  unfold fCmpI at f
  split at f
  · exact ⟨_, _, bx.int, by_.int, kk _ H _ (Same.refl _) (.bl _) f⟩
  · exact f.elim
def rLtA (K : PySem.W.Frag) : R2 := fun x y H Q => rI0 (fun i j => .bl (decide (i < j))) x y H Q ∨ ((∃ i j, x = .str i ∧ y = .str j ∧ Q (.bl (decide (i.cps.toList < j.cps.toList))) H) ∨ rLtT K x y H Q)
theorem op_ltA (hu : X.A.units + 65 < cLine) : OpR X (compareOp .Lt) (rLtA X.K) := op_lt.or (op_lt_str.or (op_ltT (by omega)))
theorem RpL.ints_is {K : PySem.W.Frag} {F : Hp} : ∀ {vs : List V} {ns : List Int}, RpL K F vs (ns.map .int) → vs = ns.map V.int
  | _, [], r => by cases r; rfl
  | _, n :: ns, r => by
    cases r with
    | cons r t =>
      cases r
      rw [RpL.ints_is t]
      rfl
theorem dr_ltA : DR2 X.K (rLtA X.K) fLt := fun H P x y dx dy k Q dm bx by_ f kk => by
  unfold fLt at f
  split at f
  · exact .inl ⟨_, _, bx.int, by_.int, kk _ H _ (Same.refl _) (.bl _) f⟩
  · exact .inr (.inl ⟨_, _, bx.str, by_.str, kk _ H _ (Same.refl _) (.bl _) f⟩)
  · obtain ⟨ns, ms, rfl, rfl, f⟩ := f
    obtain ⟨a, vs, rfl, _, s1, r1⟩ := bx.tup fzP_le
    obtain ⟨b, ws, rfl, _, s2, r2⟩ := by_.tup fzP_le
    rw [r1.ints_is] at s1
    rw [r2.ints_is] at s2
    exact .inr (.inr ⟨a, b, ns, ms, rfl, rfl, s1, s2, kk _ H _ (Same.refl _) (.bl _) f⟩)
  · exact f.elim
theorem dr_neg : DR1 X.K (rU fun i => .int (-i)) fNeg := fun H P x dx k Q dm bx f kk => by
  unfold fNeg at f
  split at f
  · exact ⟨_, bx.int, kk _ H _ (Same.refl _) (.int _) f⟩
  · exact f.elim
theorem dr_eq : DR2 X.K (rEqD X.K) fEq := fun H P x y dx dy k Q dm bx by_ f kk =>
  ⟨dx, dy, bx.dp fzP_le (SeqAt.canLay_of_shaped f.1), by_.dp fzP_le (SeqAt.canLay_of_shaped f.2.1), f.1, f.2.1, kk _ H _ (Same.refl _) (.bl _) f.2.2⟩
theorem dr_ne : DR2 X.K (rNeD X.K) fNe := fun H P x y dx dy k Q dm bx by_ f kk =>
  ⟨dx, dy, bx.dp fzP_le (SeqAt.canLay_of_shaped f.1), by_.dp fzP_le (SeqAt.canLay_of_shaped f.2.1), f.1, f.2.1, kk _ H _ (Same.refl _) (.bl _) f.2.2⟩
theorem bh_isN {K : PySem.W.Frag} {F H : Hp} {x : V} {d : D} (b : Bh K F H x d) (h : notDict d) : decide (x = .non) = isN d := by
  cases d with
  | none => rw [b.none]; rfl
  | bool i => rw [b.bool]; rfl
  | int i => rw [b.int]; rfl
  | str i => rw [b.str]; rfl
  | list i => cases b with
    | rp r => cases r; rfl
    | ol => rfl
  | tuple i => cases b with
    | rp r => cases r; rfl
  | dict i => exact h.elim
theorem dr_is : DR2 X.K (fun x y H Q => y = V.non ∧ Q (.bl (decide (x = .non))) H) fIs := fun H P x y dx dy k Q dm bx by_ f kk => by
  unfold fIs at f
  split at f
  · refine ⟨by_.none, kk _ H _ (Same.refl _) ?_ f.2⟩
    rw [bh_isN bx f.1]
    exact .bl _
  · exact f.elim
def rAddA (K : PySem.W.Frag) : R2 := fun x y H Q => rI0 (fun i j => V.int (i + j)) x y H Q ∨ ((∃ i j, x = V.str i ∧ y = V.str j ∧ i.length + j.length ≤ sizeLine ∧ Q (.str (i ++ j)) H) ∨ (rCatF K x y H Q ∨ rCat x y H Q))
theorem op_addA : OpR X (binaryOp .Add) (rAddA X.K) := op_add.or (op_add_str.or (op_catF.or op_cat))
theorem dr_add : DR2 X.K (rAddA X.K) fAdd := fun H P x y dx dy k Q dm bx by_ f kk => by
  unfold fAdd at f
  split at f
  · exact .inl ⟨_, _, bx.int, by_.int, kk _ H _ (Same.refl _) (.int _) f⟩
  · exact .inr (.inl ⟨_, _, bx.str, by_.str, f.1, kk _ H _ (Same.refl _) (.str _) f.2⟩)
  · next xs ys =>
    obtain ⟨a, vs, rfl, s1, s1', r1⟩ := bx.tup fzP_le
    obtain ⟨b, ws, rfl, s2, s2', r2⟩ := by_.tup fzP_le
    refine .inr (.inr (.inl ⟨a, b, vs, ws, rfl, rfl, s1', s2', by rw [r1.length, r2.length]; exact f.1, fun e => ?_, fun e e' => ?_, fun e e' => ⟨xs ++ ys, fun p o hp ho => ?_⟩⟩))
    · have e2 := r1.nil_iff.mp e
      subst e2
      exact kk _ H _ (Same.refl _) (.tup s2 r2) f.2
    · have e2 := r2.nil_iff.mp e'
      subst e2
      rw [List.append_nil] at f
      exact kk _ H _ (Same.refl _) (.tup s1 r1) f.2
    · obtain ⟨n1, n2⟩ := new_fz dm (o := o) hp
      exact kk _ _ _ (same_upd hp) (.tup ⟨o, ho, n1⟩ ((r1.append r2).mono n2)) f.2
  · next xs ys =>
    obtain ⟨a, vs, rfl, s1, r1⟩ := bx.list fzP_le
    obtain ⟨b, ws, rfl, s2, r2⟩ := by_.list fzP_le
    refine .inr (.inr (.inr ⟨a, b, vs, ws, rfl, rfl, s1, s2, by rw [r1.length, r2.length]; exact f.1, fun p hp => ?_⟩))
    obtain ⟨n1, n2⟩ := new_fz dm (o := .lst (vs ++ ws)) hp
    exact kk _ _ _ (same_upd hp) (.lst n1 ((r1.append r2).mono n2)) f.2
  · exact f.elim
def gCat : D → D → (Cell → Prop) → Prop := fun x y k => match x, y with
  | .list xs, .list ys => xs.length + ys.length ≤ sizeLine ∧ k (.ol (xs ++ ys))
  | _, _ => False
theorem dw_cat : DR2W X.K rCat gCat := fun H P x y dx dy k Q dm bx by_ f kk => by
  unfold gCat at f
  split at f
  · obtain ⟨a, vs, rfl, s1, r1⟩ := bx.list fzP_le
    obtain ⟨b, ws, rfl, s2, r2⟩ := by_.list fzP_le
    exact ⟨a, b, vs, ws, rfl, rfl, s1, s2, by rw [r1.length, r2.length]; exact f.1, fun p hp => kk p _ _ hp (.ol (r1.append r2)) f.2⟩
  · exact f.elim
theorem atI_len {α : Type} {xs : List α} {i : Int} {v : α} : atI xs i = some v → ∃ j, ixN xs.length i = some j ∧ xs[j]? = some v := by
  unfold atI
  cases ixN xs.length i with
  | none => intro h; cases h
  | some j => intro h; exact ⟨j, rfl, h⟩
theorem RpL.atI {K : PySem.W.Frag} {F : Hp} {vs : List V} {ds : List D} {i : Int} {d : D} (r : RpL K F vs ds) (h : L2.atI ds i = some d) : ∃ v, L2.atI vs i = some v ∧ Rp K F v d := by
  obtain ⟨j, e1, e2⟩ := atI_len h
  obtain ⟨v, e3, e4⟩ := r.get' e2
  refine ⟨v, ?_, e4⟩
  unfold L2.atI
  rw [r.length, e1]
  exact e3
theorem dr_ix : DR2 X.K (rIx X.K) fIx := fun H P x y dx dy k Q dm bx by_ f kk => by
  unfold fIx at f
  split at f
  · split at f
    · next d hd =>
      obtain ⟨a, vs, rfl, s1, r1⟩ := bx.list fzP_le
      obtain ⟨v, e1, e2⟩ := r1.atI hd
      exact .inl ⟨a, vs, _, v, rfl, by_.int, SqL.of s1, e1, kk _ H _ (Same.refl _) e2 f⟩
    · exact f.elim
  · split at f
    · next d hd =>
      obtain ⟨a, vs, rfl, _, s1, r1⟩ := bx.tup fzP_le
      obtain ⟨v, e1, e2⟩ := r1.atI hd
      exact .inr (.inl ⟨a, vs, _, v, rfl, by_.int, s1, e1, kk _ H _ (Same.refl _) e2 f⟩)
    · exact f.elim
  · obtain ⟨f0, f⟩ := f
    split at f
    · next d hd =>
      unfold atS at hd
      cases e : L2.atI (Str.cps _).toList _ with
      | none => rw [e] at hd; cases hd
      | some c =>
        rw [e] at hd
        cases hd
        exact .inr (.inr ⟨_, _, c, bx.str, by_.int, f0, e, kk _ H _ (Same.refl _) (.str _) f⟩)
    · exact f.elim
  · exact f.elim
end
def fLen : FN := fun xs k => match xs with
  | [.list ds] => k (.int ds.length)
  | [.tuple ds] => k (.int ds.length)
  | [.str z] => z.length ≤ sizeLine ∧ k (.int z.length)
  | _ => False
def fTuple : FN := fun xs k => match xs with
  | [.list ds] => k (.tuple ds)
  | [.tuple ds] => k (.tuple ds)
  | _ => False
def gList : List D → (Cell → Prop) → Prop := fun xs k => match xs with
  | [.list ds] => k (.ol ds)
  | [.tuple ds] => k (.ol ds)
  | _ => False
def boolsD : List D → Option (List Bool)
  | [] => some []
  | .bool b :: r => (boolsD r).map (b :: ·)
  | _ => none
def fAll : FN := fun xs k => match xs with
  | [.list ds] => (match boolsD ds with | some bs => k (.bool (bs.all id)) | none => False)
  | _ => False
def fInt : FN := fun xs k => match xs with
  | [.int i] => k (.int i)
  | [.bool b] => k (.int (if b then 1 else 0))
  | _ => False
def fStr : FN := fun xs k => match xs with
  | [.int i] => i.natAbs.log2 < 1920 ∧ k (.str (toString i))
  | _ => False
section
variable {X : Cx} {K : PySem.W.Frag} {F H : Hp}
theorem BhL.one {vs : List V} {d : D} (r : BhL K F H vs [d]) : ∃ v, vs = [v] ∧ Bh K F H v d := by
  cases r with
  | cons b t => cases t; exact ⟨_, rfl, b⟩
theorem dn_len : DRN X.K (fun xs H Q => ∃ x n, xs = [x] ∧ LenV X.K x H n ∧ Q (.int n) H) fLen := fun H P xs ds k Q dm b f kk => by
  unfold fLen at f
  split at f
  · obtain ⟨v, rfl, b1⟩ := b.one
    obtain ⟨a, vs, rfl, s1, r1⟩ := b1.list fzP_le
    exact ⟨_, _, rfl, .inl ⟨vs, SqL.of s1, rfl⟩, kk _ H _ (Same.refl _) (by rw [r1.length]; exact .int _) f⟩
  · obtain ⟨v, rfl, b1⟩ := b.one
    obtain ⟨a, vs, rfl, _, s1, r1⟩ := b1.tup fzP_le
    exact ⟨_, _, rfl, .inr ⟨vs, s1, rfl⟩, kk _ H _ (Same.refl _) (by rw [r1.length]; exact .int _) f⟩
  · obtain ⟨v, rfl, b1⟩ := b.one
    cases b1.str
    exact ⟨_, _, rfl, ⟨f.1, rfl⟩, kk _ H _ (Same.refl _) (.int _) f.2⟩
  · exact f.elim
theorem dn_tuple : DRN X.K (fun xs H Q => ∃ p ys, xs = [.ref p] ∧ ((SqL X.K H p ys ∧ NewT Q H ys) ∨ (SqT X.K H p ys ∧ Q (.ref p) H))) fTuple := fun H P xs ds k Q dm b f kk => by
  unfold fTuple at f
  split at f
  · next ds =>
    obtain ⟨v, rfl, b1⟩ := b.one
    obtain ⟨a, vs, rfl, s1, r1⟩ := b1.list fzP_le
    refine ⟨a, vs, rfl, .inl ⟨SqL.of s1, ds, fun p o hp ho => ?_⟩⟩
    obtain ⟨n1, n2⟩ := new_fz dm (o := o) hp
    exact kk _ _ _ (same_upd hp) (.tup ⟨o, ho, n1⟩ (r1.mono n2)) f
  · obtain ⟨v, rfl, b1⟩ := b.one
    obtain ⟨a, vs, rfl, s0, s1, r1⟩ := b1.tup fzP_le
    exact ⟨a, vs, rfl, .inr ⟨s1, kk _ H _ (Same.refl _) (.tup s0 r1) f⟩⟩
  · exact f.elim
theorem dw_list : DRNW X.K (fun xs H Q => ∃ p ys, xs = [.ref p] ∧ (SqL X.K H p ys ∨ SqT X.K H p ys) ∧ ∀ l, H l = none → Q (.ref l) (upd H l (.lst ys))) gList := fun H P xs ds k Q dm b f kk => by
  unfold gList at f
  split at f
  · obtain ⟨v, rfl, b1⟩ := b.one
    obtain ⟨a, vs, rfl, s1, r1⟩ := b1.list fzP_le
    exact ⟨a, vs, rfl, .inl (SqL.of s1), fun p hp => kk p _ _ hp (.ol r1) f⟩
  · obtain ⟨v, rfl, b1⟩ := b.one
    obtain ⟨a, vs, rfl, s0, s1, r1⟩ := b1.tup fzP_le
    exact ⟨a, vs, rfl, .inr s1, fun p hp => kk p _ _ hp (.ol r1) f⟩
  · exact f.elim
theorem RpL.bools : ∀ {vs : List V} {ds : List D} {bs : List Bool}, RpL K F vs ds → boolsD ds = some bs → vs = bs.map V.bl
  | _, _, _, .nil, h => by cases h; rfl
  | _, _, bs, .cons (d := d) r t, h => by
    cases d with
    | bool b =>
      unfold boolsD at h
      cases e : boolsD _ with
      | none => rw [e] at h; cases h
      | some bs' =>
        rw [e] at h
        cases h
        cases r
        rw [RpL.bools t e]
        rfl
    | _ => simp [boolsD] at h
theorem dn_all : DRN X.K (rAll X.K) fAll := fun H P xs ds k Q dm b f kk => by
  unfold fAll at f
  split at f
  · split at f
    · next bs hb =>
      obtain ⟨v, rfl, b1⟩ := b.one
      obtain ⟨a, vs, rfl, s1, r1⟩ := b1.list fzP_le
      have e := r1.bools hb
      subst e
      exact ⟨a, bs, rfl, SqL.of s1, kk _ H _ (Same.refl _) (.bl _) f⟩
    · exact f.elim
  · exact f.elim
theorem dn_int : DRN X.K (fun xs H Q => (∃ i, xs = [V.int i] ∧ Q (.int i) H) ∨ ∃ k, xs = [V.bl k] ∧ Q (.int (if k then 1 else 0)) H) fInt := fun H P xs ds k Q dm b f kk => by
  unfold fInt at f
  split at f
  · obtain ⟨v, rfl, b1⟩ := b.one
    cases b1.int
    exact .inl ⟨_, rfl, kk _ H _ (Same.refl _) (.int _) f⟩
  · obtain ⟨v, rfl, b1⟩ := b.one
    cases b1.bool
    exact .inr ⟨_, rfl, kk _ H _ (Same.refl _) (.int _) f⟩
  · exact f.elim
theorem dn_str : DRN X.K (fun xs H Q => ∃ i, xs = [V.int i] ∧ i.natAbs.log2 < 1920 ∧ Q (.str (toString i)) H) fStr := fun H P xs ds k Q dm b f kk => by
  unfold fStr at f
  split at f
  · obtain ⟨v, rfl, b1⟩ := b.one
    cases b1.int
    exact ⟨_, rfl, f.1, kk _ H _ (Same.refl _) (.str _) f.2⟩
  · exact f.elim
end
inductive Ty where
  | int | bool | tuple | list | str
def Ty.nm : Ty → String
  | .int => "int"
  | .bool => "bool"
  | .tuple => "tuple"
  | .list => "list"
  | .str => "str"
def isTy : Ty → D → Bool
  | .int, .int _ => true
  | .int, .bool _ => true
  | .bool, .bool _ => true
  | .tuple, .tuple _ => true
  | .list, .list _ => true
  | .str, .str _ => true
  | _, _ => false
def fIsi (t : Ty) : F1 := fun x k => notDict x ∧ k (.bool (isTy t x))
def tyN : D → String
  | .none => "NoneType"
  | .bool _ => "bool"
  | .int _ => "int"
  | .str _ => "str"
  | .list _ => "list"
  | .tuple _ => "tuple"
  | .dict _ => "dict"
theorem kit_isTy {K : PySem.W.Frag} (t : Ty) (d : D) (h : notDict d) : PySem.W.kitOne K (.type (tyN d)) (.type t.nm) = some (isTy t d) := by
  cases d with
  | dict _ => exact h.elim
  | none =>
    cases t with
    | int => exact kit_ty (a := "NoneType") (b := "int") (r := false) (by decide +kernel)
    | bool => exact kit_ty (a := "NoneType") (b := "bool") (r := false) (by decide +kernel)
    | tuple => exact kit_ty (a := "NoneType") (b := "tuple") (r := false) (by decide +kernel)
    | list => exact kit_ty (a := "NoneType") (b := "list") (r := false) (by decide +kernel)
    | str => exact kit_ty (a := "NoneType") (b := "str") (r := false) (by decide +kernel)
  | bool _ =>
    cases t with
    | int => exact kit_ty (a := "bool") (b := "int") (r := true) (by decide +kernel)
    | bool => exact kit_ty (a := "bool") (b := "bool") (r := true) (by decide +kernel)
    | tuple => exact kit_ty (a := "bool") (b := "tuple") (r := false) (by decide +kernel)
    | list => exact kit_ty (a := "bool") (b := "list") (r := false) (by decide +kernel)
    | str => exact kit_ty (a := "bool") (b := "str") (r := false) (by decide +kernel)
  | int _ =>
    cases t with
    | int => exact kit_ty (a := "int") (b := "int") (r := true) (by decide +kernel)
    | bool => exact kit_ty (a := "int") (b := "bool") (r := false) (by decide +kernel)
    | tuple => exact kit_ty (a := "int") (b := "tuple") (r := false) (by decide +kernel)
    | list => exact kit_ty (a := "int") (b := "list") (r := false) (by decide +kernel)
    | str => exact kit_ty (a := "int") (b := "str") (r := false) (by decide +kernel)
  | str _ =>
    cases t with
    | int => exact kit_ty (a := "str") (b := "int") (r := false) (by decide +kernel)
    | bool => exact kit_ty (a := "str") (b := "bool") (r := false) (by decide +kernel)
    | tuple => exact kit_ty (a := "str") (b := "tuple") (r := false) (by decide +kernel)
    | list => exact kit_ty (a := "str") (b := "list") (r := false) (by decide +kernel)
    | str => exact kit_ty (a := "str") (b := "str") (r := true) (by decide +kernel)
  | list _ =>
    cases t with
    | int => exact kit_ty (a := "list") (b := "int") (r := false) (by decide +kernel)
    | bool => exact kit_ty (a := "list") (b := "bool") (r := false) (by decide +kernel)
    | tuple => exact kit_ty (a := "list") (b := "tuple") (r := false) (by decide +kernel)
    | list => exact kit_ty (a := "list") (b := "list") (r := true) (by decide +kernel)
    | str => exact kit_ty (a := "list") (b := "str") (r := false) (by decide +kernel)
  | tuple _ =>
    cases t with
    | int => exact kit_ty (a := "tuple") (b := "int") (r := false) (by decide +kernel)
    | bool => exact kit_ty (a := "tuple") (b := "bool") (r := false) (by decide +kernel)
    | tuple => exact kit_ty (a := "tuple") (b := "tuple") (r := true) (by decide +kernel)
    | list => exact kit_ty (a := "tuple") (b := "list") (r := false) (by decide +kernel)
    | str => exact kit_ty (a := "tuple") (b := "str") (r := false) (by decide +kernel)
theorem bh_ty {K : PySem.W.Frag} {F H : Hp} {x : V} {d : D} (b : Bh K F H x d) (le : Hle F H) (h : notDict d) : TyX K H x (.type (tyN d)) := by
  cases d with
  | none => rw [b.none]; exact .base .non
  | bool i => rw [b.bool]; exact .base (.bl _)
  | int i => rw [b.int]; exact .base (.int _)
  | str i => rw [b.str]; exact .base (.str _)
  | list i =>
    obtain ⟨a, xs, rfl, s, _⟩ := b.list le
    exact .base (.lst s)
  | tuple i =>
    obtain ⟨a, xs, rfl, _, s, _⟩ := b.tup le
    rcases s with (s | ⟨o, s⟩) | ⟨o, its, n, e, c, _⟩
    · exact .base (.tup s)
    · exact .fTuple s
    · exact .kTuple e c
  | dict i => exact h.elim
section
variable {A : Amb} {X : Cx} {N : Ent} {a : Expr} {ta : DE A} {pos p p2 : Pos}
theorem e_isi (t : Ty) {T : Str} (ha : PE X a (liftB A X.K N ta)) (hm : X.mg "isinstance" = none) (hm2 : X.mg T = none) (hv : bootBuiltins T = some (.type t.nm)) (hg : Gl X "isinstance" := by rfl) (hg2 : Gl X T := by rfl) (hn : T ≠ "__name__" := by decide) (hd : (T == ("__debug__" : Str)) = false := by decide)
    (h1 : starEach [a, .Name T p2] X.env = (false, eval a X.env) :: starEach [.Name T p2] X.env := by rfl) (h2 : (backTo pos (starEach [.Name T p2] X.env)).any (·.1) = false := by rfl) (h3 : starEach [.Name T p2] X.env = (false, eval (.Name T p2) X.env) :: starEach [] X.env := by rfl) :
    PE X (.Call (.Name "isinstance" p) [a, .Name T p2] [] pos) (liftE A X.K N (dUn (fIsi t) ta)) :=
  PE.imp (pe_callB call_isi hg hm (by decide +kernel) (pa_cons ha (pa_cons (pe_bltn (v := .ty t.nm) hg2 hm2 hv rfl hn hd) pa_nil h3) h1) (by decide) (by decide) h1 h2) fun σ H Q ⟨ρ, s, O, P, R0, q, k⟩ =>
    ⟨ρ, s, O, _, R0, q, fun x s1 vx H1 O1 q1 R1 le1 rx => ⟨vx, .ty t.nm, .type (tyN x), .type t.nm, isTy t x, rfl, .ty _, bh_ty (R1.bh rx) fzP_le q1.1, kit_isTy t x q1.1, k _ s1 _ H1 O1 q1.2 R1 le1 (.bl _)⟩⟩
end
abbrev DO (A : Amb) := Rho → A.S → (Option Int → A.S → Prop) → Prop
section
variable (A : Amb) (K : PySem.W.Frag) (N : Ent)
def liftO (t : DO A) : TO := fun σ H Q => ∃ ρ s O P, Rel A K N s σ H ρ O ∧ t ρ s P ∧ ∀ i s' H' O', P i s' → Rel A K N s' σ H' ρ O' → Hle (fzP H (Px N σ ρ O)) (fzP H' (Px N σ ρ O')) → Q i H'
end
def cutD (xs : List D) (lo hi : Option Int) : List D := (xs.drop (HT.sIx xs.length 0 lo)).take (HT.sIx xs.length xs.length hi - HT.sIx xs.length 0 lo)
theorem RpL.cut {K : PySem.W.Frag} {F : Hp} {vs : List V} {ds : List D} (r : RpL K F vs ds) (lo hi : Option Int) : RpL K F (cutV vs lo hi) (cutD ds lo hi) := by
  unfold cutV cutD
  rw [r.length]
  exact (r.drop _).take _
section
variable {A : Amb} {X : Cx} {N : Ent} {e : Expr} {lo hi : Option Expr} {te : DE A} {tl th : DO A} {pos p2 : Pos}
def oNone : DO A := fun _ s Q => Q none s
def oSome (t : DE A) : DO A := fun ρ s Q => t ρ s fun x s' => match x with
  | .int i => Q (some i) s'
  | _ => False
theorem o_none : PO X none (liftO A X.K N oNone) := ⟨fun pins s σ H Q I ⟨ρ, s', O, P, R0, q, k⟩ => po_none.run pins s σ H Q I (k _ s' H O q R0 (Hle.refl _))⟩
theorem o_some (h : PE X e (liftB A X.K N te)) : PO X (some e) (liftO A X.K N (oSome te)) := ⟨fun pins s σ H Q I ⟨ρ, s', O, P, R0, q, k⟩ => (po_some h).run pins s σ H Q I ⟨ρ, s', O, _, R0, q, fun x s1 vx H1 O1 q1 R1 le1 rx => by
  split at q1
  · exact ⟨_, (R1.bh rx).int, k _ s1 H1 O1 q1 R1 le1⟩
  · exact q1.elim⟩⟩
def dSl (te : DE A) (tl th : DO A) : DE A := fun ρ s Q => te ρ s fun x s1 => tl ρ s1 fun l s2 => th ρ s2 fun u s3 => match x with
  | .list ds => Q (.list (cutD ds l u)) s3
  | .tuple ds => Q (.tuple (cutD ds l u)) s3
  | .str z => z.length ≤ sizeLine ∧ Q (.str (cutS z l u)) s3
  | _ => False
theorem whole_cut {xs : List D} {lo hi : Option Int} (h : HT.sIx xs.length 0 lo = 0 ∧ HT.sIx xs.length xs.length hi = xs.length) : cutD xs lo hi = xs := by
  unfold cutD
  rw [h.1, h.2]
  simp
theorem e_sl (he : PE X e (liftB A X.K N te)) (hl : PO X lo (liftO A X.K N tl)) (hu : PO X hi (liftO A X.K N th)) : PE X (.Subscript e (.Slice lo hi none p2) pos) (liftE A X.K N (dSl te tl th)) :=
  PE.imp (pe_slice (sl_list.or (sl_tupF.or sl_str)) he hl hu) fun σ H Q ⟨ρ, s, O, P, R0, q, k⟩ => ⟨ρ, s, O, _, R0, q, fun x s1 vx H1 O1 q1 R1 le1 rx => ⟨ρ, s1, O1, _, R1, q1, fun l s2 H2 O2 q2 R2 le2 => ⟨ρ, s2, O2, _, R2, q2, fun u s3 H3 O3 q3 R3 le3 => by
    have b := R3.bh (rx.mono (le2.trans le3))
    have le := le1.trans (le2.trans le3)
    split at q3
    · obtain ⟨a, vs, rfl, s1', r1⟩ := b.list fzP_le
      exact .inl ⟨a, vs, rfl, SqL.of s1', fun p hp => k _ s3 _ _ O3 q3 (R3.alloc (same_upd hp)) (le.trans (R3.fzle (same_upd hp))) (.lst (fzP_of (R3.fresh hp) upd_same) ((r1.cut l u).mono (R3.fzle (same_upd hp))))⟩
    · obtain ⟨a, vs, rfl, s0, s1', r1⟩ := b.tup fzP_le
      refine .inr (.inl ⟨a, vs, rfl, s1', fun w => ?_, fun _ => ⟨_, fun p o hp ho => k _ s3 _ _ O3 q3 (R3.alloc (same_upd hp)) (le.trans (R3.fzle (same_upd hp))) (.tup ⟨o, ho, fzP_of (R3.fresh hp) upd_same⟩ ((r1.cut l u).mono (R3.fzle (same_upd hp))))⟩⟩)
      rw [r1.length] at w
      rw [whole_cut w] at q3
      exact k _ s3 _ _ O3 q3 R3 le (.tup s0 r1)
    · exact .inr (.inr ⟨_, b.str, q3.1, k _ s3 _ H3 O3 q3.2 R3 le (.str _)⟩)
    · exact q3.elim⟩⟩⟩
end
end Dl
namespace Dl
open PySem L2
structure Bt (mg : Str → Option Value) : Prop where
  len : mg "len" = none
  range : mg "range" = none
  tuple : mg "tuple" = none
  list : mg "list" = none
  int : mg "int" = none
  bool : mg "bool" = none
  str : mg "str" = none
  dict : mg "dict" = none
  set : mg "set" = none
  sorted : mg "sorted" = none
  isinstance : mg "isinstance" = none
  all : mg "all" = none
  any : mg "any" = none
  abs : mg "abs" = none
  max : mg "max" = none
  min : mg "min" = none
  sum : mg "sum" = none
  repr : mg "repr" = none
  zip : mg "zip" = none
  type : mg "type" = none
theorem bt_len : bootBuiltins "len" = some (.builtin "len") := by decide +kernel
theorem bt_sorted : bootBuiltins "sorted" = some (.builtin "sorted") := by decide +kernel
theorem bt_all : bootBuiltins "all" = some (.builtin "all") := by decide +kernel
theorem bt_tuple : bootBuiltins "tuple" = some (.type "tuple") := by decide +kernel
theorem bt_list : bootBuiltins "list" = some (.type "list") := by decide +kernel
theorem bt_int : bootBuiltins "int" = some (.type "int") := by decide +kernel
theorem bt_bool : bootBuiltins "bool" = some (.type "bool") := by decide +kernel
theorem bt_str : bootBuiltins "str" = some (.type "str") := by decide +kernel
theorem bt_set : bootBuiltins "set" = some (.type "set") := by decide +kernel
section
variable {A : Amb} {X : Cx} {N : Ent} {st : Stmt} {e c tg iter elt : Expr} {te : DE A} {t : DS A} {tn : DC A} {pos : Pos} {it : DI A} {g : DG A} {tt : DT A}
theorem it_str {pins : List (Addr × Obj)} {σ : St} {H : Hp} {s : Shared} {R : It → Hp → Prop} {E : Value → Shared → Prop} {z : Str} {u : Value} (I : Inv X pins σ H s) (r : RelV (.str z) u) (q : R (Its z) H) : wpAny (model X.prog X.w) X.A (pyIter u) (PIE X pins σ tg R) E s := by
  obtain ⟨t, rfl⟩ := r
  cases ha : z.cps.all (· < 128) with
  | false => exact wpAny_pyIter_wide ha (newIt (tk := s.toks) I (turn_str _ z t "str_iterator" (.inr rfl)) ⟨_, Heap.get?_push_size _ rfl, rfl, rfl⟩ q)
  | true => exact wpAny_pyIter_ascii ha (newIt (tk := s.toks) I (turn_str _ z t "str_ascii_iterator" (.inl rfl)) ⟨_, Heap.get?_push_size _ rfl, rfl, rfl⟩ q)
theorem iA (he : PE X e (liftE A X.K N te)) : PI X tg e (liftI A X.K N (dIt te)) := i_any he fun pins s σ H R z u I r q => it_str I r q
theorem vB (i : Nat) {x : Str} (hN : X.N[i]? = some x := by rfl) (hv : Vis X.env.scope x := by first | exact Or.inl rfl | exact Or.inr (Or.inl rfl) | exact Or.inr (Or.inr rfl)) (hd : (x == ("__debug__" : Str)) = false := by decide) (hcd : (x == ("__classdict__" : Str)) = false := by decide) :
    PE X (.Name x pos) (liftB A X.K N (dVarB i)) := e_var (pv i hN hv hd hcd)
theorem vF (i : Nat) {x : Str} (hN : X.N[i]? = some x := by rfl) (hv : Vis X.env.scope x := by first | exact Or.inl rfl | exact Or.inr (Or.inl rfl) | exact Or.inr (Or.inr rfl)) (hd : (x == ("__debug__" : Str)) = false := by decide) (hcd : (x == ("__classdict__" : Str)) = false := by decide) :
    PE X (.Name x pos) (liftE A X.K N (dVar i)) := e_varF (pv i hN hv hd hcd)
theorem vP (i : Nat) {x : Str} (hN : X.N[i]? = some x := by rfl) (hv : Vis X.env.scope x := by first | exact Or.inl rfl | exact Or.inr (Or.inl rfl) | exact Or.inr (Or.inr rfl)) (hd : (x == ("__debug__" : Str)) = false := by decide) (hcd : (x == ("__classdict__" : Str)) = false := by decide) :
    PE X (.Name x pos) (tVar i) := pv i hN hv hd hcd
theorem gI {x : Str} {i : Int} (hm : ∃ t, X.mg x = some (.int i t)) (hg : Gl X x := by rfl) (hd : (x == ("__debug__" : Str)) = false := by decide) : PE X (.Name x pos) (liftE A X.K N (dC (.int i))) := by
  obtain ⟨t, h⟩ := hm
  exact e_c (pe_glob (v := .int i) hg h ⟨t, rfl⟩ hd) fun _ => .int i
theorem gS {x : Str} {i : Str} (hm : ∃ t, X.mg x = some (.str i t)) (hg : Gl X x := by rfl) (hd : (x == ("__debug__" : Str)) = false := by decide) : PE X (.Name x pos) (liftE A X.K N (dC (.str i))) := by
  obtain ⟨t, h⟩ := hm
  exact e_c (pe_glob (v := .str i) hg h ⟨t, rfl⟩ hd) fun _ => .str i
theorem sS (i : Nat) {x : Str} {p : Pos} (nd : X.N.Nodup) (he : PE X e (liftE A X.K N te)) (hi : X.N[i]? = some x := by rfl) (hx : Loc X.env.scope x := by first | exact Or.inl rfl | exact Or.inr rfl) (hs : swapsWith e (some (.Name x p)) pos.line X.env = pure false := by rfl) (hf : X.fn x = true ∨ X.env.scope.names.lookup x = some .local := by first | exact .inl rfl | exact .inr rfl) :
    PS X (.Assign [.Name x p] e pos) (liftS A X.K N (dSet i te)) := s_set (ps_set nd hi hx he hs hf)
theorem sN (i : Nat) {x : Str} {p : Pos} (nd : X.N.Nodup) (he : PE X e (liftW A X.K N tn)) (hi : X.N[i]? = some x := by rfl) (hx : Loc X.env.scope x := by first | exact Or.inl rfl | exact Or.inr rfl) (hs : swapsWith e (some (.Name x p)) pos.line X.env = pure false := by rfl) (hf : X.fn x = true ∨ X.env.scope.names.lookup x = some .local := by first | exact .inl rfl | exact .inr rfl) :
    PS X (.Assign [.Name x p] e pos) (liftS A X.K N (dSetN i tn)) := s_setW (ps_set nd hi hx he hs hf)
theorem gN (i : Nat) {x : Str} (nd : X.N.Nodup) (hi : X.N[i]? = some x := by rfl) (hx : Loc X.env.scope x := by first | exact Or.inl rfl | exact Or.inr rfl) (hf : X.fn x = true ∨ X.env.scope.names.lookup x = some .local := by first | exact .inl rfl | exact .inr rfl) :
    PG X (.Name x pos) (liftG A X.K N [i] (dgN i)) := g_name (pg_name nd hi hx hf)
theorem eC {ifs : List Expr} {scope : Scope} (own : List (Str × Nat)) (nd : X.N.Nodup) (hi : PI X tg iter (liftI A X.K N it))
    (hg : ∀ (N : Ent) (s : Shared) (H : Hp) (C : Addr) (cl : List (Str × Addr)) (fp : List Addr), PG (X.blk s H scope (compEnvC scope cl C X.env) fp) tg (liftG A X.K N (own.map (·.2)) g))
    (ht : ∀ (N : Ent) (s : Shared) (H : Hp) (C : Addr) (cl : List (Str × Addr)) (fp : List Addr), PTs (X.blk s H scope (compEnvC scope cl C X.env) fp) ifs (liftT A X.K N tt))
    (he : ∀ (N : Ent) (s : Shared) (H : Hp) (C : Addr) (cl : List (Str × Addr)) (fp : List Addr), PE (X.blk s H scope (compEnvC scope cl C X.env) fp) elt (liftE A X.K N te)) (ok : blkC X.N X.env.scope scope own = true := by kernel_rfl) (hc : X.calm = true := by rfl) (hs : ∀ x, foldedSetIterable iter X.env x = pure x := by intro _; rfl) :
    PE X (.ListComp elt [⟨tg, iter, ifs, 0⟩] scope pos) (liftW A X.K N (nComp it g tt te (own.map (·.2)))) := n_comp nd ok hi hg ht he hc hs
theorem s_setWf {i : Nat} (h : PS X st (tAsg (liftW A X.K N tn) (gName i))) : PS X st (liftS A X.K N (dSet i (dOfN tn))) := ⟨fun pins s0 σ H D I ⟨ρ, s, O, Dd, R, E, q⟩ => by
  refine thn (h.run pins s0 σ H { D with nx := fun σ2 H2 => ∃ c s1 p ob H1 O1, Dd.nx (ρ.set i (.fz (Cell.data c))) s1 ∧ Rel A X.K N s1 σ H1 ρ O1 ∧ Hle (fzP H (Px N σ ρ O)) (fzP H1 (Px N σ ρ O1)) ∧ H1 p = none ∧ Holds X.K (fzP H1 (Px N σ ρ O1)) p ob c ∧ σ2 = σ.set i (some (.ref p)) ∧ H2 = upd H1 p ob } I
    ⟨ρ, s, O, _, R, q, fun c s1 p ob H1 O1 q1 R1 le1 hp hh => ⟨c, s1, p, ob, H1, O1, q1, R1, le1, hp, hh, rfl, rfl⟩⟩) fun f s2 sp => ?_
  cases f with
  | next =>
    obtain ⟨σ2, H2, I2, c, s1, p, ob, H1, O1, q1, R1, le1, hp, hh, e1, e2⟩ := sp
    subst e1 e2
    obtain ⟨o', I', rp⟩ := hh.seal I2 upd_same
    rw [upd_upd] at I'
    have R2 := R1.alloc (same_upd (o := o') hp)
    have le2 := R1.fzle (same_upd (o := o') hp)
    have W := R2.setFz (i := i) (v := .ref p) (c := .fz c.data) (fun z => z) ⟨_, rfl, rp _ le2 (fzP_of (R1.fresh hp) upd_same)⟩
    exact ⟨_, _, I', E.nx _ s1 _ _ O1 W.1 (le1.trans (le2.trans W.2)) q1⟩
  | _ => exact sp⟩
theorem sCf (i : Nat) {x : Str} {p : Pos} {ifs : List Expr} {scope : Scope} {spos : Pos} (own : List (Str × Nat)) (nd : X.N.Nodup) (hi : PI X tg iter (liftI A X.K N it))
    (hg : ∀ (N : Ent) (s : Shared) (H : Hp) (C : Addr) (cl : List (Str × Addr)) (fp : List Addr), PG (X.blk s H scope (compEnvC scope cl C X.env) fp) tg (liftG A X.K N (own.map (·.2)) g))
    (ht : ∀ (N : Ent) (s : Shared) (H : Hp) (C : Addr) (cl : List (Str × Addr)) (fp : List Addr), PTs (X.blk s H scope (compEnvC scope cl C X.env) fp) ifs (liftT A X.K N tt))
    (he : ∀ (N : Ent) (s : Shared) (H : Hp) (C : Addr) (cl : List (Str × Addr)) (fp : List Addr), PE (X.blk s H scope (compEnvC scope cl C X.env) fp) elt (liftE A X.K N te)) (hy : X.N[i]? = some x := by rfl) (hyl : X.env.scope.names.lookup x = some .local := by rfl)
    (hsw : swapsWith (.ListComp elt [⟨tg, iter, ifs, 0⟩] scope pos) (some (.Name x p)) spos.line X.env = pure true := by exact sw_true rfl rfl rfl (by decide +kernel))
    (ok : blkC X.N X.env.scope scope own = true := by kernel_rfl) (hc : X.calm = true := by rfl) (hs : ∀ x, foldedSetIterable iter X.env x = pure x := by intro _; rfl) :
    PS X (.Assign [.Name x p] (.ListComp elt [⟨tg, iter, ifs, 0⟩] scope pos) spos) (liftS A X.K N (dSet i (dOfN (nComp it g tt te (own.map (·.2)))))) :=
  s_setWf (PS.impE (ps_setLc hc nd hy hyl hsw hi (blkOk_by ok) (fun s H C cl fp => PG.ex fun N => hg N s H C cl fp) (fun s H C cl fp => PTs.ex fun N => ht N s H C cl fp) (fun s H C cl fp => PE.ex fun N => he N s H C cl fp) hs) lift_comp)
end
end Dl
namespace Dl
open PySem L2 PyProof.Rows PySem.Spec
section
variable {P : Program} {w : World} {K : PySem.W.Frag} {mg : Str → Option Value} {base : Heap}
def RunAt (P : Program) (w : World) (K : PySem.W.Frag) (mg : Str → Option Value) (base : Heap) (Ar : Around) (f : Addr) (fd : FuncData) (ps : List Str) (sp : Sp) : Prop :=
  ∀ (outer : List PySem.Env) (s : Shared) (H : Hp) (args : Args) (us : List Value) (vs : List V) (Q : VK) (E : XK), Env0 P w K mg base Ar outer s H → BindsTo s fd args (ps.zip us) → Vals vs us → sp vs H Q E →
    codeAny (model P w) Ar (.call (.ref f) args) (CR CX0 outer P w H s Q E) s
theorem run_at {x qual : Str} {st : Stmt} {f : Addr} {fd : FuncData} {N ps : List Str} {k : Nat} {sp : Sp} {Ar : Around} (F : Fun K x qual st f fd) (sc : FnScope N ps (defScope st)) (hr : Room (k + 1) Ar) (len : ∀ vs H Q E, sp vs H Q E → vs.length = ps.length)
    (hb : ∀ (cdv : Value) (outer : List PySem.Env) (s : Shared) (H : Hp) (vs : List V) (Q : VK) (E : XK), Room k (Ar.deeper (PyProof.Rows.envOfC qual (defScope st) s.heap.objs.size f cdv)) → sp vs H Q E →
      ∃ t, PSs (cxOf CX0 P w K mg base N qual (defScope st) f cdv Ar outer s H E).nox (defBody st) t ∧ t { nx := fun _ H' => Q .non H', rt := Q } (L2.start N vs) H) : RunAt P w K mg base Ar f fd ps sp := by
  intro outer s H args us vs Q E e0 bd r h
  obtain ⟨oc, od, kV, doc, pm, an, cdv, ct, osl, rfl, lk, hcd⟩ := F.ex
  have kept : ∀ b o, base.get? b = some o → s.heap.get? b = some o := fun b o e => (e0.bs b o e).1
  have KX : K.In s.heap := e0.mod.kin.keeps kept
  refine codeAny_call_function hr.depth (KX _ _ lk) rfl sc.co sc.gen rfl
    (PySem.W.codeRec_of KX hcd) (bd _ _ _ _ ?_)
  refine wpAny_newFunctionEnv_cells sc.kind (fun y hy => ?_) fun env he s1 ic => ?_
  · rcases sc.par y.1 (List.of_mem_zip (show (y.1, y.2) ∈ ps.zip us from hy)).1 with q | q
    · exact .inl q
    · exact .inr ⟨q, PySem.W.cellsFrom_some _ _ _ (.inl q)⟩
  · subst he
    refine ⟨(e0.mod.nolimit.keeps kept).keeps ic.toInCall.keep, codeAny_func ?_⟩
    obtain ⟨t, ht, q⟩ := hb cdv outer s H vs Q E (hr.deeper _) h
    have I := inv_start (CX := CX0) (E := E) sc hr.hd e0 (len _ _ _ _ h) r ic
    refine wpAny_mono (ht.nox.run [] s1 _ H _ I q) (fun fl s' hs => ?_) fun _ _ z => z
    cases fl with
    | brk => exact hs.elim fun _ z => z.elim fun _ z => z.2.elim
    | cont => exact hs.elim fun _ z => z.elim fun _ z => z.2.elim
    | next =>
      obtain ⟨σ', H', J, q⟩ := hs
      exact ⟨.non, H', J.os, J.bare, J.base, J.hok, rfl, q⟩
    | ret u =>
      obtain ⟨v, σ', H', J, rv, q⟩ := hs
      exact ⟨v, H', J.os, J.bare, J.base, J.hok, rv, q⟩
end
section
variable {P : Program} {w : World} {K : PySem.W.Frag} {mg mb : Str → Option Value} {fa a : Addr} {fd : FuncData} {x : Str} {sp : Sp} {s1 : Shared} {vs : List Value} {ns : List Int}
theorem ints_vals (h : PyProof.Rows.IntsAre vs ns) : Vals (ns.map V.int) vs := L2.vals_ints h
theorem call_at (KX : K.In s1.heap) (hns : s1.heap.Ns mainGlobals mg) (hb : s1.heap.Ns builtinsNs mb) (hbb : ∀ x : Str, x ≠ "__name__" → mb x = bootBuiltins x) (hlim : s1.heap.NoLimit) (hg : s1.gens = #[])
    (ha : s1.heap.get? a = some { cls := .type "list", data := .seq vs.toArray }) (hi : PyProof.Rows.IntsAre vs ns) (hl : ns.length ≤ sizeLine)
    (F : ∀ base : Heap, K.In base → base.Ns mainGlobals mg → RunAt P w K mg base callerA fa fd [x] sp) (hbind : ∀ (s : Shared) (u : Value), BindsTo s fd ⟨[u], []⟩ [(x, u)])
    (hsp : ∀ H : Hp, Only H → SqL K H a (ns.map V.int) → sp [.ref a] H (fun v _ => v = .bl true) fun _ _ _ => False) :
    codeAny (model P w) callerA (.call (.ref fa) ⟨[.ref a], []⟩) (fun r s' => r = .ok (.ret (.bool true)) ∧ OldK s1.heap s'.heap ∧ s'.os = s1.os ∧ AllBare s'.gens) s1 := by
  have lv := hi.length
  have go : ∀ H : Hp, Only H → SqL K H a (ns.map V.int) → HOk P w H s1.heap → (∀ b u, H b = some u → b = a ∧ K.lookup a = none) →
      codeAny (model P w) callerA (.call (.ref fa) ⟨[.ref a], []⟩) (fun r s' => r = .ok (.ret (.bool true)) ∧ OldK s1.heap s'.heap ∧ s'.os = s1.os ∧ AllBare s'.gens) s1 := by
    intro H hO hS hok hA
    have free : ∀ {b : Addr} {o : Obj}, s1.heap.get? b = some o → (b = a → K.lookup a ≠ none ∨ ∀ q : Array Value, ∀ n, o.data ≠ .seq q n) → H b = none := fun {b o} e h => by
      cases q : H b with
      | none => rfl
      | some u =>
        obtain ⟨e1, e2⟩ := hA b u q
        rcases h e1 with z | z
        · exact (z e2).elim
        · subst e1
          rw [ha] at e
          cases e
          exact (z _ _ rfl).elim
    have ns' : ∀ {b : Addr} {m : Str → Option Value}, s1.heap.Ns b m → (hidT s1.heap H).Ns b m := fun {b m} ⟨o, es, ep, e, d, r⟩ =>
      ⟨o, es, ep, hidT_get e (free e fun _ => .inr fun q n z => by rw [d] at z; cases z), d, r⟩
    have kin : K.In (hidT s1.heap H) := fun b o e => hidT_get (KX b o e) (free (KX b o e) fun z => .inl (by subst z; rw [e]; simp))
    obtain ⟨mc, l1, l2⟩ := hlim
    have e0 : Env0 P w K mg (hidT s1.heap H) callerA [] s1 H :=
      ⟨rfl, ⟨kin, ns' hns, ⟨mb, ns' hb, hbb⟩, mc, ns' l1, l2⟩, fun b o e => of_hidT e, Nat.le_of_eq (hidT_size _ _), trivial, fun b z => absurd z (List.not_mem_nil), hok, .of_eq hg⟩
    refine codeAny_mono (F _ kin (ns' hns) [] s1 H ⟨[.ref a], []⟩ [.ref a] [.ref a] _ _ e0 (hbind s1 (.ref a)) (.cons rfl .nil) (hsp H hO hS)) fun r s' h => ?_
    cases r with
    | error e => exact False.elim h
    | ok fl =>
      cases fl with
      | next => exact False.elim h
      | brk => exact False.elim h
      | cont => exact False.elim h
      | ret u =>
        obtain ⟨v, H', os, bare, un, hok', r', q⟩ := h
        cases q
        cases r'
        refine ⟨rfl, OldK.of_keep fun b o e => ?_, os, bare⟩
        rcases hO b with z | ⟨ob, xs, z⟩
        · exact un.keep b o e z (fun w => absurd w (List.not_mem_nil)) (fun w => absurd w (List.not_mem_nil))
        · have e1 := (hok b _ z).1
          rw [e] at e1
          cases e1
          exact (hok' b _ (un.frzs b _ _ z)).1
  cases hk : K.lookup a with
  | some o =>
    have e := KX a o hk
    rw [ha] at e
    cases e
    exact go (fun _ => none) (fun _ => .inl rfl) (.inr ⟨_, vs.toArray, _, hk, rfl, rfl, rfl, by rw [List.size_toArray, lv]; exact hl, by simpa using ints_vals hi⟩) (fun b u z => by cases z) fun b u z => by cases z
  | none =>
    have at_ : ∀ {b : Addr} {u : HO}, (if b = a then some (HO.frz { cls := .type "list", data := .seq vs.toArray } (.lst (ns.map V.int))) else none) = some u → b = a ∧ u = .frz { cls := .type "list", data := .seq vs.toArray } (.lst (ns.map V.int)) := fun {b u} z => by
      by_cases e : b = a
      · rw [if_pos e] at z; cases z; exact ⟨e, rfl⟩
      · rw [if_neg e] at z; cases z
    refine go (fun b => if b = a then some (.frz { cls := .type "list", data := .seq vs.toArray } (.lst (ns.map V.int))) else none) (fun b => ?_) (.inl (.inr ⟨_, if_pos rfl⟩)) (fun b u z => ?_) fun b u z => ⟨(at_ z).1, hk⟩
    · by_cases e : b = a
      · exact .inr ⟨_, _, if_pos e⟩
      · exact .inl (if_neg e)
    · obtain ⟨rfl, rfl⟩ := at_ z
      exact ⟨ha, by rw [List.length_map]; exact hl, vs, _, ints_vals hi, ha⟩
end
theorem walk_at {l : PySem.W.OpenLaw} {n : Nat} {q : Program} {loose : List Str} {XP : (Str → Option Value) → Heap → Prop} {YP : World → Heap → Prop} {d : DefRec} {K : Params → PySem.W.Frag} {sp : PySem.W.Frag → Sp} {x : Str}
    (hn : l.most = some n) (hn2 : n ≤ sizeLine) (hdf : d.params.defaults = []) (hY : ∀ (w : World) (h : Heap), YP w h → (K w.params).In h)
    (F : ∀ (w : World) (mg : Str → Option Value) (fa : Addr) (h : Heap), (K w.params).In h → h.Ns mainGlobals mg → mg d.name = some (.ref fa) →
      ∃ fd : FuncData, (∀ (s : Shared) (u : Value), BindsTo s fd ⟨[u], []⟩ [(x, u)]) ∧
        ∀ base : Heap, (K w.params).In base → base.Ns mainGlobals mg → RunAt l.prog w (K w.params) mg base callerA fa fd [x] (sp (K w.params)))
    (hsp : ∀ (K : PySem.W.Frag) (H : Hp) (a : Addr) (ns : List Int), ns.length ≤ n → Only H → SqL K H a (ns.map V.int) → sp K [.ref a] H (fun v _ => v = .bl true) fun _ _ _ => False) :
    PySem.W.WalkO q loose XP YP l.row.toRowW d [] (fun f vs => PySem.call f vs) := by
  refine Att.attach_call hn hdf fun w s0 s1 mg mb fa o pm cd doc a vs ns G Y ho hd hcd hmg hobj hints hlen hg => ?_
  have KX := hY w _ Y
  obtain ⟨fd, hb, hF⟩ := F w mg fa _ KX G.T.g hmg
  exact call_at KX G.T.g G.T.b G.T.builtins G.T.nolimit hg hobj hints (Nat.le_trans hlen hn2) hF hb fun H hO hS => hsp _ H a ns hlen hO hS
end Dl
namespace Dl
open PySem L2 PySem.W PyProof.Rows PySem.SeqAt
section
variable {prog : Program} {w : World} {A : Around} {E : Value → Shared → Prop} {s : Shared}
theorem oneLt_tup {xs ys : List PyData} {a b : Value} {as bs : List Addr} {Q : Bool → Shared → Prop} (ra : Reads s.heap a (.tuple xs) as) (rb : Reads s.heap b (.tuple ys) bs) (hal : alikeAll xs ys = true)
    (hu : A.units + min (PyData.tuple xs).depth (PyData.tuple ys).depth < cLine) (hq : Q (dataLt (.tuple xs) (.tuple ys)) s) : wpAny (model prog w) A (oneLt' true a b) Q E s := by
  cases ra with
  | @tuple l o vs n _ as1 h1 h2 h3 h4 =>
    cases rb with
    | @tuple l' o' vs' n' _ bs1 k1 k2 k3 k4 =>
      have n1 : vs.size = xs.length := by simpa using ReadsAll.length _ _ _ h4
      have n2 : vs'.size = ys.length := by simpa using ReadsAll.length _ _ _ k4
      rw [dataLt_tuple, ← firstLt_toks xs ys hal, ← n1, ← n2] at hq
      obtain ⟨cls, dd, data, sl⟩ := o
      obtain ⟨cls2, dd2, data2, sl2⟩ := o'
      simp only at h2 h3 k2 k3
      subst h2 h3 k2 k3
      rw [oneLt'_eq]
      simp only [if_true]
      refine wpAny_bind (wpAny_cRoomFor (room_here hu) (wpAny_bind ?_))
      refine wpAny_callSpecialIfBound?_slot (T := "tuple") ⟨_, h1, rfl⟩ F.slot_tuple_lt (call_meets F.slot_tuple_lt ⟨_, h1, rfl⟩ F.entry_tuple_lt (F.args_tuple_lt_2 _ _)
        (tuple_ltAt l l' vs vs' n n' dd dd2 sl sl2 (pairEq xs ys) fun j => dataLt (xs.getD j .none) (ys.getD j .none)) ⟨h1, k1, fun j j1 j2 => ?_, fun j j1 j2 hj => ?_, ?_⟩)
      · have q := eqAt_alikeAll xs ys A.in1 s vs.toList vs'.toList _ _ h4 k4 hal (room_in hu) j (by simpa using j1) (by simpa using j2)
        simpa using q
      · have q := rcLt_alikeAll xs ys A.in1 s vs.toList vs'.toList _ _ h4 k4 hal (room_in hu) j (by simpa using j1) (by simpa using j2) hj
        simpa using q
      · exact wpAny_truthy_bool hq
theorem oneLt_any {f : Bool} {da db : PyData} {a b : Value} {as bs : List Addr} {Q : Bool → Shared → Prop} (ra : Reads s.heap a da as) (rb : Reads s.heap b db bs) (h : alike da db = true) (hn : da ≠ .none)
    (hu : A.units + min da.depth db.depth < cLine) (hq : Q (dataLt da db) s) : wpAny (model prog w) A (oneLt' f a b) Q E s := by
  by_cases ht : ∃ xs, da = .tuple xs
  · obtain ⟨xs, rfl⟩ := ht
    cases f with
    | false => exact oneLt_alike (fun z => nomatch z) ra rb h hn hu hq
    | true =>
      cases db with
      | tuple ys => exact oneLt_tup ra rb (by simpa [alike] using h) hu hq
      | _ => exact absurd h (by simp [alike])
  · exact oneLt_alike (fun _ xs e => ht ⟨xs, e⟩) ra rb h hn hu hq
def fullT : PyData → Bool
  | .tuple (_ :: _) => true
  | _ => false
theorem firsts_any : ∀ {vs : List Value} {ds : List PyData} {Q : List (Option Value) → Shared → Prop}, EachIs (fun v d => ∃ as, Reads s.heap v d as) vs ds → (∀ d ∈ ds, ∃ xs, d = PyData.tuple xs) →
    (∀ fs : List (Option Value), fs.map Option.isSome = ds.map fullT → Q fs s) → wpAny (model prog w) A (vs.mapM firstOfTuple') Q E s
  | _, _, Q, .nil, _, h => by
    rw [List.mapM_nil]
    exact wpAny_pure (h [] rfl)
  | _, _, Q, .cons (b := d) (bs := ds) ⟨as, r⟩ t, ht, h => by
    obtain ⟨xs, rfl⟩ := ht d (List.mem_cons_self ..)
    cases r with
    | @tuple a o items n _ _ ho hc hd hr =>
      rw [List.mapM_cons]
      refine wpAny_bind ?_
      rw [kas_first_eq]
      refine wpAny_bind (Looks.here (show Looks (model prog w) s.heap (typeOf (.ref a)) o.cls from (Looks.ld ho).andThen .now) ?_)
      rw [hc, if_neg (by first | decide | simp)]
      refine wpAny_bind (listItems_at ho hd (wpAny_pure ?_))
      refine wpAny_bind (firsts_any (Q := fun bs s' => wpAny (model prog w) A (pure (items[0]? :: bs)) Q E s') t (fun d hd => ht d (List.mem_cons_of_mem _ hd)) fun fs hl => wpAny_pure (h _ ?_))
      rw [List.map_cons, List.map_cons, hl]
      congr 1
      cases xs with
      | nil =>
        have z : items.toList = [] := by cases hq : items.toList with
          | nil => rfl
          | cons x r => rw [hq] at hr; cases hr
        have z' : items = #[] := by simpa using z
        rw [z']
        rfl
      | cons x r =>
        have z : items[0]?.isSome = true := by
          have q := ReadsAll.length _ _ _ hr
          rw [← Array.getElem?_toList]
          cases hq : items.toList with
          | nil => rw [hq] at q; cases q
          | cons x r => rfl
        exact z
theorem sortsAt_any {vs : List Value} {ds : List PyData} (e : EachIs (fun v d => ∃ as, Reads s.heap v d as) vs ds) (hal : AllAlike ds) (hn : ∀ d ∈ ds, d ≠ .none) (hu : ∀ d, d ∈ ds → A.units + d.depth < cLine) : SortsAt prog w A s (dataKind s.heap ds) vs := by
  by_cases hk : Sortable ds
  · exact SortsAt.data e hal hk hu
  have ht : ∃ xs, PyData.tuple xs ∈ ds := by
    by_cases z : ∃ xs, PyData.tuple xs ∈ ds
    · exact z
    · exact (hk (.inr fun d hd => ⟨hn d hd, fun xs q => z ⟨xs, q ▸ hd⟩⟩)).elim
  obtain ⟨xs0, hx0⟩ := ht
  have tups : ∀ d ∈ ds, ∃ xs, d = PyData.tuple xs := fun d hd => by
    have q := hal _ hx0 d hd
    cases d with
    | tuple xs => exact ⟨xs, rfl⟩
    | _ => exact absurd q (by simp [alike])
  have he0 : PyData.tuple [] ∈ ds := by
    by_cases z : PyData.tuple [] ∈ ds
    · exact z
    · refine (hk (.inl fun d hd => ?_)).elim
      obtain ⟨xs, rfl⟩ := tups d hd
      cases xs with
      | cons x r => exact ⟨x, r, rfl⟩
      | nil => exact (z hd).elim
  have lt : ∀ f : Bool, ∀ (E : Value → Shared → Prop) (x y : Value) (a b : (dataKind s.heap ds).α) {Q : Bool → Shared → Prop}, (dataKind s.heap ds).keyOf x = some a → (dataKind s.heap ds).keyOf y = some b → Q ((dataKind s.heap ds).blt a b) s → wpAny (model prog w) A (oneLt' f x y) Q E s := by
    intro f E x y a b Q ha hb hq
    obtain ⟨d, as, hd, ra, rfl⟩ := dataKind_inv ha
    obtain ⟨d', as', hd', rb, rfl⟩ := dataKind_inv hb
    exact oneLt_any ra rb (hal d hd d' hd') (hn d hd) (Nat.lt_of_le_of_lt (Nat.add_le_add_left (Nat.min_le_left _ _) _) (hu d hd)) hq
  refine ⟨fun v hv => ?_, ?_⟩
  · obtain ⟨d, hd, as, r⟩ := e.left v hv
    exact ⟨_, dataKind_some hal hd r⟩
  have kindOf : ∀ kd : SortKind, (kd = general' ∨ kd = oneType') → H.LtAt prog w A s (dataKind s.heap ds) kd := by
    rintro kd (rfl | rfl)
    · exact fun E x y a b Q ha hb hq => lt false E x y a b ha hb hq
    · exact fun E x y a b Q ha hb hq => by
        rw [keyLt'_oneType]
        exact lt true E x y a b ha hb hq
  have notAll : ∀ fs : List (Option Value), fs.map Option.isSome = ds.map fullT → ¬ (fs.toArray.all fun x => x.isSome) = true := fun fs e1 e2 => by
    rw [List.all_toArray] at e2
    have e3 : ds.all fullT = true := by
      have q : (fs.map Option.isSome).all id = true := by rw [List.all_map]; exact e2
      rw [e1, List.all_map] at q
      exact q
    exact absurd (List.all_eq_true.mp e3 _ he0) (by simp [fullT])
  have looks : ∀ v ∈ vs, Looks (model prog w) s.heap (typeOf v) (Value.type "tuple") := fun v hv => by
    obtain ⟨d, hd, as, r⟩ := e.left v hv
    obtain ⟨xs, rfl⟩ := tups d hd
    exact looks_reads r
  cases hd0 : ds.map fullT with
  | nil => rw [List.map_eq_nil_iff] at hd0; rw [hd0] at he0; cases he0
  | cons b0 rest =>
    refine ⟨if b0 = true then general' else oneType', kindOf _ (by split <;> simp), fun h2 E Q hq => ?_⟩
    rw [keyKind'_eq, List.mapM_toArray, map_eq_pure_bind]
    refine wpAny_bind (wpAny_bind (firsts_any (E := E) e tups fun fs hf => wpAny_pure ?_))
    rw [if_neg (notAll fs hf)]
    rw [hd0] at hf
    cases fs with
    | nil => cases hf
    | cons f0 fr =>
      rw [List.map_cons] at hf
      obtain ⟨hf0, _⟩ := List.cons.inj hf
      have e0 : (((f0 :: fr).toArray[0]?).bind id).isSome = b0 := by rw [← hf0]; rfl
      cases b0 with
      | true =>
        rw [if_pos e0]
        exact wpAny_pure hq
      | false =>
        rw [if_neg (by rw [e0]; exact Bool.false_ne_true)]
        rw [oneTypeOnly'_eq, List.mapM_toArray, map_eq_pure_bind]
        refine wpAny_bind (wpAny_bind (wpAny_bind (kas_mapM (r := Value.type "tuple") _ (fun v hv Q' hq => (looks v hv).here hq) (wpAny_pure ?_))))
        have hall : ((List.map (fun _ => Value.type "tuple") vs).toArray.all fun x => x == Value.type "tuple") = true := by
          simp only [List.all_toArray, List.all_map, List.all_eq_true]
          intro _ _
          rfl
        have h0 : (List.map (fun _ => Value.type "tuple") vs).toArray[0]? = some (Value.type "tuple") := by
          cases vs with
          | nil => simp at h2
          | cons v vs => simp
        rw [h0]
        simp only [hall, if_true]
        exact wpAny_pure (wpAny_pure hq)
theorem sorted_seq {κ : Heap → PyProof.Rows.KeyKind} {l : Addr} {T : String} {o : Obj} {items : Array Value} {n : Nat} {Q : Value → Shared → Prop} (hT : T = "list" ∨ T = "tuple") (ho : s.heap.get? l = some o) (hc : o.cls = .type T) (hd : o.data = .seq items n) (hL : items.size ≤ sizeLine)
    (S : ∀ h' : Heap, (∀ b u, s.heap.get? b = some u → h'.get? b = some u) → SortsAt prog w A.in1.in1 { s with heap := sortingHeap (h'.push (seqObj "list" items 0)) h'.objs.size items.toList } (κ (sortingHeap (h'.push (seqObj "list" items 0)) h'.objs.size items.toList)) items.toList)
    (h : ∀ h' : Heap, (∀ b u, s.heap.get? b = some u → h'.get? b = some u) → Q (.ref h'.objs.size) { s with heap := sortedHeap (h'.push (seqObj "list" items 0)) h'.objs.size items.toList (sortVals (κ (sortingHeap (h'.push (seqObj "list" items 0)) h'.objs.size items.toList)) false items.toList items.toList).toArray }) :
    wpAny (model prog w) A (call (.builtin "sorted") [.ref l]) Q E s := by
  refine PyProof.Rows.call_function_entry_kw kind_sorted plain_sorted entry_sorted (args_sorted1 _) ?_
  unfold Builtin.«sorted»
  refine wpAny_bind (m := checkCount "sorted" 1 1 _) (wpAny_pure ?_)
  refine wpAny_bind (wpAny_collect_seq (hsz := hL) l hT ho hc hd fun h' hk => ?_)
  refine wpAny_bind (wpAny_newList ?_ (by rw [Array.length_toList]; exact hL))
  have eb : items.toList.toArray = items := by simp
  have at_ : (h'.push (seqObj "list" items 0)).get? h'.objs.size = some (seqObj "list" items.toList.toArray 0) := by
    rw [eb]
    exact Heap.get?_push_size _ rfl
  show wpAny _ _ _ _ _ { s with heap := h'.push (seqObj "list" items.toList.toArray 0) }
  rw [eb]
  refine wpAny_bind (wpAny_holding (wpAny_call_entry_kw slot_list_sort ⟨_, at_, rfl⟩ entry_list_sort ?body (args_list_sort _)))
  case body =>
    show wpAny (model prog w) A.in1.in1 (Builtin.«list.sort» ⟨[.ref h'.objs.size], []⟩) _ _ _
    refine wpAny_mono (list_sort_vals (E := E) (P := fun f s' => f = .done (.ret .none) ∧ Q (.ref h'.objs.size) s') (s := { s with heap := h'.push (seqObj "list" items 0) }) at_ (S h' hk) (by rw [Array.length_toList]; exact hL) ⟨rfl, h h' hk⟩) (fun f s' hf => ?_) fun _ _ e => e
    obtain ⟨rfl, hq⟩ := hf
    exact ⟨_, rfl, wpAny_pure ⟨_, rfl, hq⟩⟩
end
def rSortedD (K : PySem.W.Frag) : List V → Hp → VK → Prop := fun vs H Q => ∃ (a : Addr) (xs : List V) (ds : List PyData), vs = [V.ref a] ∧ (SqL K H a xs ∨ SqT K H a xs) ∧ DpAll K H xs ds ∧ AllAlike ds ∧ (∀ d ∈ ds, d ≠ .none ∧ d.depth ≤ 60) ∧
  ∀ (ps : List (V × PyData)) (p : Addr), ps.Perm (xs.zip ds) → ps.map (·.2) = ds.mergeSort (dataLe false id) → H p = none → Q (.ref p) (upd H p (.lst (ps.map (·.1))))
theorem map_snd_zip {α β : Type} : ∀ {xs : List α} {ys : List β}, xs.length = ys.length → (xs.zip ys).map (·.2) = ys
  | [], [], _ => rfl
  | x :: xs, y :: ys, h => by
    rw [List.zip_cons_cons, List.map_cons, map_snd_zip (by simpa using h)]
theorem each_zip : ∀ {xs : List V} {vs : List Value} {ds : List PyData}, Vals xs vs → xs.length = ds.length → EachIs (fun u (p : V × PyData) => RelV p.1 u) vs (xs.zip ds)
  | _, _, [], .nil, _ => .nil
  | _, _, d :: ds, .cons r t, h => .cons r (each_zip t (by simpa using h))
theorem each_fst : ∀ {vs : List Value} {ps : List (V × PyData)}, EachIs (fun u (p : V × PyData) => RelV p.1 u) vs ps → Vals (ps.map (·.1)) vs
  | _, _, .nil => .nil
  | _, _, .cons r t => .cons r (each_fst t)
theorem cr_sortedD {X : Cx} (hu : X.A.units + 64 < cLine) : CallR X (.builtin "sorted") (rSortedD X.K) := by
  intro pins s σ H vs us Q I r h
  obtain ⟨a, xs, ds, rfl, hs, hd, hal, hn, q⟩ := h
  rw [Vals.ref1 r]
  obtain ⟨T, o, items, n, hT, ho, hc, hdt, rv, hz⟩ : ∃ T o, ∃ items : Array Value, ∃ n, (T = "list" ∨ T = "tuple") ∧ s.heap.get? a = some o ∧ o.cls = .type T ∧ o.data = .seq items n ∧ Vals xs items.toList ∧ xs.length ≤ sizeLine := by
    rcases hs with hs | hs
    · obtain ⟨its, rv, ⟨o, n, ho, hc, _, hd⟩, hz⟩ := I.list hs
      exact ⟨"list", o, _, n, .inl rfl, ho, hc, hd, rv, hz⟩
    · obtain ⟨its, rv, ⟨o, ho, hc, n, hd⟩, hz⟩ := I.tuple hs
      exact ⟨"tuple", o, _, n, .inr rfl, ho, hc, hd, rv, hz⟩
  obtain ⟨as, ra⟩ := Dp.readsAll I ds _ _ hd rv
  have hl : items.size = xs.length := by rw [← Array.length_toList, ← rv.length]
  have hl2 : xs.length = ds.length := by
    have e1 := ReadsAll.length _ _ _ ra
    rw [Array.length_toList] at e1
    omega
  have er0 := readsAll_each id (bs := ds) (by rw [List.map_id]; exact ra)
  have keepS : ∀ h' : Heap, (∀ b u, s.heap.get? b = some u → h'.get? b = some u) → ∀ b u, s.heap.get? b = some u → (sortingHeap (h'.push (seqObj "list" items 0)) h'.objs.size items.toList).get? b = some u := fun h' hk b u e =>
    sortingHeap_old (Nat.ne_of_lt (Heap.lt_size (hk b u e))) (Heap.get?_push_of_some _ (hk b u e))
  have er : ∀ h' : Heap, (∀ b u, s.heap.get? b = some u → h'.get? b = some u) → EachIs (fun v d => ∃ as, Reads (sortingHeap (h'.push (seqObj "list" items 0)) h'.objs.size items.toList) v (id d) as) items.toList ds := fun h' hk => er0.mono fun _ _ ⟨as, r⟩ => ⟨as, PyProof.Rows.Reads.keeps (keepS h' hk) r⟩
  refine sorted_seq (κ := fun h => dataKind h ds) hT ho hc hdt (by omega) (fun h' hk => sortsAt_any (er h' hk) hal (fun d m => (hn d m).1) fun d m => ?_) fun h' hk => ?_
  · have q1 := (hn d m).2
    have q2 : X.A.in1.in1.units = X.A.units + 2 := rfl
    rw [q2]
    omega
  · have e0 := each_zip rv hl2
    have er' : EachIs (fun v (p : V × PyData) => ∃ as, Reads (sortingHeap (h'.push (seqObj "list" items 0)) h'.objs.size items.toList) v p.2 as) items.toList (xs.zip ds) :=
      each_of_map (fun p : V × PyData => p.2) (R := fun v d => ∃ as, Reads (sortingHeap (h'.push (seqObj "list" items 0)) h'.objs.size items.toList) v d as) (by rw [map_snd_zip hl2]; exact er h' hk)
    have out := sortVals_data (enc := fun p : V × PyData => p.2) false e0 er' (by rw [map_snd_zip hl2]; exact hal)
    rw [show (xs.zip ds).map (fun p : V × PyData => p.2) = ds from map_snd_zip hl2] at out
    have hv := each_fst out
    obtain ⟨ep, he'⟩ := PyProof.Rows.sortedHeap_at (h := h'.push (seqObj "list" items 0)) (vs := items.toList) (n := 0) (out := (sortVals (dataKind (sortingHeap (h'.push (seqObj "list" items 0)) h'.objs.size items.toList) ds) false items.toList items.toList).toArray) (a := h'.objs.size) (by
      have eb : items.toList.toArray = items := by simp
      rw [eb]
      exact Heap.get?_push_size _ rfl)
    have hn1 : s.heap.get? h'.objs.size = none := by
      cases e : s.heap.get? h'.objs.size with
      | none => rfl
      | some u => exact absurd (Heap.lt_size (hk _ _ e)) (Nat.lt_irrefl _)
    have hn2 : H h'.objs.size = none := (I.hok.kept hk).fresh (Nat.le_refl _)
    refine ⟨.ref _, upd H h'.objs.size (.lst _), I.laidN (t' := s.toks) (fun b u e => ?_) hn1 hn2 ⟨?_, _, ep, hv, he'⟩, rfl, q _ _ (List.mergeSort_perm _ _) ?_ hn2⟩
    · rw [PyProof.Rows.sortedHeap_old (Nat.ne_of_lt (Heap.lt_size (hk b u e))) (Nat.lt_of_lt_of_le (Heap.lt_size (hk b u e)) (by rw [size_push']; omega))]
      exact Heap.get?_push_of_some _ (hk b u e)
    · rw [List.length_map, (List.mergeSort_perm _ _).length_eq, List.length_zip]
      omega
    · rw [List.map_mergeSort (r := dataLe false (fun p : V × PyData => p.2)) (s := dataLe false id) (fun a _ b _ => rfl), map_snd_zip hl2]
end Dl
namespace Dl
open PySem L2
def gSorted : List D → (Cell → Prop) → Prop := fun xs k => match xs with
  | [.list ds] => PyData.canLayAll0 ds = true ∧ PySem.W.AllAlike ds ∧ (∀ d ∈ ds, d ≠ .none ∧ d.depth ≤ 60) ∧ k (.ol (ds.mergeSort (PySem.W.dataLe false id)))
  | [.tuple ds] => PyData.canLayAll0 ds = true ∧ PySem.W.AllAlike ds ∧ (∀ d ∈ ds, d ≠ .none ∧ d.depth ≤ 60) ∧ k (.ol (ds.mergeSort (PySem.W.dataLe false id)))
  | _ => False
theorem RpL.pairs {K : PySem.W.Frag} {F : Hp} : ∀ {ps : List (V × D)}, (∀ p ∈ ps, Rp K F p.1 p.2) → RpL K F (ps.map (·.1)) (ps.map (·.2))
  | [], _ => .nil
  | p :: ps, h => .cons (h p (List.mem_cons_self ..)) (RpL.pairs fun q m => h q (List.mem_cons_of_mem _ m))
theorem RpL.of_zip {K : PySem.W.Frag} {F : Hp} : ∀ {vs : List V} {ds : List D}, RpL K F vs ds → ∀ p ∈ vs.zip ds, Rp K F p.1 p.2
  | _, _, .nil, p, h => by simp at h
  | _, _, .cons r t, p, h => by
    rw [List.zip_cons_cons] at h
    rcases List.mem_cons.mp h with rfl | h
    · exact r
    · exact RpL.of_zip t p h
section
variable {X : Cx}
theorem dw_sorted : DRNW X.K (rSortedD X.K) gSorted := fun H P xs ds k Q dm b f kk => by
  unfold gSorted at f
  split at f
  · obtain ⟨v, rfl, b1⟩ := b.one
    obtain ⟨a, vs, rfl, s1, r1⟩ := b1.list fzP_le
    refine ⟨a, vs, _, rfl, .inl (SqL.of s1), (r1.mono fzP_le).dp _ _ f.1, f.2.1, f.2.2.1, fun ps p h1 h2 hp => kk p _ _ hp (.ol (ds := ps.map (·.2)) (RpL.pairs fun q m => r1.of_zip q (h1.mem_iff.mp m))) (by rw [h2]; exact f.2.2.2)⟩
  · obtain ⟨v, rfl, b1⟩ := b.one
    obtain ⟨a, vs, rfl, s0, s1, r1⟩ := b1.tup fzP_le
    refine ⟨a, vs, _, rfl, .inr s1, (r1.mono fzP_le).dp _ _ f.1, f.2.1, f.2.2.1, fun ps p h1 h2 hp => kk p _ _ hp (.ol (ds := ps.map (·.2)) (RpL.pairs fun q m => r1.of_zip q (h1.mem_iff.mp m))) (by rw [h2]; exact f.2.2.2)⟩
  · exact f.elim
def twoS : D → D → Bool
  | .str _, .str _ => true
  | _, _ => false
def eqOk (x y : D) : Prop := (twoS x y || (SeqAt.shaped x && SeqAt.shaped y)) = true
def fEqU : F2 := fun x y k => eqOk x y ∧ k (.bool (PyData.eqv x y))
def fNeU : F2 := fun x y k => eqOk x y ∧ k (.bool (!PyData.eqv x y))
def rEqU (K : PySem.W.Frag) : R2 := fun x y H Q => rEqD K x y H Q ∨ rEq x y H Q
def rNeU (K : PySem.W.Frag) : R2 := fun x y H Q => rNeD K x y H Q ∨ rNe x y H Q
theorem eqv_str (a b : Str) : PyData.eqv (.str a) (.str b) = decide (V.str a = V.str b) := by
  rw [Bool.eq_iff_iff]
  simp [PyData.eqv]
theorem dr_eqU : DR2 X.K (rEqU X.K) fEqU := fun H P x y dx dy k Q dm bx by_ f kk => by
  obtain ⟨ok, q⟩ := f
  by_cases h : twoS dx dy = true
  · cases dx <;> cases dy <;> first | (simp [twoS] at h; done) | skip
    rw [bx.str, by_.str]
    refine .inr ⟨rfl, kk _ H _ (Same.refl _) ?_ q⟩
    rw [eqv_str]
    exact .bl _
  · have ok' : SeqAt.shaped dx = true ∧ SeqAt.shaped dy = true := by simpa [eqOk, h] using ok
    exact .inl (dr_eq H P x y dx dy k Q dm bx by_ ⟨ok'.1, ok'.2, q⟩ kk)
theorem dr_neU : DR2 X.K (rNeU X.K) fNeU := fun H P x y dx dy k Q dm bx by_ f kk => by
  obtain ⟨ok, q⟩ := f
  by_cases h : twoS dx dy = true
  · cases dx <;> cases dy <;> first | (simp [twoS] at h; done) | skip
    rw [bx.str, by_.str]
    refine .inr ⟨rfl, kk _ H _ (Same.refl _) ?_ q⟩
    rw [eqv_str]
    exact .bl _
  · have ok' : SeqAt.shaped dx = true ∧ SeqAt.shaped dy = true := by simpa [eqOk, h] using ok
    exact .inl (dr_ne H P x y dx dy k Q dm bx by_ ⟨ok'.1, ok'.2, q⟩ kk)
theorem op_eqU (hu : X.A.units + 64 < cLine) : OpR X (compareOp .Eq) (rEqU X.K) := (op_eqD hu).or op_eq
theorem op_neU (hu : X.A.units + 64 < cLine) : OpR X (compareOp .NotEq) (rNeU X.K) := (op_neD hu).or op_ne
end
section
variable {P : Program} {w : World} {K : PySem.W.Frag} {mg : Str → Option Value} {base : Heap} {A : Amb}
theorem DFn.zero {x qual : Str} {st : Stmt} {f : Addr} {fd : FuncData} {ps : List Str} {S : FS A} (F : Fun K x qual st f fd) (hm : mg x = some (.ref f)) (b : Binds K fd ps []) (no : ∀ ds s Q, ¬ S ds s Q) : DFn P w K mg base A 0 x ps S :=
  ⟨fun xs s P q => (no _ _ _ q).elim, f, fd, hm, F.kp, b, ⟨fun vs H Q E h => by obtain ⟨_, ds, s, O, Y, Pk, _, _, _, q, _⟩ := h; exact (no _ _ _ q).elim, fun A outer s H args us vs Q E _ _ _ _ h => by obtain ⟨_, ds, s, O, Y, Pk, _, _, _, q, _⟩ := h; exact (no _ _ _ q).elim⟩⟩
end
end Dl
namespace Dl
open PySem L2
def amb0 : Amb where
  S := Unit
  at_ := fun _ O _ _ => ∀ b, ¬ O b
  dom := fun h z => (h _ z).elim
  stay := fun h _ _ => h
def PoolH (a p : Addr) (H : Hp) : Prop := ∃ (ns : List Int) (i cur cnt salt : Int), a ≠ p ∧ H a = some (.lst [.ref p, .int i, .int cur, .int cnt, .int salt]) ∧ H p = some (.lst (ns.map V.int)) ∧ 0 ≤ i
def TabF (F H : Hp) (P : Addr) (q : Str) : Prop := ∃ ps : Array Value, H P = some (.tbl ps) ∧ TriplesOk ps.toList ∧ ∀ (pos : Pos) (cv : Value), codeAmong pos ps.toList = some cv → ∃ c, cv = .ref c ∧ F c = some (LamX.CodeO c q)
structure ExS where
  ad : List Addr
  φ : Hp → Hp → Prop
  dom : ∀ {F H : Hp} {b : Addr}, φ F H → b ∈ ad → ∃ o, H b = some o
  stay : ∀ {F F' H H' : Hp}, φ F H → Hle F F' → (∀ b ∈ ad, H' b = H b) → φ F' H'
inductive KnS where
  | no
  | kT (d : Addr) (kvs : List (List Key × D))
  | kX (d : Addr) (kvs : List (List Key × D))
  | tb (P : Addr) (q : Str)
  | ex (E : ExS)
def KnH (a p : Addr) (s : KnS) (O : Addr → Prop) (F H : Hp) : Prop := match s with
  | .no => ∀ b, O b ↔ b = a ∨ b = p
  | .kT d kvs => (∀ b, O b ↔ b = a ∨ b = p ∨ b = d) ∧ d ≠ a ∧ d ≠ p ∧ ∃ kv : List (List Key × V), H d = some (.dT kv) ∧ kv.map (·.1) = kvs.map (·.1) ∧ ∀ K, RpL K F (kv.map (·.2)) (kvs.map (·.2))
  | .kX d kvs => (∀ b, O b ↔ b = a ∨ b = p ∨ b = d) ∧ d ≠ a ∧ d ≠ p ∧ ∃ kv : List XRow, H d = some (DX d kv) ∧ (kv.map (·.1) = kvs.map (·.1) ∧ KX F kv) ∧ ∀ K, RpL K F (kv.map (·.2.2)) (kvs.map (·.2))
  | .tb P q => (∀ b, O b ↔ b = a ∨ b = p ∨ b = P) ∧ P ≠ a ∧ P ≠ p ∧ TabF F H P q
  | .ex E => (∀ b, O b ↔ b = a ∨ b = p ∨ b ∈ E.ad) ∧ a ∉ E.ad ∧ p ∉ E.ad ∧ E.φ F H
theorem KnH.own {a p : Addr} {s : KnS} {O : Addr → Prop} {F H : Hp} (h : KnH a p s O F H) : O a ∧ O p := by
  match s, h with
  | .no, h => exact ⟨(h a).mpr (.inl rfl), (h p).mpr (.inr rfl)⟩
  | .kT d kvs, h => exact ⟨(h.1 a).mpr (.inl rfl), (h.1 p).mpr (.inr (.inl rfl))⟩
  | .kX d kvs, h => exact ⟨(h.1 a).mpr (.inl rfl), (h.1 p).mpr (.inr (.inl rfl))⟩
  | .tb P q, h => exact ⟨(h.1 a).mpr (.inl rfl), (h.1 p).mpr (.inr (.inl rfl))⟩
  | .ex E, h => exact ⟨(h.1 a).mpr (.inl rfl), (h.1 p).mpr (.inr (.inl rfl))⟩
theorem KnH.stay {a p : Addr} {s : KnS} {O : Addr → Prop} {F F' H H' : Hp} (h : KnH a p s O F H) (le : Hle F F') (k : ∀ b, O b → b ≠ a → H' b = H b) : KnH a p s O F' H' := by
  match s, h with
  | .no, h => exact h
  | .kT d kvs, ⟨h1, h2, h3, kv, h4, h5, h6⟩ => exact ⟨h1, h2, h3, kv, (k d ((h1 d).mpr (.inr (.inr rfl))) h2).trans h4, h5, fun K => (h6 K).mono le⟩
  | .kX d kvs, ⟨h1, h2, h3, kv, h4, h5, h6⟩ => exact ⟨h1, h2, h3, kv, (k d ((h1 d).mpr (.inr (.inr rfl))) h2).trans h4, ⟨h5.1, h5.2.mono le⟩, fun K => (h6 K).mono le⟩
  | .tb P q, ⟨h1, h2, h3, ps, h4, h5, h6⟩ => exact ⟨h1, h2, h3, ps, (k P ((h1 P).mpr (.inr (.inr rfl))) h2).trans h4, h5, fun pos cv e => (h6 pos cv e).elim fun c z => ⟨c, z.1, le _ _ z.2⟩⟩
  | .ex E, ⟨h1, h2, h3, h4⟩ => exact ⟨h1, h2, h3, E.stay h4 le fun b m => k b ((h1 b).mpr (.inr (.inr m))) fun z => h2 (z ▸ m)⟩
def poolA (a : Addr) : Amb where
  S := KnS
  at_ := fun s O F H => ∃ p, PoolH a p H ∧ KnH a p s O F H
  dom := fun {s O F H b} ⟨p, ⟨ns, i, cur, cnt, salt, n, h1, h2, _⟩, kn⟩ z => by
    match s, kn with
    | .no, kn =>
      rcases (kn b).mp z with rfl | rfl
      · exact ⟨_, h1⟩
      · exact ⟨_, h2⟩
    | .kT d kvs, ⟨k1, _, _, kv, k4, _⟩ =>
      rcases (k1 b).mp z with rfl | rfl | rfl
      · exact ⟨_, h1⟩
      · exact ⟨_, h2⟩
      · exact ⟨_, k4⟩
    | .kX d kvs, ⟨k1, _, _, kv, k4, _⟩ =>
      rcases (k1 b).mp z with rfl | rfl | rfl
      · exact ⟨_, h1⟩
      · exact ⟨_, h2⟩
      · exact ⟨_, k4⟩
    | .tb P q, ⟨k1, _, _, ps, k4, _⟩ =>
      rcases (k1 b).mp z with rfl | rfl | rfl
      · exact ⟨_, h1⟩
      · exact ⟨_, h2⟩
      · exact ⟨_, k4⟩
    | .ex E, ⟨k1, _, _, k4⟩ =>
      rcases (k1 b).mp z with rfl | rfl | m
      · exact ⟨_, h1⟩
      · exact ⟨_, h2⟩
      · exact E.dom k4 m
  stay := fun {s O F F' H H'} ⟨p, ⟨ns, i, cur, cnt, salt, n, h1, h2, h3⟩, kn⟩ le k => ⟨p, ⟨ns, i, cur, cnt, salt, n, (k a kn.own.1).trans h1, (k p kn.own.2).trans h2, h3⟩, kn.stay le fun b o _ => k b o⟩
def S_draw (a : Addr) : FS (poolA a) := fun ds s Q => ∃ m : Int, ds = [refD a, .int m] ∧ 0 < m ∧ m < 2 ^ 64 ∧ ∀ v : Int, 0 ≤ v → v < m → Q (.int v) s
def S_spread : FS amb0 := fun ds s Q => ∃ i : Int, ds = [.int i] ∧ ∀ j : Int, Q (.int j) s
def spPool (K : PySem.W.Frag) : Sp := fun vs H Q _ => ∃ (e : Addr) (ns : List Int), vs = [.ref e] ∧ SqL K H e (ns.map V.int) ∧ ns.length ≤ 63 ∧
  ∀ (a p : Addr) (H' : Hp), Same H H' → H a = none → H p = none → PoolH a p H' → Q (.ref a) H'
def wiL (K : PySem.W.Frag) (te : TE) : TI := fun σ H R => te σ H fun v H1 => ∃ a xs, v = .ref a ∧ SqL K H1 a xs ∧ R (Itl K a) H1
theorem pi_list {X : Cx} {tg e : Expr} {te : TE} (he : PE X e te) : PI X tg e (wiL X.K te) := ⟨fun pins s σ H R I q => thn (he.run pins s σ H _ I q) fun u s1 ⟨v, H1, I1, r1, ⟨a, xs, e, hs, k⟩⟩ => by
  subst e
  cases r1
  exact it_list I1 hs k⟩
abbrev rInt : List V → Hp → VK → Prop := fun xs H Q => (∃ i, xs = [V.int i] ∧ Q (V.int i) H) ∨ ∃ k, xs = [V.bl k] ∧ Q (V.int (if k = true then 1 else 0)) H
abbrev rMod : R2 := rI (fun _ j => 0 < j) fun i j => V.int (i % j)
abbrev rAdd : R2 := rI0 fun i j => V.int (i + j)
abbrev rMul : R2 := rI CMul fun i j => V.int (i * j)
abbrev rListOf (K : PySem.W.Frag) : List V → Hp → VK → Prop := fun xs H Q => ∃ p ys, xs = [.ref p] ∧ (SqL K H p ys ∨ SqT K H p ys) ∧ ∀ l, H l = none → Q (.ref l) (upd H l (.lst ys))
def rdPool (K : PySem.W.Frag) : TS := tSeq (tAsg (tC (.int 7)) (gName 1))
  (tSeq (tFor (wiL K (tSl (rSlL K) (tVar 0) tNoPart (tPart (tC (.int 63))))) (gName 2)
    (tAsg (tOp rMod (tCB rInt (tCons (tOp rAdd (tOp rMul (tVar 1) (tC (.int 31))) (tVar 2)) tNil)) (tC (.int 1000003))) (gName 1)))
  (tRet (tLst (tCons (tCB (rListOf K) (tCons (tVar 0) tNil)) (tCons (tC (.int 0)) (tCons (tC (.int 0)) (tCons (tC (.int 0)) (tCons (tVar 1) tNil))))))))
theorem Same.upd {H : Hp} {p : Addr} {o : HO} (h : H p = none) : Same H (L2.upd H p o) := same_upd h
theorem rd_pool {K : PySem.W.Frag} {H : Hp} {e : Addr} {ns : List Int} {Q : VK} {D : Ends} (hS : SqL K H e (ns.map V.int)) (hl : ns.length ≤ 63) (hD : D.rt = Q)
    (q : ∀ (a p : Addr) (H' : Hp), Same H H' → H a = none → H p = none → PoolH a p H' → Q (.ref a) H') : rdPool K D [some (.ref e), none, none] H := by
  obtain ⟨ms, hm⟩ : ∃ ms : List Int, cutV (ns.map V.int) none (some 63) = ms.map V.int := ⟨_, by unfold cutV; rw [← List.map_drop, ← List.map_take]⟩
  refine ⟨_, rfl, 63, rfl, e, _, rfl, hS, fun c hc => ⟨c, _, rfl, SqL.of upd_same, ?_⟩⟩
  rw [hm]
  have hs : SqL K (L2.upd H c (.lst (ms.map V.int))) c (ms.map V.int) := SqL.of upd_same
  have un : ∀ xs, SqL K (L2.upd H c (.lst (ms.map V.int))) c xs → True := fun _ _ => trivial
  refine ⟨fun i m σ H' => m = ms.length - i ∧ i ≤ ms.length ∧ H' = L2.upd H c (.lst (ms.map V.int)) ∧ ∃ (k : Int) (o : Option V), σ = [some (.ref e), some (.int k), o], ⟨_, rfl, Nat.zero_le _, rfl, 7, none, rfl⟩, ?_⟩
  rintro i m σ H' ⟨rfl, hi, rfl, k, o, rfl⟩
  by_cases hlt : i < ms.length
  · refine .inr ⟨⟨_, .int ms[i], hs, by rw [List.getElem?_map, List.getElem?_eq_getElem hlt]; rfl⟩, fun σ' H' => i + 1 ≤ ms.length ∧ H' = L2.upd H c (.lst (ms.map V.int)) ∧ ∃ (k : Int) (o : Option V), σ' = [some (.ref e), some (.int k), o], fun σ' H' z => ⟨ms.length - (i + 1), by omega, rfl, z.1, z.2⟩, ?_⟩
    rintro x H' ⟨rfl, y⟩
    have hx := y _ hs
    rw [List.getElem?_map, List.getElem?_eq_getElem hlt] at hx
    cases hx
    exact ⟨_, rfl, _, _, rfl, rfl, .inr ⟨by decide, by decide⟩, _, rfl, _, _, rfl, rfl, .inl ⟨_, rfl, _, _, rfl, rfl, (show (0 : Int) < 1000003 by decide), hlt, rfl, _, _, rfl⟩⟩
  · refine .inl ⟨⟨_, hs, by rw [List.length_map]; omega⟩, ?_⟩
    have g1 : Same H (L2.upd H c (.lst (ms.map V.int))) := same_upd hc
    refine ⟨_, rfl, e, _, rfl, .inl (g1.seq hS), fun p hp => ⟨_, rfl, (show 5 ≤ sizeLine by decide), fun a ha => ?_⟩⟩
    have g2 := same_upd (o := .lst (ns.map V.int)) hp
    have g3 := same_upd (o := .lst [.ref p, .int 0, .int 0, .int 0, .int k]) ha
    rw [hD]
    have hp' : p ≠ c := fun z => by rw [z, upd_same] at hp; cases hp
    have ha' : a ≠ p := fun z => by rw [z, upd_same] at ha; cases ha
    have ha2 : a ≠ c := fun z => by
      rw [z, upd_ne (fun z => hp' z.symm), upd_same] at ha
      cases ha
    refine q a p _ (g1.trans (g2.trans g3)) (by rw [upd_ne ha', upd_ne ha2] at ha; exact ha) (by rw [upd_ne hp'] at hp; exact hp) ⟨ns, 0, 0, 0, k, ha', upd_same, ?_, Int.le_refl 0⟩
    rw [upd_ne (Ne.symm ha'), upd_same]
abbrev ixC (K : PySem.W.Frag) (k : Int) : TE := tOp (rIxL K) (tVar 0) (tC (.int k))
abbrev rLe : R2 := rI0 fun i j => V.bl (decide (i ≤ j))
abbrev rLt : R2 := rI0 fun i j => V.bl (decide (i < j))
abbrev rLen (K : PySem.W.Frag) : List V → Hp → VK → Prop := fun xs H Q => ∃ p ys, xs = [V.ref p] ∧ (SqL K H p ys ∨ SqT K H p ys) ∧ Q (.int (ys.length : Nat)) H
abbrev setC (k : Int) : TG := gSub (tVar 0) (tC (.int k)) rSetL
def rdDraw (K : PySem.W.Frag) (sp : Sp) (E : XK) : TS := tSeq
  (tIfS (tAnd (tTest (tOp rLe (ixC K 2) (tC (.int 0)))) (tTest (tOp rLt (ixC K 1) (tCB (rLen K) (tCons (ixC K 0) tNil)))))
    (tSeq (tAsg (tOp (rIxL K) (ixC K 0) (ixC K 1)) (gName 2))
    (tSeq (tAsg (tOp rAdd (ixC K 1) (tC (.int 1))) (setC 1))
    (tSeq (tAsg (tVar 2) (setC 2))
    (tIfS (tTest (tOp rLt (tVar 2) (tC (.int 1000000000000000000)))) (tAsg (tCall sp [] E (tCons (tVar 2) tNil)) (setC 2)) tNext)))) tNext)
  (tSeq (tAsg (tOp rAdd (ixC K 3) (tC (.int 1))) (setC 3))
  (tSeq (tIfS (tTest (tOp rLe (ixC K 2) (tC (.int 0))))
    (tSeq (tAsg (tOp rMod (tCB rInt (tCons (tOp rAdd (tOp rAdd (tOp rMul (ixC K 4) (tC (.int 48271))) (tOp rMul (ixC K 3) (tC (.int 69621)))) (tC (.int 1))) tNil)) (tC (.int 2147483647))) (gName 3))
    (tSeq (tAsg (tOp rMod (tCB rInt (tCons (tOp rAdd (tOp rMul (tVar 3) (tC (.int 16807))) (ixC K 3)) tNil)) (tC (.int 2147483629))) (gName 3))
    (tRet (tOp rMod (tOp (rI CDiv fun i j => V.int (i / j)) (tVar 3) (tC (.int 5))) (tVar 1))))) tNext)
  (tSeq (tAsg (tOp rMod (tCB rInt (tCons (ixC K 2) tNil)) (tVar 1)) (gName 4))
  (tSeq (tAsg (tOp (rI CDivW fun i j => V.int (i / j)) (ixC K 2) (tVar 1)) (setC 2))
  (tRet (tVar 4))))))
theorem ix_at {K : PySem.W.Frag} {H : Hp} {a : Addr} {xs : List V} {k : Int} {v : V} {σ : St} {Q : VK} (h0 : σ[0]? = some (some (.ref a))) (h : H a = some (.lst xs)) (e : atI xs k = some v) (q : Q v H) : ixC K k σ H Q := ⟨_, h0, _, _, _, _, rfl, rfl, SqL.of h, e, q⟩
theorem rd_draw {K : PySem.W.Frag} {sp : Sp} {E : XK} {H : Hp} {a p : Addr} {m : Int} {Q : VK} {D : Ends} (hp : PoolH a p H) (h0 : 0 < m) (h64 : m < 2 ^ 64) (hD : D.rt = Q)
    (hsp : ∀ (i : Int) (H : Hp) (Q : VK), (∀ j H', Same H H' → Q (.int j) H') → sp [.int i] H Q E)
    (q : ∀ (v : Int) (H' : Hp), 0 ≤ v → v < m → PoolH a p H' → (∀ b o, H b = some o → b ≠ a → H' b = some o) → Q (.int v) H') : rdDraw K sp E D [some (.ref a), some (.int m), none, none, none] H := by
  have hdiv : CDivW 0 m := wide_div (b := 64) h0 (by omega) (by decide) (by decide)
  have rest : ∀ (H' : Hp) (o2 : Option V), PoolH a p H' → (∀ b o, H b = some o → b ≠ a → H' b = some o) → (tSeq (tAsg (tOp rAdd (ixC K 3) (tC (.int 1))) (setC 3))
    (tSeq (tIfS (tTest (tOp rLe (ixC K 2) (tC (.int 0))))
    (tSeq (tAsg (tOp rMod (tCB rInt (tCons (tOp rAdd (tOp rAdd (tOp rMul (ixC K 4) (tC (.int 48271))) (tOp rMul (ixC K 3) (tC (.int 69621)))) (tC (.int 1))) tNil)) (tC (.int 2147483647))) (gName 3))
    (tSeq (tAsg (tOp rMod (tCB rInt (tCons (tOp rAdd (tOp rMul (tVar 3) (tC (.int 16807))) (ixC K 3)) tNil)) (tC (.int 2147483629))) (gName 3))
    (tRet (tOp rMod (tOp (rI CDiv fun i j => V.int (i / j)) (tVar 3) (tC (.int 5))) (tVar 1))))) tNext)
    (tSeq (tAsg (tOp rMod (tCB rInt (tCons (ixC K 2) tNil)) (tVar 1)) (gName 4))
    (tSeq (tAsg (tOp (rI CDivW fun i j => V.int (i / j)) (ixC K 2) (tVar 1)) (setC 2))
    (tRet (tVar 4)))))) D [some (.ref a), some (.int m), o2, none, none] H' := by
    rintro H1 o2 ⟨ns, i, cur, cnt, salt, n, ha, hpp, hi⟩ k1
    refine ix_at rfl ha rfl ⟨_, _, rfl, rfl, _, rfl, a, _, 3, 3, rfl, rfl, ha, rfl, ?_⟩
    have ha2 : (upd H1 a (.lst [.ref p, .int i, .int cur, .int (cnt + 1), .int salt])) a = some (.lst [.ref p, .int i, .int cur, .int (cnt + 1), .int salt]) := upd_same
    have k2 : ∀ xs b o, H b = some o → b ≠ a → upd H1 a (.lst xs) b = some o := fun xs b o e n => by rw [upd_ne n]; exact k1 b o e n
    have P2 : ∀ i cur cnt salt, 0 ≤ i → PoolH a p (upd H1 a (.lst [.ref p, .int i, .int cur, .int cnt, .int salt])) := fun i cur cnt salt h => ⟨ns, i, cur, cnt, salt, n, upd_same, by rw [upd_ne (Ne.symm n)]; exact hpp, h⟩
    refine ix_at rfl ha2 rfl ⟨_, _, rfl, rfl, _, rfl, ?_⟩
    refine ite2 (fun c => ?_) (fun c => ?_)
    · refine ix_at rfl ha2 rfl ⟨_, _, rfl, rfl, .inr ⟨by decide, by decide⟩, ix_at rfl ha2 rfl ⟨_, _, rfl, rfl, .inr ⟨by decide, by decide⟩, _, _, rfl, rfl, _, _, rfl, rfl, .inl ⟨_, rfl, _, _, rfl, rfl, (show (0 : Int) < 2147483647 by decide), ?_⟩⟩⟩
      refine ⟨_, rfl, _, _, rfl, rfl, .inr ⟨by decide, by decide⟩, ix_at rfl ha2 rfl ⟨_, _, rfl, rfl, .inl ⟨_, rfl, _, _, rfl, rfl, (show (0 : Int) < 2147483629 by decide), ?_⟩⟩⟩
      refine ⟨_, rfl, _, _, rfl, rfl, ⟨by decide, by decide⟩, _, rfl, _, _, rfl, rfl, h0, ?_⟩
      rw [hD]
      exact q _ _ (Int.emod_nonneg _ (by omega)) (Int.emod_lt_of_pos _ h0) (P2 _ _ _ _ hi) (k2 _)
    · refine ix_at rfl ha2 rfl (.inl ⟨_, rfl, _, rfl, _, _, rfl, rfl, h0, ix_at rfl ha2 rfl ⟨_, rfl, _, _, rfl, rfl, ⟨hdiv.1, hdiv.2⟩, _, rfl, a, _, 2, 2, rfl, rfl, ha2, rfl, _, rfl, ?_⟩⟩)
      rw [hD]
      rw [upd_upd]
      exact q _ _ (Int.emod_nonneg _ (by omega)) (Int.emod_lt_of_pos _ h0) (P2 _ _ _ _ hi) (k2 _)
  obtain ⟨ns, i, cur, cnt, salt, n, ha, hpp, hi⟩ := hp
  refine ix_at rfl ha rfl ⟨_, _, rfl, rfl, _, rfl, ?_⟩
  refine ite2 (fun c => ?_) (fun c => ?_)
  · refine ix_at rfl ha rfl (ix_at rfl ha rfl ⟨p, _, rfl, .inl (SqL.of hpp), _, _, rfl, rfl, _, rfl, ?_⟩)
    refine ite2 (fun c2 => ?_) (fun c2 => ?_)
    · have hlt : i < (ns.length : Int) := by
        have z := of_decide_eq_true c2
        rw [List.length_map] at z
        exact z
      have ek : i = ((i.toNat : Nat) : Int) := by omega
      have hk : i.toNat < ns.length := by omega
      have at_ : atI (ns.map V.int) i = some (.int ns[i.toNat]) := by
        have z := atI_nat (xs := ns.map V.int) (j := i.toNat) (v := .int ns[i.toNat]) (by rw [List.getElem?_map, List.getElem?_eq_getElem hk]; rfl)
        rw [← ek] at z
        exact z
      refine ix_at rfl ha rfl (ix_at rfl ha rfl ⟨p, _, _, _, rfl, rfl, SqL.of hpp, at_, ?_⟩)
      refine ix_at rfl ha rfl ⟨_, _, rfl, rfl, _, rfl, a, _, 1, 1, rfl, rfl, ha, rfl, ?_⟩
      refine ⟨_, rfl, _, rfl, a, _, 2, 2, rfl, rfl, upd_same, rfl, ?_⟩
      rw [upd_upd]
      have P2 : ∀ i cur cnt salt, 0 ≤ i → PoolH a p (upd H a (.lst [.ref p, .int i, .int cur, .int cnt, .int salt])) := fun i cur cnt salt h => ⟨ns, i, cur, cnt, salt, n, upd_same, by rw [upd_ne (Ne.symm n)]; exact hpp, h⟩
      have k2 : ∀ xs b o, H b = some o → b ≠ a → upd H a (.lst xs) b = some o := fun xs b o e n => by rw [upd_ne n]; exact e
      refine ⟨_, rfl, _, _, rfl, rfl, _, rfl, ?_⟩
      refine ite2 (fun c3 => ?_) (fun c3 => ?_)
      · refine ⟨_, rfl, hsp _ _ _ fun j H2 sm => ⟨_, rfl, a, _, 2, 2, rfl, rfl, sm _ _ upd_same, rfl, ?_⟩⟩
        refine rest _ _ ⟨ns, i + 1, j, cnt, salt, n, upd_same, ?_, by omega⟩ fun b o e n2 => ?_
        · rw [upd_ne (Ne.symm n)]
          exact sm _ _ (by rw [upd_ne (Ne.symm n)]; exact hpp)
        · rw [upd_ne n2]
          exact sm _ _ (k2 _ b o e n2)
      · exact rest _ _ (P2 _ _ _ _ (by omega)) (k2 _)
    · exact rest H none ⟨ns, i, cur, cnt, salt, n, ha, hpp, hi⟩ fun b o e _ => e
  · refine ite2 (fun c2 => ?_) (fun c2 => ?_)
    · cases c2
    · exact rest H none ⟨ns, i, cur, cnt, salt, n, ha, hpp, hi⟩ fun b o e _ => e
section
variable {P : Program} {w : World} {K : PySem.W.Frag} {mg : Str → Option Value} {base : Heap}
abbrev Npool : List Str := ["script", "salt", "cell"]
abbrev Ndraw : List Str := ["pool", "many", "cell", "mixed", "value"]
theorem Rp.ref_of {F : Hp} {v : V} {a : Addr} (r : Rp K F v (refD a)) : v = .ref a := by
  generalize hd : refD a = d at r
  unfold refD at hd
  cases r with
  | obj b =>
    injection hd with hd
    have e := (List.cons.inj hd).1
    have e2 := (Prod.mk.inj e).2
    injection e2 with e2
    rw [Int.ofNat.inj e2]
  | @dK b kvs ds s t =>
    injection hd with hd
    cases kvs with
    | nil => cases hd
    | cons k r =>
      cases t with
      | cons t1 t2 =>
        have e : PyData.none = keyD k.1 := (Prod.mk.inj (List.cons.inj hd).1).1
        cases hk : k.1 with
        | inl i => rw [hk] at e; cases e
        | inr i => rw [hk] at e; cases e
  | @dT b kvs ds ne s x t =>
    injection hd with hd
    cases kvs with
    | nil => cases hd
    | cons k r =>
      cases t with
      | cons t1 t2 => exact absurd (Prod.mk.inj (List.cons.inj hd).1).1 (by unfold keysD; simp)
  | ins s t =>
    unfold objD at hd
    injection hd with hd
    exact absurd (Prod.mk.inj (List.cons.inj hd).1).2 (by simp)
  | _ => cases hd
theorem liftF_spread {H : Hp} {i : Int} {Q : VK} {E : XK} (q : ∀ j H', Same H H' → Q (.int j) H') : liftF amb0 K 1 S_spread [.int i] H Q E := by
  refine ⟨rfl, [.int i], (), fun _ => False, fun _ => False, fun d _ => ∃ j, d = .int j, fun b z => z, fun b z => z.elim, .one (.int i), ⟨i, rfl, fun j => ⟨j, rfl⟩⟩, ?_⟩
  rintro d s' v H' O' ⟨j, rfl⟩ at' kp rd
  cases rd
  exact q j H' fun b o e => (kp b o e fun z => z).1
theorem pool_fn {qual : Str} {st : Stmt} {f : Addr} {fd : FuncData} (F : Fun K "_law_pool" qual st f fd) (sc : FnScope Npool ["script"] (defScope st))
    (hb : ∀ (cdv : Value) (Ar : Around) (outer : List PySem.Env) (s : Shared) (H : Hp) (E : XK), PSs (cxOf CX0 P w K mg base Npool qual (defScope st) f cdv Ar outer s H E).nox (defBody st) (rdPool K)) : FnOk P w K mg base CX0 1 f fd ["script"] (spPool K) := by
  refine F.ok sc (fun vs H Q E ⟨e, ns, h, _⟩ => by rw [h]; rfl) fun cdv Ar outer s H vs Q E hr ⟨e, ns, h, hS, hl, q⟩ => ⟨_, hb cdv Ar outer s H E, ?_⟩
  subst h
  exact rd_pool hS hl rfl q
theorem draw_fn {qual : Str} {st : Stmt} {f g : Addr} {fd gd : FuncData} {a : Addr} (F : Fun K "_law_draw" qual st f fd) (hm : mg "_law_draw" = some (.ref f)) (b : Binds K fd ["pool", "many"] []) (sc : FnScope Ndraw ["pool", "many"] (defScope st))
    (hb : ∀ (cdv : Value) (Ar : Around) (outer : List PySem.Env) (s : Shared) (H : Hp) (E : XK), Room 1 (Ar.deeper (PyProof.Rows.envOfC qual (defScope st) s.heap.objs.size f cdv)) →
      PSs (cxOf CX0 P w K mg base Ndraw qual (defScope st) f cdv Ar outer s H E).nox (defBody st) (rdDraw K (liftF amb0 K 1 S_spread) fun _ _ _ => False)) : DFn P w K mg base (poolA a) 2 "_law_draw" ["pool", "many"] (S_draw a) := by
  refine ⟨fun ds s Q ⟨m, e, _⟩ => by rw [e]; rfl, f, fd, hm, F.kp, b, F.ok sc (fun vs H Q E h => h.1) fun cdv Ar outer s H vs Q E hr h => ⟨_, hb cdv Ar outer s H E hr, ?_⟩⟩
  obtain ⟨hl, ds, s0, O, Y, Pk, ⟨p, hp, kn⟩, y, r, ⟨m, rfl, h0, h64, q⟩, kk⟩ := h
  obtain ⟨v1, v2, rfl, r1, r2⟩ := r.two_of
  cases r2
  have e1 : v1 = .ref a := r1.ref_of
  subst e1
  refine rd_draw hp h0 h64 rfl (fun i H Q k => liftF_spread k) fun v H' v0 v1 hp' k => ?_
  have le : Hle (fzP H fun b => O b ∨ Y b) (fzP H' fun b => O b ∨ Y b) := fun b o e => by
    obtain ⟨n, e⟩ := fzP_some.mp e
    exact fzP_some.mpr ⟨n, k b o e fun z => n (.inl (z ▸ kn.own.1))⟩
  have kn' : KnH a p s0 O (fzP H' fun b => O b ∨ Y b) H' := kn.stay le fun b hb n => by
    obtain ⟨o, e⟩ := (poolA a).dom (s := s0) ⟨p, hp, kn⟩ hb
    rw [e]
    exact k b o e n
  exact kk (.int v) s0 (.int v) H' O (q v v0 v1) ⟨p, hp', kn'⟩ (fun b o e n => ⟨k b o e fun z => n (z ▸ kn.own.1), n⟩) (.int v)
end
end Dl
namespace Dl
open PySem L2 PySem.Spec
def spLaw (K : PySem.W.Frag) : Sp := fun vs H Q _ => ∃ (e : Addr) (ns : List Int), vs = [.ref e] ∧ SqL K H e (ns.map V.int) ∧ ns.length ≤ 63 ∧ ∀ H', Q (.bl true) H'
def ρLaw (a : Addr) (n : Nat) : Rho := .un :: .fz (refD a) :: List.replicate n .un
def lawEnds (A : Amb) : DEnds A := ⟨fun _ _ => False, fun d _ => d = .bool true, fun _ _ => False, fun _ _ => False⟩
theorem PSs.ex {α : Type} {X : Cx} {l : List Stmt} {t : α → TS} (h : ∀ i, PSs X l (t i)) : PSs X l (fun D σ H => ∃ i, t i D σ H) := ⟨fun pins s σ H D I ⟨i, q⟩ => (h i).run pins s σ H D I q⟩
theorem ρLaw_get {a : Addr} {n i : Nat} {c : Cell} (h : (ρLaw a n)[i]? = some c) : (i = 1 ∧ c = .fz (refD a)) ∨ c = .un := by
  unfold ρLaw at h
  match i with
  | 0 => exact .inr (by simpa using h.symm)
  | 1 => exact .inl ⟨rfl, by simpa using h.symm⟩
  | i + 2 =>
    rw [List.getElem?_cons_succ, List.getElem?_cons_succ, List.getElem?_replicate] at h
    split at h
    · cases h; exact .inr rfl
    · cases h
section
variable {P : Program} {w : World} {K : PySem.W.Frag} {mg : Str → Option Value} {base : Heap}
theorem Rel.law {a p e : Addr} {H : Hp} {n : Nat} (hp : PoolH a p H) : Rel (poolA a) K ⟨H, fun b => b = a ∨ b = p, fun _ => False⟩ .no (some (.ref e) :: some (.ref a) :: List.replicate n none) H (ρLaw a n) fun b => b = a ∨ b = p := by
  have no : ∀ b, ¬ OwnS (some (.ref e) :: some (.ref a) :: List.replicate n none) (ρLaw a n) b := fun b ⟨i, c, e1, o, _⟩ => by
    rcases ρLaw_get e1 with ⟨_, rfl⟩ | rfl
    · exact o
    · exact o
  refine ⟨⟨p, hp, fun b => Iff.rfl⟩, fun b o e n => ⟨e, n⟩, fun b z => z.elim, ?_, fun i v c e1 e2 => ?_, fun b z => (no b z).elim, fun i j c c' b e1 o1 _ _ _ _ => ?_⟩
  · unfold ρLaw
    simp
  · rcases ρLaw_get e2 with ⟨rfl, rfl⟩ | rfl
    · cases e1
      exact ⟨_, rfl, .obj a⟩
    · trivial
  · rcases ρLaw_get e1 with ⟨_, rfl⟩ | rfl
    · exact o1.elim
    · exact o1.elim
theorem law_at {qual : Str} {st s0 : Stmt} {rest : List Stmt} {f : Addr} {fd : FuncData} {N : List Str} {k : Nat} {tb : ∀ a, DS (poolA a)} (F : Fun K "law" qual st f fd) (sc : FnScope N ["script"] (defScope st)) (hr : Room (k + 1) callerA) (hN : ∃ n, N.length = n + 2) (hbd : defBody st = s0 :: rest)
    (h0 : ∀ (cdv : Value) (outer : List PySem.Env) (s : Shared) (H : Hp) (E : XK), Room k (callerA.deeper (PyProof.Rows.envOfC qual (defScope st) s.heap.objs.size f cdv)) →
      PS (cxOf CX0 P w K mg base N qual (defScope st) f cdv callerA outer s H E).nox s0 (tAsg (tCall (spPool K) [] (fun _ _ _ => False) (tCons (tVar 0) tNil)) (gName 1)))
    (h1 : ∀ (a : Addr) (Nt : Ent) (cdv : Value) (outer : List PySem.Env) (s : Shared) (H : Hp) (E : XK), Room k (callerA.deeper (PyProof.Rows.envOfC qual (defScope st) s.heap.objs.size f cdv)) →
      PSs (cxOf CX0 P w K mg base N qual (defScope st) f cdv callerA outer s H E).nox rest (liftS (poolA a) K Nt (tb a)))
    (ht : ∀ a, tb a (lawEnds _) (ρLaw a (N.length - 2)) .no) : RunAt P w K mg base callerA f fd ["script"] (spLaw K) := by
  refine run_at F sc hr (fun vs H Q E ⟨e, ns, h, _⟩ => by rw [h]; rfl) fun cdv outer s H vs Q E hr2 ⟨e, ns, h, hS, hl, q⟩ => ?_
  subst h
  rw [hbd]
  refine ⟨_, pss_cons (h0 cdv outer s H E hr2) (PSs.ex fun a => PSs.ex fun Nt => h1 a Nt cdv outer s H E hr2), ?_⟩
  obtain ⟨n, hn⟩ := hN
  have hst : L2.start N [.ref e] = some (.ref e) :: none :: List.replicate n none := by
    unfold L2.start
    rw [hn]
    rfl
  rw [hst]
  refine ⟨_, rfl, e, ns, rfl, hS, hl, fun a p H' sm ha hp hP => ⟨a, ⟨H', fun b => b = a ∨ b = p, fun _ => False⟩, ρLaw a n, .no, fun b => b = a ∨ b = p, lawEnds _, Rel.law hP, ?_, ?_⟩⟩
  · refine ⟨fun _ _ _ _ _ _ _ z => z.elim, fun ρ s' σ' H' O' d v R' le rd p => ?_, fun _ _ _ _ _ _ _ z => z.elim, fun _ _ _ _ _ _ _ z => z.elim⟩
    have e : d = .bool true := p
    subst e
    cases rd
    exact q H'
  · have z := ht a
    rw [hn] at z
    exact z
end
end Dl
namespace Dl
open PySem L2 PySem.Spec PyProof.Rows
structure Er where
  cls : Str
def subE (n m : Str) : Bool := decide (n = m) || decide (m = "BellError") || decide (m = "ValueError")
structure ExT (K : PySem.W.Frag) (mg : Str → Option Value) (L : List Str) : Prop where
  adr : ∀ n ∈ L, ∃ C, mg n = some (.ref C) ∧ ExcC K C ∧ PySem.W.keepIn K (.ref C) = true
  mat : ∀ n ∈ L, ∀ m ∈ L, ∀ C D, mg n = some (.ref C) → mg m = some (.ref D) → PySem.W.exmOne K (.ref C) (.ref D) = some (subE n m) ∧ PySem.W.kitOne K (.ref C) (.ref D) = some (subE n m)
  vle : ∀ n ∈ L, ∀ C, mg n = some (.ref C) → PySem.W.kitOne K (.ref C) (.type "ValueError") = some true
def ErAt (mg : Str → Option Value) (L : List Str) (e : Er) (cls : Value) (d : Option Addr) : Prop := e.cls ∈ L ∧ d = none ∧ ∃ C, mg e.cls = some (.ref C) ∧ cls = .ref C
abbrev DXW (A : Amb) := Er → Rho → A.S → Prop
def liftX (A : Amb) (K : PySem.W.Frag) (N : Ent) (mg : Str → Option Value) (L : List Str) (W : DXW A) : WX := fun cls d σ H => ∃ (e : Er) (ρ : Rho) (s : A.S) (O : Addr → Prop), Rel A K N s σ H ρ O ∧ ErAt mg L e cls d ∧ W e ρ s
abbrev FX (A : Amb) := List D → A.S → (D → A.S → Prop) → (Er → A.S → Prop) → Prop
def liftFX (A : Amb) (K : PySem.W.Frag) (mg : Str → Option Value) (L : List Str) (n : Nat) (S : FX A) : Sp := fun vs H Q E => vs.length = n ∧ ∃ (ds : List D) (s : A.S) (O Y : Addr → Prop) (P : D → A.S → Prop) (R : Er → A.S → Prop), A.at_ s O (fzP H fun b => O b ∨ Y b) H ∧ (∀ b, Y b → (∃ o, H b = some o) ∧ ¬ O b) ∧
  RpL K (fzP H fun b => O b ∨ Y b) vs ds ∧ S ds s P R ∧
  (∀ (d : D) (s' : A.S) (v : V) (H' : Hp) (O' : Addr → Prop), P d s' → A.at_ s' O' (fzP H' fun b => O' b ∨ Y b) H' → (∀ b o, H b = some o → ¬ O b → H' b = some o ∧ ¬ O' b) → Rp K (fzP H' fun b => O' b ∨ Y b) v d → Q v H') ∧
  ∀ (e : Er) (s' : A.S) (cls : Value) (dd : Option Addr) (H' : Hp) (O' : Addr → Prop), R e s' → A.at_ s' O' (fzP H' fun b => O' b ∨ Y b) H' → (∀ b o, H b = some o → ¬ O b → H' b = some o ∧ ¬ O' b) → ErAt mg L e cls dd → E cls dd H'
structure DFnX (P : Program) (w : World) (K : PySem.W.Frag) (mg : Str → Option Value) (base : Heap) (A : Amb) (L : List Str) (k : Nat) (x : Str) (ps : List Str) (S : FX A) : Prop where
  len : ∀ xs s P R, S xs s P R → xs.length = ps.length
  fn : ∃ f fd, mg x = some (.ref f) ∧ PySem.W.keepIn K (.ref f) = true ∧ Binds K fd ps [] ∧ FnOk P w K mg base (L2.CX P w) k f fd ps (liftFX A K mg L ps.length S)
def dCallX {A : Amb} (W : DXW A) (S : FX A) (a : DA A) : DE A := fun ρ s Q => a ρ s fun xs s1 => S xs s1 Q fun e s' => W e ρ s'
@[simp] theorem q_dCallX {A : Amb} {W : DXW A} {S : FX A} {a : DA A} {ρ : Rho} {s : A.S} {Q : D → A.S → Prop} : dCallX W S a ρ s Q = a ρ s fun xs s1 => S xs s1 Q fun e s' => W e ρ s' := rfl
def dRaise {A : Amb} (W : DXW A) (n : Str) (a : DA A) : DS A := fun _ ρ s => a ρ s fun xs s1 => xs.length ≤ sizeLine ∧ W ⟨n⟩ ρ s1
@[simp] theorem q_dRaise {A : Amb} {W : DXW A} {n : Str} {a : DA A} {D : DEnds A} {ρ : Rho} {s : A.S} : dRaise W n a D ρ s = a ρ s fun xs s1 => xs.length ≤ sizeLine ∧ W ⟨n⟩ ρ s1 := rfl
section
variable {A : Amb} {X : Cx} {N : Ent} {e : Expr} {es : List Expr} {pos pos' : Pos} {tL : DA A} {W : DXW A} {L : List Str}
theorem e_callX {k j : Nat} {x : Str} {p : Pos} {ps : List Str} {S : FX A} (G : DFnX X.prog X.w X.K X.mg X.base A L k x ps S) (tk : Takes X (liftX A X.K N X.mg L W)) (hr : Room j X.A) (hj : k ≤ j) (ha : PA X (e :: es) (liftA A X.K N tL))
    (hg : Gl X x := by rfl) (hdb : (x == ("__debug__" : Str)) = false := by decide) (h1 : starEach (e :: es) X.env = (false, eval e X.env) :: starEach es X.env := by rfl) (h2 : (backTo pos (starEach es X.env)).any (·.1) = false := by rfl) :
    PE X (.Call (.Name x p) (e :: es) [] pos) (liftE A X.K N (dCallX W S tL)) := by
  obtain ⟨f, fd, hm, hk, hb, F⟩ := G.fn
  refine PE.imp (pe_callS F (hr.mono hj) hg hm hk hb (passAt tk) ha hdb h1 h2) fun σ H Q ⟨ρ, s, O, P, R0, q, kk⟩ => ⟨ρ, s, O, _, R0, q, fun xs s1 vs H1 O1 q1 R1 le1 r => ?_⟩
  refine ⟨by rw [r.length]; exact G.len _ _ _ _ q1, xs, s1, O1, fun b => OwnS σ ρ b ∨ N.X0 b, P, _, R1.amb, fun b z => ?_, r, q1, fun d s2 v H2 O2 p at2 kp rd => ?_, fun er s2 cls dd H2 O2 w at2 kp ea => ?_⟩
  · refine ⟨R1.dom (.inr z), ?_⟩
    rcases z with z | z
    · exact (R1.new b z).2
    · obtain ⟨⟨o, e⟩, n⟩ := R1.xd b z
      exact (R1.keep b o e n).2
  · have C := R1.call at2 kp
    exact kk d s2 v H2 O2 p C.1 (le1.trans C.2) rd
  · exact ⟨er, ρ, s2, O2, (R1.call at2 kp).1, ea, w⟩
theorem s_raise {n : Str} {p : Pos} {C : Addr} (hn : n ∈ L) (hm : X.mg n = some (.ref C)) (q : PySem.W.excIn X.K C [Value.type "ValueError", .type "Exception", .type "BaseException", .type "object"] "ValueError.__new__" = true) (kC : PySem.W.keepIn X.K (.ref C) = true) (r1 : PySem.W.subIn X.K (.ref C) (.type "BaseException") = some true) (r2 : PySem.W.typeIn X.K (.ref C) = some (.type "type"))
    (hc : X.calm = true) (tk : Takes X (liftX A X.K N X.mg L W)) (ha : PA X (e :: es) (liftA A X.K N tL))
    (hg : Gl X n := by rfl) (hdb : (n == ("__debug__" : Str)) = false := by decide) (h1 : starEach (e :: es) X.env = (false, eval e X.env) :: starEach es X.env := by rfl) (h2 : (backTo pos (starEach es X.env)).any (·.1) = false := by rfl) :
    PS X (.Raise (some (.Call (.Name n p) (e :: es) [] pos)) none pos') (liftS A X.K N (dRaise W n tL)) :=
  s_imp (ps_raise hc tk (pmk_ownA PySem.F.excBase_ValueError q hm kC (raises_own r1 r2) hg ha hdb h1 h2)) fun D σ H ρ s O Dd R E q =>
    ⟨ρ, s, O, _, R, q, fun xs s1 vs H1 O1 ⟨hl, w⟩ R1 le1 r => ⟨by rw [r.length]; exact hl, ⟨n⟩, ρ, s1, O1, R1, ⟨hn, rfl, C, hm, rfl⟩, w⟩⟩
end
section
variable {P : Program} {w : World} {K : PySem.W.Frag} {mg : Str → Option Value} {base : Heap} {A : Amb} {L : List Str}
theorem DFnX.mk' {x qual : Str} {st : Stmt} {f : Addr} {fd : FuncData} {N ps : List Str} {k : Nat} {S : FX A} {tb : DXW A → DS A} (F : Fun K x qual st f fd) (hm : mg x = some (.ref f)) (b : Binds K fd ps []) (sc : FnScope N ps (defScope st)) (len : ∀ xs s P R, S xs s P R → xs.length = ps.length)
    (hb : ∀ (cdv : Value) (Ar : Around) (outer : List PySem.Env) (s : Shared) (H : Hp) (E : XK), Room k (Ar.deeper (PyProof.Rows.envOfC qual (defScope st) s.heap.objs.size f cdv)) → ∀ (Nt : Ent) (W : DXW A), Takes (cxOf (L2.CX P w) P w K mg base N qual (defScope st) f cdv Ar outer s H E) (liftX A K Nt mg L W) →
      PassesOwn (model P w) (cxOf (L2.CX P w) P w K mg base N qual (defScope st) f cdv Ar outer s H E).A (cxOf (L2.CX P w) P w K mg base N qual (defScope st) f cdv Ar outer s H E).env (cxOf (L2.CX P w) P w K mg base N qual (defScope st) f cdv Ar outer s H E).xe →
      PSs (cxOf (L2.CX P w) P w K mg base N qual (defScope st) f cdv Ar outer s H E) (defBody st) (liftS A K Nt (tb W)))
    (ht : ∀ ds s Q R, S ds s Q R → tb (fun e _ s' => R e s') ⟨fun _ s' => Q .none s', Q, fun _ _ => False, fun _ _ => False⟩ (startR N.length ds) s) : DFnX P w K mg base A L (k + 1) x ps S := by
  refine ⟨len, f, fd, hm, F.kp, b, F.okX sc (fun vs H Q E h => h.1) fun cdv Ar outer s H vs Q E hr h => ?_⟩
  obtain ⟨hl, ds, s0, O, Y, Pk, R, a, y, r, q, kk, kx⟩ := h
  have hn : vs.length ≤ N.length := by
    have z := congrArg List.length sc.pre
    rw [List.length_take] at z
    omega
  obtain ⟨R0, hF⟩ := Rel.start (N := N) (ps := ps) hn a y r
  have leY : ∀ {H' : Hp} {σ' : L2.St} {ρ : Rho} {O' : Addr → Prop}, Hle (fzP H' (Px ⟨H, O, Y⟩ σ' ρ O')) (fzP H' fun b => O' b ∨ Y b) := fun {H' σ' ρ O'} => fzP_mono (Hle.refl _) fun b _ _ z => by
    rcases z with z | z
    · exact .inl z
    · exact .inr (.inr z)
  have tk : Takes (cxOf (L2.CX P w) P w K mg base N qual (defScope st) f cdv Ar outer s H E) (liftX A K ⟨H, O, Y⟩ mg L fun e _ s' => R e s') :=
    (takes_of (X := cxOf (L2.CX P w) P w K mg base N qual (defScope st) f cdv Ar outer s H E) (E := E) rfl rfl rfl rfl).imp fun cls d σ H' ⟨e, ρ, s', O', R', ea, hw⟩ => kx e s' cls d H' O' hw (A.stay R'.amb leY fun _ _ => rfl) R'.keep ea
  refine ⟨_, hb cdv Ar outer s H E hr ⟨H, O, Y⟩ _ tk (passes_of rfl), _, s0, O, ⟨fun _ s' => Pk .none s', Pk, fun _ _ => False, fun _ _ => False⟩, R0, ⟨fun ρ s' σ' H' O' R' le p => ?_, fun ρ s' σ' H' O' d v R' le rd p => ?_, fun _ _ _ _ _ _ _ z => z.elim, fun _ _ _ _ _ _ _ z => z.elim⟩, ht ds s0 _ _ q⟩
  · exact kk _ s' .non H' O' p (A.stay R'.amb leY fun _ _ => rfl) R'.keep .non
  · exact kk d s' v H' O' p (A.stay R'.amb leY fun _ _ => rfl) R'.keep (rd.mono leY)
theorem DFnX.mono {k j : Nat} {x : Str} {ps : List Str} {S : FX A} (G : DFnX P w K mg base A L k x ps S) (h : k ≤ j) : DFnX P w K mg base A L j x ps S := by
  obtain ⟨l, f, fd, h1, h2, h3, h4⟩ := G
  exact ⟨l, f, fd, h1, h2, h3, h4.mono h⟩
end
end Dl
namespace Dl
open PySem L2 PySem.Spec PyProof.Rows
section
variable {A : Amb} {K : PySem.W.Frag} {N : Ent} {s s' : A.S} {σ σ' : L2.St} {H H' : Hp} {ρ ρ' : Rho} {O O' : Addr → Prop}
theorem Rel.setUn (R : Rel A K N s σ H ρ O) {i : Nat} : Rel A K N s (σ.set i none) H (ρ.set i .un) O ∧ Hle (fzP H (Px N σ ρ O)) (fzP H (Px N (σ.set i none) (ρ.set i .un) O)) := by
  have nc : ¬ Cell.own .un := fun z => z
  have own : ∀ b, OwnS (σ.set i none) (ρ.set i .un) b → ∃ (j : Nat) (c' : Cell), j ≠ i ∧ ρ[j]? = some c' ∧ c'.own ∧ σ[j]? = some (some (.ref b)) := fun b ⟨j, c', e1, o, e2⟩ => by
    rcases set_get e1 with ⟨_, rfl⟩ | ⟨n, e1⟩
    · exact (nc o).elim
    · rcases set_get e2 with ⟨z, _⟩ | ⟨_, e2⟩
      · exact (n z).elim
      · exact ⟨j, c', n, e1, o, e2⟩
  have sub : ∀ b, Px N (σ.set i none) (ρ.set i .un) O b → Px N σ ρ O b := fun b z => by
    rcases z with z | z | z
    · exact .inl z
    · obtain ⟨j, c', _, e1, o, e2⟩ := own b z
      exact .inr (.inl ⟨j, c', e1, o, e2⟩)
    · exact .inr (.inr z)
  have le : Hle (fzP H (Px N σ ρ O)) (fzP H (Px N (σ.set i none) (ρ.set i .un) O)) := fzP_mono (Hle.refl _) fun b _ _ z => sub b z
  refine ⟨⟨A.stay R.amb le fun _ _ => rfl, R.keep, R.xd, by rw [List.length_set, List.length_set]; exact R.len, fun j v' c' e1 e2 => ?_, fun b z => ?_, fun j l c1 c2 b e1 o1 e2 o2 e3 e4 => ?_⟩, le⟩
  · rcases set_get e2 with ⟨_, rfl⟩ | ⟨n, e2⟩
    · trivial
    · rcases set_get e1 with ⟨z, _⟩ | ⟨_, e1⟩
      · exact (n z).elim
      · exact (R.cell j v' c' e1 e2).mono le fun _ _ _ => rfl
  · obtain ⟨j, c', _, e1, o, e2⟩ := own b z
    exact R.new b ⟨j, c', e1, o, e2⟩
  · rcases set_get e1 with ⟨_, rfl⟩ | ⟨n1, e1⟩
    · exact (nc o1).elim
    · rcases set_get e2 with ⟨_, rfl⟩ | ⟨n2, e2⟩
      · exact (nc o2).elim
      · rcases set_get e3 with ⟨z, _⟩ | ⟨_, e3⟩
        · exact (n1 z).elim
        · rcases set_get e4 with ⟨z, _⟩ | ⟨_, e4⟩
          · exact (n2 z).elim
          · exact R.inj j l c1 c2 b e1 o1 e2 o2 e3 e4
def Ent.mid (N : Ent) (H : Hp) (σ : L2.St) (ρ : Rho) (O : Addr → Prop) : Ent := ⟨H, fun b => O b ∨ OwnS σ ρ b, N.X0⟩
theorem Rel.into (R : Rel A K N s σ H ρ O) : Rel A K (N.mid H σ ρ O) s σ H ρ O :=
  ⟨R.amb, fun b o e n => ⟨e, fun z => n (.inl z)⟩, fun b z => by
    obtain ⟨⟨o, e⟩, n⟩ := R.xd b z
    obtain ⟨e', n'⟩ := R.keep b o e n
    exact ⟨⟨o, e'⟩, fun y => y.elim n' fun y => n ((R.new b y).1 o e)⟩, R.len, R.cell, fun b z => ⟨fun _ _ => .inr z, (R.new b z).2⟩, R.inj⟩
theorem Rel.outof (R : Rel A K N s σ H ρ O) (R' : Rel A K (N.mid H σ ρ O) s' σ' H' ρ' O') : Rel A K N s' σ' H' ρ' O' ∧ Hle (fzP H (Px N σ ρ O)) (fzP H' (Px N σ' ρ' O')) := by
  refine ⟨⟨R'.amb, fun b o e n => ?_, R.xd, R'.len, R'.cell, fun b z => ⟨fun o e => ?_, (R'.new b z).2⟩, R'.inj⟩, fun b o e => ?_⟩
  · obtain ⟨e1, n1⟩ := R.keep b o e n
    exact R'.keep b o e1 fun y => y.elim n1 fun y => n ((R.new b y).1 o e)
  · refine Classical.byContradiction fun n => ?_
    obtain ⟨e1, n1⟩ := R.keep b o e n
    exact ((R'.new b z).1 o e1).elim n1 fun y => n ((R.new b y).1 o e)
  · obtain ⟨n, e⟩ := fzP_some.mp e
    have nO : ¬ (O b ∨ OwnS σ ρ b) := fun y => y.elim (fun y => n (.inl y)) fun y => n (.inr (.inl y))
    obtain ⟨e', n'⟩ := R'.keep b o e nO
    refine fzP_of (fun z => ?_) e'
    rcases z with z | z | z
    · exact n' z
    · exact nO ((R'.new b z).1 o e)
    · exact n (.inr (.inr z))
end
def dTry {A : Amb} (W : DXW A) (C : Str) (tb : DXW A → DS A) (i : Nat) (ts : Er → Addr → DS A) : DS A := fun D ρ s =>
  tb (fun e ρ' s' => if subE e.cls C = true then ∀ a : Addr, ts e a ⟨fun ρ s => D.nx (ρ.set i .un) s, D.rt, fun ρ s => D.bk (ρ.set i .un) s, fun ρ s => D.ct (ρ.set i .un) s⟩ (ρ'.set i (.fz (refD a))) s' else W e ρ' s') D ρ s
section
variable {A : Amb} {X : Cx} {N : Ent} {L : List Str} {W : DXW A} {x n : Str} {i : Nat} {body suite : List Stmt} {b₀ : Stmt} {np pos pos' : Pos} {tb : DXW A → DS A}
theorem s_try {C : Addr} {ts : Er → Addr → DS A} (T : ExT X.K X.mg L) (hx : x ∈ L) (hm : X.mg x = some (.ref C)) (hs : X.stack = X.env :: X.outer) (hf : X.env.frame = some X.env.locals) (hN : X.N.Nodup) (hi : X.N[i]? = some n) (hln : X.env.kindOf n = some .local) (hg : Gl X x) (tk : Takes X (liftX A X.K N X.mg L W))
    (hb : ∀ (N' : Ent) (Wd : DXW A) (pn : List (Addr × Obj)) (xe : Value → Shared → Prop), Takes (X.tr pn xe) (liftX A X.K N' X.mg L Wd) → PassesOwn (model X.prog X.w) X.A X.env xe → PSs (X.tr pn xe) body (liftS A X.K N' (tb Wd)))
    (hsu : ∀ (e : Er) (a : Addr) (oe : Obj) (D : Addr) (pn : List (Addr × Obj)), e.cls ∈ L → X.mg e.cls = some (.ref D) → Zc (.ref D) none oe → (∃ vs, oe.data = .fields vs) → PSs (X.suite a ((a, oe) :: pn)) (b₀ :: suite) (liftS A X.K N (ts e a)))
    (hdb : (x == ("__debug__" : Str)) = false := by decide) :
    PS X (.Try body [.ExceptHandler (some (.Name x np)) (some n) (b₀ :: suite) pos'] [] [] pos) (liftS A X.K N (dTry W x tb i ts)) := by
  refine s_imp (ps_try_as (c := .ref C) (i := i) (tb := fun Wx D σ H => ∃ (N' : Ent) (Wd : DXW A), (∀ cls d σ H, liftX A X.K N' X.mg L Wd cls d σ H → Wx cls d σ H) ∧ liftS A X.K N' (tb Wd) D σ H)
    (ts := fun a cls d D σ H => ∃ e : Er, ErAt X.mg L e cls d ∧ liftS A X.K N (ts e a) D σ H) hs hf hN hi hln ⟨hg, hdb, .inl hm⟩ tk
    (fun Wx pn xe tkx ps => ⟨fun pins s σ H D I ⟨N', Wd, imp, q⟩ => (hb N' Wd pn xe (tkx.imp imp) ps).run pins s σ H D I q⟩)
    (fun a oe cls d pn hz hd => ⟨fun pins s σ H D I ⟨e, ⟨h1, h2, B, h3, h4⟩, q⟩ => by
      subst h2 h4
      exact (hsu e a oe B pn h1 h3 hz hd).run pins s σ H D I q⟩)) fun D σ H ρ s O Dd R E q => ?_
  refine ⟨N.mid H σ ρ O, (fun e ρ' s' => if subE e.cls x = true then ∀ a : Addr, ts e a ⟨fun ρ s => Dd.nx (ρ.set i .un) s, Dd.rt, fun ρ s => Dd.bk (ρ.set i .un) s, fun ρ s => Dd.ct (ρ.set i .un) s⟩ (ρ'.set i (.fz (refD a))) s' else W e ρ' s'), ?_, ρ, s, O, Dd, R.into, ?_, q⟩
  · rintro cls d σ' H' ⟨e, ρ', s', O', R', ea, w⟩
    obtain ⟨R2, le2⟩ := R.outof R'
    obtain ⟨h1, h2, B, h3, h4⟩ := ea
    subst h2 h4
    refine ⟨subE e.cls x, (T.mat _ h1 _ hx B C h3 hm).1, fun hy a ha => ?_, fun hn => ?_⟩
    · rw [if_pos hy] at w
      obtain ⟨R3, le3⟩ := R2.setFz (i := i) (v := .ref a) (c := .fz (refD a)) (fun z => z) ⟨_, rfl, .obj a⟩
      refine ⟨e, ⟨h1, rfl, B, h3, rfl⟩, _, s', O', _, R3, ?_, w a⟩
      have E3 := E.up (le2.trans le3)
      exact ⟨fun ρ s σ H O R le z => E3.nx _ s _ H O R.setUn.1 (le.trans R.setUn.2) z, E3.rt, fun ρ s σ H O R le z => E3.bk _ s _ H O R.setUn.1 (le.trans R.setUn.2) z, fun ρ s σ H O R le z => E3.ct _ s _ H O R.setUn.1 (le.trans R.setUn.2) z⟩
    · rw [if_neg (by rw [hn]; exact Bool.false_ne_true)] at w
      exact ⟨e, ρ', s', O', R2, ⟨h1, rfl, B, h3, rfl⟩, w⟩
  · exact ⟨fun ρ' s' σ' H' O' R' le z => E.nx ρ' s' σ' H' O' (R.outof R').1 le z, fun ρ' s' σ' H' O' d v R' le => E.rt ρ' s' σ' H' O' d v (R.outof R').1 le, fun ρ' s' σ' H' O' R' le z => E.bk ρ' s' σ' H' O' (R.outof R').1 le z, fun ρ' s' σ' H' O' R' le z => E.ct ρ' s' σ' H' O' (R.outof R').1 le z⟩
end
end Dl
namespace Dl
open PySem L2 PySem.Spec PyProof.Rows
def dIsE {A : Amb} (a : Addr) (i : Nat) (m : Str) (e : Er) : DE A := fun ρ s Q => ρ[i]? = some (.fz (refD a)) ∧ Q (.bool (subE e.cls m)) s
@[simp] theorem q_dIsE {A : Amb} {a : Addr} {i : Nat} {m : Str} {e : Er} {ρ : Rho} {s : A.S} {Q : D → A.S → Prop} : dIsE a i m e ρ s Q = (ρ[i]? = some (.fz (refD a)) ∧ Q (.bool (subE e.cls m)) s) := rfl
section
variable {A : Amb} {X : Cx} {N : Ent} {L : List Str} {m n : Str} {i : Nat} {e : Er} {a D C : Addr} {oe : Obj} {pn : List (Addr × Obj)} {p p1 p2 pos : Pos}
theorem e_isE (T : ExT X.K X.mg L) (he : e.cls ∈ L) (hd : X.mg e.cls = some (.ref D)) (hz : Zc (.ref D) none oe) (hf : ∃ vs, oe.data = .fields vs) (hm : m ∈ L) (hC : X.mg m = some (.ref C)) (hi : X.mg "isinstance" = none) (hv : PE (X.suite a ((a, oe) :: pn)) (.Name n p1) (tVar i))
    (hg : Gl X "isinstance" := by rfl) (hg2 : Gl X m := by rfl) (hdb : (m == ("__debug__" : Str)) = false := by decide)
    (h1 : starEach [.Name n p1, .Name m p2] X.env = (false, eval (.Name n p1) X.env) :: starEach [.Name m p2] X.env := by rfl) (h2 : (backTo pos (starEach [.Name m p2] X.env)).any (·.1) = false := by rfl) (h3 : starEach [.Name m p2] X.env = (false, eval (.Name m p2) X.env) :: starEach [] X.env := by rfl) :
    PE (X.suite a ((a, oe) :: pn)) (.Call (.Name "isinstance" p) [.Name n p1, .Name m p2] [] pos) (liftE A X.K N (dIsE a i m e)) := by
  obtain ⟨D', hD', ec, _⟩ := T.adr _ he
  rw [hd] at hD'
  cases hD'
  refine PE.imp (pe_callB (X := X.suite a ((a, oe) :: pn)) (call_isE ec hz hf) hg hi (by decide +kernel) (pa_cons hv (pa_cons (pe_glob (v := .ref C) hg2 hC rfl hdb) pa_nil h3) h1) (by decide) (by decide) h1 h2) fun σ H Q ⟨ρ, s, O, P, R, ⟨hs, q⟩, k⟩ => ?_
  obtain ⟨w, e1, z, rfl, rz⟩ := R.slot hs
  obtain rfl := rz.ref_of
  exact ⟨_, e1, _, .ref C, _, rfl, fun u r => by cases r; rfl, (T.mat _ he _ hm D C hd hC).2, k _ s _ H O q R (Hle.refl _) (.bl _)⟩
theorem e_isV (T : ExT X.K X.mg L) (he : e.cls ∈ L) (hd : X.mg e.cls = some (.ref D)) (hz : Zc (.ref D) none oe) (hf : ∃ vs, oe.data = .fields vs) (hC : X.mg "ValueError" = none) (hi : X.mg "isinstance" = none) (hv : PE (X.suite a ((a, oe) :: pn)) (.Name n p1) (tVar i))
    (hg : Gl X "isinstance" := by rfl) (hg2 : Gl X "ValueError" := by rfl)
    (h1 : starEach [.Name n p1, .Name "ValueError" p2] X.env = (false, eval (.Name n p1) X.env) :: starEach [.Name "ValueError" p2] X.env := by rfl) (h2 : (backTo pos (starEach [.Name "ValueError" p2] X.env)).any (·.1) = false := by rfl) (h3 : starEach [.Name "ValueError" p2] X.env = (false, eval (.Name "ValueError" p2) X.env) :: starEach [] X.env := by rfl) :
    PE (X.suite a ((a, oe) :: pn)) (.Call (.Name "isinstance" p) [.Name n p1, .Name "ValueError" p2] [] pos) (liftE A X.K N (dIsE a i "ValueError" e)) := by
  obtain ⟨D', hD', ec, _⟩ := T.adr _ he
  rw [hd] at hD'
  cases hD'
  refine PE.imp (pe_callB (X := X.suite a ((a, oe) :: pn)) (call_isE ec hz hf) hg hi (by decide +kernel) (pa_cons hv (pa_cons (pe_bltn (v := .ty "ValueError") hg2 hC (by decide +kernel) rfl (by decide) (by decide)) pa_nil h3) h1) (by decide) (by decide) h1 h2) fun σ H Q ⟨ρ, s, O, P, R, ⟨hs, q⟩, k⟩ => ?_
  obtain ⟨w, e1, z, rfl, rz⟩ := R.slot hs
  obtain rfl := rz.ref_of
  have es : subE e.cls "ValueError" = true := by
    unfold subE
    simp
  refine ⟨_, e1, _, .type "ValueError", true, rfl, fun u r => by cases r; rfl, T.vle _ he D hd, ?_⟩
  rw [es] at q
  exact k _ s _ H O q R (Hle.refl _) (.bl _)
end
end Dl
namespace Dl
open PySem L2
theorem units65 {k : Nat} {A : Around} (h : Room k A) : A.units + 65 < cLine := by
  have := h.un
  omega
theorem _root_.L2.Room.units65 {k : Nat} {A : Around} (h : Room k A) : A.units + 65 < cLine := Dl.units65 h
def seqOf : D → Option (List D)
  | .list ds => some ds
  | .tuple ds => some ds
  | _ => none
def anyEq (x : D) (ds : List D) : Bool := ds.any fun y => PyData.eqv y x
def inOk (x : D) (ds : List D) : Prop := PyData.canLayAll0 ds = true ∧ x.canLay0 = true ∧ x.depth ≤ 60
def rInS (K : PySem.W.Frag) (neg : Bool) : R2 := fun x y H Q => ∃ d e ds, Dp K H x d ∧ Dp K H y e ∧ seqOf e = some ds ∧ inOk d ds ∧ Q (.bl (if neg then !anyEq d ds else anyEq d ds)) H
section
variable {X : Cx}
theorem op_inS1 (hu : X.A.units + 65 < cLine) : OpR X (compareOp .In) (rInS X.K false) := by
  intro pins s σ H x y v u Q I rx ry h
  obtain ⟨d, e, ds, hd, he, hs, ⟨h1, h2, h3⟩, q⟩ := h
  obtain ⟨as, r1⟩ := Dp.reads I d x v hd rx
  obtain ⟨bs, r2⟩ := Dp.reads I e y u he ry
  cases e with
  | list es => cases hs; exact SeqAt.in_list_reads r2 r1 h1 h2 (by omega) ⟨.bl _, H, I, rfl, q⟩
  | tuple es => cases hs; exact SeqAt.in_tuple_reads r2 r1 h1 h2 (by omega) ⟨.bl _, H, I, rfl, q⟩
  | _ => cases hs
theorem op_notInS1 (hu : X.A.units + 65 < cLine) : OpR X (compareOp .NotIn) (rInS X.K true) := by
  intro pins s σ H x y v u Q I rx ry h
  obtain ⟨d, e, ds, hd, he, hs, ⟨h1, h2, h3⟩, q⟩ := h
  obtain ⟨as, r1⟩ := Dp.reads I d x v hd rx
  obtain ⟨bs, r2⟩ := Dp.reads I e y u he ry
  cases e with
  | list es => cases hs; exact SeqAt.notIn_list_reads r2 r1 h1 h2 (by omega) ⟨.bl _, H, I, rfl, q⟩
  | tuple es => cases hs; exact SeqAt.notIn_tuple_reads r2 r1 h1 h2 (by omega) ⟨.bl _, H, I, rfl, q⟩
  | _ => cases hs
def fInG (neg : Bool) : F2 := fun x y k => match y with
  | .list ds => inOk x ds ∧ k (.bool (if neg then !anyEq x ds else anyEq x ds))
  | .tuple ds => inOk x ds ∧ k (.bool (if neg then !anyEq x ds else anyEq x ds))
  | .str z => ∃ c : Nat, x = .str ⟨#[c]⟩ ∧ k (.bool (if neg then !decide (c ∈ z.cps.toList) else decide (c ∈ z.cps.toList)))
  | _ => False
abbrev fIn := fInG false
abbrev fNotIn := fInG true
def rInA (K : PySem.W.Frag) (neg : Bool) : R2 := fun x y H Q => rInS K neg x y H Q ∨ ∃ (c : Nat) (z : Str), x = .str ⟨#[c]⟩ ∧ y = .str z ∧ Q (.bl (if neg then !decide (c ∈ z.cps.toList) else decide (c ∈ z.cps.toList))) H
theorem op_inA (hu : X.A.units + 65 < cLine) : OpR X (compareOp .In) (rInA X.K false) := (op_inS1 hu).or op_in_sign
theorem op_notInA (hu : X.A.units + 65 < cLine) : OpR X (compareOp .NotIn) (rInA X.K true) := (op_notInS1 hu).or op_notIn_sign
theorem dr_inG {neg : Bool} : DR2 X.K (rInA X.K neg) (fInG neg) := fun H P x y dx dy k Q dm bx by_ f kk => by
  unfold fInG at f
  split at f
  · obtain ⟨ok, q⟩ := f
    exact .inl ⟨_, _, _, bx.dp fzP_le ok.2.1, by_.dp fzP_le (by simpa [PyData.canLay0] using ok.1), rfl, ok, kk _ H _ (Same.refl _) (.bl _) q⟩
  · obtain ⟨ok, q⟩ := f
    exact .inl ⟨_, _, _, bx.dp fzP_le ok.2.1, by_.dp fzP_le (by simpa [PyData.canLay0] using ok.1), rfl, ok, kk _ H _ (Same.refl _) (.bl _) q⟩
  · obtain ⟨c, rfl, q⟩ := f
    exact .inr ⟨c, _, bx.str, by_.str, kk _ H _ (Same.refl _) (.bl _) q⟩
  · exact f.elim
def rRepM (K : PySem.W.Frag) : R2 := fun x y H Q => ∃ (b : Addr) (j : Int) (ws : List V), x = .ref b ∧ y = .int j ∧ SqT K H b ws ∧ ws ≠ [] ∧ 2 ≤ j ∧ ws.length * j.toNat ≤ 1000000 ∧
  NewT Q H (List.replicate j.toNat ws).flatten
theorem op_repM : OpR X (binaryOp .Mult) (rRepM X.K) := by
  intro pins sh st Hh x y vx vy Qq Iv rx ry hyp
  obtain ⟨b, j, ws, rfl, rfl, hw, hne, h2, hz, fin⟩ := hyp
  cases rx
  obtain ⟨tk, rfl⟩ := ry
  obtain ⟨us, rel, ⟨⟨cl, dc, dat, slt⟩, hob, hcl, k, hda⟩, _⟩ := Iv.tuple hw
  simp only at hcl hda
  subst hcl hda
  have len : us.length = ws.length := rel.length.symm
  have ne : us ≠ [] := fun z => hne (List.eq_nil_of_length_eq_zero (by rw [← len, z]; rfl))
  have emp : us.toArray.isEmpty = false := by
    cases us with
    | nil => exact absurd rfl ne
    | cons u r => rfl
  have sz : us.toArray.size = ws.length := by rw [List.size_toArray, len]
  have ej : ((j.toNat : Nat) : Int) = j := by omega
  have prod : ((us.toArray.size : Nat) : Int) * j ≤ 1000000 := by
    have z : ((ws.length * j.toNat : Nat) : Int) ≤ 1000000 := by omega
    rw [Int.natCast_mul, ej] at z
    rw [sz]
    exact z
  have pj : 1 ≤ ws.length := List.length_pos_iff.mpr hne
  have jl : j.toNat ≤ 1000000 := Nat.le_trans (Nat.le_mul_of_pos_left _ pj) hz
  have all : (List.replicate j.toNat us).flatten.length ≤ sizeLine := by
    rw [PyProof.Rows.lm_len_rep_flat, len, sizeLine_eq, Nat.mul_comm]
    omega
  have all2 : (List.replicate j.toNat ws).flatten.length ≤ sizeLine := by
    rw [PyProof.Rows.lm_len_rep_flat, sizeLine_eq, Nat.mul_comm]
    omega
  have k0 : (decide (j < -(2 ^ 63)) || decide (j ≥ 2 ^ 63)) = false := by
    rw [decide_eq_false (by omega : ¬ j < -(2 ^ 63)), decide_eq_false (by omega : ¬ j ≥ 2 ^ 63)]
    rfl
  have k1 : (us.toArray.isEmpty || j == 1) = false := by
    rw [emp]
    exact beq_eq_false_iff_ne.mpr (by omega)
  have k2 : (decide (j ≤ 0) || us.toArray.isEmpty) = false := by
    rw [emp, decide_eq_false (by omega : ¬ j ≤ 0)]
    rfl
  have k4 : Builtin.Tuple.tupleTooMany (((us.toArray.size : Nat) : Int) * j) = false := by
    unfold Builtin.Tuple.tupleTooMany
    rw [sizeLine_eq, decide_eq_false_iff_not]
    omega
  have mul := tuple_mulW b us.toArray k dc slt j tk k0 k1 k2 (by omega) k4 (by rw [size_rep, List.size_toArray]; exact all)
  have rmul := int_rmul_tuple j tk b us.toArray k dc slt
  have done : wpAny (model X.prog X.w) X.A (PySem.call (.builtin "tuple.__mul__") [.ref b, .int j tk]) (EP X pins st Qq) X.xe sh :=
    call_meets PySem.F.slot_tuple_mul ⟨_, hob, rfl⟩ PySem.F.entry_tuple_mul (PySem.F.args_tuple_mul_2 _ _) mul ⟨hob, by
      rw [size_rep]
      exact laidT Iv (rel.rep j.toNat) all2 fin⟩
  refine wpAny_binaryOp_repeat_ref (T := "tuple") (U := "int") (by decide) ⟨_, hob, rfl⟩ (fun z => typeIs_int z j tk) noFill_tuple_mul PySem.F.fills_int_mul PySem.F.slot_int_rmul repeat_tuple PySem.F.slot_int_index.lookup ?_
  exact call_meets PySem.F.slot_int_rmul (typeIs_int sh j tk) PySem.F.entry_int_rmul (PySem.F.args_int_rmul_2 _ _) rmul ⟨hob, rfl, ⟨_, hob, rfl⟩, done⟩
open PySem.Spec PyProof.Rows in
theorem tuple_mul1 (l : Addr) (items : Array Value) (n : Nat) (dd : Option Addr) (sl : Array (Option Value)) (x : Int) (u : Tok) (c0 : (decide (x < -(2 ^ 63)) || decide (x ≥ 2 ^ 63)) = false) (c1 : (items.isEmpty || x == 1) = true) :
    Meets (Builtin.«tuple.__mul__» ⟨[.ref l, .int x u], []⟩) (fun _ R s => s.heap.get? l = some { cls := .type "tuple", dict := dd, data := .seq items n, slots := sl } ∧ R (.ok (.ret (Value.ref l))) s) :=
  .of_wp fun prog w A R s h => by
    obtain ⟨hp, g, d, tk, os⟩ := s
    obtain ⟨hl, h⟩ := h
    have f1 := AutoSeq1.idx_int
    wp_walk using wpAny_loadPart' hl
    refine wpAny_ite_false (decide_eq_false (by rw [c0]; exact Bool.false_ne_true)) ?_
    wp_walk using wpAny_loadPart' hl
    exact ⟨_, rfl, h⟩
def rRep1 (K : PySem.W.Frag) : R2 := fun x y H Q => ∃ (b : Addr) (ws : List V), x = .ref b ∧ y = .int 1 ∧ SqT K H b ws ∧ Q (.ref b) H
theorem op_rep1 : OpR X (binaryOp .Mult) (rRep1 X.K) := by
  intro pins sh st Hh x y vx vy Qq Iv rx ry hyp
  obtain ⟨b, ws, rfl, rfl, hw, fin⟩ := hyp
  cases rx
  obtain ⟨tk, rfl⟩ := ry
  obtain ⟨us, rel, ⟨⟨cl, dc, dat, slt⟩, hob, hcl, k, hda⟩, _⟩ := Iv.tuple hw
  simp only at hcl hda
  subst hcl hda
  have mul := tuple_mul1 b us.toArray k dc slt 1 tk (by decide) (by simp)
  have rmul := int_rmul_tuple 1 tk b us.toArray k dc slt
  have done : wpAny (model X.prog X.w) X.A (PySem.call (.builtin "tuple.__mul__") [.ref b, .int 1 tk]) (EP X pins st Qq) X.xe sh :=
    call_meets PySem.F.slot_tuple_mul ⟨_, hob, rfl⟩ PySem.F.entry_tuple_mul (PySem.F.args_tuple_mul_2 _ _) mul ⟨hob, ⟨.ref b, Hh, Iv, rfl, fin⟩⟩
  refine wpAny_binaryOp_repeat_ref (T := "tuple") (U := "int") (by decide) ⟨_, hob, rfl⟩ (fun z => typeIs_int z 1 tk) noFill_tuple_mul PySem.F.fills_int_mul PySem.F.slot_int_rmul repeat_tuple PySem.F.slot_int_index.lookup ?_
  exact call_meets PySem.F.slot_int_rmul (typeIs_int sh 1 tk) PySem.F.entry_int_rmul (PySem.F.args_int_rmul_2 _ _) rmul ⟨hob, rfl, ⟨_, hob, rfl⟩, done⟩
def fMul : F2 := fun x y k => match x, y with
  | .int i, .int j => CMul i j ∧ k (.int (i * j))
  | .list ds, .int j => -(2 ^ 63) ≤ j ∧ j < 2 ^ 63 ∧ ds.length * j.toNat ≤ sizeLine ∧ k (.list (List.replicate j.toNat ds).flatten)
  | .tuple ds, .int j => ds ≠ [] ∧ 1 ≤ j ∧ ds.length * j.toNat ≤ 1000000 ∧ k (.tuple (List.replicate j.toNat ds).flatten)
  | _, _ => False
def rMulU (K : PySem.W.Frag) : R2 := fun x y H Q => rI CMul (fun i j => V.int (i * j)) x y H Q ∨ (rRep x y H Q ∨ (rRepM K x y H Q ∨ rRep1 K x y H Q))
theorem op_mulU : OpR X (binaryOp .Mult) (rMulU X.K) := op_mul.or (op_rep.or (op_repM.or op_rep1))
theorem dr_mulU : DR2 X.K (rMulU X.K) fMul := fun H P x y dx dy k Q dm bx by_ f kk => by
  unfold fMul at f
  split at f
  · exact .inl ⟨_, _, bx.int, by_.int, f.1, kk _ H _ (Same.refl _) (.int _) f.2⟩
  · obtain ⟨a, vs, rfl, s1, r1⟩ := bx.list fzP_le
    obtain ⟨h1, h2, h3, q⟩ := f
    refine .inr (.inl ⟨a, _, vs, rfl, by_.int, s1, h1, h2, by rw [r1.length]; exact h3, fun p hp => ?_⟩)
    obtain ⟨n1, n2⟩ := new_fz dm (o := .lst (List.replicate _ vs).flatten) hp
    exact kk _ _ _ (same_upd hp) (.lst n1 ((r1.rep _).mono n2)) q
  · next ds j =>
    obtain ⟨a, vs, rfl, s0, s1, r1⟩ := bx.tup fzP_le
    obtain ⟨h0, h1, h3, q⟩ := f
    by_cases hj : j = 1
    · subst hj
      refine .inr (.inr (.inr ⟨a, vs, rfl, by_.int, s1, kk _ H _ (Same.refl _) (.tup s0 r1) ?_⟩))
      simpa using q
    refine .inr (.inr (.inl ⟨a, _, vs, rfl, by_.int, s1, fun z => h0 (r1.nil_iff.mp z), by omega, by rw [r1.length]; exact h3, (List.replicate j.toNat ds).flatten, fun p o hp ho => ?_⟩))
    obtain ⟨n1, n2⟩ := new_fz dm (o := o) hp
    exact kk _ _ _ (same_upd hp) (.tup ⟨o, ho, n1⟩ ((r1.rep _).mono n2)) q
  · exact f.elim
end
end Dl
namespace Dl
open PySem L2
def bK (x : D) (P1 P2 : Prop) : Prop := match x with
  | .bool b => if b = true then P1 else P2
  | _ => False
@[simp] theorem bK_bool {b : Bool} {P1 P2 : Prop} : bK (.bool b) P1 P2 = if b = true then P1 else P2 := rfl
def bV (x : D) (k : Bool → Prop) : Prop := match x with
  | .bool b => k b
  | _ => False
@[simp] theorem bV_bool {b : Bool} {k : Bool → Prop} : bV (.bool b) k = k b := rfl
section
variable {A : Amb} {ρ : Rho} {s : A.S} {Q : D → A.S → Prop} {QT : Bool → A.S → Prop} {QA : List D → A.S → Prop} {D0 : DEnds A} {a b c : DE A} {tc t1 t2 : DT A} {t u : DS A} {al : DA A} {f g : F2} {f1 : F1} {fn : FN} {i : Nat} {d : D} {S0 : FS A} {dg : DG A} {dgs : DGs A} {k : Rho → A.S → Prop} {tn : DC A} {QC : Cell → A.S → Prop} {gg : D → D → (Cell → Prop) → Prop} {gn : List D → (Cell → Prop) → Prop}
@[simp] theorem q_dC : dC d ρ s Q = Q d s := rfl
def atF (c : Option Cell) (k : D → Prop) : Prop := match c with
  | some (.fz d) => k d
  | _ => False
@[simp] theorem atF_fz {k : D → Prop} : atF (some (.fz d)) k = k d := rfl
@[simp] theorem q_dVar : dVar i ρ s Q = atF ρ[i]? fun d => Q d s := by
  unfold dVar
  generalize ρ[i]? = c
  cases c with
  | none => rfl
  | some c => cases c <;> rfl
def atB (c : Option Cell) (k : D → Prop) : Prop := match c with
  | some (.fz d) => k d
  | some (.ol ds) => k (.list ds)
  | some (.dk kvs) => k (Cell.data (.dk kvs))
  | some (.dt kvs) => k (Cell.data (.dt kvs))
  | _ => False
@[simp] theorem atB_fz {k : D → Prop} : atB (some (.fz d)) k = k d := rfl
@[simp] theorem atB_ol {k : D → Prop} {ds : List D} : atB (some (.ol ds)) k = k (.list ds) := rfl
@[simp] theorem q_dVarB : dVarB i ρ s Q = atB ρ[i]? fun d => Q d s := by
  unfold dVarB
  generalize ρ[i]? = c
  cases c with
  | none => rfl
  | some c => cases c <;> rfl
@[simp] theorem q_dOp : dOp f a b ρ s Q = a ρ s fun x s1 => b ρ s1 fun y s2 => f x y fun z => Q z s2 := rfl
@[simp] theorem q_dUn : dUn f1 a ρ s Q = a ρ s fun x s1 => f1 x fun z => Q z s1 := rfl
@[simp] theorem q_dAnd : dAnd a b ρ s Q = a ρ s fun x s1 => bK x (b ρ s1 Q) (Q (.bool false) s1) := by
  unfold dAnd bK
  congr 1
  funext x s1
  cases x with
  | bool b => cases b <;> simp
  | _ => rfl
@[simp] theorem q_dNot : dNot a ρ s Q = a ρ s fun x s1 => bV x fun b => Q (.bool (!b)) s1 := rfl
@[simp] theorem q_dIf : dIf tc a b ρ s Q = tc ρ s fun k s1 => if k = true then a ρ s1 Q else b ρ s1 Q := by
  unfold dIf
  congr 1
  funext x s1
  cases x <;> simp
@[simp] theorem q_dTest : dTest a ρ s QT = a ρ s fun x s1 => bV x fun b => QT b s1 := rfl
@[simp] theorem q_dAndT : dAndT t1 t2 ρ s QT = t1 ρ s fun k s1 => if k = true then t2 ρ s1 QT else QT false s1 := by
  unfold dAndT
  congr 1
  funext x s1
  cases x <;> simp
@[simp] theorem q_dOrT : dOrT t1 t2 ρ s QT = t1 ρ s fun k s1 => if k = true then QT true s1 else t2 ρ s1 QT := by
  unfold dOrT
  congr 1
  funext x s1
  cases x <;> simp
@[simp] theorem q_dNotT : dNotT tc ρ s QT = tc ρ s fun k s1 => QT (!k) s1 := rfl
@[simp] theorem q_dYes : dYes ρ s QT = QT true s := rfl
@[simp] theorem q_dNil : dNil ρ s QA = QA [] s := rfl
@[simp] theorem q_dCons : dCons a al ρ s QA = a ρ s fun x s1 => al ρ s1 fun xs s2 => QA (x :: xs) s2 := rfl
@[simp] theorem q_dTup : dTup al ρ s Q = al ρ s fun xs s1 => xs.length ≤ sizeLine ∧ Q (.tuple xs) s1 := rfl
@[simp] theorem q_dLst : dLst al ρ s Q = al ρ s fun xs s1 => xs.length ≤ sizeLine ∧ Q (.list xs) s1 := rfl
@[simp] theorem q_dFn : dFn fn al ρ s Q = al ρ s fun xs s1 => fn xs fun z => Q z s1 := rfl
@[simp] theorem q_dChain : dChain f g a b c ρ s Q = a ρ s fun x s1 => b ρ s1 fun y s2 => f x y fun z => bK z (c ρ s2 fun w s3 => g y w fun z => Q z s3) (Q (.bool false) s2) := by
  unfold dChain bK
  congr 1
  funext x s1
  congr 1
  funext y s2
  congr 1
  funext z
  cases z with
  | bool b => cases b <;> simp
  | _ => rfl
@[simp] theorem q_dCall : dCall S0 al ρ s Q = al ρ s fun xs s1 => S0 xs s1 Q := rfl
@[simp] theorem q_dNx : dNx D0 ρ s = D0.nx ρ s := rfl
@[simp] theorem q_dSeq : dSeq t u D0 ρ s = t ⟨fun ρ s => u D0 ρ s, D0.rt, D0.bk, D0.ct⟩ ρ s := rfl
@[simp] theorem q_dRet : dRet a D0 ρ s = a ρ s D0.rt := rfl
@[simp] theorem q_dIfS : dIfS tc t u D0 ρ s = tc ρ s fun b s' => if b = true then t D0 ρ s' else u D0 ρ s' := by
  unfold dIfS
  congr 1
  funext x s1
  cases x <;> simp
@[simp] theorem q_dgN : (dgN i : DG A) d ρ s k = k (ρ.set i (.fz d)) s := rfl
@[simp] theorem q_dAsg : dAsg a dg D0 ρ s = a ρ s fun d s' => dg d ρ s' D0.nx := rfl
@[simp] theorem q_dOfN : dOfN tn ρ s Q = tn ρ s fun c s' => Q c.data s' := rfl
@[simp] theorem q_dSetN : dSetN i tn D0 ρ s = tn ρ s fun c s' => D0.nx (ρ.set i c) s' := rfl
@[simp] theorem q_ol {ds : List D} : Cell.data (.ol ds) = .list ds := rfl
@[simp] theorem q_fz : Cell.data (.fz d) = d := rfl
@[simp] theorem q_frz_ol {ds : List D} : frzC (.ol ds) = .fz (.list ds) := rfl
@[simp] theorem q_frz_fz : frzC (.fz d) = .fz d := rfl
@[simp] theorem q_frz_un : frzC .un = .un := rfl
@[simp] theorem q_nLst : nLst al ρ s QC = al ρ s fun xs s1 => xs.length ≤ sizeLine ∧ QC (.ol xs) s1 := rfl
@[simp] theorem q_nOp : nOp gg a b ρ s QC = a ρ s fun x s1 => b ρ s1 fun y s2 => gg x y fun z => QC z s2 := rfl
@[simp] theorem q_nFn : nFn gn al ρ s QC = al ρ s fun xs s1 => gn xs fun z => QC z s1 := rfl
def frzR (i : Nat) (ρ : Rho) : Rho := match ρ[i]? with
  | some c => ρ.set i (frzC c)
  | none => ρ
@[simp] theorem q_dFrz : dFrz i t D0 ρ s = t D0 (frzR i ρ) s := rfl
@[simp] theorem frzR_0 {c : Cell} {r : Rho} : frzR 0 (c :: r) = frzC c :: r := rfl
@[simp] theorem frzR_s {c : Cell} {r : Rho} {n : Nat} : frzR (n + 1) (c :: r) = c :: frzR n r := by
  unfold frzR
  rw [List.getElem?_cons_succ]
  cases e : r[n]? with
  | none => rfl
  | some c' => rfl
def atO (c : Option Cell) (k : List D → Prop) : Prop := match c with
  | some (.ol ds) => k ds
  | _ => False
@[simp] theorem atO_ol {ds : List D} {k : List D → Prop} : atO (some (.ol ds)) k = k ds := rfl
@[simp] theorem q_dApp : dApp i a D0 ρ s = atO ρ[i]? fun ds => a ρ s fun d s' => ds.length < sizeLine ∧ D0.nx (ρ.set i (.ol (ds ++ [d]))) s' := by
  unfold dApp
  generalize ρ[i]? = c
  cases c with
  | none => rfl
  | some c => cases c <;> rfl
def iV (x : D) (k : Int → Prop) : Prop := match x with
  | .int i => k i
  | _ => False
@[simp] theorem iV_int {j : Int} {k : Int → Prop} : iV (.int j) k = k j := rfl
def oV {α : Type} (x : Option α) (k : α → Prop) : Prop := match x with
  | some d => k d
  | none => False
@[simp] theorem oV_some {α : Type} {x : α} {k : α → Prop} : oV (some x) k = k x := rfl
@[simp] theorem oV_none {α : Type} {k : α → Prop} : oV (none : Option α) k = False := rfl
@[simp] theorem q_oNone {QO : Option Int → A.S → Prop} : (oNone : DO A) ρ s QO = QO none s := rfl
@[simp] theorem q_oSome {QO : Option Int → A.S → Prop} : oSome a ρ s QO = a ρ s fun x s' => iV x fun i => QO (some i) s' := rfl
def slV (x : D) (l u : Option Int) (k : D → Prop) : Prop := match x with
  | .list ds => k (.list (cutD ds l u))
  | .tuple ds => k (.tuple (cutD ds l u))
  | .str z => z.length ≤ sizeLine ∧ k (.str (cutS z l u))
  | _ => False
@[simp] theorem slV_list {ds : List D} {l u : Option Int} {k : D → Prop} : slV (.list ds) l u k = k (.list (cutD ds l u)) := rfl
@[simp] theorem slV_tuple {ds : List D} {l u : Option Int} {k : D → Prop} : slV (.tuple ds) l u k = k (.tuple (cutD ds l u)) := rfl
@[simp] theorem slV_str {z : Str} {l u : Option Int} {k : D → Prop} : slV (.str z) l u k = (z.length ≤ sizeLine ∧ k (.str (cutS z l u))) := rfl
@[simp] theorem q_dSl {tl th : DO A} : dSl a tl th ρ s Q = a ρ s fun x s1 => tl ρ s1 fun l s2 => th ρ s2 fun u s3 => slV x l u fun d => Q d s3 := by
  rfl
def itV (x : D) (k : List D → Prop) : Prop := match x with
  | .list ds => k ds
  | .tuple ds => k ds
  | .str z => k (signsD z)
  | _ => False
@[simp] theorem itV_list {ds : List D} {k : List D → Prop} : itV (.list ds) k = k ds := rfl
@[simp] theorem itV_tuple {ds : List D} {k : List D → Prop} : itV (.tuple ds) k = k ds := rfl
@[simp] theorem itV_str {z : Str} {k : List D → Prop} : itV (.str z) k = k (signsD z) := rfl
@[simp] theorem q_dIt : dIt a ρ s QA = a ρ s fun x s' => itV x fun ds => QA ds s' := by
  rfl
@[simp] theorem q_dRg1 : dRg1 al ρ s QA = al ρ s fun xs s' => ∃ j, xs = [.int j] ∧ (-(2 ^ 62) ≤ j ∧ j < 2 ^ 62) ∧ QA (rngD 0 j.toNat) s' := by
  unfold dRg1
  congr 1; funext xs s1
  apply propext
  constructor
  · intro h
    split at h
    · exact ⟨_, rfl, h⟩
    · exact h.elim
  · rintro ⟨j, rfl, h⟩
    exact h
@[simp] theorem q_dRg2 : dRg2 al ρ s QA = al ρ s fun xs s' => ∃ i j, xs = [.int i, .int j] ∧ (-(2 ^ 62) ≤ i ∧ i < 2 ^ 62 ∧ -(2 ^ 62) ≤ j ∧ j < 2 ^ 62) ∧ QA (rngD i (j - i).toNat) s' := by
  unfold dRg2
  congr 1; funext xs s1
  apply propext
  constructor
  · intro h
    split at h
    · exact ⟨_, _, rfl, h⟩
    · exact h.elim
  · rintro ⟨i, j, rfl, h⟩
    exact h
@[simp] theorem q_addI {i j : Int} {k : D → Prop} : fAdd (.int i) (.int j) k = k (.int (i + j)) := rfl
@[simp] theorem q_addT {xs ys : List D} {k : D → Prop} : fAdd (.tuple xs) (.tuple ys) k = (xs.length + ys.length ≤ sizeLine ∧ k (.tuple (xs ++ ys))) := rfl
@[simp] theorem q_addL {xs ys : List D} {k : D → Prop} : fAdd (.list xs) (.list ys) k = (xs.length + ys.length ≤ sizeLine ∧ k (.list (xs ++ ys))) := rfl
@[simp] theorem q_addS {x y : Str} {k : D → Prop} : fAdd (.str x) (.str y) k = (x.length + y.length ≤ sizeLine ∧ k (.str (x ++ y))) := rfl
@[simp] theorem q_subI {i j : Int} {k : D → Prop} : fSub (.int i) (.int j) k = k (.int (i - j)) := rfl
@[simp] theorem q_mulI {i j : Int} {k : D → Prop} : fMul (.int i) (.int j) k = (CMul i j ∧ k (.int (i * j))) := rfl
@[simp] theorem q_mod {i j : Int} {k : D → Prop} : fMod (.int i) (.int j) k = (0 < j ∧ k (.int (i % j))) := rfl
@[simp] theorem q_div {i j : Int} {k : D → Prop} : fDiv (.int i) (.int j) k = (CDiv i j ∧ k (.int (i / j))) := rfl
@[simp] theorem q_cmpI {p : Int → Int → Bool} {i j : Int} {k : D → Prop} : fCmpI p (.int i) (.int j) k = k (.bool (p i j)) := rfl
@[simp] theorem q_ltI {i j : Int} {k : D → Prop} : fLt (.int i) (.int j) k = k (.bool (decide (i < j))) := rfl
@[simp] theorem q_ltS {a b : Str} {k : D → Prop} : fLt (.str a) (.str b) k = k (.bool (decide (a.cps.toList < b.cps.toList))) := rfl
@[simp] theorem q_neg {i : Int} {k : D → Prop} : fNeg (.int i) k = k (.int (-i)) := rfl
@[simp] theorem q_isi {t : Ty} {x : D} {k : D → Prop} : fIsi t x k = (notDict x ∧ k (.bool (isTy t x))) := rfl
@[simp] theorem q_is {x : D} {k : D → Prop} : fIs x .none k = (notDict x ∧ k (.bool (isN x))) := rfl
@[simp] theorem q_eqU {x y : D} {k : D → Prop} : fEqU x y k = (eqOk x y ∧ k (.bool (PyData.eqv x y))) := rfl
@[simp] theorem q_neU {x y : D} {k : D → Prop} : fNeU x y k = (eqOk x y ∧ k (.bool (!PyData.eqv x y))) := rfl
@[simp] theorem q_ixT {ds : List D} {i : Int} {k : D → Prop} : fIx (.tuple ds) (.int i) k = oV (atI ds i) k := by
  unfold fIx
  dsimp only
  cases atI ds i <;> rfl
@[simp] theorem q_ixL {ds : List D} {i : Int} {k : D → Prop} : fIx (.list ds) (.int i) k = oV (atI ds i) k := by
  unfold fIx
  dsimp only
  cases atI ds i <;> rfl
@[simp] theorem q_lenT {ds : List D} {k : D → Prop} : fLen [.tuple ds] k = k (.int ds.length) := rfl
@[simp] theorem q_lenL {ds : List D} {k : D → Prop} : fLen [.list ds] k = k (.int ds.length) := rfl
@[simp] theorem q_tupL {ds : List D} {k : D → Prop} : fTuple [.list ds] k = k (.tuple ds) := rfl
@[simp] theorem q_tupT {ds : List D} {k : D → Prop} : fTuple [.tuple ds] k = k (.tuple ds) := rfl
@[simp] theorem q_intI {i : Int} {k : D → Prop} : fInt [.int i] k = k (.int i) := rfl
@[simp] theorem q_intB {i : Bool} {k : D → Prop} : fInt [.bool i] k = k (.int (if i then 1 else 0)) := rfl
@[simp] theorem q_listL {ds : List D} {k : Cell → Prop} : gList [.list ds] k = k (.ol ds) := rfl
@[simp] theorem q_listT {ds : List D} {k : Cell → Prop} : gList [.tuple ds] k = k (.ol ds) := rfl
def sortOk (ds : List D) : Prop := PyData.canLayAll0 ds = true ∧ PySem.W.AllAlike ds ∧ ∀ d ∈ ds, d ≠ .none ∧ d.depth ≤ 60
def sortD (ds : List D) : List D := ds.mergeSort (PySem.W.dataLe false id)
@[simp] theorem q_sortedL {ds : List D} {k : Cell → Prop} : gSorted [.list ds] k = (sortOk ds ∧ k (.ol (sortD ds))) := by
  unfold gSorted sortOk sortD
  simp only [and_assoc]
@[simp] theorem q_sortedT {ds : List D} {k : Cell → Prop} : gSorted [.tuple ds] k = (sortOk ds ∧ k (.ol (sortD ds))) := by
  unfold gSorted sortOk sortD
  simp only [and_assoc]
def boolsV (ds : List D) (k : List Bool → Prop) : Prop := oV (boolsD ds) k
@[simp] theorem q_all {ds : List D} {k : D → Prop} : fAll [.list ds] k = boolsV ds fun bs => k (.bool (bs.all id)) := by
  unfold fAll boolsV oV
  dsimp only
  cases boolsD ds <;> rfl
theorem boolsD_map {α : Type} (p : α → Bool) : ∀ xs : List α, boolsD (xs.map fun x => .bool (p x)) = some (xs.map p)
  | [] => rfl
  | x :: xs => by
    rw [List.map_cons, boolsD, boolsD_map p xs]
    rfl
@[simp] theorem boolsV_map {α : Type} {p : α → Bool} {xs : List α} {k : List Bool → Prop} : boolsV (xs.map fun x => .bool (p x)) k = k (xs.map p) := by
  unfold boolsV
  rw [boolsD_map]
  rfl
@[simp] theorem q_in {neg : Bool} {x : D} {ds : List D} {k : D → Prop} : fInG neg x (.list ds) k = (inOk x ds ∧ k (.bool (if neg then !anyEq x ds else anyEq x ds))) := rfl
@[simp] theorem q_inT {neg : Bool} {x : D} {ds : List D} {k : D → Prop} : fInG neg x (.tuple ds) k = (inOk x ds ∧ k (.bool (if neg then !anyEq x ds else anyEq x ds))) := rfl
@[simp] theorem nd_none : notDict .none = True := rfl
@[simp] theorem isN_none : isN .none = true := rfl
@[simp] theorem isTy_int_none : isTy .int .none = false := rfl
@[simp] theorem isTy_bool_none : isTy .bool .none = false := rfl
@[simp] theorem isTy_tuple_none : isTy .tuple .none = false := rfl
@[simp] theorem isTy_list_none : isTy .list .none = false := rfl
@[simp] theorem isTy_str_none : isTy .str .none = false := rfl
@[simp] theorem nd_bool {b : Bool} : notDict (.bool b) = True := rfl
@[simp] theorem isN_bool {b : Bool} : isN (.bool b) = false := rfl
@[simp] theorem isTy_int_bool {b : Bool} : isTy .int (.bool b) = true := rfl
@[simp] theorem isTy_bool_bool {b : Bool} : isTy .bool (.bool b) = true := rfl
@[simp] theorem isTy_tuple_bool {b : Bool} : isTy .tuple (.bool b) = false := rfl
@[simp] theorem isTy_list_bool {b : Bool} : isTy .list (.bool b) = false := rfl
@[simp] theorem isTy_str_bool {b : Bool} : isTy .str (.bool b) = false := rfl
@[simp] theorem nd_int {i : Int} : notDict (.int i) = True := rfl
@[simp] theorem isN_int {i : Int} : isN (.int i) = false := rfl
@[simp] theorem isTy_int_int {i : Int} : isTy .int (.int i) = true := rfl
@[simp] theorem isTy_bool_int {i : Int} : isTy .bool (.int i) = false := rfl
@[simp] theorem isTy_tuple_int {i : Int} : isTy .tuple (.int i) = false := rfl
@[simp] theorem isTy_list_int {i : Int} : isTy .list (.int i) = false := rfl
@[simp] theorem isTy_str_int {i : Int} : isTy .str (.int i) = false := rfl
@[simp] theorem nd_str {z : Str} : notDict (.str z) = True := rfl
@[simp] theorem isN_str {z : Str} : isN (.str z) = false := rfl
@[simp] theorem isTy_int_str {z : Str} : isTy .int (.str z) = false := rfl
@[simp] theorem isTy_bool_str {z : Str} : isTy .bool (.str z) = false := rfl
@[simp] theorem isTy_tuple_str {z : Str} : isTy .tuple (.str z) = false := rfl
@[simp] theorem isTy_list_str {z : Str} : isTy .list (.str z) = false := rfl
@[simp] theorem isTy_str_str {z : Str} : isTy .str (.str z) = true := rfl
@[simp] theorem nd_list {ds : List D} : notDict (.list ds) = True := rfl
@[simp] theorem isN_list {ds : List D} : isN (.list ds) = false := rfl
@[simp] theorem isTy_int_list {ds : List D} : isTy .int (.list ds) = false := rfl
@[simp] theorem isTy_bool_list {ds : List D} : isTy .bool (.list ds) = false := rfl
@[simp] theorem isTy_tuple_list {ds : List D} : isTy .tuple (.list ds) = false := rfl
@[simp] theorem isTy_list_list {ds : List D} : isTy .list (.list ds) = true := rfl
@[simp] theorem isTy_str_list {ds : List D} : isTy .str (.list ds) = false := rfl
@[simp] theorem nd_tuple {ds : List D} : notDict (.tuple ds) = True := rfl
@[simp] theorem isN_tuple {ds : List D} : isN (.tuple ds) = false := rfl
@[simp] theorem isTy_int_tuple {ds : List D} : isTy .int (.tuple ds) = false := rfl
@[simp] theorem isTy_bool_tuple {ds : List D} : isTy .bool (.tuple ds) = false := rfl
@[simp] theorem isTy_tuple_tuple {ds : List D} : isTy .tuple (.tuple ds) = true := rfl
@[simp] theorem isTy_list_tuple {ds : List D} : isTy .list (.tuple ds) = false := rfl
@[simp] theorem isTy_str_tuple {ds : List D} : isTy .str (.tuple ds) = false := rfl
end
section
variable {A : Amb}
def retE (Q : D → A.S → Prop) : DEnds A := ⟨fun _ s' => Q .none s', Q, fun _ _ => False, fun _ _ => False⟩
@[simp] theorem retE_rt {Q : D → A.S → Prop} : (retE Q).rt = Q := rfl
@[simp] theorem retE_nx {Q : D → A.S → Prop} : (retE Q).nx = fun _ s' => Q .none s' := rfl
@[simp] theorem lawEnds_rt : (lawEnds A).rt = fun d _ => d = .bool true := rfl
theorem compW_pure {S : Type} {f : D → S → (Option D → S → Prop) → Prop} {h : D → Option D} : ∀ {xs : List D} {s : S} {Q : List D → S → Prop}, (∀ x ∈ xs, ∀ s k, k (h x) s → f x s k) → Q (xs.filterMap h) s → compW f xs s Q
  | [], _, _, _, q => q
  | x :: xs, s, Q, hf, q => by
    refine hf x (List.mem_cons_self ..) s _ (compW_pure (fun y m => hf y (List.mem_cons_of_mem _ m)) ?_)
    rw [List.filterMap_cons] at q
    cases e : h x with
    | none => rw [e] at q; exact q
    | some d => rw [e] at q; exact q
theorem comp_pure {it : DI A} {g : DG A} {tt : DT A} {te : DE A} {vs : List Nat} {ρ : Rho} {s : A.S} {QC : Cell → A.S → Prop} {xs : List D} (hi : ∀ k : List D → A.S → Prop, k xs s → it ρ s k) (cl : clean ρ vs) (hn : xs.length ≤ sizeLine) (h : D → Option D)
    (hf : ∀ x ∈ xs, ∀ (s : A.S) (k : Option D → A.S → Prop), k (h x) s → g x (wipeR ρ vs) s fun ρ1 s1 => tt ρ1 s1 fun b s2 => if b = true then te ρ1 s2 fun d s3 => k (some d) s3 else k none s2) (q : QC (.ol (xs.filterMap h)) s) : nComp it g tt te vs ρ s QC := by
  refine hi _ ⟨cl, hn, compW_pure (h := h) (fun x m s k q => ?_) q⟩
  have z := hf x m s k q
  have e : (fun ρ1 s1 => tt ρ1 s1 fun b s2 => match b with
    | true => te ρ1 s2 fun d s3 => k (some d) s3
    | false => k none s2) = fun ρ1 s1 => tt ρ1 s1 fun b s2 => if b = true then te ρ1 s2 fun d s3 => k (some d) s3 else k none s2 := by
    funext ρ1 s1
    congr 1
    funext b s2
    cases b <;> simp
  exact Eq.mpr (congrArg (g x (wipeR ρ vs) s) e) z
@[simp] theorem clean_nil {ρ : Rho} : clean ρ [] = True := rfl
@[simp] theorem wipeR_nil {ρ : Rho} : wipeR ρ [] = ρ := rfl
@[simp] theorem wipeR_cons {ρ : Rho} {v : Nat} {vs : List Nat} : wipeR ρ (v :: vs) = (wipeR ρ vs).set v .un := rfl
def freeC : Option Cell → Prop
  | some (.ol _) => False
  | some (.dk _) => False
  | some (.dt _) => False
  | _ => True
@[simp] theorem freeC_un : freeC (some .un) = True := rfl
@[simp] theorem freeC_fz {d : D} : freeC (some (.fz d)) = True := rfl
@[simp] theorem freeC_none : freeC none = True := rfl
@[simp] theorem clean_cons {ρ : Rho} {v : Nat} {vs : List Nat} : clean ρ (v :: vs) = (freeC ρ[v]? ∧ clean ρ vs) := by
  show (_ ∧ _) = _
  unfold freeC
  congr 1
theorem for_inv {f : D → DEnds A → Rho → A.S → Prop} {Dd : DEnds A} (I : List D → Rho → A.S → Prop) : ∀ {xs : List D} {ρ : Rho} {s : A.S}, I xs ρ s →
    (∀ x r ρ s, I (x :: r) ρ s → ∀ D' : DEnds A, D'.rt = Dd.rt → D'.bk = Dd.nx → (∀ ρ' s', I r ρ' s' → D'.nx ρ' s') → (∀ ρ' s', I r ρ' s' → D'.ct ρ' s') → f x D' ρ s) → (∀ ρ s, I [] ρ s → Dd.nx ρ s) → forW f xs Dd ρ s
  | [], _, _, i, _, he => he _ _ i
  | x :: xs, _, _, i, hs, he => hs x xs _ _ i _ rfl rfl (fun _ _ i' => for_inv I i' hs he) (fun _ _ i' => for_inv I i' hs he)
inductive All2 {α β : Type} (R : α → β → Prop) : List α → List β → Prop
  | nil : All2 R [] []
  | cons {a b as bs} : R a b → All2 R as bs → All2 R (a :: as) (b :: bs)
theorem All2.length {α β : Type} {R : α → β → Prop} : ∀ {as : List α} {bs : List β}, All2 R as bs → as.length = bs.length
  | _, _, .nil => rfl
  | _, _, .cons _ t => congrArg (· + 1) t.length
theorem compW_rel {S : Type} {f : D → S → (Option D → S → Prop) → Prop} {R : D → Option D → Prop} : ∀ {xs : List D} {s : S} {Q : List D → S → Prop}, (∀ x ∈ xs, ∀ s k, (∀ r, R x r → k r s) → f x s k) → (∀ rs, All2 R xs rs → Q (rs.filterMap id) s) → compW f xs s Q
  | [], _, _, _, q => q [] .nil
  | x :: xs, s, Q, hf, q => by
    refine hf x (List.mem_cons_self ..) s _ fun r hr => compW_rel (R := R) (fun y m => hf y (List.mem_cons_of_mem _ m)) fun rs h => ?_
    have z := q (r :: rs) (.cons hr h)
    rw [List.filterMap_cons] at z
    cases r with
    | none => exact z
    | some d => exact z
theorem comp_rel {it : DI A} {g : DG A} {tt : DT A} {te : DE A} {vs : List Nat} {ρ : Rho} {s : A.S} {QC : Cell → A.S → Prop} {xs : List D} (hi : ∀ k : List D → A.S → Prop, k xs s → it ρ s k) (cl : clean ρ vs) (hn : xs.length ≤ sizeLine) (R : D → Option D → Prop)
    (hf : ∀ x ∈ xs, ∀ (s : A.S) (k : Option D → A.S → Prop), (∀ r, R x r → k r s) → g x (wipeR ρ vs) s fun ρ1 s1 => tt ρ1 s1 fun b s2 => if b = true then te ρ1 s2 fun d s3 => k (some d) s3 else k none s2) (q : ∀ rs, All2 R xs rs → QC (.ol (rs.filterMap id)) s) : nComp it g tt te vs ρ s QC := by
  refine hi _ ⟨cl, hn, compW_rel (R := R) (fun x m s k q => ?_) q⟩
  have z := hf x m s k q
  have e : (fun ρ1 s1 => tt ρ1 s1 fun b s2 => match b with
    | true => te ρ1 s2 fun d s3 => k (some d) s3
    | false => k none s2) = fun ρ1 s1 => tt ρ1 s1 fun b s2 => if b = true then te ρ1 s2 fun d s3 => k (some d) s3 else k none s2 := by
    funext ρ1 s1
    congr 1
    funext b s2
    cases b <;> simp
  exact Eq.mpr (congrArg (g x (wipeR ρ vs) s) e) z
theorem while_inv {tc : DT A} {b : DS A} {Dd : DEnds A} {ρ : Rho} {s : A.S} (I : Nat → Rho → A.S → Prop) (n : Nat) (i : I n ρ s)
    (h : ∀ n ρ s, I n ρ s → tc ρ s fun k s' => if k = true then b ⟨fun ρ' s' => ∃ m, m < n ∧ I m ρ' s', Dd.rt, Dd.nx, fun ρ' s' => ∃ m, m < n ∧ I m ρ' s'⟩ ρ s' else Dd.nx ρ s') : dWhile tc b Dd ρ s := by
  refine ⟨I, ⟨n, i⟩, fun n ρ s i => ?_⟩
  have z := h n ρ s i
  have e : (fun k s' => match k with
    | true => b ⟨fun ρ' s' => ∃ m, m < n ∧ I m ρ' s', Dd.rt, Dd.nx, fun ρ' s' => ∃ m, m < n ∧ I m ρ' s'⟩ ρ s'
    | false => Dd.nx ρ s') = fun k s' => if k = true then b ⟨fun ρ' s' => ∃ m, m < n ∧ I m ρ' s', Dd.rt, Dd.nx, fun ρ' s' => ∃ m, m < n ∧ I m ρ' s'⟩ ρ s' else Dd.nx ρ s' := by
    funext k s'
    cases k <;> simp
  exact Eq.mpr (congrArg (tc ρ s) e) z
theorem for_of {it : DI A} {g : DG A} {b : DS A} {Dd : DEnds A} {ρ : Rho} {s : A.S} {xs : List D} (hi : ∀ k : List D → A.S → Prop, k xs s → it ρ s k) (I : List D → Rho → A.S → Prop) (i : I xs ρ s)
    (h : ∀ x r ρ s, I (x :: r) ρ s → ∀ D' : DEnds A, D'.rt = Dd.rt → D'.bk = Dd.nx → (∀ ρ' s', I r ρ' s' → D'.nx ρ' s') → (∀ ρ' s', I r ρ' s' → D'.ct ρ' s') → g x ρ s fun ρ' s' => b D' ρ' s') (e : ∀ ρ s, I [] ρ s → Dd.nx ρ s) : dFor it g b Dd ρ s :=
  hi _ (for_inv I i h e)
theorem cutD_to {ds : List D} {i : Int} (h : 0 ≤ i) : cutD ds none (some i) = ds.take i.toNat := by
  unfold cutD
  have e : HT.sIx ds.length ds.length (some i) = min i.toNat ds.length := by
    unfold HT.sIx
    dsimp only
    rw [if_neg (by omega)]
  rw [e, HT.sIx_none, List.drop_zero, Nat.sub_zero, ← List.take_eq_take_min]
theorem cutD_from {ds : List D} {i : Int} (h : 0 ≤ i) : cutD ds (some i) none = ds.drop i.toNat := by
  unfold cutD
  have e : HT.sIx ds.length 0 (some i) = min i.toNat ds.length := by
    unfold HT.sIx
    dsimp only
    rw [if_neg (by omega)]
  rw [e, HT.sIx_none]
  by_cases hi : i.toNat ≤ ds.length
  · rw [Nat.min_eq_left hi]
    exact List.take_of_length_le (by rw [List.length_drop]; omega)
  · rw [Nat.min_eq_right (by omega), List.drop_length, List.drop_eq_nil_of_le (by omega)]
    simp
theorem cutD_last {ds : List D} : cutD ds none (some (-1)) = ds.dropLast := by
  unfold cutD
  have e : HT.sIx ds.length ds.length (some (-1)) = ds.length - 1 := by
    unfold HT.sIx
    dsimp only
    rw [if_pos (by omega)]
    omega
  rw [e, HT.sIx_none, List.drop_zero, Nat.sub_zero, List.dropLast_eq_take]
end
end Dl
namespace Dl
open PySem L2 PyProof.Rows
section
variable {prog : Program} {w : World} {A : Around} {E : Value → Shared → Prop} {s : Shared}
theorem adjust_back (n : Nat) : Builtin.Slice.sliceAdjust none none (-1) (n : Int) = ((n : Int) - 1, -1) := by
  unfold Builtin.Slice.sliceAdjust
  simp
theorem places_back (n : Nat) : Builtin.Slice.slicePlaces ((n : Int) - 1) (-1) (-1) = n := by
  unfold Builtin.Slice.slicePlaces
  simp
  split <;> omega
theorem applied_back {sl : Addr} {vl vu vs : Value} {n : Nat} {Q : Int × Int × Nat → Shared → Prop} (hs : s.heap.IsSliceOf sl vl vu vs) (pl : IsPart vl none) (pu : IsPart vu none) (ps : IsPart vs (some (-1)))
    (h : Q ((n : Int) - 1, -1, n) s) : wpAny (model prog w) A (Builtin.Slice.sliceApplied (.ref sl) (pure (n : Int))) Q E s := by
  obtain ⟨os, hos, hcs, hds⟩ := id hs
  unfold Builtin.Slice.sliceApplied Builtin.Slice.sliceFields
  refine wpAny_bind (wpAny_bind (wpAny_field hos hds (x := vl) rfl (wpAny_bind (wpAny_field hos hds (x := vu) rfl (wpAny_bind (wpAny_field hos hds (x := vs) rfl (wpAny_pure ?_)))))))
  refine wpAny_bind (HT.slicePart_ ps ?_)
  show wpAny _ _ (if ((-1 : Int) == 0) = true then _ else _) _ _ s
  rw [if_neg (by decide)]
  refine wpAny_bind (HT.slicePart_ pl (wpAny_bind (HT.slicePart_ pu (wpAny_bind (wpAny_pure ?_)))))
  show wpAny _ _ (match Builtin.Slice.sliceAdjust none none (-1) (n : Int) with | (lo, hi) => pure (lo, (-1 : Int), Builtin.Slice.slicePlaces lo hi (-1))) _ _ s
  rw [adjust_back n]
  show wpAny _ _ (pure ((n : Int) - 1, (-1 : Int), Builtin.Slice.slicePlaces ((n : Int) - 1) (-1) (-1))) _ _ s
  rw [places_back]
  exact wpAny_pure h
theorem pick_back (xs : Array Value) : ((List.range xs.size).filterMap fun (m : Nat) => xs[(((xs.size : Int) - 1) + (m : Int) * (-1)).toNat]?).toArray = xs.toList.reverse.toArray := by
  have e : ∀ ys : List Value, (List.range ys.length).filterMap (fun (m : Nat) => ys[(((ys.length : Int) - 1) + (m : Int) * (-1)).toNat]?) = ys.reverse := fun ys => by
    have e2 : ∀ l : List Nat, (∀ m ∈ l, m < ys.length) → l.filterMap (fun (m : Nat) => ys[(((ys.length : Int) - 1) + (m : Int) * (-1)).toNat]?) = l.map fun m => ys.getD (ys.length - 1 - m) .none := fun l => by
      induction l with
      | nil => intro _; rfl
      | cons m l ih =>
        intro h
        have hm := h m (List.mem_cons_self ..)
        have e3 : (((ys.length : Int) - 1) + (m : Int) * (-1)).toNat = ys.length - 1 - m := by omega
        rw [List.filterMap_cons, List.map_cons, ih fun x hx => h x (List.mem_cons_of_mem _ hx), e3, List.getD_eq_getElem?_getD, List.getElem?_eq_getElem (show ys.length - 1 - m < ys.length by omega)]
        rfl
    rw [e2 _ fun m hm => List.mem_range.mp hm]
    apply List.ext_getElem?
    intro i
    by_cases hi : i < ys.length
    · rw [List.getElem?_map, List.getElem?_range hi, List.getElem?_reverse hi]
      simp [List.getD_eq_getElem?_getD]
      rw [List.getElem?_eq_getElem (by omega)]
      rfl
    · rw [List.getElem?_eq_none (by simp; omega), List.getElem?_eq_none (by simp; omega)]
  have z := e xs.toList
  simp only [Array.length_toList, Array.getElem?_toList] at z
  rw [z]
theorem getItem_tuple_back {t sl : Addr} {items : Array Value} {vl vu vs : Value} {Q : Value → Shared → Prop} (ht : IsTup s.heap t items) (hs : s.heap.IsSliceOf sl vl vu vs) (pl : IsPart vl none) (pu : IsPart vu none) (ps : IsPart vs (some (-1)))
    (h : Q (.ref s.heap.objs.size) { s with heap := s.heap.push { cls := .type "tuple", data := .seq items.toList.reverse.toArray } }) (hsz : items.size ≤ sizeLine) : wpAny (model prog w) A (getItem (.ref t) (.ref sl)) Q E s := by
  have hok : sizeOk (.seq items.toList.reverse.toArray) := by
    show items.toList.reverse.toArray.size ≤ sizeLine
    rw [List.size_toArray, List.length_reverse, Array.length_toList]
    exact hsz
  obtain ⟨os, hos, hcs, hds⟩ := id hs
  have hTs : s.TypeIs (.ref sl) "slice" := ⟨os, hos, hcs⟩
  unfold getItem
  try with_reducible refine wpAny_holding ?_
  first | refine wpAny_bind (wpAny_pure ?_) | skip
  refine wpAny_bind (wpAny_sequenceKey ht.typeIs (by decide) ?_)
  refine wpAny_bind (wpAny_callSpecial?_slot (name := Str.ofString "__getitem__") ht.typeIs PyProof.Rows.slot_tuple_getitem
    (wpAny_call_entry PyProof.Rows.slot_tuple_getitem ht.typeIs entry_tuple_getitem ?_ (args_tuple_getitem _ _)))
  show wpAny _ _ (Builtin.Tuple.tupleItemsOf (.ref t) >>= _) _ _ s
  refine wpAny_bind (tupleItemsOf_ ht ?_)
  refine wpAny_bind (wpAny_typeOf hTs ?_)
  rw [if_pos (by decide)]
  refine wpAny_bind (applied_back hs pl pu ps ?_)
  have hno : ¬ ((((items.size : Int) - 1) == 0 && (-1 : Int) == 1 && items.size == items.size) = true) := by
    intro q
    rw [Bool.and_eq_true, Bool.and_eq_true] at q
    exact absurd (eq_of_beq q.1.2) (by decide)
  show wpAny _ _ (if (((items.size : Int) - 1) == 0 && (-1 : Int) == 1 && items.size == items.size) = true then _ else _) _ _ s
  rw [if_neg hno, pick_back]
  first
    | exact wpAny_bind (m := Builtin.Tuple.tupleExact _) (wpAny_newObj_type (wpAny_pure ⟨_, rfl, wpAny_pure h⟩) hok)
    | exact wpAny_bind (m := Builtin.Tuple.tupleExact _) (wpAny_newObj_type (wpAny_bind (wpAny_pure (wpAny_pure ⟨_, rfl, wpAny_pure h⟩))) hok)
    | exact wpAny_bind (wpAny_bind (m := Builtin.Tuple.tupleExact _) (wpAny_newObj_type (wpAny_pure (wpAny_pure ⟨_, rfl, wpAny_pure h⟩)) hok))
    | exact wpAny_bind (wpAny_bind (m := Builtin.Tuple.tupleExact _) (wpAny_newObj_type (wpAny_pure ⟨_, rfl, wpAny_pure h⟩) hok))
end
def tRevA (K : PySem.W.Frag) (te : TE) : TE := fun σ H Q => te σ H fun x H1 => ∃ a xs, x = .ref a ∧ ((SqL K H1 a xs ∧ ∀ p, H1 p = none → Q (.ref p) (upd H1 p (.lst xs.reverse))) ∨ (SqT K H1 a xs ∧ NewT Q H1 xs.reverse))
theorem pe_revA {X : Cx} {e : Expr} {te : TE} {k : Nat} {p1 p2 p3 pos : Pos} (he : PE X e te) : PE X (.Subscript e (.Slice none none (some (.UnaryOp .USub (.Constant (.int 1) k p1) p2)) p3) pos) (tRevA X.K te) := by
  refine ⟨fun pins s σ H Q I h => ?_⟩
  refine Subscript_ (thn (he.run pins s σ H _ I h) fun v s1 ⟨x, H1, I1, r1, a, xs, ex, q⟩ => ?_)
  subst ex
  cases r1
  have hst : PO X (some (.UnaryOp .USub (.Constant (.int 1) k p1) p2)) (tPart (tUn (rU fun i => .int (-i)) (tC (.int 1)))) := po_some (pe_un un_neg pe_int)
  refine wpAny_Slice (thn (po_none.run pins s1 σ H1 (fun o H2 => o = none ∧ H2 = H1) I1 ⟨rfl, rfl⟩) fun vl s2 ⟨l, H2, I2, pl, el, e2⟩ => ?_)
  subst el e2
  refine thn (po_none.run pins s2 σ H2 (fun o H3 => o = none ∧ H3 = H2) I2 ⟨rfl, rfl⟩) fun vu s3 ⟨u, H3, I3, pu, eu, e3⟩ => ?_
  subst eu e3
  refine thn (hst.run pins s3 σ H3 (fun o H4 => o = some (-1) ∧ H4 = H3) I3 ⟨1, rfl, -1, rfl, rfl, rfl⟩) fun vs s4 ⟨o, H4, I4, ps, eo, e4⟩ => ?_
  subst eo e4
  have I5 : Inv X pins σ H4 { s4 with heap := s4.heap.push { cls := .type "slice", data := .fields #[vl, vu, vs] } } := I4.kept (t' := s4.toks) fun b ob q => Heap.get?_push_of_some _ q
  show wpAny (model X.prog X.w) X.A (subscriptTail e (.Slice none none (some (.UnaryOp .USub (.Constant (.int 1) k p1) p2)) p3) (.ref a) (.ref s4.heap.objs.size)) (EP X pins σ Q) X.xe { s4 with heap := s4.heap.push { cls := .type "slice", data := .fields #[vl, vu, vs] } }
  rcases q with ⟨hx, q⟩ | ⟨hx, q⟩
  · obtain ⟨its, r, ht, hz⟩ := I5.list hx
    have hlen := r.length
    refine tail_any (ops := [.ref a, .ref s4.heap.objs.size]) ht.isList.typeIs (PySem.slot_list_getitem.lookup) ?_ (by with_unfolding_all rfl)
    refine wpAny_getItem_list_slice ht.isList (Heap.IsSliceOf.new _ vl vu vs) pl pu ps (by decide) ?_ (by rw [List.size_toArray]; omega)
    rw [PySem.W.krv_pick]
    refine ⟨.ref _, _, I5.laid (t' := s4.toks) (o := .lst xs.reverse) (fun b ob q => Heap.get?_push_of_some _ q) (Nat.le_refl _) ?_, rfl, q _ (I5.hok.fresh (Nat.le_refl _))⟩
    exact ⟨by rw [List.length_reverse]; exact hz, _, 0, r.reverse, Heap.get?_push_size _ rfl⟩
  · obtain ⟨its, r, ht, hz⟩ := I5.tuple hx
    have hlen := r.length
    refine tail_any (ops := [.ref a, .ref s4.heap.objs.size]) ht.typeIs (PyProof.Rows.slot_tuple_getitem.lookup) ?_ (by with_unfolding_all rfl)
    refine getItem_tuple_back ht (Heap.IsSliceOf.new _ vl vu vs) pl pu ps ?_ (by rw [List.size_toArray]; omega)
    exact laidT I5 r.reverse (by rw [List.length_reverse]; exact hz) q
section
variable {A : Amb} {X : Cx} {N : Ent} {e a b c : Expr} {te ta tb : DE A} {tL : DA A} {pos : Pos}
def revV (x : D) (k : D → Prop) : Prop := match x with
  | .list ds => k (.list ds.reverse)
  | .tuple ds => k (.tuple ds.reverse)
  | _ => False
@[simp] theorem revV_list {ds : List D} {k : D → Prop} : revV (.list ds) k = k (.list ds.reverse) := rfl
@[simp] theorem revV_tuple {ds : List D} {k : D → Prop} : revV (.tuple ds) k = k (.tuple ds.reverse) := rfl
def dRev (te : DE A) : DE A := fun ρ s Q => te ρ s fun x s1 => revV x fun d => Q d s1
@[simp] theorem q_dRev {ρ : Rho} {s : A.S} {Q : D → A.S → Prop} : dRev te ρ s Q = te ρ s fun x s1 => revV x fun d => Q d s1 := rfl
theorem e_rev {k : Nat} {p1 p2 p3 : Pos} (he : PE X e (liftB A X.K N te)) : PE X (.Subscript e (.Slice none none (some (.UnaryOp .USub (.Constant (.int 1) k p1) p2)) p3) pos) (liftE A X.K N (dRev te)) :=
  PE.imp (pe_revA he) fun σ H Q ⟨ρ, s, O, P, R0, q, k⟩ => ⟨ρ, s, O, _, R0, q, fun x s1 vx H1 O1 q1 R1 le1 rx => by
    have b := R1.bh rx
    cases x with
    | list ds =>
      obtain ⟨a, vs, rfl, s1', r1⟩ := b.list fzP_le
      exact ⟨a, vs, rfl, .inl ⟨SqL.of s1', fun p hp => k _ s1 _ _ O1 q1 (R1.alloc (same_upd hp)) (le1.trans (R1.fzle (same_upd hp))) (.lst (fzP_of (R1.fresh hp) upd_same) (r1.reverse.mono (R1.fzle (same_upd hp))))⟩⟩
    | tuple ds =>
      obtain ⟨a, vs, rfl, s0, s1', r1⟩ := b.tup fzP_le
      exact ⟨a, vs, rfl, .inr ⟨s1', _, fun p o hp ho => k _ s1 _ _ O1 q1 (R1.alloc (same_upd hp)) (le1.trans (R1.fzle (same_upd hp))) (.tup ⟨o, ho, fzP_of (R1.fresh hp) upd_same⟩ (r1.reverse.mono (R1.fzle (same_upd hp))))⟩⟩
    | _ => exact q1.elim⟩
def dAug (i : Nat) (f : F2) (te : DE A) : DS A := fun D ρ s => atF ρ[i]? fun d => te ρ s fun y s' => f d y fun z => D.nx (ρ.set i (.fz z)) s'
@[simp] theorem q_dAug {i : Nat} {f : F2} {D0 : DEnds A} {ρ : Rho} {s : A.S} : dAug i f te D0 ρ s = atF ρ[i]? fun d => te ρ s fun y s' => f d y fun z => D0.nx (ρ.set i (.fz z)) s' := rfl
theorem s_aug {i : Nat} {op : Operator} {r : R2} {f : F2} {x : Str} {p : Pos} (ho : OpR X (inplaceOp op) r) (hR : DR2 X.K r f) (nd : X.N.Nodup) (he : PE X e (liftB A X.K N te)) (hi : X.N[i]? = some x := by rfl) (hx : Loc X.env.scope x := by first | exact Or.inl rfl | exact Or.inr rfl)
    (hf : X.fn x = true ∨ X.env.scope.names.lookup x = some .local := by first | exact .inl rfl | exact .inr rfl) : PS X (.AugAssign (.Name x p) op e pos) (liftS A X.K N (dAug i f te)) :=
  s_imp (ps_aug nd hi hx he (fun pins s σ H x y v u Q I rx ry h => ho pins s σ H x y v u Q I rx ry h) hf) fun D σ H ρ s O Dd R E q => by
    have q : atF ρ[i]? fun d => te ρ s fun y s' => f d y fun z => Dd.nx (ρ.set i (.fz z)) s' := q
    cases e0 : ρ[i]? with
    | none => rw [e0] at q; exact q.elim
    | some c =>
      rw [e0] at q
      cases c with
      | fz d =>
        obtain ⟨v, ev, x, rfl, rd⟩ := R.slot e0
        refine ⟨x, ev, ρ, s, O, _, R, q, fun y s1 vy H1 O1 q1 R1 le1 ry => ?_⟩
        refine hR H1 (Px N σ ρ O1) x vy d y (fun z => Dd.nx (ρ.set i (.fz z)) s1) _ (fun _ z => R1.dom z) (R1.bh (.inl (rd.mono le1))) (R1.bh ry) q1 fun z H' d' sm rz pz => ?_
        have R2 := R1.alloc sm
        have le2 := R1.fzle sm
        have W := R2.setFz (i := i) (v := z) (c := .fz d') (fun z => z) ⟨z, rfl, rz⟩
        exact E.nx _ s1 _ H' O1 W.1 (le1.trans (le2.trans W.2)) pz
      | _ => exact q.elim
def fAddI : F2 := fun x y k => match x, y with
  | .int i, .int j => k (.int (i + j))
  | .str a, .str b => a.length + b.length ≤ sizeLine ∧ k (.str (a ++ b))
  | _, _ => False
@[simp] theorem q_addII {i j : Int} {k : D → Prop} : fAddI (.int i) (.int j) k = k (.int (i + j)) := rfl
@[simp] theorem q_addIS {i j : Str} {k : D → Prop} : fAddI (.str i) (.str j) k = (i.length + j.length ≤ sizeLine ∧ k (.str (i ++ j))) := rfl
def rAddI : R2 := fun x y H Q => rI0 (fun i j => V.int (i + j)) x y H Q ∨ ∃ i j, x = V.str i ∧ y = V.str j ∧ i.length + j.length ≤ sizeLine ∧ Q (.str (i ++ j)) H
theorem iop_addU : OpR X (inplaceOp .Add) rAddI := iop_add.or iop_add_str
theorem dr_addU : DR2 X.K rAddI fAddI := fun H P x y dx dy k Q dm bx by_ f kk => by
  unfold fAddI at f
  split at f
  · exact .inl ⟨_, _, bx.int, by_.int, kk _ H _ (Same.refl _) (.int _) f⟩
  · exact .inr ⟨_, _, bx.str, by_.str, f.1, kk _ H _ (Same.refl _) (.str _) f.2⟩
  · exact f.elim
def dPar (i j : Nat) (t : DA A) : DS A := fun D ρ s => t ρ s fun xs s' => ∃ x y, xs = [x, y] ∧ D.nx ((ρ.set i (.fz x)).set j (.fz y)) s'
@[simp] theorem q_dPar {i j : Nat} {t : DA A} {D0 : DEnds A} {ρ : Rho} {s : A.S} : dPar i j t D0 ρ s = t ρ s fun xs s' => ∃ x y, xs = [x, y] ∧ D0.nx ((ρ.set i (.fz x)).set j (.fz y)) s' := rfl
theorem s_par {st : Stmt} {i j : Nat} {t : DA A} (h : PS X st (tPar i j (liftA A X.K N t))) : PS X st (liftS A X.K N (dPar i j t)) := s_imp h fun D σ H ρ s O Dd R E q =>
  ⟨ρ, s, O, _, R, q, fun xs s1 vs H1 O1 ⟨x, y, e, q1⟩ R1 le1 r => by
    subst e
    obtain ⟨v, u, rfl, r1, r2⟩ := r.two_of
    refine ⟨v, u, rfl, ?_⟩
    have W1 := R1.setFz (i := i) (v := v) (c := .fz x) (fun z => z) ⟨v, rfl, r1⟩
    have W2 := W1.1.setFz (i := j) (v := u) (c := .fz y) (fun z => z) ⟨u, rfl, r2.mono W1.2⟩
    exact E.nx _ s1 _ H1 O1 W2.1 (le1.trans (W1.2.trans W2.2)) q1⟩
end
end Dl
namespace Dl
open PySem L2 PySem.Spec PyProof.Rows PySem.W
theorem nodup_le {α : Type} [BEq α] [LawfulBEq α] : ∀ {xs L : List α}, xs.Nodup → (∀ x ∈ xs, x ∈ L) → xs.length ≤ L.length
  | [], _, _, _ => Nat.zero_le _
  | x :: xs, L, nd, h => by
    have hx := h x (List.mem_cons_self ..)
    have nd' := List.nodup_cons.mp nd
    have ih := nodup_le (L := L.erase x) nd'.2 fun y m => by
      refine (List.mem_erase_of_ne fun e => nd'.1 (by rw [← e]; exact m)).mpr (h y (List.mem_cons_of_mem _ m))
    have e := List.length_erase_of_mem hx
    have := List.length_pos_of_mem hx
    rw [List.length_cons]
    omega
theorem each_at {α β : Type} {R : α → β → Prop} : ∀ {as : List α} {bs : List β}, EachIs R as bs → ∀ (i : Nat) (a : α), as[i]? = some a → ∃ b, bs[i]? = some b ∧ R a b
  | _, _, .nil, i, a, h => by simp at h
  | _, _, .cons r t, 0, a, h => by
    simp at h
    subst h
    exact ⟨_, rfl, r⟩
  | _, _, .cons r t, i + 1, a, h => by
    obtain ⟨b, h1, h2⟩ := each_at t i a (by simpa using h)
    exact ⟨b, by simpa using h1, h2⟩
section
variable {P : Program} {w : World} {κ : Type} [DecidableEq κ]
def Apart (knd : PySem.KeyKind P w κ) (l : List (Int × Value)) : Prop := l.Pairwise fun e f => ∀ k, ¬ (knd.is k e.2 = true ∧ knd.is k f.2 = true)
theorem apart_perm {knd : PySem.KeyKind P w κ} {l l' : List (Int × Value)} (p : l.Perm l') (h : Apart knd l) : Apart knd l' := (p.pairwise_iff fun h k q => h k ⟨q.2, q.1⟩).mp h
def SetG (knd : PySem.KeyKind P w κ) (h : Heap) (a : Addr) (S : κ → Bool) (n : Nat) : Prop :=
  ∃ o es ep t, h.get? a = some o ∧ o.ExactSet ∧ o.data = .set es ep t ∧ ElemsOf knd es.toList ∧ Apart knd es.toList ∧ (∀ k, S k = true ↔ ∃ e ∈ es.toList, knd.is k e.2 = true) ∧
    es.size < scanBound ∧ t.fits es.size = true ∧ es.size = n ∧ Ris t.place.toList ∧ (w.params.followText "set-order" = true ∨ t.led = true)
variable {knd : PySem.KeyKind P w κ} {h h' : Heap} {a : Addr} {S : κ → Bool} {n : Nat}
theorem SetG.at (R : SetG knd h a S n) (k : ∀ o, h.get? a = some o → h'.get? a = some o) : SetG knd h' a S n := by
  obtain ⟨o, es, ep, t, ho, r⟩ := R
  exact ⟨o, es, ep, t, k o ho, r⟩
theorem SetG.congr {S' : κ → Bool} (R : SetG knd h a S n) (e : ∀ k, S' k = S k) : SetG knd h a S' n := by
  have q : S' = S := funext e
  rw [q]; exact R
theorem setG_at {S : κ → Bool} (hS : ∀ k, S k = false) (ho : h.get? a = some { cls := .type "set", dict := none, data := .set #[] 0 (.fresh 0 0 (!w.params.followText "set-order")) }) : SetG knd h a S 0 :=
  ⟨_, #[], 0, _, ho, ⟨rfl, rfl, rfl⟩, rfl, (fun e he => by simp at he), List.Pairwise.nil, (fun k => by simp [hS k]), (by decide), (by rfl), rfl, List.Pairwise.nil, by
    show _ ∨ (!w.params.followText "set-order") = true
    cases w.params.followText "set-order"
    · exact .inr rfl
    · exact .inl rfl⟩
variable {A : Around} {E : Value → Shared → Prop} {s : Shared}
theorem setG_tail {g : Bool → Sem Unit} (hg : ∀ (b : Bool) (s₁ : Shared) (Q' : Unit → Shared → Prop), Q' () s₁ → wpAny (model P w) A (g b) Q' E s₁)
    {o : Obj} {es : Array (Int × Value)} {ep : Nat} {t : SetTable} (ho : s.heap.get? a = some o) (hex : o.ExactSet) (hd : o.data = .set es ep t)
    {es1 : Array (Int × Value)} {t2 : SetTable} {S' : κ → Bool} (g1 : ElemsOf knd es1.toList) (nd1 : Apart knd es1.toList) (m1 : ∀ k, S' k = true ↔ ∃ e ∈ es1.toList, knd.is k e.2 = true)
    (hb1 : es1.size < scanBound) (hf2 : t2.fits es1.size = true) (hr : Ris t2.place.toList) (hl : w.params.followText "set-order" = true ∨ t2.led = true) {wasDummy : Bool} {R : Option Bool → Shared → Prop}
    (hR : ∀ h', Heap.SameBut a s.heap h' → SetG knd h' a S' es1.size → R (some true) { s with heap := h' }) :
    wpAny (model P w) A (do
        storeSet a es1 t2
        if (!wasDummy && t2.tooFull) = true then do
            g (relayAll t2 es1 (SetTable.grown es1.size)).2.2
            storeSet a (relayAll t2 es1 (SetTable.grown es1.size)).1 (relayAll t2 es1 (SetTable.grown es1.size)).2.1
            pure (some true)
          else pure (some true)) R E s := by
  refine wpAny_bind (wpAny_storeSet_of ho hd ?_ (fits_of_scanBound hb1))
  have ho1 := store_at (es' := es1) (t' := t2) ho hd
  have sb1 := Heap.SameBut.update s.heap a (Obj.putSet es1 t2)
  split
  · have pm := relayAll_perm t2 es1 (SetTable.grown es1.size)
    have hf3 := relayAll_fits t2 es1 (SetTable.grown es1.size)
    have hr3 := relayAll_ris t2 es1 (SetTable.grown es1.size)
    have hl3 := relayAll_led t2 es1 (SetTable.grown es1.size)
    generalize relayAll t2 es1 (SetTable.grown es1.size) = Z at pm hf3 hr3 hl3 ⊢
    obtain ⟨es2, t3, gave⟩ := Z
    dsimp only at pm hf3 hr3 hl3 ⊢
    have hsz : es2.size = es1.size := by rw [← Array.length_toList, pm.length_eq, Array.length_toList]
    have hb2 : es2.size < scanBound := by rw [hsz]; exact hb1
    refine wpAny_bind (hg _ _ _ ?_)
    refine wpAny_bind (wpAny_storeSet_of ho1 rfl ?_ (fits_of_scanBound hb2))
    have ho2 := store_at (es' := es2) (t' := t3) ho1 rfl
    refine wpAny_pure (hR _ (sb1.trans (Heap.SameBut.update _ a _)) ?_)
    exact ⟨_, es2, _, t3, ho2, hex, rfl, fun e he => g1 e (pm.mem_iff.mp he), apart_perm pm.symm nd1, fun k => (m1 k).trans ⟨fun ⟨e, he, q⟩ => ⟨e, pm.mem_iff.mpr he, q⟩, fun ⟨e, he, q⟩ => ⟨e, pm.mem_iff.mp he, q⟩⟩, hb2, hf3, hsz, hr3,
      hl.imp id fun z => by rw [hl3]; exact z⟩
  · exact wpAny_pure (hR _ sb1 ⟨_, es1, _, t2, ho1, hex, rfl, g1, nd1, m1, hb1, hf2, rfl, hr, hl⟩)
theorem setG_add {k : κ} {v : Value} {Q : Bool → Shared → Prop} (hkey : knd.is k v = true) (hsc : v.scannable = true) (R : SetG knd s.heap a S n) (room : n + 1 < scanBound)
    (hQ : ∀ h', Heap.SameBut a s.heap h' → SetG knd h' a (fun j => S j || decide (j = k)) (if S k = true then n else n + 1) → Q (!S k) { s with heap := h' }) :
    wpAny (model P w) A (setAddHashed a v (knd.hash k)) Q E s := by
  obtain ⟨o, es, ep, t, ho, hex, hd, hel, nd, hm, hb, hf, hn, hr, hl⟩ := R
  unfold setAddHashed setAddHashedIn
  refine wpAny_holding (wpAny_bind (wpAny_setState_of ho hd hf ?_))
  dsimp only
  rw [byScan_of hsc hb hel]
  simp only [↓reduceIte]
  unfold setAddByScan
  refine wpAny_bind ?_
  refine wpAny_bind (wpAny_rule ?_)
  refine wpAny_bind (wpAny_setScan_of hkey ho hd hf hel ?_)
  cases hfi : List.findIdx? (fun e => knd.is k e.2) es.toList with
  | some j =>
    dsimp only
    obtain ⟨hj, pj, _⟩ := List.findIdx?_eq_some_iff_getElem.mp hfi
    have hSk : S k = true := (hm k).2 ⟨es.toList[j], List.getElem_mem hj, pj⟩
    refine wpAny_pure (wpAny_pure ?_)
    have q := hQ s.heap (Heap.SameBut.refl a s.heap) ⟨o, es, ep, t, ho, hex, hd, hel, nd, fun i => by
      rw [Bool.or_eq_true, decide_eq_true_eq, ← hm i]
      exact ⟨fun z => z.elim id (fun e => e ▸ hSk), .inl⟩, hb, hf, by rw [if_pos hSk]; exact hn, hr, hl⟩
    rw [hSk] at q
    exact q
  | none =>
    dsimp only
    have hnk : ∀ e ∈ es.toList, ¬ knd.is k e.2 = true := fun e he q => by
      have c := List.findIdx?_eq_none_iff.mp hfi e he
      rw [q] at c
      cases c
    have hSk : S k = false := by
      cases q : S k with
      | false => rfl
      | true =>
        obtain ⟨e, he, z⟩ := (hm k).1 q
        exact absurd z (hnk e he)
    have hgw : ∀ (b : Bool) {s₁ : Shared} {Q' : Unit → Shared → Prop}, Q' () s₁ → wpAny (model P w) A (match b with | true => rule "set.scan.the-table-gave-way" | false => pure ()) Q' E s₁ :=
      fun b s₁ Q' q => by cases b <;> first | exact wpAny_pure q | exact wpAny_rule q
    have pm := layNew_perm t es (knd.hash k) v
    have hf1 := layNew_fits t es (knd.hash k) v
    have hr1 := layNew_ris t es (knd.hash k) v hr
    have hl1 := layNew_led t es (knd.hash k) v
    generalize layNew t es (knd.hash k) v = Z at pm hf1 hr1 hl1 ⊢
    obtain ⟨es1, t1, wasDummy, gave⟩ := Z
    dsimp only at pm hf1 hr1 hl1 ⊢
    rw [Array.toList_push] at pm
    have pc : es1.toList.Perm ((knd.hash k, v) :: es.toList) := pm.trans (List.perm_append_singleton _ _)
    have g1 : ElemsOf knd es1.toList := fun e he => by
      rcases List.mem_cons.mp (pc.mem_iff.mp he) with z | z
      · rw [z]; exact ⟨⟨k, hkey, rfl⟩, hsc⟩
      · exact hel e z
    have nd1 : Apart knd es1.toList := apart_perm pc.symm (List.pairwise_cons.mpr ⟨fun e he k' q => hnk e he (by
      have e1 := knd.inj v k' k q.1 hkey
      rw [← e1]
      exact q.2), nd⟩)
    have m1 : ∀ i, (S i || decide (i = k)) = true ↔ ∃ e ∈ es1.toList, knd.is i e.2 = true := fun i => by
      rw [Bool.or_eq_true, decide_eq_true_eq, hm i]
      constructor
      · rintro (⟨e, he, q⟩ | rfl)
        · exact ⟨e, pc.mem_iff.mpr (List.mem_cons_of_mem _ he), q⟩
        · exact ⟨_, pc.mem_iff.mpr (List.mem_cons_self ..), hkey⟩
      · rintro ⟨e, he, q⟩
        rcases List.mem_cons.mp (pc.mem_iff.mp he) with z | z
        · subst z
          exact .inr (knd.inj v i k q hkey)
        · exact .inl ⟨e, z, q⟩
    have hsz : es1.size = n + 1 := by rw [← Array.length_toList, pc.length_eq, List.length_cons, Array.length_toList, hn]
    have hb1 : es1.size < scanBound := by rw [hsz]; exact room
    have hled : w.params.followText "set-order" = true ∨ t1.led = true := hl.imp id fun z => by rw [hl1]; exact z
    have fin : ∀ h', Heap.SameBut a s.heap h' → SetG knd h' a (fun j => S j || decide (j = k)) es1.size → Q true { s with heap := h' } := fun h' sb r => by
      have q := hQ h' sb
      rw [hSk] at q
      rw [hsz] at r
      exact q r
    refine wpAny_bind (hgw _ ?_)
    split
    · refine wpAny_bind ?_
      rw [hashByValue_scannable 8 hsc]
      refine wpAny_pure ?_
      refine setG_tail ?_ ho hex hd g1 nd1 m1 hb1 ?_ ?_ ?_ ?_
      · intro b s₁ Q' q; cases b <;> first | exact wpAny_pure q | exact wpAny_rule q
      · first | (split <;> first | exact hf1 | exact SetTable.fits_plain_off hf1) | exact hf1
      · first | (split <;> exact hr1) | exact hr1
      · first | (split <;> exact hled) | exact hled
      · intro h' sb r; dsimp only; exact wpAny_pure (fin h' sb r)
    · refine wpAny_bind (wpAny_pure ?_)
      simp only [↓reduceIte]
      refine setG_tail ?_ ho hex hd g1 nd1 m1 hb1 hf1 hr1 hled ?_
      · intro b s₁ Q' q; cases b <;> first | exact wpAny_pure q | exact wpAny_rule q
      · intro h' sb r; dsimp only; exact wpAny_pure (fin h' sb r)
end
section
variable {P : Program} {w : World} {κ : Type} [DecidableEq κ] {knd : PySem.KeyKind P w κ}
def IsK (knd : PySem.KeyKind P w κ) (v : Value) (k : κ) : Prop := knd.is k v = true
theorem ks_of : ∀ (vs : List Value), (∀ v ∈ vs, ∃ k, knd.is k v = true) → ∃ zs : List κ, EachIs (IsK knd) vs zs
  | [], _ => ⟨[], .nil⟩
  | v :: vs, h => by
    obtain ⟨k, hk⟩ := h v (List.mem_cons_self ..)
    obtain ⟨zs, e⟩ := ks_of vs fun u m => h u (List.mem_cons_of_mem _ m)
    exact ⟨k :: zs, .cons hk e⟩
theorem ks_mem : ∀ {vs : List Value} {zs : List κ}, EachIs (IsK knd) vs zs → ∀ x, x ∈ zs ↔ ∃ v ∈ vs, knd.is x v = true
  | _, _, .nil, x => by simp
  | _, _, .cons (a := v) (b := z) (as := vs) (bs := zs) r e, x => by
    rw [List.mem_cons, ks_mem e x]
    constructor
    · rintro (rfl | ⟨u, m, q⟩)
      · exact ⟨v, List.mem_cons_self .., r⟩
      · exact ⟨u, List.mem_cons_of_mem _ m, q⟩
    · rintro ⟨u, m, q⟩
      rcases List.mem_cons.mp m with rfl | m
      · exact .inl (knd.inj _ _ _ q r)
      · exact .inr ⟨u, m, q⟩
theorem ks_nodup : ∀ {vs : List Value} {zs : List κ}, EachIs (IsK knd) vs zs → vs.Pairwise (fun u v => ∀ k, ¬ (knd.is k u = true ∧ knd.is k v = true)) → zs.Nodup
  | _, _, .nil, _ => .nil
  | _, _, .cons (a := v) (b := z) (as := vs) (bs := zs) r e, p => by
    have p' := List.pairwise_cons.mp p
    refine List.nodup_cons.mpr ⟨fun m => ?_, ks_nodup e p'.2⟩
    obtain ⟨u, m2, q⟩ := (ks_mem e z).mp m
    exact p'.1 _ m2 z ⟨r, q⟩
theorem setG_small {h : Heap} {a : Addr} {S : κ → Bool} {n : Nat} {L : List κ} (R : SetG knd h a S n) (hL : ∀ k, S k = true → k ∈ L) : n ≤ L.length := by
  obtain ⟨o, es, ep, t, ho, hex, hd, hel, nd, hm, hb, hf, hn, hr, hl⟩ := R
  obtain ⟨zs, ez⟩ := ks_of (knd := knd) (es.toList.map (·.2)) fun v hv => by
    obtain ⟨e, he, q⟩ := List.mem_map.mp hv
    obtain ⟨⟨k, hk, _⟩, _⟩ := hel e he
    exact ⟨k, by rw [← q]; exact hk⟩
  have zl : zs.length = es.size := by rw [← ez.length, List.length_map, Array.length_toList]
  have znd : zs.Nodup := ks_nodup ez (List.pairwise_map.mpr (nd.imp fun h x q => h x q))
  have := nodup_le (L := L) znd fun k m => hL k ((hm k).mpr (by
    obtain ⟨v, mv, z⟩ := (ks_mem ez k).mp m
    obtain ⟨e, he, q⟩ := List.mem_map.mp mv
    exact ⟨e, he, by rw [q]; exact z⟩))
  omega
end
section
variable {P : Program} {w : World} {κ : Type} [DecidableEq κ] {knd : PySem.KeyKind P w κ} {A : Around} {E : Value → Shared → Prop} {s : Shared}
theorem setG_update {I : Addr} {fp wr : List Addr} {G : Array GenState → Array GenState → Prop} {n : Nat} {Pv : Nat → Value → Prop} {St : Nat → Shared → Prop} {R : Result → Shared → Prop}
    (W : WalksS P w A.in1 I fp wr G n Pv St) (S : Addr) (hSf : S ∉ fp) (ns L : List κ) (hn : n = ns.length) (hL : ∀ x ∈ ns, x ∈ L) (hb : L.length + 1 < scanBound) (hval : ∀ i v, Pv i v → ∃ k, ns[i]? = some k ∧ knd.is k v = true ∧ v.scannable = true) :
    ∀ (k i : Nat) (s : Shared), n - i = k → i ≤ n → St i s → (∃ c, c ≤ i ∧ SetG knd s.heap S (fun j => decide (j ∈ ns.take i)) c) →
      (∀ s' c, Moved (S :: wr) G s s' → c ≤ n → SetG knd s'.heap S (fun j => decide (j ∈ ns)) c → R (.ok (.ret .none)) s') →
      codeAny (model P w) A (.builtin "set.update.loop" ⟨[.ref S, .ref I], []⟩) R s := by
  have hSw : S ∉ wr := fun h => hSf (W.sub _ h)
  have hsub : ∀ b ∈ wr, b ∈ S :: wr := fun b hb => List.mem_cons_of_mem _ hb
  intro k
  induction k with
  | zero =>
    intro i s hk' hi hst ⟨c, hc, hS⟩ hR
    have hin : i = n := by omega
    subst hin
    refine codeAny_builtin PyProof.Rows.F.entry_set_update_loop ?_
    rw [Around.under_plainId PyProof.Rows.F.plain_set_update_loop _]
    show wpAny _ A.in1 (pyNext (.ref I) >>= _) _ _ s
    refine wpAny_bind (W.done s _ _ hst fun s' hm => ?_)
    show wpAny _ A.in1 (ret Value.none) _ _ s'
    have e : ns.take i = ns := List.take_of_length_le (by omega)
    rw [e] at hS
    exact wpAny_pure (hR s' c (hm.mono hsub) hc (hS.at fun o e => hm.heap S o hSw e))
  | succ k ih =>
    intro i s hk' hi hst ⟨c, hc, hS⟩ hR
    have hlt : i < n := by omega
    refine codeAny_builtin PyProof.Rows.F.entry_set_update_loop ?_
    rw [Around.under_plainId PyProof.Rows.F.plain_set_update_loop _]
    show wpAny _ A.in1 (pyNext (.ref I) >>= _) _ _ s
    refine wpAny_bind (W.item i s _ _ hlt hst fun v s' hP hst' hm => ?_)
    obtain ⟨z, hz, hkey, hsc⟩ := hval i v hP
    have hS' : SetG knd s'.heap S (fun j => decide (j ∈ ns.take i)) c := hS.at fun o e => hm.heap S o hSw e
    show wpAny _ A.in1 (holding [v] (setAdd S v) >>= _) _ _ s'
    refine wpAny_bind (wpAny_holding ?_)
    unfold setAdd
    refine wpAny_holding ?_
    refine wpAny_bind (knd.pyHash (k := z) hkey ?_)
    have hcL : c ≤ L.length := setG_small hS' fun k hk => hL k (List.mem_of_mem_take (of_decide_eq_true hk))
    refine setG_add (s := { s' with toks := s'.toks + 1 }) hkey hsc hS' (by omega) fun h' hsb hS2 => ?_
    have hS3 : SetG knd h' S (fun j => decide (j ∈ ns.take (i + 1))) (if decide (z ∈ ns.take i) = true then c else c + 1) := hS2.congr fun j => by
      rw [List.take_add_one, hz]
      simp [List.mem_append]
    have hc3 : (if decide (z ∈ ns.take i) = true then c else c + 1) ≤ i + 1 := by
      split <;> omega
    refine wpAny_pure ⟨plainId_quiet PyProof.Rows.F.plain_set_update_loop _, ih (i + 1) _ (by omega) hlt (W.frame _ s' _ _ hst' (Nat.le_succ _) fun b hb o e => ?_) ⟨_, hc3, hS3⟩ fun s'' c2 hm'' hc'' hS'' => ?_⟩
    · rw [hsb.2 b (fun h : b = S => hSf (by rw [← h]; exact hb))]; exact e
    · refine hR s'' c2 (Moved.trans W.gtrans ((hm.mono hsub).then_heap (Nat.le_succ _) fun b o hb e => ?_) hm'') hc'' hS''
      rw [hsb.2 b (fun h : b = S => hb (by rw [h]; exact List.mem_cons_self))]; exact e
set_option maxRecDepth 100000 in
set_option maxHeartbeats 3200000 in
theorem call_setG (knd : PySem.KeyKind P w κ) {l : Addr} {items : Array Value} (ns L : List κ) {Q : Value → Shared → Prop} (hLs : ∀ x ∈ ns, x ∈ L) (hh : A.handled = none) (hl : s.heap.IsList l items) (hit : EachIs (fun v k => knd.is k v = true ∧ v.scannable = true) items.toList ns) (hb : L.length + 1 < scanBound)
    (h : ∀ (h' : Heap) (tk c : Nat), SetG knd h' s.heap.objs.size (fun j => decide (j ∈ ns)) c → c ≤ ns.length → (∀ b o, s.heap.get? b = some o → h'.get? b = some o) → Q (.ref s.heap.objs.size) { s with heap := h', toks := tk }) :
    wpAny (model P w) A (call (.type "set") [.ref l]) Q E s := by
  have hisz : items.size = ns.length := by
    have q := EachIs.length hit
    rw [Array.length_toList] at q
    exact q
  obtain ⟨c, tl, hmro⟩ := PySem.F.called_set.mro
  have hmade := PySem.F.called_set.made
  have hsub := PySem.F.called_set.sub
  refine wpAny_call (codeAny_of_tree ?_)
  show wpAny _ _ (callAny (.type "set") _) _ _ _
  refine wpAny_pure ⟨Code.quiet_builtin _ (by decide +kernel), codeAny_builtin PySem.F.entry_type_call ?_⟩
  rw [Around.under_plain (weight_type_call_type "set" [.ref l] []) rfl]
  have h1 := PySem.F.called_set.notType
  have h2 := PySem.F.called_set.canCreate
  have hct := PySem.F.typeCall_set_1 (.ref l)
  repeat (any_goals (first | assumption | wp_step))
  refine codeAny_mono (code_set_led1 (.ref l) (E := E) (Q₁ := fun obj s₁ => obj = .ref s.heap.objs.size ∧ s₁ = { s with heap := s.heap.push { cls := .type "set", dict := none, data := .set #[] 0 (.fresh 0 0 (!w.params.followText "set-order")) } }) ⟨rfl, rfl⟩) fun r s₁ hr => ?_
  cases r with
  | error e => exact hr
  | ok fl =>
    cases fl with
    | ret obj =>
      obtain ⟨rfl, rfl⟩ := hr
      have hS : (s.heap.push { cls := .type "set", dict := none, data := .set #[] 0 (.fresh 0 0 (!w.params.followText "set-order")) }).get? s.heap.objs.size = some { cls := .type "set", dict := none, data := .set #[] 0 (.fresh 0 0 (!w.params.followText "set-order")) } := Heap.get?_push_size _ rfl
      have hT : Shared.TypeIs { s with heap := s.heap.push { cls := .type "set", dict := none, data := .set #[] 0 (.fresh 0 0 (!w.params.followText "set-order")) } } (.ref s.heap.objs.size) "set" := ⟨_, hS, rfl⟩
      have hli := PySem.F.called_set.init.lookup
      have hbi := PySem.F.called_set.init.bind (.ref s.heap.objs.size)
      repeat (any_goals (first | assumption | wp_step))
      refine codeAny_mono (codeAny_call_builtin (R := wants (fun r s₂ => r = .none ∧ ∃ h' tk c, s₂ = { s with heap := h', toks := tk } ∧ SetG knd h' s.heap.objs.size (fun j => decide (j ∈ ns)) c ∧ c ≤ ns.length ∧
          (∀ b o, s.heap.get? b = some o → h'.get? b = some o)) E) PySem.F.called_set.init.plain PySem.F.entry_set_init (check_set_init_1 hT ?_)) fun r₂ s₂ hr₂ => ?_
      · obtain ⟨ol, hol, hcl, nl, hdl⟩ := hl
        obtain ⟨ocls, odict, odata, oslots⟩ := ol
        simp only at hcl hdl
        subst hcl; subst hdl
        have hol' : (s.heap.push { cls := .type "set", dict := none, data := .set #[] 0 (.fresh 0 0 (!w.params.followText "set-order")) }).get? l = some { cls := .type "list", dict := odict, data := .seq items nl, slots := oslots } := Heap.get?_push_of_some _ hol
        have hsls := PySem.F.sub_list_set
        have hslf := PySem.F.sub_list_frozenset
        have hne : (Value.type "list" == Value.type "dict") = false := by decide
        have hl1 : (s.heap.push { cls := .type "set", dict := none, data := .set #[] 0 (.fresh 0 0 (!w.params.followText "set-order")) }).IsList l items := ⟨_, hol', rfl, nl, rfl⟩
        unfold Builtin.«set.__init__» noKeywords Builtin.Frozenset.updateFrom
        generalize hPI : pyIter = PI
        wp_walk
        subst hPI
        refine wpAny_pyIter_list hl1 ?_
        refine wpAny_bind (wpAny_runValue ?_)
        have hlS : l < s.heap.objs.size := Heap.lt_size hol
        have hh3 : A.in1.in1.in1.handled = none := by simp [hh]
        have hneI : l ≠ (s.heap.push { cls := .type "set", dict := none, data := .set #[] 0 (.fresh 0 0 (!w.params.followText "set-order")) }).objs.size := by
          rw [Heap.size_push]; exact Nat.ne_of_lt (Nat.lt_succ_of_lt hlS)
        have hSf : s.heap.objs.size ∉ [(s.heap.push { cls := .type "set", dict := none, data := .set #[] 0 (.fresh 0 0 (!w.params.followText "set-order")) }).objs.size, l] := by
          rw [Heap.size_push]; simp only [List.mem_cons, List.mem_singleton, List.not_mem_nil, or_false, not_or]
          exact ⟨Nat.ne_of_lt (Nat.lt_succ_self _), Nat.ne_of_gt hlS⟩
        have hval : ∀ (i : Nat) (v : Value), items[i]? = some v → ∃ k, ns[i]? = some k ∧ knd.is k v = true ∧ v.scannable = true := fun i v hv => each_at hit i v (by rw [Array.getElem?_toList]; exact hv)
        refine setG_update (knd := knd) ((Walks.list hh3 _ l hneI items).toS) s.heap.objs.size
          hSf ns L hisz hLs hb hval (items.size - 0) 0 _ (by omega) (Nat.zero_le _)
          ⟨⟨_, Heap.get?_push_size _ rfl, rfl, rfl⟩, (hl1.push _)⟩ ?hS0 ?hR
        case hS0 =>
          have hget : ((s.heap.push { cls := .type "set", dict := none, data := .set #[] 0 (.fresh 0 0 (!w.params.followText "set-order")) }).push { cls := .type "list_iterator", data := .fields #[.ref l, .int 0 0] }).get? s.heap.objs.size
              = some { cls := .type "set", dict := none, data := .set #[] 0 (.fresh 0 0 (!w.params.followText "set-order")) } := Heap.get?_push_of_some _ hS
          exact ⟨0, Nat.le_refl 0, setG_at (fun k => by simp) hget⟩
        case hR =>
          intro s' c' hm hc' hS'
          obtain ⟨h', g2, d', tk', os'⟩ := s'
          have eg : g2 = s.gens := hm.gens
          have ed : d' = s.drawn := hm.drawn
          have eo : os' = s.os := hm.os
          subst eg; subst ed; subst eo
          show wpAny _ _ _ _ _ _
          refine wpAny_pure ?_
          show wpAny _ _ (ret Value.none) _ _ _
          rw [hisz] at hc'
          refine wpAny_pure ⟨rfl, h', tk', c', rfl, hS', hc', fun b o e => ?_⟩
          have hb0 : b < s.heap.objs.size := Heap.lt_size e
          have hb1 : b ≠ s.heap.objs.size := Nat.ne_of_lt hb0
          have hb2 : b ≠ (s.heap.push { cls := .type "set", dict := none, data := .set #[] 0 (.fresh 0 0 (!w.params.followText "set-order")) }).objs.size := by
            rw [Heap.size_push]; exact Nat.ne_of_lt (Nat.lt_succ_of_lt hb0)
          exact hm.heap b o (by simp only [List.mem_cons, List.mem_singleton, List.not_mem_nil, or_false, not_or]; exact ⟨hb1, hb2⟩) (Heap.get?_push_of_some _ (Heap.get?_push_of_some _ e))
      · cases r₂ with
        | error e => exact hr₂
        | ok fl₂ =>
          cases fl₂ with
          | ret r =>
            obtain ⟨rfl, h', tk, c', rfl, hS', hc', hk'⟩ := hr₂
            repeat (any_goals (first | assumption | wp_step))
            exact h _ _ _ hS' hc' hk'
          | _ => exact hr₂.elim
    | _ => exact hr.elim
set_option maxRecDepth 100000 in
set_option maxHeartbeats 3200000 in
theorem call_setGT (knd : PySem.KeyKind P w κ) {l : Addr} {items : Array Value} (ns L : List κ) {Q : Value → Shared → Prop} (hLs : ∀ x ∈ ns, x ∈ L) (hh : A.handled = none) (hl : s.heap.IsTuple l items) (hit : EachIs (fun v k => knd.is k v = true ∧ v.scannable = true) items.toList ns) (hb : L.length + 1 < scanBound)
    (h : ∀ (h' : Heap) (tk c : Nat), SetG knd h' s.heap.objs.size (fun j => decide (j ∈ ns)) c → c ≤ ns.length → (∀ b o, s.heap.get? b = some o → h'.get? b = some o) → Q (.ref s.heap.objs.size) { s with heap := h', toks := tk }) :
    wpAny (model P w) A (call (.type "set") [.ref l]) Q E s := by
  have hisz : items.size = ns.length := by
    have q := EachIs.length hit
    rw [Array.length_toList] at q
    exact q
  obtain ⟨c, tl, hmro⟩ := PySem.F.called_set.mro
  have hmade := PySem.F.called_set.made
  have hsub := PySem.F.called_set.sub
  refine wpAny_call (codeAny_of_tree ?_)
  show wpAny _ _ (callAny (.type "set") _) _ _ _
  refine wpAny_pure ⟨Code.quiet_builtin _ (by decide +kernel), codeAny_builtin PySem.F.entry_type_call ?_⟩
  rw [Around.under_plain (weight_type_call_type "set" [.ref l] []) rfl]
  have h1 := PySem.F.called_set.notType
  have h2 := PySem.F.called_set.canCreate
  have hct := PySem.F.typeCall_set_1 (.ref l)
  repeat (any_goals (first | assumption | wp_step))
  refine codeAny_mono (code_set_led1 (.ref l) (E := E) (Q₁ := fun obj s₁ => obj = .ref s.heap.objs.size ∧ s₁ = { s with heap := s.heap.push { cls := .type "set", dict := none, data := .set #[] 0 (.fresh 0 0 (!w.params.followText "set-order")) } }) ⟨rfl, rfl⟩) fun r s₁ hr => ?_
  cases r with
  | error e => exact hr
  | ok fl =>
    cases fl with
    | ret obj =>
      obtain ⟨rfl, rfl⟩ := hr
      have hS : (s.heap.push { cls := .type "set", dict := none, data := .set #[] 0 (.fresh 0 0 (!w.params.followText "set-order")) }).get? s.heap.objs.size = some { cls := .type "set", dict := none, data := .set #[] 0 (.fresh 0 0 (!w.params.followText "set-order")) } := Heap.get?_push_size _ rfl
      have hT : Shared.TypeIs { s with heap := s.heap.push { cls := .type "set", dict := none, data := .set #[] 0 (.fresh 0 0 (!w.params.followText "set-order")) } } (.ref s.heap.objs.size) "set" := ⟨_, hS, rfl⟩
      have hli := PySem.F.called_set.init.lookup
      have hbi := PySem.F.called_set.init.bind (.ref s.heap.objs.size)
      repeat (any_goals (first | assumption | wp_step))
      refine codeAny_mono (codeAny_call_builtin (R := wants (fun r s₂ => r = .none ∧ ∃ h' tk c, s₂ = { s with heap := h', toks := tk } ∧ SetG knd h' s.heap.objs.size (fun j => decide (j ∈ ns)) c ∧ c ≤ ns.length ∧
          (∀ b o, s.heap.get? b = some o → h'.get? b = some o)) E) PySem.F.called_set.init.plain PySem.F.entry_set_init (check_set_init_1 hT ?_)) fun r₂ s₂ hr₂ => ?_
      · obtain ⟨ol, hol, hcl, nl, hdl⟩ := hl
        obtain ⟨ocls, odict, odata, oslots⟩ := ol
        simp only at hcl hdl
        subst hcl; subst hdl
        have hol' : (s.heap.push { cls := .type "set", dict := none, data := .set #[] 0 (.fresh 0 0 (!w.params.followText "set-order")) }).get? l = some { cls := .type "tuple", dict := odict, data := .seq items nl, slots := oslots } := Heap.get?_push_of_some _ hol
        have hsls := PySem.F.sub_tuple_set
        have hslf := PySem.F.sub_tuple_frozenset
        have hne : (Value.type "tuple" == Value.type "dict") = false := by decide
        have hl1 : (s.heap.push { cls := .type "set", dict := none, data := .set #[] 0 (.fresh 0 0 (!w.params.followText "set-order")) }).IsTuple l items := ⟨_, hol', rfl, nl, rfl⟩
        unfold Builtin.«set.__init__» noKeywords Builtin.Frozenset.updateFrom
        generalize hPI : pyIter = PI
        wp_walk
        subst hPI
        refine wpAny_pyIter_tuple hl1 ?_
        refine wpAny_bind (wpAny_runValue ?_)
        have hlS : l < s.heap.objs.size := Heap.lt_size hol
        have hh3 : A.in1.in1.in1.handled = none := by simp [hh]
        have hneI : l ≠ (s.heap.push { cls := .type "set", dict := none, data := .set #[] 0 (.fresh 0 0 (!w.params.followText "set-order")) }).objs.size := by
          rw [Heap.size_push]; exact Nat.ne_of_lt (Nat.lt_succ_of_lt hlS)
        have hSf : s.heap.objs.size ∉ [(s.heap.push { cls := .type "set", dict := none, data := .set #[] 0 (.fresh 0 0 (!w.params.followText "set-order")) }).objs.size, l] := by
          rw [Heap.size_push]; simp only [List.mem_cons, List.mem_singleton, List.not_mem_nil, or_false, not_or]
          exact ⟨Nat.ne_of_lt (Nat.lt_succ_self _), Nat.ne_of_gt hlS⟩
        have hval : ∀ (i : Nat) (v : Value), items[i]? = some v → ∃ k, ns[i]? = some k ∧ knd.is k v = true ∧ v.scannable = true := fun i v hv => each_at hit i v (by rw [Array.getElem?_toList]; exact hv)
        refine setG_update (knd := knd) ((Walks.tuple hh3 _ l hneI items).toS) s.heap.objs.size
          hSf ns L hisz hLs hb hval (items.size - 0) 0 _ (by omega) (Nat.zero_le _)
          ⟨⟨_, Heap.get?_push_size _ rfl, rfl, rfl⟩, (hl1.push _)⟩ ?hS0 ?hR
        case hS0 =>
          have hget : ((s.heap.push { cls := .type "set", dict := none, data := .set #[] 0 (.fresh 0 0 (!w.params.followText "set-order")) }).push { cls := .type "tuple_iterator", data := .fields #[.ref l, .int 0 0] }).get? s.heap.objs.size
              = some { cls := .type "set", dict := none, data := .set #[] 0 (.fresh 0 0 (!w.params.followText "set-order")) } := Heap.get?_push_of_some _ hS
          exact ⟨0, Nat.le_refl 0, setG_at (fun k => by simp) hget⟩
        case hR =>
          intro s' c' hm hc' hS'
          obtain ⟨h', g2, d', tk', os'⟩ := s'
          have eg : g2 = s.gens := hm.gens
          have ed : d' = s.drawn := hm.drawn
          have eo : os' = s.os := hm.os
          subst eg; subst ed; subst eo
          show wpAny _ _ _ _ _ _
          refine wpAny_pure ?_
          show wpAny _ _ (ret Value.none) _ _ _
          rw [hisz] at hc'
          refine wpAny_pure ⟨rfl, h', tk', c', rfl, hS', hc', fun b o e => ?_⟩
          have hb0 : b < s.heap.objs.size := Heap.lt_size e
          have hb1 : b ≠ s.heap.objs.size := Nat.ne_of_lt hb0
          have hb2 : b ≠ (s.heap.push { cls := .type "set", dict := none, data := .set #[] 0 (.fresh 0 0 (!w.params.followText "set-order")) }).objs.size := by
            rw [Heap.size_push]; exact Nat.ne_of_lt (Nat.lt_succ_of_lt hb0)
          exact hm.heap b o (by simp only [List.mem_cons, List.mem_singleton, List.not_mem_nil, or_false, not_or]; exact ⟨hb1, hb2⟩) (Heap.get?_push_of_some _ (Heap.get?_push_of_some _ e))
      · cases r₂ with
        | error e => exact hr₂
        | ok fl₂ =>
          cases fl₂ with
          | ret r =>
            obtain ⟨rfl, h', tk, c', rfl, hS', hc', hk'⟩ := hr₂
            repeat (any_goals (first | assumption | wp_step))
            exact h _ _ _ hS' hc' hk'
          | _ => exact hr₂.elim
    | _ => exact hr.elim
end
structure KdV {P : Program} {w : World} {κ : Type} [DecidableEq κ] (knd : PySem.KeyKind P w κ) (enc : κ → PyData) (val : κ → V) : Prop where
  reads : ∀ (h : Heap) (v : Value) (k : κ), knd.is k v = true → ∃ as, Reads h v (enc k) as
  alike : ∀ zs : List κ, AllAlike (zs.map enc)
  some : ∀ k, enc k ≠ .none ∧ (enc k).depth ≤ 1
  rel : ∀ v k, knd.is k v = true → RelV (val k) v
  key : ∀ v k, RelV (val k) v → knd.is k v = true ∧ v.scannable = true
theorem kv_int {P : Program} {w : World} : KdV (PySem.intKind P w) PyData.int V.int where
  reads := fun h v k hk => by obtain ⟨t, rfl⟩ := Value.isInt_shape hk; exact ⟨_, .int _ _⟩
  alike := fun zs a ha b hb => by
    obtain ⟨x, _, rfl⟩ := List.mem_map.mp ha
    obtain ⟨y, _, rfl⟩ := List.mem_map.mp hb
    rfl
  some := fun k => ⟨(fun z => nomatch z), by simp [PyData.depth]⟩
  rel := fun v k hk => by obtain ⟨t, rfl⟩ := Value.isInt_shape hk; exact ⟨t, rfl⟩
  key := fun v k r => by obtain ⟨t, rfl⟩ := r; exact ⟨intKind_is _ _ _ _, rfl⟩
section
variable {P : Program} {w : World} {κ : Type} [DecidableEq κ] {knd : PySem.KeyKind P w κ}
theorem ks_mono {α β : Type} {R R' : α → β → Prop} (f : ∀ a b, R a b → R' a b) : ∀ {as : List α} {bs : List β}, EachIs R as bs → EachIs R' as bs
  | _, _, .nil => .nil
  | _, _, .cons r t => .cons (f _ _ r) (ks_mono f t)
theorem each_mapR {α β γ : Type} {R : α → γ → Prop} (f : β → γ) : ∀ {as : List α} {bs : List β}, EachIs (fun a b => R a (f b)) as bs → EachIs R as (bs.map f)
  | _, _, .nil => .nil
  | _, _, .cons r t => .cons r (each_mapR f t)
variable {enc : κ → PyData} {val : κ → V} {A : Around} {E : Value → Shared → Prop} {s : Shared} {a : Addr}
theorem sorted_setG (kv : KdV knd enc val) {S : κ → Bool} {n : Nat} {Q : Value → Shared → Prop} (R : SetG knd s.heap a S n) (hh : A.handled = none) (hu : A.units + 64 < cLine)
    (hQ : ∀ s' p (out : List Value) (c : Nat) (zs : List κ), (∀ b o, s.heap.get? b = some o → s'.heap.get? b = some o) → s'.gens = s.gens → s'.os = s.os → s.heap.objs.size ≤ p →
      s'.heap.get? p = some (seqObj "list" out.toArray c) → EachIs (IsK knd) out (zs.mergeSort (dataLe false enc)) → zs.Nodup → (∀ k, k ∈ zs ↔ S k = true) → zs.length < scanBound → Q (.ref p) s') :
    wpAny (model P w) A (call (.builtin "sorted") [.ref a]) Q E s := by
  obtain ⟨o, es, ep, t, ho, hex, hd, hel, nd, hm, hb, hf, hn, hr, hl⟩ := R
  refine PyProof.Rows.call_function_entry_kw kind_sorted PyProof.Rows.plain_sorted entry_sorted (args_sorted1 _) ?_
  unfold Builtin.«sorted»
  refine wpAny_bind (m := checkCount "sorted" 1 1 _) (wpAny_pure ?_)
  refine wpAny_bind (collect_set (A := A.in1) hh ⟨o, ho, hex.1, hd⟩ hf hb hr hl fun s1 vs k1 hz g1 o1 pm => ?_)
  have hvl : vs.length = es.size := by rw [pm.length_eq, List.length_map, Array.length_toList]
  have hsl : scanBound ≤ sizeLine := by decide
  obtain ⟨zs, ez⟩ := ks_of (knd := knd) vs fun v hv => by
    obtain ⟨e, he, q⟩ := List.mem_map.mp (pm.mem_iff.mp hv)
    obtain ⟨⟨k, hk, _⟩, _⟩ := hel e he
    exact ⟨k, by rw [← q]; exact hk⟩
  have zl : zs.length = vs.length := ez.length.symm
  have znd : zs.Nodup := ks_nodup ez ((pm.pairwise_iff fun h x q => h x ⟨q.2, q.1⟩).mpr (List.pairwise_map.mpr (nd.imp fun h x q => h x q)))
  have zm : ∀ k, k ∈ zs ↔ S k = true := fun k => by
    rw [ks_mem ez k, hm k]
    constructor
    · rintro ⟨v, m, z⟩
      obtain ⟨e, he, q⟩ := List.mem_map.mp (pm.mem_iff.mp m)
      exact ⟨e, he, by rw [q]; exact z⟩
    · rintro ⟨e, he, q⟩
      exact ⟨_, pm.mem_iff.mpr (List.mem_map.mpr ⟨e, he, rfl⟩), q⟩
  refine wpAny_bind (wpAny_newList ?_ (by omega))
  have at_ : (s1.heap.push (seqObj "list" vs.toArray 0)).get? s1.heap.objs.size = some (seqObj "list" vs.toArray 0) := Heap.get?_push_size _ rfl
  have al := kv.alike zs
  have keepS : ∀ b u, s.heap.get? b = some u → (s1.heap.push (seqObj "list" vs.toArray 0)).get? b = some u := fun b u e => Heap.get?_push_of_some _ (k1 b u e)
  have erd : ∀ h : Heap, EachIs (fun v k => ∃ as, Reads h v (enc k) as) vs zs := fun h => ks_mono (fun v k q => kv.reads h v k q) ez
  refine wpAny_bind (wpAny_holding (wpAny_call_entry_kw slot_list_sort ⟨_, at_, rfl⟩ entry_list_sort ?body (args_list_sort _)))
  case body =>
    show wpAny (model P w) A.in1.in1 (Builtin.«list.sort» ⟨[.ref s1.heap.objs.size], []⟩) _ _ _
    have er := each_mapR enc (R := fun v d => ∃ as, Reads (sortingHeap (s1.heap.push (seqObj "list" vs.toArray 0)) s1.heap.objs.size vs) v d as) (erd _)
    refine wpAny_mono (list_sort_vals (κ := dataKind (sortingHeap (s1.heap.push (seqObj "list" vs.toArray 0)) s1.heap.objs.size vs) (zs.map enc)) (E := E) (P := fun f s' => f = .done (.ret .none) ∧ Q (.ref s1.heap.objs.size) s') (s := { s1 with heap := s1.heap.push (seqObj "list" vs.toArray 0) }) at_ ?_ (by omega) ⟨rfl, ?_⟩) (fun f s' hf => ?_) fun _ _ e => e
    · refine sortsAt_any er al (fun d m => ?_) fun d m => ?_
      · obtain ⟨x, _, rfl⟩ := List.mem_map.mp m
        exact (kv.some x).1
      · obtain ⟨x, _, rfl⟩ := List.mem_map.mp m
        have q2 : A.in1.in1.units = A.units + 2 := rfl
        have q3 := (kv.some x).2
        rw [q2]
        omega
    · obtain ⟨ep2, he'⟩ := PyProof.Rows.sortedHeap_at (h := s1.heap.push (seqObj "list" vs.toArray 0)) (vs := vs) (n := 0) (out := (sortVals (dataKind (sortingHeap (s1.heap.push (seqObj "list" vs.toArray 0)) s1.heap.objs.size vs) (zs.map enc)) false vs vs).toArray) (a := s1.heap.objs.size) at_
      refine hQ _ s1.heap.objs.size _ ep2 zs (fun b u e => ?_) g1 o1 hz he' (sortVals_data (enc := enc) false ez (erd _) al) znd zm (by omega)
      rw [PyProof.Rows.sortedHeap_old (Nat.ne_of_lt (Heap.lt_size (k1 b u e))) (Nat.lt_of_lt_of_le (Heap.lt_size (k1 b u e)) (by rw [size_push']; omega))]
      exact keepS b u e
    · obtain ⟨rfl, hq⟩ := hf
      exact ⟨_, rfl, wpAny_pure ⟨_, rfl, hq⟩⟩
end
section
variable {P : Program} {w : World} {κ : Type} [DecidableEq κ]
def SetGO (knd : PySem.KeyKind P w κ) (a : Addr) (S : κ → Bool) (m : Nat) : HO := .ext fun h => ∃ n, n ≤ m ∧ SetG knd h a S n
theorem setGO_new {knd : PySem.KeyKind P w κ} {P' : Program} {w' : World} {H : Hp} {h : Heap} {a : Addr} {S : κ → Bool} {n m : Nat} (R : SetG knd h a S n) (hm : n ≤ m) : ObjOk P' w' H h a (SetGO knd a S m) := by
  have ⟨o, _, _, _, ho, _⟩ := R
  exact ⟨⟨n, hm, R⟩, ⟨o, ho⟩, fun h1 h2 ⟨m, hm, k⟩ p => ⟨m, hm, SetG.at k p⟩⟩
def rSetG (K : PySem.W.Frag) (knd : PySem.KeyKind P w κ) (val : κ → V) : List V → Hp → VK → Prop := fun vs H Q => ∃ (l : Addr) (ns L : List κ), vs = [V.ref l] ∧ (SqL K H l (ns.map val) ∨ SqT K H l (ns.map val)) ∧ (∀ x ∈ ns, x ∈ L) ∧ L.length ≤ 3000 ∧
  ∀ p : Addr, H p = none → Q (.ref p) (upd H p (SetGO knd p (fun j => decide (j ∈ ns)) ns.length))
def rSortG (knd : PySem.KeyKind P w κ) (enc : κ → PyData) (val : κ → V) : List V → Hp → VK → Prop := fun vs H Q => ∃ (a : Addr) (S : κ → Bool) (m : Nat), vs = [V.ref a] ∧ H a = some (SetGO knd a S m) ∧
  ∀ (zs : List κ) (p : Addr), zs.Nodup → (∀ k, k ∈ zs ↔ S k = true) → H p = none → Q (.ref p) (upd H p (.lst ((zs.mergeSort (dataLe false enc)).map val)))
theorem ks_vals {knd : PySem.KeyKind P w κ} {enc : κ → PyData} {val : κ → V} (kv : KdV knd enc val) : ∀ {vs : List Value} {zs : List κ}, EachIs (IsK knd) vs zs → Vals (zs.map val) vs
  | _, _, .nil => .nil
  | _, _, .cons r t => .cons (kv.rel _ _ r) (ks_vals kv t)
theorem ks_keys {knd : PySem.KeyKind P w κ} {enc : κ → PyData} {val : κ → V} (kv : KdV knd enc val) : ∀ {ns : List κ} {vs : List Value}, Vals (ns.map val) vs → EachIs (fun v k => knd.is k v = true ∧ v.scannable = true) vs ns
  | [], _, .nil => .nil
  | n :: ns, _, .cons r t => .cons (kv.key _ _ r) (ks_keys kv t)
end
section
variable {X : Cx} {κ : Type} [DecidableEq κ] {knd : PySem.KeyKind X.prog X.w κ} {enc : κ → PyData} {val : κ → V}
theorem setGO_get {pins : List (Addr × Obj)} {σ : L2.St} {H : Hp} {s : Shared} {a : Addr} {S : κ → Bool} {m : Nat} (I : Inv X pins σ H s) (ha : H a = some (SetGO knd a S m)) : ∃ n, n ≤ m ∧ SetG knd s.heap a S n := (I.hok a _ ha).1
theorem cr_setG (kv : KdV knd enc val) (hc : X.calm = true) : CallR X (.type "set") (rSetG X.K knd val) := by
  intro pins s σ H vs us Q I r h
  obtain ⟨l, ns, L, rfl, hs, hLs, hn, q⟩ := h
  rw [Vals.ref1 r]
  have fin : ∀ (h' : Heap) (tk c : Nat), SetG knd h' s.heap.objs.size (fun j => decide (j ∈ ns)) c → c ≤ ns.length → (∀ b o, s.heap.get? b = some o → h'.get? b = some o) → EP X pins σ Q (.ref s.heap.objs.size) { s with heap := h', toks := tk } := fun h' tk c R1 hcn k =>
    ⟨.ref _, upd H s.heap.objs.size (SetGO knd s.heap.objs.size (fun j => decide (j ∈ ns)) ns.length), I.laid (t' := tk) k (Nat.le_refl _) (setGO_new R1 hcn), rfl, q _ (I.hok.fresh (Nat.le_refl _))⟩
  rcases hs with hs | hs
  · obtain ⟨its, rv, pt, hz⟩ := I.list hs
    exact call_setG knd ns L hLs (I.ok.hd hc) (pt.isList) (by simpa using ks_keys kv rv) (by unfold scanBound; omega) fin
  · obtain ⟨its, rv, pt, hz⟩ := I.tuple hs
    exact call_setGT knd ns L hLs (I.ok.hd hc) (show s.heap.IsTuple l its.toArray from pt) (by simpa using ks_keys kv rv) (by unfold scanBound; omega) fin
theorem cr_sortG (kv : KdV knd enc val) (hc : X.calm = true) (hu : X.A.units + 64 < cLine) : CallR X (.builtin "sorted") (rSortG knd enc val) := by
  intro pins s σ H vs us Q I r h
  obtain ⟨a, S, m, rfl, ha, q⟩ := h
  obtain ⟨n, _, R⟩ := setGO_get I ha
  rw [Vals.ref1 r]
  refine sorted_setG kv R (I.ok.hd hc) hu fun s' p out c zs k g o hp hg he nd hm hl => ?_
  have hsl : scanBound ≤ sizeLine := by decide
  have hlen : ((zs.mergeSort (dataLe false enc)).map val).length ≤ sizeLine := by rw [List.length_map, List.length_mergeSort]; omega
  have hn : H p = none := I.hok.fresh hp
  have J : Inv X pins σ (upd H p (.lst ((zs.mergeSort (dataLe false enc)).map val))) { s with heap := s'.heap, gens := s'.gens, drawn := s'.drawn, toks := s'.toks } :=
    I.call (ch := []) (Un.laid k hp hn) (I.hok.laid k hp ⟨hlen, out, c, ks_vals kv he, hg⟩) (by rw [g]; exact I.bare) (fun _ z => nomatch z)
  have e : s' = { s with heap := s'.heap, gens := s'.gens, drawn := s'.drawn, toks := s'.toks } := by
    cases s'
    cases s
    cases o
    rfl
  rw [e]
  exact ⟨.ref p, _, J, rfl, q zs p nd hm hn⟩
end
theorem CallR.or {X : Cx} {f : Value} {r1 r2 : List V → Hp → VK → Prop} (h1 : CallR X f r1) (h2 : CallR X f r2) : CallR X f (fun vs H Q => r1 vs H Q ∨ r2 vs H Q) := by
  intro pins s σ H vs us Q I r h
  rcases h with h | h
  · exact h1 pins s σ H vs us Q I r h
  · exact h2 pins s σ H vs us Q I r h
theorem RpL.ints_of {K : PySem.W.Frag} {F : Hp} : ∀ {vs : List V} {ns : List Int}, RpL K F vs (ns.map .int) → vs = ns.map V.int
  | _, [], r => by cases r; rfl
  | _, n :: ns, r => by
    cases r with
    | cons r t =>
      cases r
      rw [RpL.ints_of t]
      rfl
theorem RpL.of_ints {K : PySem.W.Frag} {F : Hp} : ∀ ns : List Int, RpL K F (ns.map V.int) (ns.map .int)
  | [] => .nil
  | n :: ns => .cons (.int n) (RpL.of_ints ns)
end Dl
namespace Dl
open PySem L2
section
variable {A : Amb} {X : Cx} {N : Ent} {a : Expr} {tL : DA A} {p p2 pos pos2 : Pos}
def setS (ds : List D) (k : List D → Prop) : Prop := ∃ ns L : List Int, ds = ns.map .int ∧ ns.length ≤ 90000 ∧ (∀ j ∈ ns, j ∈ L) ∧ L.length ≤ 60 ∧ ∀ ms : List Int, ms.Pairwise (· < ·) → (∀ j, j ∈ ms ↔ j ∈ ns) → k (ms.map .int)
def nSortedSet (tL : DA A) : DC A := fun ρ s Q => tL ρ s fun xs s1 => ∃ ds, xs = [.tuple ds] ∧ setS ds fun out => Q (.ol out) s1
@[simp] theorem q_nSortedSet {ρ : Rho} {s : A.S} {Q : Cell → A.S → Prop} : nSortedSet tL ρ s Q = tL ρ s fun xs s1 => ∃ ds, xs = [.tuple ds] ∧ setS ds fun out => Q (.ol out) s1 := rfl
theorem sortI_asc {zs : List Int} (nd : zs.Nodup) : (zs.mergeSort (PySem.W.dataLe false PyData.int)).Pairwise (· < ·) := by
  have e := PySem.W.dataLe_int (β := Int) (fun b => b)
  rw [show PySem.W.dataLe false PyData.int = PySem.W.dataLe false (fun b : Int => PyData.int b) from rfl, e]
  have pm := List.mergeSort_perm zs fun a b => decide (a ≤ b)
  have pw := List.pairwise_mergeSort (le := fun a b : Int => decide (a ≤ b)) (fun a b c h1 h2 => by
    rw [decide_eq_true_eq] at *
    omega) (fun a b => by
    rw [Bool.or_eq_true, decide_eq_true_eq, decide_eq_true_eq]
    omega) zs
  have nd2 := pm.nodup_iff.mpr nd
  exact (List.Pairwise.and pw nd2).imp fun {a b} z => by
    have := of_decide_eq_true z.1
    have := z.2
    omega
theorem n_sortedSet (hc : X.calm = true) (hu : X.A.units + 64 < cLine) (ha : PA X [a] (liftAB A X.K N tL)) (hm : X.mg "sorted" = none) (hm2 : X.mg "set" = none) (hg : Gl X "sorted" := by rfl) (hg2 : Gl X "set" := by rfl)
    (h1 : starEach [.Call (.Name "set" p2) [a] [] pos2] X.env = (false, eval (.Call (.Name "set" p2) [a] [] pos2) X.env) :: starEach [] X.env := by rfl) (h2 : starEach [a] X.env = (false, eval a X.env) :: starEach [] X.env := by rfl) :
    PE X (.Call (.Name "sorted" p) [.Call (.Name "set" p2) [a] [] pos2] [] pos) (liftW A X.K N (nSortedSet tL)) :=
  PE.imp (pe_callB (cr_sortG (kv_int (P := X.prog) (w := X.w)) hc hu) hg hm bt_sorted (pa_cons (pe_callTy (cr_setG (kv_int (P := X.prog) (w := X.w)) hc) hg2 hm2 bt_set ha (by decide) (by decide) h2 rfl) pa_nil h1) (by decide) (by decide) h1 rfl) fun σ H Q ⟨ρ, s, O, P, R0, q, k⟩ =>
    ⟨ρ, s, O, _, R0, q, fun xs s1 vs H1 O1 q1 R1 le1 rx => by
      obtain ⟨ds, rfl, ns, L, rfl, hn, hL, hL2, q1⟩ := q1
      obtain ⟨v, rfl, b1⟩ := (R1.bhL rx).one
      obtain ⟨l, ys, rfl, s0, s1', r1⟩ := b1.tup fzP_le
      have e := r1.ints_of
      subst e
      refine ⟨l, ns, L, rfl, .inr s1', hL, by omega, fun b hb => ?_⟩
      refine ⟨b, _, _, rfl, upd_same, fun zs p nd mem hp => ?_⟩
      have g1 := same_upd (o := SetGO (PySem.intKind X.prog X.w) b (fun j => decide (j ∈ ns)) ns.length) hb
      have R2 := R1.alloc g1
      have pm := List.mergeSort_perm zs (PySem.W.dataLe false PyData.int)
      have q2 := q1 (zs.mergeSort (PySem.W.dataLe false PyData.int)) (sortI_asc nd) fun j => by rw [pm.mem_iff, mem j, decide_eq_true_eq]
      exact k _ s1 p _ _ O1 q2 R2 (le1.trans (R1.fzle g1)) hp (.ol (RpL.of_ints _))⟩
end
end Dl
namespace Dl
open PySem L2
section
variable {κ : Type} [DecidableEq κ]
def putD (kvs : List (κ × D)) (k : κ) (v : D) : List (κ × D) :=
  if (kvs.any fun kv => decide (kv.1 = k)) = true then kvs.map (fun kv => if kv.1 = k then (kv.1, v) else kv) else kvs ++ [(k, v)]
variable {K : PySem.W.Frag} {F H : Hp}
end
theorem u1 {n m : Nat} (h : n + 65 < m) : n + 1 < m := by omega
end Dl
namespace Dl
open PySem L2
def dictD (kvs : List (Key × D)) : D := .dict (kvs.map fun p => (keyD p.1, p.2))
section
variable {K : PySem.W.Frag} {F H : Hp}
theorem keyD_inj {a b : Key} (h : keyD a = keyD b) : a = b := by
  cases a <;> cases b <;> simp [keyD] at h <;> rw [h]
theorem zip_back : ∀ {kv : List (Key × V)} {ds : List D} {kvs : List (Key × D)}, kv.length = ds.length → (kv.map fun p => keyD p.1).zip ds = kvs.map (fun p => (keyD p.1, p.2)) → kv.map (·.1) = kvs.map (·.1) ∧ ds = kvs.map (·.2)
  | [], [], [], _, _ => ⟨rfl, rfl⟩
  | [], [], _ :: _, _, h => by simp at h
  | [], _ :: _, _, h, _ => by simp at h
  | _ :: _, [], _, h, _ => by simp at h
  | _ :: _, _ :: _, [], _, h => by simp at h
  | (k, v) :: kv, d :: ds, (k', d') :: kvs, hl, h => by
    simp only [List.map_cons, List.zip_cons_cons, List.cons.injEq, Prod.mk.injEq] at h
    obtain ⟨⟨h1, h2⟩, h3⟩ := h
    obtain ⟨i1, i2⟩ := zip_back (kv := kv) (by simpa using hl) h3
    have e := keyD_inj h1
    subst e h2
    exact ⟨by simp [i1], by simp [← i2]⟩
theorem dict_inj : ∀ {l m : List (Key × D)}, l.map (fun p => (keyD p.1, p.2)) = m.map (fun p => (keyD p.1, p.2)) → l = m
  | [], [], _ => rfl
  | [], _ :: _, h => by simp at h
  | _ :: _, [], h => by simp at h
  | (k, v) :: l, (k', v') :: m, h => by
    simp only [List.map_cons, List.cons.injEq, Prod.mk.injEq] at h
    obtain ⟨⟨h1, h2⟩, h3⟩ := h
    rw [keyD_inj h1, h2, dict_inj h3]
theorem Bh.dict {v : V} {kvs : List (Key × D)} (b : Bh K F H v (dictD kvs)) (h : Hle F H) (ne : kvs ≠ []) : ∃ a kv, v = .ref a ∧ H a = some (.dK kv) ∧ kv.map (·.1) = kvs.map (·.1) ∧ RpL K F (kv.map (·.2)) (kvs.map (·.2)) := by
  cases kvs with
  | nil => exact (ne rfl).elim
  | cons p kvs =>
    obtain ⟨k, d⟩ := p
    unfold dictD at b
    generalize hd : PyData.dict (List.map (fun p => (keyD p.1, p.2)) ((k, d) :: kvs)) = dd at b
    cases b with
    | rp r =>
      cases r with
      | dK e r =>
        rw [PyData.dict.injEq] at hd
        obtain ⟨i1, i2⟩ := zip_back (by have := r.length; rw [List.length_map] at this; exact this) hd.symm
        subst i2
        exact ⟨_, _, rfl, h _ _ e, i1, r⟩
      | obj a =>
        unfold refD at hd
        simp at hd
        cases k <;> simp [keyD] at hd
      | @dT a kv ds ne e x r =>
        rw [PyData.dict.injEq] at hd
        cases kv with
        | nil => simp at hd
        | cons q kv =>
          cases ds with
          | nil => simp at hd
          | cons d' ds =>
            simp only [List.map_cons, List.zip_cons_cons, List.cons.injEq, Prod.mk.injEq] at hd
            have z := hd.1.1
            cases k <;> simp [keyD, keysD] at z
      | ins e r =>
        unfold objD at hd
        simp at hd
        cases k <;> simp [keyD] at hd
      | _ => cases hd
    | dk e1 e2 e3 =>
      rw [PyData.dict.injEq] at hd
      rename_i p kv kvs'
      have z : kvs' = (k, d) :: kvs := by
        exact (dict_inj hd).symm
      subst z
      exact ⟨_, _, rfl, e1, e2, e3⟩
    | @dt p kv kvs' e1 e2 e3 =>
      rw [PyData.dict.injEq] at hd
      cases kvs' with
      | nil => simp at hd
      | cons q kvs' =>
        simp only [List.map_cons, List.cons.injEq, Prod.mk.injEq] at hd
        have z := hd.1.1
        cases k <;> simp [keyD, keysD] at z
    | _ => cases hd
end
end Dl
namespace Dl
open PySem L2
@[simp] theorem q_dk {kvs : List (Key × D)} : Cell.data (.dk kvs) = dictD kvs := rfl
end Dl
namespace Dl
open PySem L2 PySem.Spec PyProof.Rows PySem.W
theorem RpL.at_ {K : PySem.W.Frag} {F : Hp} : ∀ {vs : List V} {ds : List D}, RpL K F vs ds → ∀ {i : Nat} {v : V} {d : D}, vs[i]? = some v → ds[i]? = some d → Rp K F v d
  | _, _, .nil, i, v, d, h, _ => by simp at h
  | _, _, .cons r t, 0, v, d, h, g => by
    simp at h g
    subst h
    subst g
    exact r
  | _, _, .cons r t, i + 1, v, d, h, g => by
    rw [List.getElem?_cons_succ] at h g
    exact RpL.at_ t h g
theorem compW_map {S α : Type} {f : D → S → (Option D → S → Prop) → Prop} {F : α → D} {h : α → Option D} : ∀ {L : List α} {s : S} {Q : List D → S → Prop}, (∀ x ∈ L, ∀ s k, k (h x) s → f (F x) s k) → Q (L.filterMap h) s → compW f (L.map F) s Q
  | [], _, _, _, q => q
  | x :: xs, s, Q, hf, q => by
    refine hf x (List.mem_cons_self ..) s _ (compW_map (fun y m => hf y (List.mem_cons_of_mem _ m)) ?_)
    rw [List.filterMap_cons] at q
    cases e : h x with
    | none => rw [e] at q; exact q
    | some d => rw [e] at q; exact q
theorem comp_map {A : Amb} {α : Type} {it : DI A} {g : DG A} {tt : DT A} {te : DE A} {vs : List Nat} {ρ : Rho} {s : A.S} {QC : Cell → A.S → Prop} {L : List α} (F : α → D) (hi : ∀ k : List D → A.S → Prop, k (L.map F) s → it ρ s k) (cl : clean ρ vs) (hn : L.length ≤ sizeLine) (h : α → Option D)
    (hf : ∀ x ∈ L, ∀ (s : A.S) (k : Option D → A.S → Prop), k (h x) s → g (F x) (wipeR ρ vs) s fun ρ1 s1 => tt ρ1 s1 fun b s2 => if b = true then te ρ1 s2 fun d s3 => k (some d) s3 else k none s2) (q : QC (.ol (L.filterMap h)) s) : nComp it g tt te vs ρ s QC := by
  refine hi _ ⟨cl, by rw [List.length_map]; exact hn, compW_map (h := h) (fun x m s k q => ?_) q⟩
  have z := hf x m s k q
  have e : (fun ρ1 s1 => tt ρ1 s1 fun b s2 => match b with
    | true => te ρ1 s2 fun d s3 => k (some d) s3
    | false => k none s2) = fun ρ1 s1 => tt ρ1 s1 fun b s2 => if b = true then te ρ1 s2 fun d s3 => k (some d) s3 else k none s2 := by
    funext ρ1 s1
    congr 1
    funext b s2
    cases b <;> simp
  exact Eq.mpr (congrArg (g (F x) (wipeR ρ vs) s) e) z
theorem fm_map {α β : Type} {L : List α} {f : α → β} : L.filterMap (fun x => some (f x)) = L.map f := congrFun List.filterMap_eq_map' L
end Dl
namespace Dl
open PySem L2 PySem.Spec PyProof.Rows
section
variable {A : Amb} {X : Cx} {N : Ent} {st : Stmt} {pos cpos apos : Pos} {o : Expr}
theorem RpL.dropLast {K : PySem.W.Frag} {F : Hp} {vs : List V} {ds : List D} (r : RpL K F vs ds) : RpL K F vs.dropLast ds.dropLast := by
  rw [List.dropLast_eq_take, List.dropLast_eq_take, r.length]
  exact r.take _
end
theorem XR.len {kvs : List XRow} {xs : List (List Key × Addr × Value)} (r : XR kvs xs) : kvs.length = xs.length := Paired.length r
section
variable {K : PySem.W.Frag} {F : Hp}
theorem RpL.keys : ∀ ks : List Key, RpL K F (ks.map kV) (ks.map keyD)
  | [] => .nil
  | .inl i :: ks => .cons (.int i) (RpL.keys ks)
  | .inr x :: ks => .cons (.str x) (RpL.keys ks)
theorem frzT.rp {b : Addr} {ks : List Key} (h : frzT F b ks) : Rp K F (.ref b) (keysD ks) := by
  obtain ⟨ob, d, e⟩ := h
  exact .tup ⟨_, ⟨ob, d, rfl⟩, e⟩ (RpL.keys ks)
theorem KX.rp : ∀ {kvs : List XRow}, KX F kvs → RpL K F (kvs.map fun x => V.ref x.2.1) (kvs.map fun x => keysD x.1)
  | [], _ => .nil
  | x :: kvs, h => .cons (h x (List.mem_cons_self ..)).2.rp (KX.rp fun p m => h p (List.mem_cons_of_mem _ m))
end
end Dl
namespace Dl
open PySem L2 PySem.Spec PyProof.Rows
section
variable {A : Amb} {X : Cx} {N : Ent} {c e o : Expr} {te : DE A} {tn : DC A} {p pos : Pos} {st : Stmt} {ρ : Rho} {s : A.S}
def mergeX (acc kvs : List (List Key × D)) : List (List Key × D) := kvs.foldl (fun acc p => putD acc p.1 p.2) acc
def dUpd (i : Nat) (tn : DC A) : DS A := fun D0 ρ s => match ρ[i]? with
  | some (.dt kvs) => tn ρ s fun c s1 => ∃ more : List (List Key × D), c = .dt more ∧ (more.map fun x => hashI x.1).Nodup ∧ kvs.length + more.length ≤ sizeLine ∧ D0.nx (ρ.set i (.dt (mergeX kvs more))) s1
  | _ => False
@[simp] theorem q_dUpd {i : Nat} {D0 : DEnds A} {kvs : List (List Key × D)} (h : ρ[i]? = some (.dt kvs)) : dUpd i tn D0 ρ s = tn ρ s fun c s1 => ∃ more : List (List Key × D), c = .dt more ∧ (more.map fun x => hashI x.1).Nodup ∧ kvs.length + more.length ≤ sizeLine ∧ D0.nx (ρ.set i (.dt (mergeX kvs more))) s1 := by
  unfold dUpd
  rw [h]
end
end Dl
namespace Dl
open PySem L2 PySem.Spec PyProof.Rows
def dropX (kvs : List XRow) (k : List Key) : List XRow := kvs.filter fun x => !decide (x.1 = k)
theorem XR.drop {kvs : List XRow} {xs : List (List Key × Addr × Value)} (r : XR kvs xs) (k : List Key) : XR (dropX kvs k) (withoutH xs k) := by
  unfold dropX withoutH
  induction r with
  | nil => exact .nil
  | @cons p q ps qs h t ih =>
    rw [List.filter_cons, List.filter_cons]
    by_cases c : p.1 = k
    · rw [if_neg (by simp [c]), if_neg (by rw [← h.1]; simp [c])]
      exact ih
    · rw [if_pos (by simp [c]), if_pos (by rw [← h.1]; simp [c])]
      exact Paired.cons h ih
end Dl
namespace Dl
open PySem L2 PySem.Spec PyProof.Rows
def dJoin {A : Amb} (a : Str) (te : DE A) : DE A := fun ρ s Q => te ρ s fun d s1 => ∃ ys : List Str, (d = .list (ys.map .str) ∨ d = .tuple (ys.map .str)) ∧ (ys.map (·.length)).sum + ys.length * a.length ≤ 16777216 ∧ Q (.str (Txt.join a ys)) s1
@[simp] theorem q_dJoin {A : Amb} {a : Str} {te : DE A} {ρ : Rho} {s : A.S} {Q : D → A.S → Prop} : dJoin a te ρ s Q = te ρ s fun d s1 => ∃ ys : List Str, (d = .list (ys.map .str) ∨ d = .tuple (ys.map .str)) ∧ (ys.map (·.length)).sum + ys.length * a.length ≤ 16777216 ∧ Q (.str (Txt.join a ys)) s1 := rfl
theorem RpL.strs {K : PySem.W.Frag} {F : Hp} : ∀ {ys : List Str} {vs : List V}, RpL K F vs (ys.map .str) → vs = ys.map V.str
  | [], _, r => by cases r; rfl
  | y :: ys, _, r => by
    cases r with
    | cons r t =>
      cases r
      rw [RpL.strs t]
      rfl
section
variable {A : Amb} {X : Cx} {N : Ent} {e o : Expr} {te : DE A} {pos apos p : Pos}
theorem e_join {a : Str} {j : Nat} {c0 : Pos} (he : PE X e (liftE A X.K N te)) (hs : starEach [e] X.env = [(false, eval e X.env)] := by rfl) (hline : (apos.endLine == pos.line) = true := by rfl) (hbase : attributeBase (.Constant (.str a) j c0) "join" X.env (eval (.Constant (.str a) j c0) X.env) = eval (.Constant (.str a) j c0) X.env := by rfl) :
    PE X (.Call (.Attribute (.Constant (.str a) j c0) "join" apos) [e] [] pos) (liftE A X.K N (dJoin a te)) :=
  PE.imp (pe_join pe_str he hs hbase hline) fun σ H Q ⟨ρ, s, O, P, R0, q, k⟩ => ⟨⟨a, rfl⟩, ρ, s, O, _, R0, q, fun x s1 vx H1 O1 ⟨ys, ed, hl, q1⟩ R1 le1 rx => by
    rcases ed with rfl | rfl
    · cases rx with
      | lst hs rl =>
        have := rl.strs
        subst this
        exact ⟨a, _, ys, rfl, rfl, .inl (SqL.of (fzP_le _ _ hs)), hl, k _ s1 _ H1 O1 q1 R1 le1 (.str _)⟩
    · cases rx with
      | tup hs rl =>
        have := rl.strs
        subst this
        exact ⟨a, _, ys, rfl, rfl, .inr ((fzP_le : Hle _ H1).sqT hs.sqT), hl, k _ s1 _ H1 O1 q1 R1 le1 (.str _)⟩⟩
end
def fIntS : FN := fun xs k => match xs with
  | [.str a] => ∃ n, PySem.intText? a = some n ∧ a.length ≤ 640 ∧ k (.int n)
  | _ => False
@[simp] theorem q_intS {a : Str} {k : D → Prop} : fIntS [.str a] k = ∃ n, PySem.intText? a = some n ∧ a.length ≤ 640 ∧ k (.int n) := rfl
theorem dn_intS {K : PySem.W.Frag} : DRN K (fun xs H Q => ∃ a n, xs = [V.str a] ∧ PySem.intText? a = some n ∧ a.length ≤ 640 ∧ Q (.int n) H) fIntS := fun H P xs ds k Q dm b f kk => by
  unfold fIntS at f
  split at f
  · obtain ⟨v, rfl, b1⟩ := b.one
    cases b1.str
    obtain ⟨n, h1, h2, h3⟩ := f
    exact ⟨_, n, rfl, h1, h2, kk _ H _ (Same.refl _) (.int _) h3⟩
  · exact f.elim
theorem store_toks {M : Model} {A : Around} {E : Value → Shared → Prop} {env : Env} {name : Str} {v : Value} {s : Shared} {Q : Unit → Shared → Prop} (hl : env.kindOf name = some .local) (hp : (env.scope.kind == .class || (env.scope.kind == .module && env.locals != env.globals)) = false)
    (h : wpAny M A (storeName env name v) Q E s) : wpAny M A (storeName env name v) (fun a s' => 1 ≤ s'.toks ∧ Q a s') E s := by
  rw [storeName_local hl hp] at h ⊢
  intro Γ p hΓ
  have h1 := h Γ p hΓ
  unfold nsSet strHash mkText ask fresh at h1 ⊢
  simp only [Sem.wp_bind'] at h1 ⊢
  simp [PySem.Sem.wp_ask] at h1 ⊢
  rw [← Sem.wp_bind'] at h1 ⊢
  exact Sem.wp_mono M Γ _ (fun a p' s' z => z) (fun e p' s' z => z.2) p _ (Sem.wp_toks M Γ 1 _ _ _ p _ (Nat.le_add_left 1 s.toks) h1)
section
variable {X : Cx} {e : Expr} {x : Str} {i : Nat} {te : TE} {rest : List Stmt} {u : TS} {pos pos' : Pos}
theorem pss_setT (he : PE X e te) (hN : X.N.Nodup) (hi : X.N[i]? = some x) (hl : X.env.kindOf x = some .local) (h2 : PSsT X rest u) (hs : swapsWith e (some (.Name x pos')) pos.line X.env = pure false := by rfl) (hf : X.fn x = true ∨ X.env.scope.names.lookup x = some .local := by first | exact .inl rfl | exact .inr rfl) :
    PSs X (.Assign [.Name x pos'] e pos :: rest) (tSeq (tAsg te (gName i)) u) := by
  refine ⟨fun pins s σ H D I h => ?_⟩
  refine wpAny_execs_cons (wpAny_Assign_Name (thn (he.run pins s σ H _ I h) fun v s1 ⟨y, H1, I1, r1, q1⟩ => ?_) hs)
  have hp : (X.env.scope.kind == .class || (X.env.scope.kind == .module && X.env.locals != X.env.globals)) = false := by rw [I.ok.kind]; rfl
  refine wpAny_mono (store_toks hl hp (store_ok I1 hN hi (.inl hl) r1 (Q := fun _ s2 => Inv X pins (σ.set i (some y)) H1 s2) (fun s' I2 => I2) hf)) (fun _ s2 ⟨h1, I2⟩ => ?_) fun _ _ z => z
  exact h2 pins s2 _ H1 D h1 I2 q1
variable {o f : Expr} {to : TE} {apos : Pos}
theorem pet_m1 {id : String} {name : Str} {r : V → List V → Hp → VK → Prop} {te : TE} (slot : Slot "str" name id) (ty : typeOf (.builtin id) = pure (.type "method_descriptor")) (rule : MtR X id r) (ho : PET X o to) (he : PE X e te)
    (hs : starEach [e] X.env = [(false, eval e X.env)] := by rfl) (hbase : attributeBase o name X.env (eval o X.env) = eval o X.env := by rfl) (hline : (apos.endLine == pos.line) = true := by rfl) :
    PET X (.Call (.Attribute o name apos) [e] [] pos) (tM1 r to te) := by
  intro pins s σ H Q h0 I h
  refine PySem.Call_method1 hbase hs hline (thn (ho pins s σ H _ h0 I h) fun v s1 ⟨x, H1, I1, r1, q1⟩ => ?_)
  obtain ⟨⟨a, rfl⟩, q1⟩ := q1
  obtain ⟨t, rfl⟩ := _root_.id r1
  refine ⟨"str", _, F.plainAttrs_str, slot, ty, typeIs_str _ _ _, (fun _ e => nomatch e), Calls.callWith_builtin rfl (Calls.evalArgs_plain (Calls.spliced_cons ?_))⟩
  exact thn (he.run pins s1 σ H1 _ I1 q1) fun u s2 ⟨y, H2, I2, r2, q2⟩ => Calls.spliced_nil (rule pins s2 σ H2 _ [y] _ [u] Q I2 r1 (.cons r2 .nil) q2)
theorem PET.imp {t t' : TE} (h : PET X e t) (i : ∀ σ H Q, t' σ H Q → t σ H Q) : PET X e t' := fun pins s σ H Q h0 I q => h pins s σ H Q h0 I (i _ _ _ q)
end
def dRepl {A : Amb} (te : DE A) (y z : Str) : DE A := fun ρ s Q => te ρ s fun d s1 => match d with
  | .str x => x.length + (x.length + 1) * z.length ≤ 16777216 ∧ Q (.str (Txt.replace x y z)) s1
  | _ => False
@[simp] theorem q_dRepl {A : Amb} {te : DE A} {y z : Str} {ρ : Rho} {s : A.S} {Q : D → A.S → Prop} : dRepl te y z ρ s Q = te ρ s fun d s1 => match d with
  | .str x => x.length + (x.length + 1) * z.length ≤ 16777216 ∧ Q (.str (Txt.replace x y z)) s1
  | _ => False := rfl
def dSplit {A : Amb} (te : DE A) (b : Str) : DE A := fun ρ s Q => te ρ s fun d s1 => match d with
  | .str a => (b.length == 0) = false ∧ a.length + 2 ≤ sizeLine ∧ Q (.list ((Txt.split a b).map .str)) s1
  | _ => False
@[simp] theorem q_dSplit {A : Amb} {te : DE A} {b : Str} {ρ : Rho} {s : A.S} {Q : D → A.S → Prop} : dSplit te b ρ s Q = te ρ s fun d s1 => match d with
  | .str a => (b.length == 0) = false ∧ a.length + 2 ≤ sizeLine ∧ Q (.list ((Txt.split a b).map .str)) s1
  | _ => False := rfl
theorem strs_rp {K : PySem.W.Frag} {F : Hp} : ∀ ys : List Str, RpL K F (ys.map V.str) (ys.map .str)
  | [] => .nil
  | y :: ys => .cons (.str y) (strs_rp ys)
section
variable {A : Amb} {X : Cx} {N : Ent} {e o : Expr} {te : DE A} {pos apos p tpos : Pos}
theorem et_repl {y z : Str} {j k : Nat} {c0 c1 : Pos} (ho : PE X o (liftE A X.K N te)) (hyz : (y == z) = false := by decide)
    (hst : starEach [.Constant (.str y) j c0, .Constant (.str z) k c1] X.env = [(false, eval (.Constant (.str y) j c0) X.env), (false, eval (.Constant (.str z) k c1) X.env)] := by rfl)
    (hline : (apos.endLine == pos.line) = true := by rfl) (hbase : attributeBase o "replace" X.env (eval o X.env) = eval o X.env := by rfl) :
    PET X (.Call (.Attribute o "replace" apos) [.Constant (.str y) j c0, .Constant (.str z) k c1] [] pos) (liftE A X.K N (dRepl te y z)) :=
  PET.imp (CwR.pet_replC ho hyz hst hbase hline) fun σ H Q ⟨ρ, s, O, P, R0, q, kk⟩ => ⟨ρ, s, O, _, R0, q, fun x s1 vx H1 O1 q1 R1 le1 rx => by
    split at q1
    · cases rx
      exact ⟨_, rfl, q1.1, kk _ s1 _ H1 O1 q1.2 R1 le1 (.str _)⟩
    · exact q1.elim⟩
theorem et_split {b : Str} {j : Nat} {c0 : Pos} (ho : PET X o (liftE A X.K N te)) (hs : starEach [.Constant (.str b) j c0] X.env = [(false, eval (.Constant (.str b) j c0) X.env)] := by rfl) (hline : (apos.endLine == pos.line) = true := by rfl) (hbase : attributeBase o "split" X.env (eval o X.env) = eval o X.env := by rfl) :
    PET X (.Call (.Attribute o "split" apos) [.Constant (.str b) j c0] [] pos) (liftE A X.K N (dSplit te b)) :=
  PET.imp (pet_m1 F.slot_str_split F.type_str_split mt_split ho pe_str hs hbase hline) fun σ H Q ⟨ρ, s, O, P, R0, q, kk⟩ => ⟨ρ, s, O, _, R0, q, fun x s1 vx H1 O1 q1 R1 le1 rx => by
    split at q1
    · next a =>
      cases rx
      refine ⟨⟨a, rfl⟩, a, b, rfl, rfl, q1.1, q1.2.1, fun p hp => ?_⟩
      exact kk _ s1 _ _ O1 q1.2.2 (R1.alloc (same_upd hp)) (le1.trans (R1.fzle (same_upd hp))) (.lst (fzP_of (R1.fresh hp) upd_same) (strs_rp _))
    · exact q1.elim⟩
theorem e_split {b : Str} {j : Nat} {c0 : Pos} (ho : PE X o (liftE A X.K N te)) (hs : starEach [.Constant (.str b) j c0] X.env = [(false, eval (.Constant (.str b) j c0) X.env)] := by rfl) (hline : (apos.endLine == pos.line) = true := by rfl) (hbase : attributeBase o "split" X.env (eval o X.env) = eval o X.env := by rfl) :
    PE X (.Call (.Attribute o "split" apos) [.Constant (.str b) j c0] [] pos) (liftE A X.K N (dSplit te b)) :=
  PE.imp (pe_split ho pe_str hs hbase hline) fun σ H Q ⟨ρ, s, O, P, R0, q, kk⟩ => ⟨ρ, s, O, _, R0, q, fun x s1 vx H1 O1 q1 R1 le1 rx => by
    split at q1
    · next a =>
      cases rx
      refine ⟨⟨a, rfl⟩, a, b, rfl, rfl, q1.1, q1.2.1, fun p hp => ?_⟩
      exact kk _ s1 _ _ O1 q1.2.2 (R1.alloc (same_upd hp)) (le1.trans (R1.fzle (same_upd hp))) (.lst (fzP_of (R1.fresh hp) upd_same) (strs_rp _))
    · exact q1.elim⟩
end
end Dl
namespace Dl
open PySem L2 PySem.Spec PyProof.Rows
section
variable {A : Amb} {K : PySem.W.Frag} {N : Ent} {t u : DS A} {T U : TS} {tn : DC A} {i : Nat} {it : DI A} {g : DG A} {vs : List Nat}
theorem imp_seq (h1 : ∀ D σ H, liftS A K N t D σ H → T D σ H) (h2 : ∀ D σ H, liftS A K N u D σ H → U D σ H) : ∀ D σ H, liftS A K N (dSeq t u) D σ H → tSeq T U D σ H := fun D σ H ⟨ρ, s, O, Dd, R, E, q⟩ =>
  h1 _ _ _ ⟨ρ, s, O, ⟨fun ρ s => u Dd ρ s, Dd.rt, Dd.bk, Dd.ct⟩, R, ⟨fun ρ' s' σ' H' O' R' le q' => h2 _ _ _ ⟨ρ', s', O', Dd, R', E.up le, q'⟩, E.rt, E.bk, E.ct⟩, q⟩
theorem imp_setW : ∀ D σ H, liftS A K N (dSetN i tn) D σ H → tAsg (liftW A K N tn) (gName i) D σ H := fun D σ H ⟨ρ, s, O, Dd, R, E, q⟩ =>
  ⟨ρ, s, O, _, R, q, fun c s1 p ob H1 O1 q1 R1 le1 hp hh => E.nx _ s1 _ _ O1 (R1.setNew hp hh).1 (le1.trans (R1.setNew hp hh).2) q1⟩
theorem imp_for : ∀ D σ H, liftS A K N (dFor it g t) D σ H → tFor (liftI A K N it) (liftG A K N vs g) (liftS A K N t) D σ H := fun D σ H ⟨ρ, s, O, Dd, R, E, q⟩ => ⟨ρ, s, O, _, R, q, fun xs s0 J H0 O0 q0 R0 le0 ok => by
    refine ⟨fun i m σ' H' => m = xs.length - i ∧ i ≤ xs.length ∧ ∃ ρ' s' O', Rel A K N s' σ' H' ρ' O' ∧ Hle (fzP H0 (Px N σ ρ O0)) (fzP H' (Px N σ' ρ' O')) ∧ forW (fun x D ρ s => g x ρ s fun ρ' s' => t D ρ' s') (xs.drop i) Dd ρ' s',
      ⟨xs.length, rfl, Nat.zero_le _, ρ, s0, O0, R0, Hle.refl _, q0⟩, ?_⟩
    rintro i m σ1 H1 ⟨rfl, hi, ρ1, s1, O1, R1, le1, q1⟩
    have ok1 := ok i H1 (Px N σ1 ρ1 O1) (fun _ z => R1.dom z) le1
    by_cases hlt : i < xs.length
    · refine .inr ⟨(ok1.1 hlt).1, fun σ' H' => i + 1 ≤ xs.length ∧ ∃ ρ' s' O', Rel A K N s' σ' H' ρ' O' ∧ Hle (fzP H0 (Px N σ ρ O0)) (fzP H' (Px N σ' ρ' O')) ∧ forW (fun x D ρ s => g x ρ s fun ρ' s' => t D ρ' s') (xs.drop (i + 1)) Dd ρ' s', fun σ' H' z => ⟨xs.length - (i + 1), by omega, rfl, z.1, z.2⟩, fun x H2 y => ?_⟩
      obtain ⟨sm, d, hd, rx⟩ := (ok1.1 hlt).2 x H2 y
      have R2 := R1.alloc sm
      have le2 := R1.fzle sm
      have hx : xs.drop i = d :: xs.drop (i + 1) := by
        rw [List.drop_eq_getElem_cons hlt]
        rw [List.getElem?_eq_getElem hlt] at hd
        cases hd
        rfl
      rw [hx] at q1
      refine ⟨ρ1, s1, O1, d, _, R2, rx, q1, fun ρ3 s3 σ3 H3 O3 q3 R3 le3 _ => ⟨ρ3, s3, O3, _, R3, ?_, q3⟩⟩
      have E' := E.up (le0.trans (le1.trans (le2.trans le3)))
      exact ⟨fun ρ' s' σ' H' O' R' le z => ⟨hlt, ρ', s', O', R', le1.trans (le2.trans (le3.trans le)), z⟩, E'.rt, E'.nx, fun ρ' s' σ' H' O' R' le z => ⟨hlt, ρ', s', O', R', le1.trans (le2.trans (le3.trans le)), z⟩⟩
    · have e : i = xs.length := by omega
      subst e
      rw [List.drop_length] at q1
      exact .inl ⟨ok1.2 (Nat.le_refl _), E.nx ρ1 s1 σ1 H1 O1 R1 (le0.trans le1) q1⟩⟩
end
section
variable {A : Amb} {X : Cx} {N : Ent} {tg e iter : Expr} {te : DE A}
theorem PIT.imp {wi wi' : TI} (h : PIT X tg iter wi) (i : ∀ σ H R, wi' σ H R → wi σ H R) : PIT X tg iter wi' := fun pins s σ H R h0 I q => h pins s σ H R h0 I (i _ _ _ q)
theorem iT (he : PET X e (liftE A X.K N te)) : PIT X tg e (liftI A X.K N (dIt te)) := fun pins s0 σ H R h0 I hw => by
  obtain ⟨ρ, s, O, P, R0, q, k⟩ := hw
  refine thn (he pins s0 σ H (fun v H1 => ∀ (pins : List (Addr × Obj)) (s : Shared) (u : Value), Inv X pins σ H1 s → RelV v u → wpAny (model X.prog X.w) X.A (pyIter u) (PIE X pins σ tg R) X.xe s) h0 I ⟨ρ, s, O, _, R0, q, fun d s1 v H1 O1 q1 R1 le1 r pins sh u I ru => ?_⟩) fun u s1 ⟨v, H1, I1, r1, z⟩ => z pins s1 u I1 r1
  split at q1
  · cases r with
    | lst hs rl =>
      cases ru
      exact it_list I (SqL.of (fzP_le _ _ hs)) (k _ s1 _ H1 O1 q1 R1 le1 (ok_list hs rl))
  · cases r with
    | tup hs rl =>
      cases ru
      exact it_tup I ((fzP_le : Hle _ H1).sqT hs.sqT) (k _ s1 _ H1 O1 q1 R1 le1 (ok_tup hs.sqT rl))
  · cases r
    exact it_str I ru (k _ s1 _ H1 O1 q1 R1 le1 ok_str)
  · exact q1.elim
variable {body rest : List Stmt} {tn : DC A} {i : Nat} {it : DI A} {g : DG A} {vs : List Nat} {t u : DS A} {x : Str} {p pos1 pos2 : Pos}
theorem ss_setFor (i : Nat) (nd : X.N.Nodup) (he : PE X e (liftW A X.K N tn)) (hi : PIT X tg iter (liftI A X.K N it)) (hg : PG X tg (liftG A X.K N vs g)) (hb : PSs X body (liftS A X.K N t)) (hr : PSs X rest (liftS A X.K N u)) (hp : PassesOwn (model X.prog X.w) X.A X.env X.xe) (hc : X.calm = true)
    (hx : X.N[i]? = some x := by rfl) (hl : X.env.kindOf x = some .local := by rfl) (hs : swapsWith e (some (.Name x p)) pos1.line X.env = pure false := by rfl) (hs2 : ∀ x, foldedSetIterable iter X.env x = pure x := by intro _; rfl) (hf : X.fn x = true ∨ X.env.scope.names.lookup x = some .local := by first | exact .inl rfl | exact .inr rfl) :
    PSs X (.Assign [.Name x p] e pos1 :: .For tg iter body [] pos2 :: rest) (liftS A X.K N (dSeq (dSetN i tn) (dSeq (dFor it g t) u))) :=
  PSs.imp (pss_setT he nd hx hl (psst_cons (pst_for hp hc hi hg hb hs2) (PSsT.of hr)) hs hf) (imp_seq imp_setW (imp_seq imp_for fun _ _ _ z => z))
end
end Dl
namespace Dl
open PySem L2 PySem.Spec PyProof.Rows
section
variable {X : Cx}
theorem get_listP : PGet X (rIxL X.K) := by
  intro pins s σ H o i ov iv Q I ro ri h
  obtain ⟨p, xs, k, z, rfl, rfl, hq, he, q⟩ := h
  cases ro
  obtain ⟨t, rfl⟩ := ri
  obtain ⟨its, r, pl, hz⟩ := I.list hq
  obtain ⟨j, h1, h2, h3, h4, h5⟩ := atI_get he
  obtain ⟨w, ew, rw'⟩ := r.get h2
  have hl := r.length
  have hn := line63
  have fin : EP X pins σ Q w s := ⟨z, H, I, rw', q⟩
  by_cases h0 : 0 ≤ k
  · have hj : k.toNat = j := by
      rw [seqIndex_of h0 h5] at h1
      exact Option.some.inj h1
    exact wpAny_getItem_list pl.isList h0 (by omega) (by rw [hj]; simpa using ew) fin
  · have hj : (k + (its.toArray.size : Int)).toNat = j := by
      rw [seqIndex_neg (by omega) h4] at h1
      rw [List.size_toArray, ← hl]
      exact Option.some.inj h1
    exact wpAny_getItem_list_neg pl.isList (by omega) (by rw [List.size_toArray] <;> omega) (by omega) (by rw [hj]; simpa using ew) fin
variable {A : Amb} {N : Ent} {e idx : Expr} {te ti : DE A} {i : Nat} {f : F2}
def dAugIx (i : Nat) (ti : DE A) (f : F2) (te : DE A) : DS A := fun D ρ s => match ρ[i]? with
  | some (.ol ds) => ti ρ s fun x s1 => match x with
    | .int j => ∃ m d, ixN ds.length j = some m ∧ ds[m]? = some d ∧ te ρ s1 fun y s2 => f d y fun z => D.nx (ρ.set i (.ol (ds.set m z))) s2
    | _ => False
  | _ => False
theorem s_augix {op : Operator} {r : R2} {o : Expr} {tpos pos : Pos} (ho : OpR X (inplaceOp op) r) (hR : DR2 X.K r f) (hv : PE X o (tVar i)) (hi : PE X idx (liftB A X.K N ti)) (he : PE X e (liftE A X.K N te))
    (ha : ∀ ov iv new, augStore idx ov iv new = (do holding [new, ov, iv] (setItem ov iv new); release [new, ov, iv] []; pure .next) := by intros; rfl) :
    PS X (.AugAssign (.Subscript o idx tpos) op e pos) (liftS A X.K N (dAugIx i ti f te)) :=
  s_imp (ps_augS hv hi get_listP he (fun pins s σ H x y v u Q I rx ry h => ho pins s σ H x y v u Q I rx ry h) set_list ha) fun D σ H ρ s O Dd R E q => by
    unfold dAugIx at q
    split at q
    · next ds hd =>
      obtain ⟨w, e1, p, xs, rfl, hp, rl⟩ := R.slot hd
      refine ⟨_, e1, ρ, s, O, _, R, q, fun x s1 vx H1 O1 q1 R1 le1 rx => ?_⟩
      split at q1
      · obtain ⟨m, d, hm, hdm, q1⟩ := q1
        cases (R1.bh rx).int
        obtain ⟨w', e1', p', xs', z', hp', rl'⟩ := R1.slot hd
        rw [e1] at e1'
        cases e1'
        cases z'
        have hl := rl'.length
        obtain ⟨v, ev, rv⟩ := rl'.get' hdm
        refine ⟨p, xs', _, v, rfl, rfl, SqL.of hp', by unfold L2.atI; rw [hl, hm]; exact ev, ρ, s1, O1, _, R1, q1, fun y s2 vy H2 O2 q2 R2 le2 ry => ?_⟩
        refine hR H2 (Px N σ ρ O2) v vy d y (fun z => Dd.nx (ρ.set i (.ol (ds.set m z))) s2) _ (fun _ z => R2.dom z) (R2.bh (.inl (rv.mono le2))) (R2.bh (.inl ry)) q2 fun z H' d' sm rz pz => ?_
        have R3 := R2.alloc sm
        have le3 := R2.fzle sm
        obtain ⟨w3, e3, p3, xs3, z3, hp3, rl3⟩ := R3.slot hd
        rw [e1] at e3
        cases e3
        cases z3
        have W := R3.write (c' := .ol (ds.set m d')) hd trivial e1 (.ol (rl3.set m rz))
        exact ⟨p, xs3, _, m, rfl, rfl, hp3, by rw [rl3.length]; exact hm, E.nx _ s2 σ _ O2 W.1 (le1.trans (le2.trans (le3.trans W.2))) pz⟩
      · exact q1.elim
    · exact q.elim
end
end Dl
namespace Dl
open PySem L2 PySem.Spec PyProof.Rows
structure RaisC (K : PySem.W.Frag) (C : Addr) : Prop where
  ex : PySem.W.excIn K C [Value.type "ValueError", .type "Exception", .type "BaseException", .type "object"] "ValueError.__new__" = true
  kp : PySem.W.keepIn K (.ref C) = true
  sb : PySem.W.subIn K (.ref C) (.type "BaseException") = some true
  ty : PySem.W.typeIn K (.ref C) = some (.type "type")
theorem exPair {K : PySem.W.Frag} {mg : Str → Option Value} {n m : Str} {C D C' D' : Addr} {v : Bool} (a : mg n = some (.ref C')) (b : mg m = some (.ref D')) (h1 : mg n = some (.ref C)) (h2 : mg m = some (.ref D)) (e : subE n m = v)
    (te : PySem.W.exmOne K (.ref C') (.ref D') = some v) (ki : PySem.W.kitOne K (.ref C') (.ref D') = some v) : PySem.W.exmOne K (.ref C) (.ref D) = some (subE n m) ∧ PySem.W.kitOne K (.ref C) (.ref D) = some (subE n m) := by
  rw [a] at h1
  cases h1
  rw [b] at h2
  cases h2
  rw [e]
  exact ⟨te, ki⟩
theorem exVe {K : PySem.W.Frag} {mg : Str → Option Value} {n : Str} {C C' : Addr} (a : mg n = some (.ref C')) (h1 : mg n = some (.ref C)) (ki : PySem.W.kitOne K (.ref C') (.type "ValueError") = some true) : PySem.W.kitOne K (.ref C) (.type "ValueError") = some true := by
  rw [a] at h1
  cases h1
  exact ki
structure ExA (K : PySem.W.Frag) (C : Addr) : Prop where
  hg : PySem.W.findIn K (.ref C) "__getattribute__" = some (some (.builtin "BaseException.__getattribute__"))
  hk : PySem.W.findIn K (.ref C) "__getattr__" = some none
  hs : PySem.W.subIn K (.ref C) (.type "BaseException") = some true
  hd : PySem.W.hasDictIn K C = true
  ha : PySem.W.findIn K (.ref C) "__class__" = some (some (.builtin "object.__class__"))
  hm : PySem.W.mroIn K C (.type "object") = some true
  kp : PySem.W.keepIn K (.ref C) = true
  ty : PySem.W.typeIn K (.ref C) = some (.type "type")
  ic : PySem.W.isClsIn K C = true
  sv : PySem.W.subIn K (.ref C) (.type "ValueError") = some true
  sc : PySem.W.subIn K (.ref C) (.ref C) = some true
theorem ExA.exc {K : PySem.W.Frag} {C : Addr} (a : ExA K C) (hn : PySem.W.specialIn K (.builtin "object.__class__") "__get__" = some (some (.builtin "getset_descriptor.__get__"))) (ht : PySem.W.takesIn K (.builtin "object.__class__") = some true) : ExcC K C := ⟨a.hg, a.hk, a.hs, a.hd, a.ha, hn, ht, a.hm⟩
theorem ExA.ve {K : PySem.W.Frag} {C : Addr} (a : ExA K C) : PySem.W.kitOne K (.ref C) (.type "ValueError") = some true := by
  have e : (Value.ref C == Value.type "ValueError") = false := rfl
  show (if (Value.ref C == Value.type "ValueError") = true then some true else if PySem.W.kitMeta "ValueError" = true then PySem.W.subIn K (.ref C) (.type "ValueError") else none) = some true
  rw [e, if_neg Bool.false_ne_true, if_pos (by decide +kernel)]
  exact a.sv
theorem ExA.exm {K : PySem.W.Frag} {C D : Addr} {v : Bool} (b : ExA K D) (h : PySem.W.subIn K (.ref C) (.ref D) = some v) : PySem.W.exmOne K (.ref C) (.ref D) = some v := PySem.W.exm_ref b.hs b.hd b.ty h
theorem ExA.kit {K : PySem.W.Frag} {C D : Addr} {v : Bool} (b : ExA K D) (h : PySem.W.subIn K (.ref C) (.ref D) = some v) : PySem.W.kitOne K (.ref C) (.ref D) = some v := by
  have e2 : ((PySem.W.clsIn K D).isSome && PySem.W.typeIn K (.ref D) == some (.type "type")) = true := by
    have h2' : (PySem.W.clsIn K D).isSome = true := b.ic
    rw [h2', b.ty] <;> rfl
  show (if (Value.ref C == Value.ref D) = true then some true else if ((PySem.W.clsIn K D).isSome && PySem.W.typeIn K (.ref D) == some (.type "type")) = true then PySem.W.subIn K (.ref C) (.ref D) else none) = some v
  by_cases e : (Value.ref C == Value.ref D) = true
  · rw [if_pos e]
    have : C = D := Value.ref.inj (beq_iff_eq.mp e)
    subst this
    rw [b.sc] at h
    exact h
  · rw [if_neg e, if_pos e2]
    exact h
theorem exPr {K : PySem.W.Frag} {mg : Str → Option Value} {n m : Str} {C D C' D' : Addr} {v : Bool} (a : mg n = some (.ref C')) (b : mg m = some (.ref D')) (h1 : mg n = some (.ref C)) (h2 : mg m = some (.ref D)) (x : ExA K D') (h : PySem.W.subIn K (.ref C') (.ref D') = some v) (e : subE n m = v) :
    PySem.W.exmOne K (.ref C) (.ref D) = some (subE n m) ∧ PySem.W.kitOne K (.ref C) (.ref D) = some (subE n m) := exPair a b h1 h2 e (x.exm h) (x.kit h)
theorem takesF {A : Amb} {X : Cx} {N : Ent} {L : List Str} : Takes X (liftX A X.K N X.mg L fun _ _ _ => False) := fun u s' ⟨a, B, sI, pins, σ, H, cls, d, e, I, nb, up, sky, na, os, ag, w⟩ => by
  obtain ⟨_, _, _, _, _, _, z⟩ := w
  exact z.elim
section
variable {A : Amb} {X : Cx} {N : Ent} {e : Expr} {es : List Expr} {pos pos' p : Pos} {tL : DA A} {W : DXW A} {L : List Str} {n : Str} {C : Addr}
theorem s_raiseC (R : RaisC X.K C) (hn : n ∈ L) (hm : X.mg n = some (.ref C)) (tk : Takes X (liftX A X.K N X.mg L W)) (ha : PA X (e :: es) (liftA A X.K N tL)) (hc : X.calm = true := by rfl)
    (hg : Gl X n := by rfl) (hdb : (n == ("__debug__" : Str)) = false := by decide) (h1 : starEach (e :: es) X.env = (false, eval e X.env) :: starEach es X.env := by rfl) (h2 : (backTo pos (starEach es X.env)).any (·.1) = false := by rfl) :
    PS X (.Raise (some (.Call (.Name n p) (e :: es) [] pos)) none pos') (liftS A X.K N (dRaise W n tL)) := s_raise hn hm R.ex R.kp R.sb R.ty hc tk ha hg hdb h1 h2
end
end Dl
namespace Dl
open PySem L2
def t_write_change {A : Amb} : DS A :=
  (dRet (dIf (dTest (dOp fGt (dFn fLen (dCons (dVarB 0) dNil)) (dC (.int 0)))) (dJoin "" (dOfN (nComp (dIt (dVar 0)) (dgN 1) dYes (dFn fStr (dCons (dVarB 1) dNil)) [1]))) (dC (.str "x"))))
def t_write_piece {A : Amb} (S_write_change : FS A) : DS A :=
  (dSeq (dSet 1 (dC (.str "")))
  (dSeq (dFor (dRg1 (dCons (dFn fLen (dCons (dVarB 0) dNil)) dNil)) (dgN 2)
  (dSeq (dSet 3 (dAnd (dOp fGt (dVarB 2) (dC (.int 0))) (dAnd (dOp fGt (dFn fLen (dCons (dOp fIx (dVarB 0) (dVarB 2)) dNil)) (dC (.int 0))) (dOp fGt (dFn fLen (dCons (dOp fIx (dVarB 0) (dOp fSub (dVarB 2) (dC (.int 1)))) dNil)) (dC (.int 0))))))
  (dAug 1 fAddI (dOp fAdd (dIf (dTest (dVar 3)) (dC (.str ".")) (dC (.str ""))) (dCall S_write_change (dCons (dOp fIx (dVarB 0) (dVarB 2)) dNil))))))
  (dRet (dVar 1))))
def t_items_of {A : Amb} : DS A :=
  (dSeq (dSetN 1 (nLst (dCons (dC (.str "")) dNil)))
  (dSeq (dFor (dIt (dVar 0)) (dgN 2)
  (dIfS (dOrT (dTest (dOp fEqU (dVarB 2) (dC (.str "x")))) (dAndT (dTest (dOp fEqU (dOp fIx (dVarB 1) (dUn fNeg (dC (.int 1)))) (dC (.str "x")))) (dTest (dOp fIn (dVarB 2) (dC (.str "0123456789"))))))
  (dApp 1 (dVar 2))
  (dIfS (dTest (dOp fEqU (dVarB 2) (dC (.str "."))))
  (dApp 1 (dC (.str "")))
  (dAugIx 1 (dUn fNeg (dC (.int 1))) fAddI (dVar 2)))))
  (dFrz 1 (dRet (dOfN (nComp (dIt (dVar 1)) (dgN 3) (dTest (dOp fNeU (dVarB 3) (dC (.str "")))) (dVar 3) [3]))))))
def t_read_piece {A : Amb} (W : DXW A) (S_items_of S_is_piece S_write_piece : FS A) : DS A :=
  (dSeq (dSetN 2 (nLst dNil))
  (dSeq (dFor (dIt (dCall S_items_of (dCons (dVar 1) dNil))) (dgN 3)
  (dSeq (dIfS (dAndT (dTest (dOp fNeU (dVarB 3) (dC (.str "x")))) (dNotT (dTest (dFn fAll (dCons (dOfN (nComp (dIt (dVar 3)) (dgN 4) dYes (dOp fIn (dVarB 4) (dC (.str "0123456789"))) [4])) dNil)))))
  (dRaise W "BadText" (dCons (dVar 1) dNil))
  dNx)
  (dApp 2 (dIf (dTest (dOp fEqU (dVarB 3) (dC (.str "x")))) (dTup dNil) (dFn fTuple (dCons (dOfN (nComp (dIt (dVar 3)) (dgN 4) dYes (dFn fIntS (dCons (dVarB 4) dNil)) [4])) dNil))))))
  (dSeq (dSet 5 (dFn fTuple (dCons (dVarB 2) dNil)))
  (dSeq (dIfS (dOrT (dNotT (dTest (dCall S_is_piece (dCons (dVar 0) (dCons (dVar 5) dNil))))) (dTest (dOp fNeU (dCall S_write_piece (dCons (dVar 5) dNil)) (dVarB 1))))
  (dRaise W "BadText" (dCons (dVar 1) dNil))
  dNx)
  (dRet (dVar 5))))))
def t_L_decimal {A : Amb} : DS A :=
  (dSeq (dIfS (dOrT (dTest (dOp fLt (dFn fLen (dCons (dVarB 0) dNil)) (dC (.int 1)))) (dOrT (dTest (dOp fGt (dFn fLen (dCons (dVarB 0) dNil)) (dC (.int 10)))) (dTest (dOp fGt (dFn fLen (dCons (dOfN (nComp (dIt (dVar 0)) (dgN 1) (dTest (dOp fNotIn (dVarB 1) (dC (.str "0123456789")))) (dVar 1) [1])) dNil)) (dC (.int 0))))))
  (dRet (dC .none))
  dNx)
  (dRet (dIf (dAndT (dTest (dOp fGt (dFn fLen (dCons (dVarB 0) dNil)) (dC (.int 1)))) (dTest (dOp fEqU (dOp fIx (dVarB 0) (dC (.int 0))) (dC (.str "0"))))) (dC .none) (dFn fIntS (dCons (dVarB 0) dNil)))))
def t_L_spoilt {A : Amb} (S_L_draw S_L_pick : FS A) : DS A :=
  (dSeq (dSet 3 (dCall S_L_draw (dCons (dVar 0) (dCons (dOp fAdd (dFn fLen (dCons (dVarB 1) dNil)) (dC (.int 1))) dNil))))
  (dSeq (dSet 4 (dCall S_L_draw (dCons (dVar 0) (dCons (dC (.int 4)) dNil))))
  (dSeq (dIfS (dTest (dOp fEqU (dVarB 4) (dC (.int 0))))
  (dRet (dOp fAdd (dSl (dVarB 1) oNone (oSome (dVarB 3))) (dSl (dVarB 1) (oSome (dOp fAdd (dVarB 3) (dC (.int 1)))) oNone)))
  dNx)
  (dSeq (dIfS (dTest (dOp fEqU (dVarB 4) (dC (.int 1))))
  (dRet (dOp fAdd (dOp fAdd (dSl (dVarB 1) oNone (oSome (dVarB 3))) (dCall S_L_pick (dCons (dVar 0) (dCons (dVar 2) dNil)))) (dSl (dVarB 1) (oSome (dOp fAdd (dVarB 3) (dC (.int 1)))) oNone)))
  dNx)
  (dSeq (dIfS (dTest (dOp fEqU (dVarB 4) (dC (.int 2))))
  (dRet (dOp fAdd (dOp fAdd (dSl (dVarB 1) oNone (oSome (dVarB 3))) (dCall S_L_pick (dCons (dVar 0) (dCons (dVar 2) dNil)))) (dSl (dVarB 1) (oSome (dVarB 3)) oNone)))
  dNx)
  (dRet (dOp fAdd (dVarB 1) (dCall S_L_pick (dCons (dVar 0) (dCons (dVar 2) dNil))))))))))
def t_L_piece_text {A : Amb} : DS A :=
  (dSeq (dSet 1 (dC (.str "")))
  (dSeq (dFor (dRg1 (dCons (dFn fLen (dCons (dVarB 0) dNil)) dNil)) (dgN 2)
  (dSeq (dIfS (dAndT (dTest (dOp fGt (dVarB 2) (dC (.int 0)))) (dAndT (dTest (dOp fGt (dFn fLen (dCons (dOp fIx (dVarB 0) (dVarB 2)) dNil)) (dC (.int 0)))) (dTest (dOp fGt (dFn fLen (dCons (dOp fIx (dVarB 0) (dOp fSub (dVarB 2) (dC (.int 1)))) dNil)) (dC (.int 0))))))
  (dSet 1 (dOp fAdd (dVarB 1) (dC (.str "."))))
  dNx)
  (dSet 1 (dOp fAdd (dVarB 1) (dIf (dTest (dOp fEqU (dFn fLen (dCons (dOp fIx (dVarB 0) (dVarB 2)) dNil)) (dC (.int 0)))) (dC (.str "x")) (dJoin "" (dOfN (nComp (dIt (dOp fIx (dVarB 0) (dVarB 2))) (dgN 3) dYes (dFn fStr (dCons (dVarB 3) dNil)) [3]))))))))
  (dRet (dVar 1))))
def t_L_piece_from {A : Amb} (S_L_piece_text S_L_is_change : FS A) : DS A :=
  (dSeq (dSetN 2 (nLst dNil))
  (dSeq (dFor (dIt (dSplit (dRepl (dVar 1) "x" ".x.") ".")) (dgN 3)
  (dIfS (dTest (dOp fEqU (dVarB 3) (dC (.str "x"))))
  (dApp 2 (dTup dNil))
  (dIfS (dTest (dOp fNeU (dVarB 3) (dC (.str ""))))
  (dSeq (dSet 4 (dOfN (nComp (dIt (dVar 3)) (dgN 5) (dTest (dOp fIn (dVarB 5) (dC (.str "0123456789")))) (dVar 5) [5])))
  (dSeq (dIfS (dTest (dOp fLt (dFn fLen (dCons (dVarB 4) dNil)) (dFn fLen (dCons (dVarB 3) dNil))))
  (dRet (dC .none))
  dNx)
  (dApp 2 (dFn fTuple (dCons (dOfN (nComp (dIt (dVar 4)) (dgN 5) dYes (dFn fIntS (dCons (dVarB 5) dNil)) [5])) dNil)))))
  dNx)))
  (dSeq (dSet 6 (dFn fTuple (dCons (dVarB 2) dNil)))
  (dSeq (dIfS (dOrT (dTest (dOp fEqU (dFn fLen (dCons (dVarB 6) dNil)) (dC (.int 0)))) (dOrT (dTest (dOp fGt (dFn fLen (dCons (dVarB 6) dNil)) (dC (.int 5040)))) (dTest (dOp fGt (dFn fLen (dCons (dOfN (nComp (dIt (dVar 6)) (dgN 7) (dNotT (dTest (dCall S_L_is_change (dCons (dVar 0) (dCons (dVar 7) dNil))))) (dVar 7) [7])) dNil)) (dC (.int 0))))))
  (dRet (dC .none))
  dNx)
  (dRet (dIf (dTest (dOp fEqU (dCall S_L_piece_text (dCons (dVar 6) dNil)) (dVarB 1))) (dVar 6) (dC .none)))))))
end Dl
namespace Dl
open PySem L2
def tx (l : List Nat) : Str := ⟨l.toArray⟩
theorem tx_list (t : Str) : tx t.cps.toList = t := by
  unfold tx
  rw [Array.toArray_toList]
theorem tx_cps {l : List Nat} : (tx l).cps.toList = l := rfl
theorem tx_inj {a b : List Nat} (h : tx a = tx b) : a = b := by
  have := congrArg (fun t : Str => t.cps.toList) h
  exact this
theorem tx_len {l : List Nat} : (tx l).length = l.length := by
  show l.toArray.size = _
  rw [List.size_toArray]
theorem tx_app {a b : List Nat} : tx a ++ tx b = tx (a ++ b) := by
  show (⟨a.toArray ++ b.toArray⟩ : Str) = ⟨(a ++ b).toArray⟩
  rw [List.append_toArray]
def digN (c : Nat) : Prop := 48 ≤ c ∧ c ≤ 57
instance : DecidablePred digN := fun c => by unfold digN; infer_instance
def wCl (c : List Int) : List Nat := if c = [] then [120] else c.map fun p => (48 + p).toNat
def wPg : Bool → List (List Int) → List Nat
  | _, [] => []
  | b, c :: cs => (if b = true ∧ c ≠ [] then [46] else []) ++ wCl c ++ wPg (decide (c ≠ [])) cs
def wP (cs : List (List Int)) : List Nat := wPg false cs
def digsOk (c : List Int) : Prop := ∀ p ∈ c, 0 ≤ p ∧ p ≤ 9
theorem wCl_dig {c : List Int} (h : digsOk c) (n : c ≠ []) : ∀ k ∈ wCl c, digN k := fun k m => by
  unfold wCl at m
  rw [if_neg n] at m
  obtain ⟨p, hp, rfl⟩ := List.mem_map.mp m
  have := h p hp
  unfold digN
  omega
theorem wCl_ne (c : List Int) : wCl c ≠ [] := by
  unfold wCl
  split
  · simp
  · rename_i n
    intro z
    exact n (List.map_eq_nil_iff.mp z)
def splL (c : Nat) : List Nat → List (List Nat)
  | [] => [[]]
  | d :: r => if d = c then [] :: splL c r else match splL c r with
    | [] => [[d]]
    | p :: q => (d :: p) :: q
theorem splL_ne {c : Nat} : ∀ l, splL c l ≠ []
  | [] => by rw [splL]; simp
  | d :: r => by
    rw [splL]
    split
    · simp
    · split <;> simp
def glu (z : List Nat) : List (List Nat) → List Nat
  | [] => []
  | [p] => p
  | p :: q :: r => p ++ z ++ glu z (q :: r)
theorem glu_cons {z p : List Nat} {r : List (List Nat)} (h : r ≠ []) : glu z (p :: r) = p ++ z ++ glu z r := by
  cases r with
  | nil => exact (h rfl).elim
  | cons q r => rw [glu]
theorem spl_app {c : Nat} : ∀ (a b : List Nat), splL c (a ++ c :: b) = splL c a ++ splL c b
  | [], b => by
    show splL c (c :: b) = [[]] ++ splL c b
    rw [splL.eq_2, if_pos rfl]
    rfl
  | d :: a, b => by
    have ih := spl_app (c := c) a b
    rw [List.cons_append, splL, ih, splL]
    by_cases e : d = c
    · rw [if_pos e, if_pos e]
      rfl
    · rw [if_neg e, if_neg e]
      cases h : splL c a with
      | nil => exact (splL_ne a h).elim
      | cons p q => rfl
theorem spl_one {c : Nat} : ∀ {a : List Nat}, c ∉ a → splL c a = [a]
  | [], _ => rfl
  | d :: a, h => by
    rw [List.mem_cons, not_or] at h
    rw [splL, if_neg (fun z => h.1 z.symm), spl_one h.2]
theorem spl_glu {c : Nat} : ∀ {ps : List (List Nat)}, ps ≠ [] → (∀ p ∈ ps, c ∉ p) → splL c (glu [c] ps) = ps
  | [], h, _ => (h rfl).elim
  | [p], _, h => by rw [glu]; exact spl_one (h p (List.mem_singleton.mpr rfl))
  | p :: q :: r, _, h => by
    rw [glu, List.append_assoc, List.singleton_append, spl_app, spl_one (h p (List.mem_cons_self ..)), spl_glu (by simp) fun x m => h x (List.mem_cons_of_mem _ m)]
    rfl
theorem glued_glu {z : Str} : ∀ (ps : List Str), (PySem.Str.join z ps).cps.toList = glu z.cps.toList (ps.map fun p => p.cps.toList)
  | [] => rfl
  | [p] => rfl
  | p :: q :: r => by
    have ih := glued_glu (z := z) (q :: r)
    show (p ++ z ++ PySem.Str.join z (q :: r)).cps.toList = _
    rw [List.map_cons, List.map_cons, glu]
    rw [List.map_cons] at ih
    rw [← ih]
    show (p.cps ++ z.cps ++ (PySem.Str.join z (q :: r)).cps).toList = _
    rw [Array.toList_append, Array.toList_append]
theorem split_ne (t : Str) (c : Nat) : Txt.split t ⟨#[c]⟩ ≠ [] := by
  unfold Txt.split
  split
  · simp
  · split
    · simp
    · rw [StrLaws.partsBetween_eq]
      obtain ⟨p, q, e⟩ := StrLaws.partsFrom_ne t (⟨#[c]⟩ : Str).length 0 (Builtin.Str.occurrences t ⟨#[c]⟩ 0 t.length (t.length + 1))
      rw [e]
      simp
theorem split_spl (t : Str) (c : Nat) : (Txt.split t ⟨#[c]⟩).map (fun p => p.cps.toList) = splL c t.cps.toList := by
  have h := StrLaws.join_split t ⟨#[c]⟩
  have g := glued_glu (z := ⟨#[c]⟩) (Txt.split t ⟨#[c]⟩)
  rw [h] at g
  rw [g]
  refine (spl_glu (fun z => split_ne t c (List.map_eq_nil_iff.mp z)) fun p m => ?_).symm
  obtain ⟨q, mq, rfl⟩ := List.mem_map.mp m
  exact StrLaws.split_free t c q mq
def replX (l : List Nat) : List Nat := l.flatMap fun c => if c = 120 then [46, 120, 46] else [c]
theorem glu_repl : ∀ l, glu [46, 120, 46] (splL 120 l) = replX l
  | [] => rfl
  | d :: r => by
    have ih := glu_repl r
    unfold replX at ih ⊢
    rw [List.flatMap_cons, ← ih, splL]
    by_cases e : d = 120
    · rw [if_pos e, if_pos e, glu_cons (splL_ne r)]
      rfl
    · rw [if_neg e, if_neg e]
      cases h : splL 120 r with
      | nil => exact (splL_ne r h).elim
      | cons p q =>
        cases q with
        | nil => rfl
        | cons q1 q2 =>
          rw [glu, glu]
          rfl
theorem replace_x (t : Str) : (Txt.replace t (Str.ofString "x") (Str.ofString ".x.")).cps.toList = replX t.cps.toList := by
  have e : (Str.ofString "x") = (⟨#[120]⟩ : Str) := by decide +kernel
  have e2 : (Str.ofString ".x.").cps.toList = [46, 120, 46] := by decide +kernel
  rw [e, StrLaws.replace_one, glued_glu, split_spl, e2, glu_repl]
def partsL (l : List Nat) : List (List Nat) := splL 46 (replX l)
def neL (l : List (List Nat)) : List (List Nat) := l.filter fun p => decide (p ≠ [])
theorem ne_spl_cut {a b : List Nat} : neL (splL 46 (a ++ 46 :: b)) = neL (splL 46 a) ++ neL (splL 46 b) := by
  unfold neL
  rw [spl_app, List.filter_append]
theorem ne_spl_nil {b : List Nat} : neL (splL 46 (46 :: b)) = neL (splL 46 b) := by
  have := ne_spl_cut (a := []) (b := b)
  rw [List.nil_append] at this
  rw [this]
  rfl
theorem ne_spl_one {a : List Nat} (h : 46 ∉ a) (n : a ≠ []) : neL (splL 46 a) = [a] := by
  unfold neL
  rw [spl_one h]
  simp [n]
theorem repl_dig {c : List Nat} (h : ∀ k ∈ c, digN k) : replX c = c := by
  unfold replX
  induction c with
  | nil => rfl
  | cons d r ih =>
    have := h d (List.mem_cons_self ..)
    rw [List.flatMap_cons, ih fun k m => h k (List.mem_cons_of_mem _ m), if_neg (by unfold digN at this; omega)]
    rfl
theorem repl_app {a b : List Nat} : replX (a ++ b) = replX a ++ replX b := by
  unfold replX
  rw [List.flatMap_append]
theorem repl_head (cs : List (List Int)) : replX (wPg true cs) = [] ∨ ∃ r, replX (wPg true cs) = 46 :: r := by
  cases cs with
  | nil => exact .inl rfl
  | cons c cs =>
    refine .inr ?_
    rw [wPg]
    by_cases n : c = []
    · subst n
      exact ⟨_, rfl⟩
    · rw [if_pos ⟨rfl, n⟩, List.append_assoc, repl_app]
      exact ⟨_, rfl⟩
theorem parts_w : ∀ (cs : List (List Int)) (b : Bool), (∀ c ∈ cs, digsOk c) → neL (splL 46 (replX (wPg b cs))) = cs.map wCl
  | [], _, _ => rfl
  | c :: cs, b, h => by
    have hc := h c (List.mem_cons_self ..)
    have ih := fun b => parts_w cs b fun x m => h x (List.mem_cons_of_mem _ m)
    rw [wPg]
    by_cases n : c = []
    · subst n
      have e1 : wCl [] = [120] := rfl
      rw [if_neg (fun z => z.2 rfl), List.nil_append, repl_app, e1]
      show neL (splL 46 (46 :: ([120] ++ 46 :: replX (wPg (decide (([] : List Int) ≠ [])) cs)))) = _
      rw [ne_spl_nil, ne_spl_cut, ih, List.map_cons, e1]
      rfl
    · have dg := wCl_dig hc n
      have n46 : 46 ∉ wCl c := fun z => by have := dg 46 z; unfold digN at this; omega
      have key : neL (splL 46 (wCl c ++ replX (wPg true cs))) = wCl c :: cs.map wCl := by
        rcases repl_head cs with e | ⟨r, e⟩
        · have i2 := ih true
          rw [e] at i2 ⊢
          rw [List.append_nil, ne_spl_one n46 (wCl_ne c), ← i2]
          rfl
        · have i2 := ih true
          rw [e, ne_spl_nil] at i2
          rw [e, ne_spl_cut, ne_spl_one n46 (wCl_ne c), i2]
          rfl
      rw [decide_eq_true n, List.map_cons]
      cases b with
      | true =>
        rw [if_pos ⟨rfl, n⟩, repl_app, repl_app, repl_dig dg]
        show neL (splL 46 (46 :: (wCl c ++ _))) = _
        rw [ne_spl_nil]
        exact key
      | false =>
        rw [if_neg (fun z => Bool.false_ne_true z.1), List.nil_append, repl_app, repl_dig dg]
        exact key
def itRd (last : List Nat) : List Nat → List (List Nat)
  | [] => [last]
  | c :: r => if c = 120 ∨ (last = [120] ∧ digN c) then last :: itRd [c] r else if c = 46 then last :: itRd [] r else itRd (last ++ [c]) r
theorem it_dig : ∀ {e : List Nat} {last r : List Nat}, (∀ k ∈ e, digN k) → last ≠ [120] → itRd last (e ++ r) = itRd (last ++ e) r
  | [], last, r, _, _ => by rw [List.nil_append, List.append_nil]
  | d :: e, last, r, h, n => by
    have hd := h d (List.mem_cons_self ..)
    rw [List.cons_append, itRd, if_neg (fun z => ?_), if_neg (by unfold digN at hd; omega), it_dig (fun k m => h k (List.mem_cons_of_mem _ m)) (fun z => ?_), List.append_assoc]
    · rfl
    · have := congrArg (fun l => l.getLast?) z
      simp at this
      unfold digN at hd
      omega
    · rcases z with z | z
      · unfold digN at hd
        omega
      · exact n z.1
theorem items_w : ∀ (cs : List (List Int)), (∀ c ∈ cs, digsOk c) →
    neL (itRd [] (wPg false cs)) = cs.map wCl ∧ neL (itRd [120] (wPg false cs)) = [120] :: cs.map wCl ∧ ∀ e : List Nat, e ≠ [] → (∀ k ∈ e, digN k) → neL (itRd e (wPg true cs)) = e :: cs.map wCl
  | [], _ => ⟨rfl, rfl, fun e n _ => by
    show neL [e] = [e]
    unfold neL
    simp [n]⟩
  | c :: cs, h => by
    have hc := h c (List.mem_cons_self ..)
    obtain ⟨i1, i2, i3⟩ := items_w cs fun x m => h x (List.mem_cons_of_mem _ m)
    by_cases n : c = []
    · subst n
      have e1 : wCl [] = [120] := rfl
      have go : ∀ (b : Bool) (last : List Nat), itRd last (wPg b ([] :: cs)) = last :: itRd [120] (wPg false cs) := fun b last => by
        rw [wPg, if_neg (fun z => z.2 rfl), List.nil_append, e1, List.singleton_append, itRd, if_pos (.inl rfl)]
        rfl
      have cons : ∀ (last : List Nat) (r : List (List Nat)), neL (last :: r) = (if last = [] then [] else [last]) ++ neL r := fun last r => by
        unfold neL
        rw [List.filter_cons]
        by_cases z : last = [] <;> simp [z]
      rw [List.map_cons, e1]
      refine ⟨?_, ?_, fun e n _ => ?_⟩
      · rw [go, cons, i2]
        rfl
      · rw [go, cons, i2]
        rfl
      · rw [go, cons, i2, if_neg n]
        rfl
    · have dg := wCl_dig hc n
      have ne := wCl_ne c
      have key := i3 (wCl c) ne dg
      have cons : ∀ (last : List Nat) (r : List (List Nat)), neL (last :: r) = (if last = [] then [] else [last]) ++ neL r := fun last r => by
        unfold neL
        rw [List.filter_cons]
        by_cases z : last = [] <;> simp [z]
      rw [List.map_cons]
      have ef : wPg false (c :: cs) = wCl c ++ wPg true cs := by
        rw [wPg, if_neg (fun z => Bool.false_ne_true z.1), List.nil_append, decide_eq_true n]
      have et : wPg true (c :: cs) = 46 :: (wCl c ++ wPg true cs) := by
        rw [wPg, if_pos ⟨rfl, n⟩, decide_eq_true n, List.append_assoc]
        rfl
      refine ⟨?_, ?_, fun e en ed => ?_⟩
      · rw [ef, it_dig dg (by simp), List.nil_append]
        exact key
      · cases hw : wCl c with
        | nil => exact (ne hw).elim
        | cons d r =>
          have hd : digN d := dg d (by rw [hw]; exact List.mem_cons_self ..)
          have hr : ∀ k ∈ r, digN k := fun k m => dg k (by rw [hw]; exact List.mem_cons_of_mem _ m)
          rw [ef, hw, List.cons_append, itRd, if_pos (.inr ⟨rfl, hd⟩), cons, it_dig hr (by
            intro z
            have := List.cons.inj z
            unfold digN at hd
            omega)]
          rw [hw] at key
          show _ ++ neL (itRd (d :: r) (wPg true cs)) = _
          rw [key]
          rfl
      · rw [et, itRd, if_neg (by
          rintro (z | z)
          · omega
          · have := z.2
            unfold digN at this
            omega), if_pos rfl, cons, if_neg en, it_dig dg (by simp), List.nil_append, key]
        rfl
def parseI (l : List Nat) : List Int := if l = [120] then [] else l.map fun k : Nat => (k : Int) - 48
theorem parse_w {c : List Int} (h : digsOk c) : parseI (wCl c) = c := by
  unfold parseI
  by_cases n : c = []
  · subst n
    rfl
  · rw [if_neg (fun z => ?_)]
    · unfold wCl
      rw [if_neg n, List.map_map]
      refine (List.map_congr_left fun p hp => ?_).trans (List.map_id c)
      have := h p hp
      show (((48 + p).toNat : Nat) : Int) - 48 = p
      omega
    · have := wCl_dig h n 120 (by rw [z]; simp)
      unfold digN at this
      omega
theorem wP_inj {cs ds : List (List Int)} (h1 : ∀ c ∈ cs, digsOk c) (h2 : ∀ c ∈ ds, digsOk c) (e : wP cs = wP ds) : cs = ds := by
  have back : ∀ cs : List (List Int), (∀ c ∈ cs, digsOk c) → (neL (itRd [] (wP cs))).map parseI = cs := fun cs h => by
    rw [show wP cs = wPg false cs from rfl, (items_w cs h).1, List.map_map]
    refine (List.map_congr_left fun c hc => ?_).trans (List.map_id cs)
    exact parse_w (h c hc)
  rw [← back cs h1, e, back ds h2]
end Dl
namespace Dl
open PySem L2
def t_is_whole {A : Amb} : DS A :=
  (dRet (dAnd (dUn (fIsi .int) (dVarB 0)) (dNot (dUn (fIsi .bool) (dVarB 0)))))
def t_is_from {A : Amb} (S_is_whole : FS A) : DS A :=
  (dRet (dAnd (dCall S_is_whole (dCons (dVar 0) dNil)) (dChain fLe fLe (dVarB 1) (dVarB 0) (dVarB 2))))
def t_L_same {A : Amb} (S_L_same : FS A) : DS A :=
  (dSeq (dIfS (dOrT (dTest (dUn (fIsi .tuple) (dVarB 1))) (dTest (dUn (fIsi .list) (dVarB 1))))
  (dSeq (dIfS (dOrT (dTest (dOp fNeU (dUn (fIsi .tuple) (dVarB 1)) (dUn (fIsi .tuple) (dVarB 0)))) (dOrT (dTest (dOp fNeU (dUn (fIsi .list) (dVarB 1)) (dUn (fIsi .list) (dVarB 0)))) (dTest (dOp fNeU (dFn fLen (dCons (dVarB 0) dNil)) (dFn fLen (dCons (dVarB 1) dNil))))))
  (dRet (dC (.bool false)))
  dNx)
  (dRet (dOp fEqU (dFn fLen (dCons (dOfN (nComp (dRg1 (dCons (dFn fLen (dCons (dVarB 1) dNil)) dNil)) (dgN 2) (dNotT (dTest (dCall S_L_same (dCons (dOp fIx (dVarB 0) (dVarB 2)) (dCons (dOp fIx (dVarB 1) (dVarB 2)) dNil))))) (dVar 2) [2])) dNil)) (dC (.int 0)))))
  dNx)
  (dSeq (dIfS (dTest (dOp fIs (dVarB 1) (dC .none)))
  (dRet (dOp fIs (dVarB 0) (dC .none)))
  dNx)
  (dSeq (dIfS (dOrT (dTest (dUn (fIsi .bool) (dVarB 1))) (dTest (dUn (fIsi .bool) (dVarB 0))))
  (dRet (dAnd (dUn (fIsi .bool) (dVarB 1)) (dAnd (dUn (fIsi .bool) (dVarB 0)) (dOp fEqU (dVarB 0) (dVarB 1)))))
  dNx)
  (dSeq (dIfS (dTest (dUn (fIsi .int) (dVarB 1)))
  (dRet (dAnd (dUn (fIsi .int) (dVarB 0)) (dOp fEqU (dVarB 0) (dVarB 1))))
  dNx)
  (dRet (dAnd (dUn (fIsi .str) (dVarB 0)) (dOp fEqU (dVarB 0) (dVarB 1))))))))
def t_L_is_integer {A : Amb} : DS A :=
  (dRet (dAnd (dUn (fIsi .int) (dVarB 0)) (dNot (dUn (fIsi .bool) (dVarB 0)))))
def t_L_spread {A : Amb} : DS A :=
  (dSeq (dSet 1 (dOp fMod (dFn fInt (dCons (dVarB 0) dNil)) (dC (.int 2147483647))))
  (dSeq (dSet 2 (dC (.int 1)))
  (dSeq (dFor (dRg1 (dCons (dC (.int 4)) dNil)) (dgN 3)
  (dSeq (dSet 1 (dOp fMod (dFn fInt (dCons (dOp fAdd (dOp fAdd (dOp fMul (dVarB 1) (dC (.int 48271))) (dC (.int 12345))) (dVarB 3)) dNil)) (dC (.int 2147483647))))
  (dSet 2 (dOp fAdd (dOp fMul (dVarB 2) (dC (.int 2147483647))) (dVarB 1)))))
  (dRet (dVar 2)))))
def t_L_stage {A : Amb} (S_L_draw : FS A) : DS A :=
  (dRet (dOp fAdd (dC (.int 3)) (dCall S_L_draw (dCons (dVar 0) (dCons (dOp fSub (dVarB 1) (dC (.int 2))) dNil)))))
theorem fm_some {α β : Type} {f : α → β} {xs : List α} : xs.filterMap (fun x => some (f x)) = xs.map f := congrFun List.filterMap_eq_map' xs
theorem fm_if {α : Type} {p : α → Bool} : ∀ {xs : List α}, xs.filterMap (fun x => if p x = true then some x else none) = xs.filter p
  | [] => rfl
  | x :: xs => by
    rw [List.filterMap_cons, List.filter_cons, fm_if]
    cases p x <;> rfl
def isW : D → Bool
  | .int _ => true
  | _ => false
def intsD (ns : List Int) : List D := ns.map .int
theorem intsD_of {xs : List D} (h : xs.all isW = true) : ∃ ns, xs = intsD ns := by
  induction xs with
  | nil => exact ⟨[], rfl⟩
  | cons x xs ih =>
    rw [List.all_cons, Bool.and_eq_true] at h
    obtain ⟨ns, e⟩ := ih h.2
    cases x with
    | int i => exact ⟨i :: ns, by rw [e]; rfl⟩
    | _ => exact absurd h.1 (by simp [isW])
theorem canLay_ints : ∀ ns : List Int, PyData.canLayAll0 (intsD ns) = true
  | [] => rfl
  | n :: ns => by
    show PyData.canLayAll0 (.int n :: intsD ns) = true
    rw [PyData.canLayAll0, canLay_ints ns]
    rfl
theorem shaped_ints (ns : List Int) : SeqAt.shaped (.list (intsD ns)) = true := by
  unfold SeqAt.shaped
  rw [Bool.and_eq_true, decide_eq_true_eq]
  refine ⟨by simpa [PyData.canLay0] using canLay_ints ns, ?_⟩
  have := PySem.W.depth_ints ns
  simp only [PyData.depth]
  have e : PyData.depthAll (intsD ns) = 0 := this
  omega
theorem shaped_intsT (ns : List Int) : SeqAt.shaped (.tuple (intsD ns)) = true := by
  unfold SeqAt.shaped
  rw [Bool.and_eq_true, decide_eq_true_eq]
  refine ⟨by simpa [PyData.canLay0] using canLay_ints ns, ?_⟩
  have := PySem.W.depth_ints ns
  simp only [PyData.depth]
  have e : PyData.depthAll (intsD ns) = 0 := this
  omega
theorem alike_ints (ns : List Int) : PySem.W.AllAlike (intsD ns) := by
  intro d hd d' hd'
  obtain ⟨i, _, rfl⟩ := List.mem_map.mp hd
  obtain ⟨j, _, rfl⟩ := List.mem_map.mp hd'
  rfl
theorem sort_ints (ns : List Int) : (intsD ns).mergeSort (PySem.W.dataLe false id) = intsD (ns.mergeSort fun i j => decide (i ≤ j)) := by
  unfold intsD
  rw [List.map_mergeSort (r := fun i j => decide (i ≤ j)) (s := PySem.W.dataLe false id)]
  intro a _ b _
  exact (congrFun (congrFun (PySem.W.dataLe_int fun b : Int => b) a) b).symm
section
variable {A : Amb} {ds : List D} {s : A.S} {Q : D → A.S → Prop}
def S_is_whole : FS A := fun ds s Q => ∃ d, ds = [d] ∧ notDict d ∧ Q (.bool (isW d)) s
theorem st1 {d : D} : startR 1 [d] = [.fz d] := rfl
theorem p_is_whole (h : S_is_whole ds s Q) : t_is_whole (retE Q) (startR 1 ds) s := by
  obtain ⟨d, rfl, nd, q⟩ := h
  unfold t_is_whole
  simp [st1, nd]
  cases d <;> simpa [isTy, isW] using q
def fromB (d : D) (lo hi : Int) : Bool := match d with
  | .int i => decide (lo ≤ i) && decide (i ≤ hi)
  | _ => false
def S_is_from : FS A := fun ds s Q => ∃ d lo hi, ds = [d, .int lo, .int hi] ∧ notDict d ∧ Q (.bool (fromB d lo hi)) s
theorem p_is_from (h : S_is_from ds s Q) : t_is_from S_is_whole (retE Q) (startR 3 ds) s := by
  obtain ⟨d, lo, hi, rfl, nd, q⟩ := h
  have e : startR 3 [d, .int lo, .int hi] = [.fz d, .fz (.int lo), .fz (.int hi)] := rfl
  unfold t_is_from
  simp [e, S_is_whole, nd]
  cases d with
  | int i =>
    simp [isW]
    by_cases h1 : lo ≤ i <;> simpa [fromB, h1] using q
  | _ => simpa [isW, fromB] using q
def flat1 : D → Prop
  | .tuple xs => ∀ x ∈ xs, notDict x
  | .dict _ => False
  | _ => True
theorem flat1.nd {d : D} (h : flat1 d) : notDict d := by cases d <;> first | exact h | trivial
theorem p_L_is_integer (h : S_is_whole ds s Q) : t_L_is_integer (retE Q) (startR 1 ds) s := p_is_whole h
open Classical in
noncomputable def sameB (a d : D) : Bool := decide (a = d)
mutual
def plainB : Nat → D → Bool
  | _, .dict _ => false
  | _, .str x => (PyData.str x).canLay0
  | 0, .list _ => false
  | 0, .tuple _ => false
  | n + 1, .list xs => decide (xs.length ≤ 100000) && plainAllB n xs
  | n + 1, .tuple xs => decide (xs.length ≤ 100000) && plainAllB n xs
  | _, _ => true
def plainAllB : Nat → List D → Bool
  | _, [] => true
  | n, x :: xs => plainB n x && plainAllB n xs
end
theorem plainAll_mem {n : Nat} : ∀ {xs : List D}, plainAllB n xs = true → ∀ x ∈ xs, plainB n x = true
  | [], _, x, m => by cases m
  | y :: ys, h, x, m => by
    unfold plainAllB at h
    rw [Bool.and_eq_true] at h
    rcases List.mem_cons.mp m with rfl | m
    · exact h.1
    · exact plainAll_mem h.2 x m
theorem plainB_nd {n : Nat} {d : D} (h : plainB n d = true) : notDict d := by
  cases d with
  | dict _ => cases n <;> simp [plainB] at h
  | _ => trivial
def S_same (l : Nat) : FS A := fun ds s Q => ∃ a d n, ds = [a, d] ∧ l = n + 1 ∧ (∃ m, plainB m a = true) ∧ plainB n d = true ∧ Q (.bool (sameB a d)) s
@[simp] theorem eqOk_int {i j : Int} : eqOk (.int i) (.int j) = True := by
  apply eq_true
  simp [eqOk, twoS, SeqAt.shaped, PyData.canLay0, PyData.depth]
@[simp] theorem eqOk_bool {i j : Bool} : eqOk (.bool i) (.bool j) = True := by
  apply eq_true
  simp [eqOk, twoS, SeqAt.shaped, PyData.canLay0, PyData.depth]
@[simp] theorem eqOk_str {i j : Str} : eqOk (.str i) (.str j) = True := by
  apply eq_true
  simp [eqOk, twoS]
@[simp] theorem eqv_int {i j : Int} : PyData.eqv (.int i) (.int j) = decide (i = j) := by
  rw [Bool.eq_iff_iff]
  simp [PyData.eqv]
@[simp] theorem eqv_bool {i j : Bool} : PyData.eqv (.bool i) (.bool j) = (i == j) := by
  rw [Bool.eq_iff_iff]
  cases i <;> cases j <;> simp [PyData.eqv]
@[simp] theorem eqv_str' {i j : Str} : PyData.eqv (.str i) (.str j) = decide (i = j) := by
  rw [Bool.eq_iff_iff]
  simp [PyData.eqv]
theorem sameB_ne {a d : D} (h : a ≠ d) : sameB a d = false := by simp [sameB, h]
theorem sameB_eq {a : D} : sameB a a = true := by simp [sameB]
theorem rngD_get {n i : Nat} (h : i < n) : (rngD 0 n)[i]? = some (.int (i : Nat)) := by
  unfold rngD
  rw [List.getElem?_map, List.getElem?_range h]
  simp
theorem mem_rngD {n : Nat} {x : D} (h : x ∈ rngD 0 n) : ∃ i : Nat, i < n ∧ x = .int (i : Nat) := by
  unfold rngD at h
  obtain ⟨i, m, rfl⟩ := List.mem_map.mp h
  exact ⟨i, List.mem_range.mp m, by simp⟩
@[simp] theorem rngD_length {lo : Int} {n : Nat} : (rngD lo n).length = n := by
  unfold rngD
  simp
noncomputable def diffs (as ds : List D) : List D := (rngD 0 ds.length).filter fun x => match x with
  | .int k => !sameB (as.getD k.toNat .none) (ds.getD k.toNat .none)
  | _ => false
theorem diffs_nil {as ds : List D} (h : as.length = ds.length) : ((diffs as ds).length == 0) = sameB (.tuple as) (.tuple ds) := by
  rw [Bool.eq_iff_iff]
  unfold diffs
  simp only [beq_iff_eq, List.length_eq_zero_iff, List.filter_eq_nil_iff]
  constructor
  · intro z
    have e : as = ds := by
      apply List.ext_getElem?
      intro i
      by_cases hi : i < ds.length
      · have q := z (.int (i : Nat)) (List.mem_of_getElem? (rngD_get hi))
        simp only [Int.toNat_natCast, List.getD_eq_getElem?_getD] at q
        rw [List.getElem?_eq_getElem hi, List.getElem?_eq_getElem (by omega)] at q ⊢
        simp [sameB] at q
        rw [q]
      · rw [List.getElem?_eq_none (by omega), List.getElem?_eq_none (by omega)]
    rw [e]
    exact sameB_eq
  · intro z x m
    have e : as = ds := by simpa [sameB] using z
    subst e
    obtain ⟨i, hi, rfl⟩ := mem_rngD m
    simp [sameB_eq]
theorem sameB_list {as ds : List D} : sameB (.list as) (.list ds) = sameB (.tuple as) (.tuple ds) := by
  unfold sameB
  simp
theorem p_same_seq {n : Nat} {as ds : List D} {m : Nat} (pa : plainAllB m as = true) (pd : plainAllB n ds = true) (hl : as.length = ds.length) (hz : ds.length ≤ 100000) {a d : D} (ha : ∀ i : Int, ∀ k : D → Prop, fIx a (.int i) k = oV (atI as i) k) (hd : ∀ i : Int, ∀ k : D → Prop, fIx d (.int i) k = oV (atI ds i) k)
    (hld : ∀ k : D → Prop, fLen [d] k = k (.int ds.length)) (q : Q (.bool (sameB (.tuple as) (.tuple ds))) s) :
    dRet (dOp fEqU (dFn fLen (dCons (dOfN (nComp (dRg1 (dCons (dFn fLen (dCons (dVarB 1) dNil)) dNil)) (dgN 2) (dNotT (dTest (dCall (S_same (n + 1)) (dCons (dOp fIx (dVarB 0) (dVarB 2)) (dCons (dOp fIx (dVarB 1) (dVarB 2)) dNil))))) (dVar 2) [2])) dNil)) (dC (.int 0))) (retE Q) [.fz a, .fz d, .un] s := by
  simp
  refine comp_pure (xs := rngD 0 ds.length) (fun k q => ?_) (by simp) (by rw [rngD_length]; exact Nat.le_trans hz (by decide)) (fun x => if (match x with
    | .int k => !sameB (as.getD k.toNat .none) (ds.getD k.toNat .none)
    | _ => false) = true then some x else none) (fun x mx s k q => ?_) ?_
  · simp [hld]
    exact ⟨by omega, q⟩
  · obtain ⟨i, hi, rfl⟩ := mem_rngD mx
    simp [ha, hd]
    have h1 : atI as (i : Int) = some as[i] := atI_nat (List.getElem?_eq_getElem (by omega))
    have h2 : atI ds (i : Int) = some ds[i] := atI_nat (List.getElem?_eq_getElem hi)
    rw [h1, h2]
    simp
    refine ⟨_, _, n, rfl, rfl, ⟨m, plainAll_mem pa _ (List.getElem_mem _)⟩, plainAll_mem pd _ (List.getElem_mem _), ?_⟩
    simp only [Int.toNat_natCast, List.getD_eq_getElem?_getD, List.getElem?_eq_getElem hi, List.getElem?_eq_getElem (show i < as.length by omega), Option.getD_some] at q
    simp
    cases hx : sameB as[i] ds[i] <;> simpa [hx] using q
  · rw [fm_if]
    have z := diffs_nil hl
    show fLen [.list (diffs as ds)] fun z => eqOk z (.int 0) ∧ Q (.bool (PyData.eqv z (.int 0))) s
    rw [← z] at q
    simp only [q_lenL, eqOk_int, true_and, eqv_int]
    rw [show decide (((diffs as ds).length : Int) = 0) = ((diffs as ds).length == 0) from by rw [Bool.eq_iff_iff]; simp]
    exact q
def kd : D → Nat
  | .none => 0
  | .bool _ => 1
  | .int _ => 2
  | .str _ => 3
  | .list _ => 4
  | .tuple _ => 5
  | .dict _ => 6
theorem p_L_same {n : Nat} (h : S_same (n + 1) ds s Q) : t_L_same (S_same n) (retE Q) (startR 3 ds) s := by
  obtain ⟨a, d, n', rfl, hn, ⟨m, pa⟩, pd, q⟩ := h
  cases hn
  have e : startR 3 [a, d] = [.fz a, .fz d, .un] := rfl
  have na := plainB_nd pa
  have nd := plainB_nd pd
  unfold t_L_same
  rw [e]
  have q' : kd a ≠ kd d → Q (.bool false) s := fun h => by
    rw [sameB_ne fun z => h (by rw [z])] at q
    exact q
  cases d with
  | tuple ds =>
    obtain ⟨n, rfl, pd'⟩ : ∃ n', n = n' + 1 ∧ ds.length ≤ 100000 ∧ plainAllB n' ds = true := by
      cases n with
      | zero => simp [plainB] at pd
      | succ n => exact ⟨n, rfl, by simpa [plainB] using pd⟩
    cases ha : isTy .tuple a with
    | true =>
      cases a with
      | tuple as =>
        have pa' : ∃ m, plainAllB m as = true := by
          cases m with
          | zero => simp [plainB] at pa
          | succ m => exact ⟨m, (by simpa [plainB] using pa : _ ∧ _).2⟩
        obtain ⟨m', pa'⟩ := pa'
        by_cases hl : as.length = ds.length
        · have := p_same_seq pa' pd'.2 hl pd'.1 (fun _ _ => q_ixT) (fun _ _ => q_ixT) (fun _ => q_lenT) q
          simp [-q_dRet, hl]
          exact this
        · have hl' : ¬ (as.length : Int) = ds.length := by omega
          rw [sameB_ne (fun z => hl (by injection z with z; rw [z]))] at q
          simpa [hl'] using q
      | _ => simp [isTy] at ha
    | false =>
      have q := q' (by cases a <;> simp [kd, isTy] at ha ⊢)
      simpa [na, ha] using q
  | list ds =>
    obtain ⟨n, rfl, pd'⟩ : ∃ n', n = n' + 1 ∧ ds.length ≤ 100000 ∧ plainAllB n' ds = true := by
      cases n with
      | zero => simp [plainB] at pd
      | succ n => exact ⟨n, rfl, by simpa [plainB] using pd⟩
    cases ha : isTy .list a with
    | true =>
      cases a with
      | list as =>
        have pa' : ∃ m, plainAllB m as = true := by
          cases m with
          | zero => simp [plainB] at pa
          | succ m => exact ⟨m, (by simpa [plainB] using pa : _ ∧ _).2⟩
        obtain ⟨m', pa'⟩ := pa'
        rw [sameB_list] at q
        by_cases hl : as.length = ds.length
        · have := p_same_seq pa' pd'.2 hl pd'.1 (fun _ _ => q_ixL) (fun _ _ => q_ixL) (fun _ => q_lenL) q
          simp [-q_dRet, hl]
          exact this
        · have hl' : ¬ (as.length : Int) = ds.length := by omega
          rw [sameB_ne (fun z => hl (by injection z with z; rw [z]))] at q
          simpa [hl'] using q
      | _ => simp [isTy] at ha
    | false =>
      have q := q' (by cases a <;> simp [kd, isTy] at ha ⊢)
      cases ht : isTy .tuple a <;> simpa [na, ha, ht] using q
  | none =>
    have q2 : Q (.bool (isN a)) s := by
      cases a with
      | none => rw [sameB_eq] at q; exact q
      | _ => exact q' (by simp [kd])
    simpa [na, ] using q2
  | bool b =>
    have e : sameB a (.bool b) = (isTy .bool a && PyData.eqv a (.bool b)) := by
      cases a with
      | bool c => cases c <;> cases b <;> simp [sameB, isTy]
      | dict _ => exact na.elim
      | _ => simp [sameB]
    rw [e] at q
    cases a with
    | bool c => simpa [] using q
    | dict _ => exact na.elim
    | _ => simpa [] using q
  | int i =>
    cases ha : isTy .int a with
    | false =>
      have q := q' (by cases a <;> simp [kd, isTy] at ha ⊢)
      have hb : isTy .bool a = false := by cases a <;> simp [isTy] at ha ⊢
      simpa [na, ha, hb, ] using q
    | true =>
      cases a with
      | int j =>
        have e : sameB (.int j) (.int i) = decide (j = i) := by unfold sameB; simp
        rw [e] at q
        simpa [] using q
      | bool c =>
        have q := q' (by simp [kd])
        simpa [] using q
      | _ => simp [isTy] at ha
  | str i =>
    cases ha : isTy .str a with
    | false =>
      have q := q' (by cases a <;> simp [kd, isTy] at ha ⊢)
      cases hb : isTy .bool a <;> simpa [na, ha, hb, ] using q
    | true =>
      cases a with
      | str j =>
        have e : sameB (.str j) (.str i) = decide (j = i) := by unfold sameB; simp
        rw [e] at q
        simpa [] using q
      | _ => simp [isTy] at ha
  | dict _ => exact nd.elim
end
end Dl
namespace Dl
open PySem L2
@[simp] theorem cmul_r {i : Int} {n : Nat} (h : (n : Int) < 2 ^ 64 := by decide) : CMul i n = True := eq_true (.inr ⟨by omega, h⟩)
theorem ints_rngD (lo : Int) (n : Nat) : ∀ x ∈ rngD lo n, ∃ k : Int, x = .int k := fun x m => by
  unfold rngD at m
  obtain ⟨i, _, rfl⟩ := List.mem_map.mp m
  exact ⟨_, rfl⟩
theorem p_L_spread {ds : List D} {s : amb0.S} {Q : D → amb0.S → Prop} (h : S_spread ds s Q) : t_L_spread (retE Q) (startR 4 ds) s := by
  obtain ⟨i, rfl, q⟩ := h
  have e : startR 4 [.int i] = [.fz (.int i), .un, .un, .un] := rfl
  unfold t_L_spread
  simp [e]
  refine for_of (xs := rngD 0 4) (fun k z => by simpa using z) (fun r ρ s' => s' = s ∧ (∀ x ∈ r, ∃ k : Int, x = .int k) ∧ ∃ m t c, ρ = [.fz (.int i), .fz (.int m), .fz (.int t), c]) ⟨rfl, ints_rngD _ _, _, _, _, rfl⟩ ?_ ?_
  · rintro x r ρ s ⟨rfl, hx, m, t, c, rfl⟩ D' hr hb hn hc
    obtain ⟨k, rfl⟩ := hx x (List.mem_cons_self ..)
    simp
    refine ⟨.inr ⟨by decide, by decide⟩, .inr ⟨by decide, by decide⟩, ?_⟩
    exact hn _ _ ⟨rfl, fun y m => hx y (List.mem_cons_of_mem _ m), _, _, _, rfl⟩
  · rintro ρ s ⟨rfl, _, m, t, c, rfl⟩
    simpa using q t
section
variable {a : Addr} {ds : List D} {s : (poolA a).S} {Q : D → (poolA a).S → Prop}
def S_stage (a : Addr) : FS (poolA a) := fun ds s Q => ∃ m : Int, ds = [refD a, .int m] ∧ 3 ≤ m ∧ m ≤ 1000 ∧ ∀ v : Int, 3 ≤ v → v ≤ m → Q (.int v) s
theorem p_L_stage (h : S_stage a ds s Q) : t_L_stage (S_draw a) (retE Q) (startR 2 ds) s := by
  obtain ⟨m, rfl, h0, h1, q⟩ := h
  have e : startR 2 [refD a, .int m] = [.fz (refD a), .fz (.int m)] := rfl
  unfold t_L_stage
  simp [e]
  exact ⟨_, rfl, by omega, by omega, fun v v0 v1 => by simpa using q (3 + v) (by omega) (by omega)⟩
end
mutual
def wt : D → Nat
  | .none => 1
  | .bool _ => 1
  | .int i => i.natAbs + 1
  | .str x => x.length + 1
  | .list xs => wtL xs + 1
  | .tuple xs => wtL xs + 1
  | .dict _ => 1
def wtL : List D → Nat
  | [] => 0
  | x :: xs => wt x + wtL xs
end
theorem wt_pos (d : D) : 1 ≤ wt d := by cases d <;> simp [wt]
theorem len_wt : ∀ xs : List D, xs.length ≤ wtL xs
  | [] => by simp
  | x :: xs => by
    have := len_wt xs
    have := wt_pos x
    rw [wtL, List.length_cons]
    omega
theorem plainAll_iff {n : Nat} : ∀ {xs : List D}, plainAllB n xs = true ↔ ∀ x ∈ xs, plainB n x = true
  | [] => by simp [plainAllB]
  | x :: xs => by
    rw [plainAllB, Bool.and_eq_true, plainAll_iff]
    simp
mutual
theorem plain_up {n : Nat} : ∀ {d : D}, plainB n d = true → plainB (n + 1) d = true
  | .none, _ => by simp [plainB]
  | .bool _, _ => by simp [plainB]
  | .int _, _ => by simp [plainB]
  | .str x, h => by
    cases n <;> simpa [plainB] using h
  | .list xs, h => by
    cases n with
    | zero => simp [plainB] at h
    | succ n =>
      rw [plainB, Bool.and_eq_true] at h ⊢
      exact ⟨h.1, plainAll_up h.2⟩
  | .tuple xs, h => by
    cases n with
    | zero => simp [plainB] at h
    | succ n =>
      rw [plainB, Bool.and_eq_true] at h ⊢
      exact ⟨h.1, plainAll_up h.2⟩
  | .dict _, h => by cases n <;> simp [plainB] at h
theorem plainAll_up {n : Nat} : ∀ {xs : List D}, plainAllB n xs = true → plainAllB (n + 1) xs = true
  | [], _ => by simp [plainAllB]
  | x :: xs, h => by
    rw [plainAllB, Bool.and_eq_true] at h ⊢
    exact ⟨plain_up h.1, plainAll_up h.2⟩
end
def okD (n k : Nat) (d : D) : Prop := plainB n d = true ∧ wt d ≤ k
theorem okD.up {n k k' : Nat} {d : D} (h : okD n k d) (hk : k ≤ k') : okD (n + 1) k' d := ⟨plain_up h.1, Nat.le_trans h.2 hk⟩
theorem plain_tuple {n : Nat} {xs : List D} (h : ∀ x ∈ xs, plainB n x = true) (hl : xs.length ≤ 100000) : plainB (n + 1) (.tuple xs) = true := by
  rw [plainB, Bool.and_eq_true, decide_eq_true_eq]
  exact ⟨hl, plainAll_iff.mpr h⟩
theorem plain_list {n : Nat} {xs : List D} (h : ∀ x ∈ xs, plainB n x = true) (hl : xs.length ≤ 100000) : plainB (n + 1) (.list xs) = true := by
  rw [plainB, Bool.and_eq_true, decide_eq_true_eq]
  exact ⟨hl, plainAll_iff.mpr h⟩
end Dl
namespace Dl
open PySem L2
section
variable {A : Amb} {c : DT A} {t u : DS A} {D0 : DEnds A} {ρ : Rho} {s : A.S}
theorem seq_if (hu : u D0 ρ s) (h : ∀ U : Rho → A.S → Prop, U ρ s → c ρ s fun b s' => if b = true then t ⟨U, D0.rt, D0.bk, D0.ct⟩ ρ s' else U ρ s') : dSeq (dIfS c t dNx) u D0 ρ s := by
  rw [q_dSeq, q_dIfS]
  exact h (fun ρ s => u D0 ρ s) hu
theorem seq_ifH (hyp : Prop) (hu : hyp → u D0 ρ s) (h : ∀ U : Rho → A.S → Prop, (hyp → U ρ s) → c ρ s fun b s' => if b = true then t ⟨U, D0.rt, D0.bk, D0.ct⟩ ρ s' else U ρ s') : dSeq (dIfS c t dNx) u D0 ρ s := by
  rw [q_dSeq, q_dIfS]
  exact h (fun ρ s => u D0 ρ s) hu
end
theorem atI_of {α : Type} {xs : List α} {v : Int} (h0 : 0 ≤ v) (h1 : v < xs.length) : ∃ h : v.toNat < xs.length, atI xs v = some xs[v.toNat] := by
  have hv : v.toNat < xs.length := by omega
  refine ⟨hv, ?_⟩
  have z := atI_nat (xs := xs) (j := v.toNat) (List.getElem?_eq_getElem hv)
  rwa [Int.toNat_of_nonneg h0] at z
theorem atI_mem {xs : List D} {v : Int} (h0 : 0 ≤ v) (h1 : v < xs.length) {k : D → Prop} (q : ∀ x ∈ xs, k x) : oV (atI xs v) k := by
  obtain ⟨h, e⟩ := atI_of h0 h1
  rw [e]
  exact q _ (List.getElem_mem h)
theorem okL {n k : Nat} {xs : List D} (h : ∀ x ∈ xs, plainB n x = true) (hk : wtL xs + 1 ≤ k) (hz : k ≤ 100000) : okD (n + 1) k (.list xs) :=
  ⟨plain_list h (by have := len_wt xs; omega), hk⟩
theorem strOk_iff {x : Str} : PyData.strOk x = true ↔ ∀ c ∈ x.cps.toList, c < 0x110000 := by
  unfold PyData.strOk
  rw [← Array.all_toList, List.all_eq_true]
  simp
theorem strOk_append {x y : Str} (hx : PyData.strOk x = true) (hy : PyData.strOk y = true) : PyData.strOk (x ++ y) = true := by
  rw [strOk_iff] at *
  intro c m
  have e : (x ++ y).cps.toList = x.cps.toList ++ y.cps.toList := Array.toList_append
  rw [e] at m
  rcases List.mem_append.mp m with m | m
  · exact hx c m
  · exact hy c m
theorem len_append {x y : Str} : (x ++ y).length = x.length + y.length := by
  show (x.cps ++ y.cps).size = _
  rw [Array.size_append]
  rfl
theorem len_cut {x : Str} {l u : Option Int} : (cutS x l u).length ≤ x.length := by
  show (List.toArray _).size ≤ x.cps.size
  rw [List.size_toArray, List.length_take, List.length_drop, Array.length_toList]
  omega
end Dl
namespace Dl
open PySem L2
mutual
theorem plain_lay {n : Nat} : ∀ {d : D}, plainB n d = true → d.canLay0 = true
  | .none, _ => rfl
  | .bool _, _ => rfl
  | .int _, _ => rfl
  | .str x, h => by cases n <;> simpa [plainB] using h
  | .list xs, h => by
    cases n with
    | zero => simp [plainB] at h
    | succ n =>
      rw [plainB, Bool.and_eq_true] at h
      simpa [PyData.canLay0] using plainAll_lay h.2
  | .tuple xs, h => by
    cases n with
    | zero => simp [plainB] at h
    | succ n =>
      rw [plainB, Bool.and_eq_true] at h
      simpa [PyData.canLay0] using plainAll_lay h.2
  | .dict _, h => by cases n <;> simp [plainB] at h
theorem plainAll_lay {n : Nat} : ∀ {xs : List D}, plainAllB n xs = true → PyData.canLayAll0 xs = true
  | [], _ => rfl
  | x :: xs, h => by
    rw [plainAllB, Bool.and_eq_true] at h
    rw [PyData.canLayAll0, plain_lay h.1, plainAll_lay h.2]
    rfl
end
end Dl
namespace Dl
open PySem L2
theorem okD.mono {n m k k' : Nat} {d : D} (h : okD n k d) (hn : n ≤ m) (hk : k ≤ k') : okD m k' d := by
  induction hn with
  | refl => exact ⟨h.1, Nat.le_trans h.2 hk⟩
  | step _ ih => exact ⟨plain_up ih.1, ih.2⟩
theorem mem_cutD {ds : List D} {l u : Option Int} {x : D} (m : x ∈ cutD ds l u) : x ∈ ds := List.mem_of_mem_drop (List.mem_of_mem_take m)
theorem len_cutD {ds : List D} {l u : Option Int} : (cutD ds l u).length ≤ ds.length := by
  unfold cutD
  rw [List.length_take, List.length_drop]
  omega
end Dl
namespace Dl
open PySem L2
section
variable {A : Amb} {ds : List D} {s : A.S} {Q : D → A.S → Prop}
theorem len_is_whole (h : S_is_whole ds s Q) : ds.length = 1 := by obtain ⟨_, e, _⟩ := h; rw [e]; rfl
theorem len_L_is_integer (h : S_is_whole ds s Q) : ds.length = 1 := len_is_whole h
theorem len_is_from (h : S_is_from ds s Q) : ds.length = 3 := by obtain ⟨_, _, _, e, _⟩ := h; rw [e]; rfl
theorem len_L_same {n : Nat} (h : S_same n ds s Q) : ds.length = 2 := by obtain ⟨_, _, _, e, _⟩ := h; rw [e]; rfl
theorem no_L_same (h : S_same 0 ds s Q) : False := by obtain ⟨_, _, _, _, e, _⟩ := h; cases e
end
theorem len_spread {ds : List D} {s : amb0.S} {Q : D → amb0.S → Prop} (h : S_spread ds s Q) : ds.length = 1 := by obtain ⟨_, e, _⟩ := h; rw [e]; rfl
section
variable {a : Addr} {ds : List D} {s : (poolA a).S} {Q : D → (poolA a).S → Prop}
theorem len_L_stage (h : S_stage a ds s Q) : ds.length = 2 := by obtain ⟨_, e, _⟩ := h; rw [e]; rfl
end
end Dl
namespace Dl
open PySem L2
def t_is_ascending {A : Amb} : DS A :=
  (dRet (dFn fAll (dCons (dOfN (nComp (dRg1 (dCons (dOp fSub (dFn fLen (dCons (dVarB 0) dNil)) (dC (.int 1))) dNil)) (dgN 1) dYes (dOp fLt (dOp fIx (dVarB 0) (dVarB 1)) (dOp fIx (dVarB 0) (dOp fAdd (dVarB 1) (dC (.int 1))))) [1])) dNil)))
def t_is_change {A : Amb} (S_is_ascending S_is_from : FS A) : DS A :=
  (dSeq (dIfS (dOrT (dNotT (dTest (dUn (fIsi .tuple) (dVarB 1)))) (dNotT (dTest (dFn fAll (dCons (dOfN (nComp (dIt (dVar 1)) (dgN 2) dYes (dCall S_is_from (dCons (dVar 2) (dCons (dC (.int 1)) (dCons (dVar 0) dNil)))) [2])) dNil)))))
  (dRet (dC (.bool false)))
  dNx)
  (dSeq (dIfS (dOrT (dNotT (dTest (dCall S_is_ascending (dCons (dVar 1) dNil)))) (dTest (dOp fEqU (dFn fLen (dCons (dVarB 1) dNil)) (dVarB 0))))
  (dRet (dC (.bool false)))
  dNx)
  (dSeq (dSet 3 (dOp fAdd (dOp fAdd (dLst (dCons (dC (.int 0)) dNil)) (dOfN (nFn gList (dCons (dVarB 1) dNil)))) (dLst (dCons (dOp fAdd (dVarB 0) (dC (.int 1))) dNil))))
  (dRet (dFn fAll (dCons (dOfN (nComp (dRg1 (dCons (dOp fSub (dFn fLen (dCons (dVarB 3) dNil)) (dC (.int 1))) dNil)) (dgN 4) dYes (dOp fEqU (dOp fMod (dOp fSub (dOp fIx (dVarB 3) (dOp fAdd (dVarB 4) (dC (.int 1)))) (dOp fIx (dVarB 3) (dVarB 4))) (dC (.int 2))) (dC (.int 1))) [4])) dNil))))))
def t_L_pick {A : Amb} (S_L_draw : FS A) : DS A :=
  (dRet (dOp fIx (dVarB 1) (dCall S_L_draw (dCons (dVar 0) (dCons (dFn fLen (dCons (dVarB 1) dNil)) dNil)))))
def t_L_is_number {A : Amb} (S_L_is_integer : FS A) : DS A :=
  (dRet (dAnd (dCall S_L_is_integer (dCons (dVar 0) dNil)) (dAnd (dOp fLe (dC (.int 0)) (dVarB 0)) (dOp fLe (dVarB 0) (dVarB 1)))))
def t_L_is_change {A : Amb} (S_L_is_number : FS A) : DS A :=
  (dSeq (dIfS (dOrT (dNotT (dTest (dUn (fIsi .tuple) (dVarB 1)))) (dTest (dOp fGt (dFn fLen (dCons (dOfN (nComp (dIt (dVar 1)) (dgN 2) (dOrT (dNotT (dTest (dCall S_L_is_number (dCons (dVar 2) (dCons (dVar 0) dNil))))) (dTest (dOp fLt (dVarB 2) (dC (.int 1))))) (dVar 2) [2])) dNil)) (dC (.int 0)))))
  (dRet (dC (.bool false)))
  dNx)
  (dSeq (dIfS (dOrT (dTest (dOp fNeU (dOfN (nFn gList (dCons (dVarB 1) dNil))) (dOfN (nSortedSet (dCons (dVarB 1) dNil))))) (dTest (dOp fEqU (dFn fLen (dCons (dVarB 1) dNil)) (dVarB 0))))
  (dRet (dC (.bool false)))
  dNx)
  (dSeq (dSet 3 (dC (.int 0)))
  (dSeq (dFor (dRg2 (dCons (dC (.int 1)) (dCons (dOp fAdd (dVarB 0) (dC (.int 2))) dNil))) (dgN 2)
  (dIfS (dOrT (dTest (dOp fIn (dVarB 2) (dVarB 1))) (dTest (dOp fGt (dVarB 2) (dVarB 0))))
  (dSeq (dIfS (dTest (dOp fEqU (dOp fMod (dFn fInt (dCons (dVarB 3) dNil)) (dC (.int 2))) (dC (.int 1))))
  (dRet (dC (.bool false)))
  dNx)
  (dSet 3 (dC (.int 0))))
  (dSet 3 (dOp fAdd (dVarB 3) (dC (.int 1))))))
  (dRet (dC (.bool true)))))))
def t_L_changes {A : Amb} (S_L_is_change : FS A) : DS A :=
  (dSeq (dSet 1 (dLst (dCons (dTup dNil) dNil)))
  (dSeq (dFor (dRg2 (dCons (dC (.int 1)) (dCons (dOp fAdd (dVarB 0) (dC (.int 1))) dNil))) (dgN 2)
  (dSet 1 (dOp fAdd (dVarB 1) (dOfN (nComp (dIt (dVar 1)) (dgN 3) dYes (dOp fAdd (dVarB 3) (dTup (dCons (dVar 2) dNil))) [3])))))
  (dRet (dOfN (nFn gSorted (dCons (dOfN (nComp (dIt (dVar 1)) (dgN 3) (dTest (dCall S_L_is_change (dCons (dVar 0) (dCons (dVar 3) dNil)))) (dVar 3) [3])) dNil))))))
theorem eqv_ints (a b : List Int) : PyData.eqv (.list (intsD a)) (.list (intsD b)) = decide (a = b) := by
  show PyData.eqvAll (intsD a) (intsD b) = decide (a = b)
  induction a generalizing b with
  | nil => cases b <;> simp [intsD, PyData.eqvAll]
  | cons x a ih =>
    cases b with
    | nil => simp [intsD, PyData.eqvAll]
    | cons y b =>
      show (PyData.eqv (.int x) (.int y) && PyData.eqvAll (intsD a) (intsD b)) = _
      rw [ih, eqv_int, Bool.eq_iff_iff]
      simp
def adjB (p : Int → Int → Bool) : List Int → Bool
  | x :: y :: r => p x y && adjB p (y :: r)
  | _ => true
theorem adj_all (p : Int → Int → Bool) : ∀ ns : List Int, (List.range (ns.length - 1)).all (fun k => p (ns.getD k 0) (ns.getD (k + 1) 0)) = adjB p ns
  | [] => rfl
  | [x] => rfl
  | x :: y :: r => by
    have ih := adj_all p (y :: r)
    simp only [List.length_cons, Nat.add_sub_cancel] at ih ⊢
    rw [adjB, ← ih, List.range_succ_eq_map, List.all_cons, List.all_map]
    rfl
def numD : D → Int
  | .int i => i
  | _ => 0
theorem all_rng (p : D → Bool) (n : Nat) : ((rngD 0 n).map p).all id = (List.range n).all fun k => p (.int (k : Nat)) := by
  unfold rngD
  rw [List.map_map, List.all_map]
  congr 1
  funext k
  simp
theorem ints_get {ns : List Int} {k : Nat} (h : k < ns.length) : atI (intsD ns) (k : Int) = some (.int (ns.getD k 0)) := by
  refine atI_nat ?_
  unfold intsD
  rw [List.getElem?_map, List.getElem?_eq_getElem h, List.getD_eq_getElem?_getD, List.getElem?_eq_getElem h]
  rfl
@[simp] theorem intsD_length {ns : List Int} : (intsD ns).length = ns.length := by unfold intsD; simp
section
variable {A : Amb} {ds : List D} {s : A.S} {Q : D → A.S → Prop}
def adjS : List Str → Bool
  | x :: y :: r => decide (x.cps.toList < y.cps.toList) && adjS (y :: r)
  | _ => true
theorem adjS_all : ∀ xs : List Str, (List.range (xs.length - 1)).all (fun k => decide ((xs.getD k ⟨#[]⟩).cps.toList < (xs.getD (k + 1) ⟨#[]⟩).cps.toList)) = adjS xs
  | [] => rfl
  | [x] => rfl
  | x :: y :: r => by
    have ih := adjS_all (y :: r)
    simp only [List.length_cons, Nat.add_sub_cancel] at ih ⊢
    rw [adjS, ← ih, List.range_succ_eq_map, List.all_cons, List.all_map]
    rfl
theorem strs_get {xs : List Str} {k : Nat} (h : k < xs.length) : atI (xs.map PyData.str) (k : Int) = some (.str (xs.getD k ⟨#[]⟩)) := by
  refine atI_nat ?_
  rw [List.getElem?_map, List.getElem?_eq_getElem h, List.getD_eq_getElem?_getD, List.getElem?_eq_getElem h]
  rfl
def S_is_ascending : FS A := fun ds s Q => (∃ ns : List Int, ds = [.tuple (intsD ns)] ∧ ns.length ≤ 100000 ∧ Q (.bool (adjB (fun x y => decide (x < y)) ns)) s) ∨
  ∃ xs : List Str, ds = [.list (xs.map .str)] ∧ xs.length ≤ 100000 ∧ Q (.bool (adjS xs)) s
theorem p_is_ascending (h : S_is_ascending ds s Q) : t_is_ascending (retE Q) (startR 2 ds) s := by
  rcases h with ⟨ns, rfl, hn, q⟩ | ⟨ns, rfl, hn, q⟩
  case inr =>
    have e : startR 2 [.list (ns.map PyData.str)] = [.fz (.list (ns.map PyData.str)), .un] := rfl
    have hs : 100000 ≤ sizeLine := by decide
    unfold t_is_ascending
    simp [e]
    refine comp_pure (xs := rngD 0 (ns.length - 1)) (fun k q => ?_) (by simp) (by rw [rngD_length]; omega) (fun x => some (.bool ((fun x => decide ((ns.getD (numD x).toNat ⟨#[]⟩).cps.toList < (ns.getD ((numD x).toNat + 1) ⟨#[]⟩).cps.toList)) x))) (fun x m s k q => ?_) ?_
    · simp
      exact ⟨⟨by omega, by omega⟩, q⟩
    · obtain ⟨i, hi, rfl⟩ := mem_rngD m
      have h1 := strs_get (xs := ns) (k := i) (by omega)
      have h2 := strs_get (xs := ns) (k := i + 1) (by omega)
      simp
      rw [h1]
      have e2 : ((i : Int) + 1) = ((i + 1 : Nat) : Int) := by omega
      rw [e2, h2]
      simpa [numD] using q
    · rw [fm_some]
      rw [← adjS_all] at q
      show fAll [.list _] _
      rw [q_all, boolsV_map, all_rng]
      simpa [numD] using q
  have e : startR 2 [.tuple (intsD ns)] = [.fz (.tuple (intsD ns)), .un] := rfl
  have hs : 100000 ≤ sizeLine := by decide
  unfold t_is_ascending
  simp [e]
  refine comp_pure (xs := rngD 0 (ns.length - 1)) (fun k q => ?_) (by simp) (by rw [rngD_length]; omega) (fun x => some (.bool ((fun x => decide (ns.getD (numD x).toNat 0 < ns.getD ((numD x).toNat + 1) 0)) x))) (fun x m s k q => ?_) ?_
  · simp
    exact ⟨⟨by omega, by omega⟩, q⟩
  · obtain ⟨i, hi, rfl⟩ := mem_rngD m
    have h1 := ints_get (ns := ns) (k := i) (by omega)
    have h2 := ints_get (ns := ns) (k := i + 1) (by omega)
    simp
    rw [h1]
    have e2 : ((i : Int) + 1) = ((i + 1 : Nat) : Int) := by omega
    rw [e2, h2]
    simpa [numD] using q
  · rw [fm_some]
    rw [← adj_all] at q
    show fAll [.list _] _
    rw [q_all, boolsV_map, all_rng]
    simpa [numD] using q
def inB (st : Int) (d : D) : Bool := fromB d 1 st
def changeN (st : Int) (ns : List Int) : Bool := adjB (fun x y => decide (x < y)) ns && !decide ((ns.length : Int) = st) && adjB (fun x y => decide ((y - x) % 2 = 1)) (0 :: (ns ++ [st + 1]))
def changeB (st : Int) : D → Bool
  | .tuple xs => xs.all (inB st) && changeN st (xs.map numD)
  | _ => false
def lenOk : D → Prop
  | .tuple xs => xs.length ≤ 90000
  | _ => True
theorem numD_ints (ns : List Int) : (intsD ns).map numD = ns := by
  unfold intsD
  rw [List.map_map]
  exact List.map_id'' (fun _ => rfl) ns
theorem inB_ints {st : Int} {xs : List D} (h : xs.all (inB st) = true) : ∃ ns : List Int, xs = intsD ns ∧ ∀ j ∈ ns, 1 ≤ j ∧ j ≤ st := by
  have hw : xs.all isW = true := List.all_eq_true.mpr fun x m => by
    have q := List.all_eq_true.mp h x m
    unfold inB fromB at q
    cases x <;> first | rfl | (simp at q)
  obtain ⟨ns, rfl⟩ := intsD_of hw
  refine ⟨ns, rfl, fun j m => ?_⟩
  have q := List.all_eq_true.mp h (.int j) (List.mem_map.mpr ⟨j, m, rfl⟩)
  simpa [inB, fromB] using q
def S_is_change : FS A := fun ds s Q => ∃ (st : Int) (v : D), ds = [.int st, v] ∧ flat1 v ∧ lenOk v ∧ Q (.bool (changeB st v)) s
theorem p_is_change (h : S_is_change ds s Q) : t_is_change S_is_ascending S_is_from (retE Q) (startR 5 ds) s := by
  obtain ⟨st, v, rfl, fl, hl, q⟩ := h
  have e : startR 5 [.int st, v] = [.fz (.int st), .fz v, .un, .un, .un] := rfl
  have hs : 100000 ≤ sizeLine := by decide
  unfold t_is_change
  simp [e, fl.nd]
  cases v with
  | tuple xs =>
    have hl : xs.length ≤ 90000 := hl
    simp
    refine comp_pure (xs := xs) (fun k q => by simpa using q) (by simp) (by omega) (fun x => some (.bool (inB st x))) (fun x m s k q => ?_) ?_
    · simp
      exact ⟨x, 1, st, rfl, fl x m, q⟩
    · rw [fm_some]
      rw [q_ol, q_all, boolsV_map]
      by_cases hw : xs.all (inB st) = true
      · obtain ⟨ns, rfl, hb⟩ := inB_ints hw
        rw [intsD_length] at hl
        have hw2 : ((intsD ns).map (inB st)).all id = true := by rw [List.all_map]; exact hw
        rw [hw2]
        simp
        refine .inl ⟨ns, rfl, by omega, ?_⟩
        simp
        have qq : Q (.bool (changeN st ns)) s := by
          have e : changeB st (.tuple (intsD ns)) = changeN st ns := by
            rw [changeB, hw, numD_ints]
            rfl
          rw [← e]
          exact q
        unfold changeN at qq
        cases ha : adjB (fun x y => decide (x < y)) ns with
        | false => simpa [ha] using qq
        | true =>
          by_cases hst : (ns.length : Int) = st
          · simpa [ha, hst] using qq
          · simp [ha, hst] at qq ⊢
            refine ⟨by omega, by omega, by omega, by omega, ?_⟩
            have e2 : PyData.int 0 :: (intsD ns ++ [PyData.int (st + 1)]) = intsD (0 :: (ns ++ [st + 1])) := by
              unfold intsD
              simp
            rw [e2]
            generalize hE : (0 :: (ns ++ [st + 1])) = E at qq
            have hEl : E.length = ns.length + 2 := by rw [← hE]; simp
            refine comp_pure (xs := rngD 0 (E.length - 1)) (fun k q => ?_) (by simp) (by rw [rngD_length]; omega) (fun x => some (.bool ((fun x => decide ((E.getD ((numD x).toNat + 1) 0 - E.getD (numD x).toNat 0) % 2 = 1)) x))) (fun x m s k q => ?_) ?_
            · simp
              exact ⟨⟨by omega, by omega⟩, q⟩
            · obtain ⟨i, hi, rfl⟩ := mem_rngD m
              have h1 := ints_get (ns := E) (k := i) (by omega)
              have h2 := ints_get (ns := E) (k := i + 1) (by omega)
              have e2 : ((i : Int) + 1) = ((i + 1 : Nat) : Int) := by omega
              simp
              rw [e2, h2]
              simp
              rw [h1]
              simpa [numD] using q
            · rw [fm_some]
              rw [← adj_all] at qq
              show fAll [.list _] _
              rw [q_all, boolsV_map, all_rng]
              simpa [numD] using qq
      · have hw2 : (xs.map (inB st)).all id = false := by
          rw [List.all_map]
          simpa using hw
        have hw3 : xs.all (inB st) = false := by simpa using hw
        rw [hw2]
        simp
        have e : changeB st (.tuple xs) = false := by rw [changeB, hw3]; rfl
        rw [e] at q
        exact q
  | dict _ => exact fl.elim
  | _ => simpa [changeB] using q
end
end Dl
namespace Dl
open PySem L2
theorem asc_iff : ∀ {ns : List Int}, adjB (fun x y => decide (x < y)) ns = true ↔ ns.Pairwise (· < ·)
  | [] => by simp [adjB]
  | [x] => by simp [adjB]
  | x :: y :: r => by
    rw [adjB, Bool.and_eq_true, asc_iff, List.pairwise_cons (a := x), decide_eq_true_eq]
    constructor
    · rintro ⟨h1, h2⟩
      refine ⟨fun z m => ?_, h2⟩
      rcases List.mem_cons.mp m with rfl | m
      · exact h1
      · exact Int.lt_trans h1 ((List.pairwise_cons.mp h2).1 z m)
    · rintro ⟨h1, h2⟩
      exact ⟨h1 y (List.mem_cons_self ..), h2⟩
theorem asc_unique : ∀ {ms ns : List Int}, ms.Pairwise (· < ·) → ns.Pairwise (· < ·) → (∀ j, j ∈ ms ↔ j ∈ ns) → ms = ns
  | [], [], _, _, _ => rfl
  | [], n :: ns, _, _, h => by have := (h n).mpr (List.mem_cons_self ..); cases this
  | m :: ms, [], _, _, h => by have := (h m).mp (List.mem_cons_self ..); cases this
  | m :: ms, n :: ns, h1, h2, h => by
    have a := List.pairwise_cons.mp h1
    have b := List.pairwise_cons.mp h2
    have e : m = n := by
      rcases List.mem_cons.mp ((h m).mp (List.mem_cons_self ..)) with e | x
      · exact e
      · rcases List.mem_cons.mp ((h n).mpr (List.mem_cons_self ..)) with e | y
        · exact e.symm
        · have := a.1 n y
          have := b.1 m x
          omega
    subst e
    rw [asc_unique a.2 b.2 fun j => ?_]
    constructor
    · intro x
      rcases List.mem_cons.mp ((h j).mp (List.mem_cons_of_mem _ x)) with rfl | y
      · exact absurd (a.1 j x) (Int.lt_irrefl _)
      · exact y
    · intro x
      rcases List.mem_cons.mp ((h j).mpr (List.mem_cons_of_mem _ x)) with rfl | y
      · exact absurd (b.1 j x) (Int.lt_irrefl _)
      · exact y
def looseB (ns : List Int) (st : Int) : Nat → Int → Int → Bool
  | 0, _, _ => true
  | n + 1, p, l => if p ∈ ns ∨ st < p then (if l % 2 = 1 then false else looseB ns st n (p + 1) 0) else looseB ns st n (p + 1) (l + 1)
theorem loose_gaps (ns : List Int) (st : Int) : ∀ (n : Nat) (p l e : Int) (ns' : List Int), p + n = st + 2 → 1 ≤ n → l = p - 1 - e → 0 ≤ l → (∀ j, p ≤ j → (j ∈ ns ↔ j ∈ ns')) → ns'.Pairwise (· < ·) → (∀ j ∈ ns', p ≤ j ∧ j ≤ st) →
    looseB ns st n p l = adjB (fun x y => decide ((y - x) % 2 = 1)) (e :: (ns' ++ [st + 1]))
  | 0, _, _, _, _, _, h, _, _, _, _, _ => by omega
  | 1, p, l, e, ns', hp, _, hl, h0, hm, pw, hb => by
    have hp : p = st + 1 := by omega
    subst hp
    have hn : ns' = [] := by
      cases ns' with
      | nil => rfl
      | cons j r => have := hb j (List.mem_cons_self ..); omega
    subst hn
    rw [looseB, if_pos (.inr (by omega))]
    simp only [List.nil_append, adjB, Bool.and_true, looseB]
    by_cases c : l % 2 = 1
    · rw [if_pos c]
      symm
      apply decide_eq_false
      omega
    · rw [if_neg c]
      symm
      apply decide_eq_true
      omega
  | n + 2, p, l, e, ns', hp, _, hl, h0, hm, pw, hb => by
    rw [looseB]
    by_cases c : p ∈ ns
    · rw [if_pos (.inl c)]
      have hin := (hm p (Int.le_refl _)).mp c
      cases ns' with
      | nil => cases hin
      | cons j r =>
        have pw' := List.pairwise_cons.mp pw
        have e1 : j = p := by
          have b1 := hb j (List.mem_cons_self ..)
          rcases List.mem_cons.mp hin with z | z
          · exact z.symm
          · have := pw'.1 p z
            omega
        subst e1
        rw [List.cons_append, adjB, ← loose_gaps ns st (n + 1) (j + 1) 0 j r (by omega) (by omega) (by omega) (by omega) (fun i hi => ?_) pw'.2 fun i m => ?_]
        · by_cases o : l % 2 = 1
          · rw [if_pos o, decide_eq_false (by omega)]
            rfl
          · rw [if_neg o, decide_eq_true (by omega)]
            rfl
        · rw [hm i (by omega), List.mem_cons]
          constructor
          · rintro (z | z)
            · omega
            · exact z
          · exact .inr
        · have := pw'.1 i m
          have := (hb i (List.mem_cons_of_mem _ m)).2
          omega
    · rw [if_neg (by rintro (z | z); exact c z; omega)]
      refine loose_gaps ns st (n + 1) (p + 1) (l + 1) e ns' (by omega) (by omega) (by omega) (by omega) (fun i hi => hm i (by omega)) pw fun i m => ?_
      have b := hb i m
      have : i ≠ p := fun z => c ((hm p (Int.le_refl _)).mpr (z ▸ m))
      omega
theorem rngD_succ (p : Int) (n : Nat) : rngD p (n + 1) = .int p :: rngD (p + 1) n := by
  unfold rngD
  rw [List.range_succ_eq_map, List.map_cons, List.map_map]
  congr 1
  · simp
  · apply List.map_congr_left
    intro i _
    show PyData.int (p + ((i + 1 : Nat) : Int)) = .int (p + 1 + (i : Nat))
    congr 1
    omega
section
variable {A : Amb} {ds : List D} {s : A.S} {Q : D → A.S → Prop}
def S_L_is_number : FS A := fun ds s Q => ∃ v top, ds = [v, .int top] ∧ notDict v ∧ Q (.bool (fromB v 0 top)) s
theorem p_L_is_number (h : S_L_is_number ds s Q) : t_L_is_number S_is_whole (retE Q) (startR 2 ds) s := by
  obtain ⟨v, top, rfl, nd, q⟩ := h
  have e : startR 2 [v, .int top] = [.fz v, .fz (.int top)] := rfl
  unfold t_L_is_number
  simp [e]
  refine ⟨v, rfl, nd, ?_⟩
  cases v with
  | int i =>
    simp [isW]
    by_cases h1 : 0 ≤ i <;> simpa [fromB, h1] using q
  | _ => simpa [isW, fromB] using q
def S_L_is_change : FS A := fun ds s Q => ∃ (st : Int) (v : D), ds = [.int st, v] ∧ 0 ≤ st ∧ st ≤ 50 ∧ flat1 v ∧ lenOk v ∧ Q (.bool (changeB st v)) s
theorem any_ints (j : Int) (ns : List Int) : anyEq (.int j) (intsD ns) = decide (j ∈ ns) := by
  unfold anyEq intsD
  rw [List.any_map, Bool.eq_iff_iff, List.any_eq_true, decide_eq_true_eq]
  constructor
  · rintro ⟨x, m, e⟩
    have e : x = j := by simpa using e
    exact e ▸ m
  · intro m
    exact ⟨j, m, by simp⟩
theorem in_ok (j : Int) (ns : List Int) : inOk (.int j) (intsD ns) := ⟨canLay_ints ns, rfl, by simp [PyData.depth]⟩
theorem eqOk_intsL (a b : List Int) : eqOk (.list (intsD a)) (.list (intsD b)) := by
  unfold eqOk
  rw [shaped_ints, shaped_ints]
  simp
theorem p_L_is_change (h : S_L_is_change ds s Q) : t_L_is_change S_L_is_number (retE Q) (startR 4 ds) s := by
  obtain ⟨st, v, rfl, s0, s1, fl, hl, q⟩ := h
  have e : startR 4 [.int st, v] = [.fz (.int st), .fz v, .un, .un] := rfl
  have hs : 100000 ≤ sizeLine := by decide
  unfold t_L_is_change
  cases v with
  | tuple xs =>
    have hl : xs.length ≤ 90000 := hl
    simp [e]
    refine comp_pure (xs := xs) (fun k q => by simpa using q) (by simp) (by omega) (fun x => if (!inB st x) = true then some x else none) (fun x m s k q => ?_) ?_
    · simp
      refine ⟨x, st, rfl, fl x m, ?_⟩
      unfold inB at q
      cases x with
      | int j =>
        simp [fromB] at q ⊢
        by_cases h0 : 0 ≤ j
        · by_cases h1 : j ≤ st
          · by_cases h2 : j < 1
            · rw [if_pos (.inl h2)] at q
              simpa [h0, h1, h2] using q
            · rw [if_neg (by omega)] at q
              simpa [h0, h1, h2] using q
          · rw [if_pos (.inr (by omega))] at q
            simpa [h0, h1] using q
        · rw [if_pos (.inl (by omega))] at q
          simpa [h0] using q
      | _ => simpa [fromB] using q
    · rw [fm_if]
      simp
      by_cases hw : xs.all (inB st) = true
      · have hz : ¬ ∃ a, a ∈ xs ∧ inB st a = false := fun ⟨a, m, z⟩ => by
          have := List.all_eq_true.mp hw a m
          rw [z] at this
          cases this
        rw [if_neg hz]
        obtain ⟨ns, rfl, hb⟩ := inB_ints hw
        rw [intsD_length] at hl
        have qq : Q (.bool (changeN st ns)) s := by
          have e : changeB st (.tuple (intsD ns)) = changeN st ns := by
            rw [changeB, hw, numD_ints]
            rfl
          rw [← e]
          exact q
        refine ⟨ns, (List.range st.toNat).map fun i => ((i : Nat) : Int) + 1, rfl, hl, fun j m => ?_, by rw [List.length_map, List.length_range]; omega, fun ms pw mem => ?_⟩
        · have := hb j m
          exact List.mem_map.mpr ⟨(j - 1).toNat, List.mem_range.mpr (by omega), by omega⟩
        have ms_ns : (ns = ms) ↔ adjB (fun x y => decide (x < y)) ns = true := by
          rw [asc_iff]
          constructor
          · rintro rfl; exact pw
          · intro a; exact (asc_unique pw a mem).symm
        simp
        refine ⟨eqOk_intsL ns ms, ?_⟩
        rw [show PyData.eqv (.list (intsD ns)) (.list (ms.map .int)) = decide (ns = ms) from eqv_ints ns ms]
        unfold changeN at qq
        by_cases ha : ns = ms
        · have ha' := ms_ns.mp ha
          by_cases hst : (ns.length : Int) = st
          · rw [decide_eq_true ha]
            simpa [ha', hst] using qq
          · rw [decide_eq_true ha]
            simp [ha', hst] at qq ⊢
            rw [← loose_gaps ns st (st + 1).toNat 1 0 0 ns (by omega) (by omega) (by omega) (by omega) (fun _ _ => Iff.rfl) (asc_iff.mp ha') hb] at qq
            refine for_of (xs := rngD 1 (st + 1).toNat) (fun k q => ?_) (fun r ρ s' => s' = s ∧ ∃ (p : Int) (n : Nat) (l : Int) (c : Cell), r = rngD p n ∧ ρ = [.fz (.int st), .fz (.tuple (intsD ns)), c, .fz (.int l)] ∧ Q (.bool (looseB ns st n p l)) s) ⟨rfl, 1, _, 0, .un, rfl, rfl, qq⟩ ?_ ?_
            · simp
              have e : (st + 2 - 1).toNat = (st + 1).toNat := by omega
              exact ⟨_, _, ⟨rfl, rfl⟩, ⟨by omega, by omega, by omega, by omega⟩, by rw [e]; exact q⟩
            · rintro x r ρ s' ⟨rfl, p, n, l, c, hr, rfl, qq⟩ D' hrt hbk hn hc
              cases n with
              | zero => cases hr
              | succ n =>
                rw [rngD_succ] at hr
                obtain ⟨rfl, rfl⟩ := List.cons.inj hr
                rw [looseB] at qq
                simp
                refine ⟨in_ok p ns, ?_⟩
                rw [any_ints]
                by_cases c1 : p ∈ ns
                · rw [if_pos (.inl c1)] at qq
                  by_cases c2 : l % 2 = 1
                  · rw [if_pos c2] at qq
                    simpa [c1, c2, hrt] using qq
                  · rw [if_neg c2] at qq
                    simp [c1, c2]
                    exact hn _ _ ⟨rfl, _, n, 0, _, rfl, rfl, qq⟩
                · by_cases c3 : st < p
                  · rw [if_pos (.inr c3)] at qq
                    by_cases c2 : l % 2 = 1
                    · rw [if_pos c2] at qq
                      simpa [c1, c2, c3, hrt] using qq
                    · rw [if_neg c2] at qq
                      simp [c1, c2, c3]
                      exact hn _ _ ⟨rfl, _, n, 0, _, rfl, rfl, qq⟩
                  · rw [if_neg (by rintro (z | z); exact c1 z; exact c3 z)] at qq
                    simp [c1, c3]
                    exact hn _ _ ⟨rfl, _, n, l + 1, _, rfl, rfl, qq⟩
            · rintro ρ s' ⟨rfl, p, n, l, c, hr, rfl, qq⟩
              cases n with
              | succ n => rw [rngD_succ] at hr; cases hr
              | zero =>
                rw [looseB] at qq
                simpa using qq
        · have ha' : adjB (fun x y => decide (x < y)) ns = false := by
            cases h : adjB (fun x y => decide (x < y)) ns with
            | false => rfl
            | true => exact (ha (ms_ns.mpr h)).elim
          rw [decide_eq_false ha]
          simpa [ha'] using qq
      · have hz : ∃ a, a ∈ xs ∧ inB st a = false := by simpa using hw
        rw [if_pos hz]
        have hw3 : xs.all (inB st) = false := by simpa using hw
        have e : changeB st (.tuple xs) = false := by rw [changeB, hw3]; rfl
        rw [e] at q
        exact q
  | dict _ => exact fl.elim
  | _ => simpa [e, changeB] using q
end
end Dl
namespace Dl
open PySem L2
def tupI (ns : List Int) : D := .tuple (intsD ns)
def subsN : Nat → List (List Int)
  | 0 => [[]]
  | n + 1 => subsN n ++ (subsN n).map (· ++ [((n : Nat) : Int) + 1])
def chS (st : Int) : List (List Int) := (subsN st.toNat).filter fun ns => changeB st (tupI ns)
def changesD (st : Int) : List D := sortD ((chS st).map tupI)
end Dl
namespace Dl
open PySem L2
section
variable {A : Amb} {ds : List D} {s : A.S} {Q : D → A.S → Prop}
theorem mem_tupI {x : D} {L : List (List Int)} (m : x ∈ L.map tupI) : ∃ ns, ns ∈ L ∧ x = .tuple (intsD ns) := by
  obtain ⟨ns, h, rfl⟩ := List.mem_map.mp m
  exact ⟨ns, h, rfl⟩
theorem sortOk_tupI (L : List (List Int)) : sortOk (L.map tupI) := by
  refine ⟨?_, ?_, ?_⟩
  · induction L with
    | nil => rfl
    | cons a L ih =>
      rw [List.map_cons, PyData.canLayAll0, ih]
      simp [tupI, PyData.canLay0, canLay_ints]
  · intro d hd d' hd'
    obtain ⟨a, _, rfl⟩ := List.mem_map.mp hd
    obtain ⟨b, _, rfl⟩ := List.mem_map.mp hd'
    simp only [tupI, PySem.W.alike]
    exact PySem.W.alike_ints a b
  · intro d hd
    obtain ⟨a, _, rfl⟩ := List.mem_map.mp hd
    refine ⟨(fun z => nomatch z), ?_⟩
    have : PyData.depthAll (intsD a) = 0 := PySem.W.depth_ints a
    simp [tupI, PyData.depth, this]
def S_changes_of : FS A := fun ds s Q => ∃ st : Int, ds = [.int st] ∧ 3 ≤ st ∧ st ≤ 8 ∧ Q (.list (changesD st)) s
theorem filter_tupI (p : List Int → Bool) (L : List (List Int)) (h : D → Bool) (hh : ∀ ns, h (tupI ns) = p ns) : (L.map tupI).filterMap (fun x => if h x = true then some x else none) = (L.filter p).map tupI := by
  rw [fm_if, List.filter_map]
  congr 1
  apply List.filter_congr
  intro x _
  exact hh x
theorem subsN_len : ∀ n, (subsN n).length = 2 ^ n
  | 0 => rfl
  | n + 1 => by
    rw [subsN, List.length_append, List.length_map, subsN_len n, Nat.pow_succ]
    omega
theorem subsN_low : ∀ (n : Nat) (ns : List Int), ns ∈ subsN n → ns.length ≤ n
  | 0, ns, m => by simp [subsN] at m; subst m; simp
  | n + 1, ns, m => by
    rcases List.mem_append.mp m with m | m
    · have := subsN_low n ns m
      omega
    · obtain ⟨r, hr, rfl⟩ := List.mem_map.mp m
      have := subsN_low n r hr
      simp
      omega
theorem p_L_changes (h : S_changes_of ds s Q) : t_L_changes S_L_is_change (retE Q) (startR 4 ds) s := by
  obtain ⟨st, rfl, h3, h8, q⟩ := h
  have e : startR 4 [.int st] = [.fz (.int st), .un, .un, .un] := rfl
  have hs : 100000 ≤ sizeLine := by decide
  unfold t_L_changes
  simp [e]
  refine ⟨by omega, ?_⟩
  refine for_of (xs := rngD 1 st.toNat) (fun k z => ?_) (fun r ρ s' => s' = s ∧ ∃ (n m : Nat) (c : Cell), r = rngD ((n : Nat) + 1) m ∧ n + m = st.toNat ∧ ρ = [.fz (.int st), .fz (.list ((subsN n).map tupI)), c, .un]) ⟨rfl, 0, st.toNat, .un, by simp, by omega, by simp [subsN, tupI, intsD]⟩ ?_ ?_
  · simp
    have e : (st + 1 - 1).toNat = st.toNat := by omega
    exact ⟨_, _, ⟨rfl, rfl⟩, ⟨by omega, by omega, by omega, by omega⟩, by rw [e]; exact z⟩
  · rintro x r ρ s' ⟨rfl, n, m, c, hr, hn, rfl⟩ D' hrt hbk hnx hc
    cases m with
    | zero => cases hr
    | succ m =>
      rw [rngD_succ] at hr
      obtain ⟨rfl, rfl⟩ := List.cons.inj hr
      have ln := subsN_len n
      have pw : 2 ^ n ≤ 2 ^ 8 := Nat.pow_le_pow_right (by decide) (by omega)
      have e8 : (2 : Nat) ^ 8 = 256 := by decide
      rw [e8] at pw
      simp
      refine comp_pure (xs := (subsN n).map tupI) (fun k z => by simpa using z) (by simp) (by rw [List.length_map]; omega) (fun x => some (match x with
        | .tuple r => .tuple (r ++ [.int ((n : Nat) + 1)])
        | x => x)) (fun x m s k z => ?_) ?_
      · obtain ⟨ns, hn2, rfl⟩ := mem_tupI m
        have := subsN_low n ns hn2
        simp
        exact ⟨by omega, by omega, z⟩
      · rw [fm_some, List.map_map]
        have e2 : ((subsN n).map ((fun x => match x with
          | .tuple r => PyData.tuple (r ++ [.int ((n : Nat) + 1)])
          | x => x) ∘ tupI)) = ((subsN n).map (· ++ [((n : Nat) : Int) + 1])).map tupI := by
          rw [List.map_map]
          apply List.map_congr_left
          intro a _
          simp [tupI, intsD]
        rw [e2]
        simp
        refine ⟨by omega, ?_⟩
        refine hnx _ _ ⟨rfl, n + 1, m, .fz (.int ((n : Nat) + 1)), by rw [show ((n + 1 : Nat) : Int) + 1 = ((n : Nat) : Int) + 1 + 1 by omega], by omega, ?_⟩
        rw [subsN, List.map_append]
        simp
  · rintro ρ s' ⟨rfl, n, m, c, hr, hn, rfl⟩
    cases m with
    | succ m => rw [rngD_succ] at hr; cases hr
    | zero =>
      have hn : n = st.toNat := by omega
      subst hn
      have ln := subsN_len st.toNat
      have pw : 2 ^ st.toNat ≤ 2 ^ 8 := Nat.pow_le_pow_right (by decide) (by omega)
      have e8 : (2 : Nat) ^ 8 = 256 := by decide
      rw [e8] at pw
      simp
      refine comp_pure (xs := (subsN st.toNat).map tupI) (fun k z => by simpa using z) (by simp) (by rw [List.length_map]; omega) (fun x => if changeB st x = true then some x else none) (fun x m s k z => ?_) ?_
      · obtain ⟨ns, hn2, rfl⟩ := mem_tupI m
        have := subsN_low st.toNat ns hn2
        simp
        refine ⟨st, _, rfl, by omega, by omega, fun x m => by obtain ⟨j, _, rfl⟩ := List.mem_map.mp m; trivial, by simp [lenOk]; omega, ?_⟩
        cases c2 : changeB st (.tuple (intsD ns)) <;> simpa [c2] using z
      · rw [filter_tupI (fun ns => changeB st (tupI ns)) _ _ fun ns => rfl]
        simp
        exact ⟨sortOk_tupI _, q⟩
end
section
variable {a : Addr} {ds : List D} {s : (poolA a).S} {Q : D → (poolA a).S → Prop}
def pickOf : D → Option (List D)
  | .str z => some (signsD z)
  | v => seqOf v
def S_L_pick (a : Addr) : FS (poolA a) := fun ds s Q => ∃ v xs, ds = [refD a, v] ∧ pickOf v = some xs ∧ xs ≠ [] ∧ xs.length ≤ 100000 ∧ ∀ x ∈ xs, Q x s
theorem p_L_pick (h : S_L_pick a ds s Q) : t_L_pick (S_draw a) (retE Q) (startR 2 ds) s := by
  obtain ⟨v, xs, rfl, hv, hx, hl, q⟩ := h
  have e : startR 2 [refD a, v] = [.fz (refD a), .fz v] := rfl
  have h0 := List.length_pos_iff.mpr hx
  unfold t_L_pick
  cases v with
  | list ys =>
    cases hv
    simp [e]
    refine ⟨_, rfl, by omega, by omega, fun i i0 i1 => ?_⟩
    simp
    exact atI_mem i0 i1 q
  | tuple ys =>
    cases hv
    simp [e]
    refine ⟨_, rfl, by omega, by omega, fun i i0 i1 => ?_⟩
    simp
    exact atI_mem i0 i1 q
  | str z =>
    cases hv
    have hz : z.cps.toList.length = z.length := Array.length_toList
    have hl2 : (signsD z).length = z.length := by unfold signsD; rw [List.length_map, hz]
    have hs : 1000000 ≤ sizeLine := by decide
    simp [e]
    refine ⟨by omega, _, rfl, by omega, by omega, fun i i0 i1 => ?_⟩
    show fIx (.str z) (.int i) _
    refine ⟨by omega, ?_⟩
    have hb : i.toNat < z.cps.toList.length := by omega
    have ea : atS z i = some ⟨#[z.cps.toList[i.toNat]]⟩ := by
      obtain ⟨h, e⟩ := atI_of (xs := z.cps.toList) i0 (by omega)
      unfold atS
      rw [e]
      rfl
    rw [ea]
    exact q _ (List.mem_map.mpr ⟨_, List.getElem_mem hb, rfl⟩)
  | _ => cases hv
end
end Dl
namespace Dl
open PySem L2
theorem ch_some {st : Int} (h3 : 3 ≤ st) (h8 : st ≤ 8) : changesD st ≠ [] ∧ (changesD st).length ≤ 300 := by
  have h : chS st ≠ [] ∧ (chS st).length ≤ 300 := by
    rcases (by omega : st = 3 ∨ st = 4 ∨ st = 5 ∨ st = 6 ∨ st = 7 ∨ st = 8) with rfl | rfl | rfl | rfl | rfl | rfl <;> decide +kernel
  have e : (changesD st).length = (chS st).length := by
    unfold changesD sortD
    rw [(List.mergeSort_perm _ _).length_eq, List.length_map]
  refine ⟨fun z => h.1 (List.length_eq_zero_iff.mp ?_), by rw [e]; exact h.2⟩
  rw [← e, z]
  rfl
theorem mem_changesD {st : Int} {x : D} (m : x ∈ changesD st) : ∃ ns, ns ∈ chS st ∧ x = .tuple (intsD ns) := mem_tupI ((List.mergeSort_perm _ _).mem_iff.mp m)
theorem plain_ints (ns : List Int) : ∀ x ∈ intsD ns, plainB 0 x = true := fun x m => by
  obtain ⟨j, _, rfl⟩ := List.mem_map.mp m
  simp [plainB]
theorem plain_mono {n m : Nat} {d : D} (h : plainB n d = true) (hn : n ≤ m) : plainB m d = true := by
  induction hn with
  | refl => exact h
  | step _ ih => exact plain_up ih
end Dl
namespace Dl
open PySem L2
section
variable {A : Amb} {ds : List D} {s : A.S} {Q : D → A.S → Prop}
theorem len_is_ascending (h : S_is_ascending ds s Q) : ds.length = 1 := by rcases h with ⟨_, e, _⟩ | ⟨_, e, _⟩ <;> (rw [e]; rfl)
theorem len_is_change (h : S_is_change ds s Q) : ds.length = 2 := by obtain ⟨_, _, e, _⟩ := h; rw [e]; rfl
theorem len_changes_of (h : S_changes_of ds s Q) : ds.length = 1 := by obtain ⟨_, e, _⟩ := h; rw [e]; rfl
theorem len_L_changes (h : S_changes_of ds s Q) : ds.length = 1 := len_changes_of h
theorem len_L_is_number (h : S_L_is_number ds s Q) : ds.length = 2 := by obtain ⟨_, _, e, _⟩ := h; rw [e]; rfl
theorem len_L_is_change (h : S_L_is_change ds s Q) : ds.length = 2 := by obtain ⟨_, _, e, _⟩ := h; rw [e]; rfl
end
theorem len_L_pick {a : Addr} {ds : List D} {s : (poolA a).S} {Q : D → (poolA a).S → Prop} (h : S_L_pick a ds s Q) : ds.length = 2 := by obtain ⟨_, _, e, _⟩ := h; rw [e]; rfl
end Dl
namespace Dl
open PySem L2
abbrev oddB : Int → Int → Bool := fun x y => decide ((y - x) % 2 = 1)
theorem change_ok {st : Int} {cs : List Int} (h : changeB st (tupI cs) = true) : cs.Pairwise (· < ·) ∧ (∀ j ∈ cs, 1 ≤ j ∧ j ≤ st) ∧ adjB oddB (0 :: (cs ++ [st + 1])) = true := by
  unfold tupI changeB at h
  rw [Bool.and_eq_true, numD_ints] at h
  obtain ⟨h1, h2⟩ := h
  obtain ⟨ns, e, hb⟩ := inB_ints h1
  have e2 : cs = ns := by
    have := congrArg (List.map numD) e
    rwa [numD_ints, numD_ints] at this
  subst e2
  unfold changeN at h2
  rw [Bool.and_eq_true, Bool.and_eq_true] at h2
  exact ⟨asc_iff.mp h2.1.1, hb, h2.2⟩
theorem mem_subsN : ∀ (n : Nat) (ns : List Int), ns.Pairwise (· < ·) → (∀ j ∈ ns, 1 ≤ j ∧ j ≤ n) → ns ∈ subsN n
  | 0, ns, _, h => by
    cases ns with
    | nil => simp [subsN]
    | cons j r => have := h j (List.mem_cons_self ..); omega
  | n + 1, ns, pw, h => by
    rw [subsN]
    rcases List.eq_nil_or_concat ns with rfl | ⟨r, l, rfl⟩
    · exact List.mem_append_left _ (mem_subsN n [] (by simp) (by simp))
    · rw [List.concat_eq_append] at pw h ⊢
      have pw' := List.pairwise_append.mp pw
      have hl := h l (by simp)
      have hr : ∀ j ∈ r, 1 ≤ j ∧ j ≤ n := fun j m => by
        have a := h j (by simp [m])
        have b := pw'.2.2 j m l (by simp)
        omega
      have ih := mem_subsN n r pw'.1 hr
      by_cases e : l = ((n : Nat) : Int) + 1
      · subst e
        exact List.mem_append_right _ (List.mem_map.mpr ⟨r, ih, rfl⟩)
      · refine List.mem_append_left _ (mem_subsN n _ pw fun j m => ?_)
        rcases List.mem_append.mp m with m | m
        · exact hr j m
        · rw [List.mem_singleton.mp m]
          omega
theorem mem_chS {st : Int} {cs : List Int} (h0 : 0 ≤ st) : cs ∈ chS st ↔ changeB st (tupI cs) = true := by
  unfold chS
  rw [List.mem_filter]
  constructor
  · exact fun z => z.2
  · intro z
    obtain ⟨a, b, _⟩ := change_ok z
    refine ⟨mem_subsN _ _ a fun j m => ?_, z⟩
    have := b j m
    omega
end Dl
namespace Dl
open PySem L2
theorem eqOk_intsT (a b : List Int) : eqOk (.tuple (intsD a)) (.tuple (intsD b)) := by
  unfold eqOk
  rw [shaped_intsT, shaped_intsT]
  simp
theorem eqv_intsT (a b : List Int) : PyData.eqv (.tuple (intsD a)) (.tuple (intsD b)) = decide (a = b) := eqv_ints a b
end Dl
namespace Dl
open PySem L2
theorem plain_tupI {ns : List Int} {n : Nat} (h : ns.length ≤ 1000) : plainB (n + 1) (.tuple (intsD ns)) = true := plain_mono (n := 1) (plain_tuple (plain_ints ns) (by rw [intsD_length]; omega)) (by omega)
theorem plain_sorted {ns : List Int} {n : Nat} (h : ns.length ≤ 1000) : plainB (n + 1) (.tuple (sortD (intsD ns))) = true := by
  unfold sortD
  rw [sort_ints]
  exact plain_tupI (by rw [(List.mergeSort_perm _ _).length_eq]; exact h)
end Dl
namespace Dl
open PySem L2
def t_is_piece {A : Amb} (S_is_change : FS A) : DS A :=
  (dSeq (dIfS (dOrT (dNotT (dTest (dUn (fIsi .tuple) (dVarB 1)))) (dNotT (dTest (dChain fLe fLe (dC (.int 1)) (dFn fLen (dCons (dVarB 1) dNil)) (dC (.int 5040))))))
  (dRet (dC (.bool false)))
  dNx)
  (dRet (dFn fAll (dCons (dOfN (nComp (dIt (dVar 1)) (dgN 2) dYes (dCall S_is_change (dCons (dVar 0) (dCons (dVar 2) dNil))) [2])) dNil))))
def t_L_piece {A : Amb} (S_L_changes S_L_draw S_L_pick : FS A) : DS A :=
  (dSeq (dSet 3 (dCall S_L_changes (dCons (dVar 1) dNil)))
  (dSeq (dSet 4 (dCall S_L_draw (dCons (dVar 0) (dCons (dC (.int 4)) dNil))))
  (dSeq (dIfS (dTest (dOp fEqU (dVarB 4) (dC (.int 0))))
  (dSeq (dSet 5 (dOfN (nComp (dRg1 (dCons (dOp fAdd (dC (.int 1)) (dCall S_L_draw (dCons (dVar 0) (dCons (dOp fDiv (dVarB 2) (dC (.int 2))) dNil)))) dNil)) (dgN 6) dYes (dCall S_L_pick (dCons (dVar 0) (dCons (dVar 3) dNil))) [6])))
  (dRet (dFn fTuple (dCons (dSl (dOp fAdd (dOp fAdd (dOp fAdd (dVarB 5) (dLst (dCons (dCall S_L_pick (dCons (dVar 0) (dCons (dVar 3) dNil))) dNil))) (dRev (dVarB 5))) (dLst (dCons (dCall S_L_pick (dCons (dVar 0) (dCons (dVar 3) dNil))) dNil))) oNone (oSome (dVarB 2))) dNil))))
  dNx)
  (dSeq (dIfS (dTest (dOp fEqU (dVarB 4) (dC (.int 1))))
  (dSeq (dSet 7 (dIf (dTest (dOp fEqU (dOp fMod (dFn fInt (dCons (dVarB 1) dNil)) (dC (.int 2))) (dC (.int 1)))) (dLst (dCons (dTup (dCons (dC (.int 1)) dNil)) (dCons (dTup (dCons (dVar 1) dNil)) dNil))) (dLst (dCons (dTup dNil) (dCons (dTup (dCons (dC (.int 1)) (dCons (dVar 1) dNil))) dNil)))))
  (dSeq (dSet 8 (dOp fMul (dC (.int 2)) (dVarB 1)))
  (dRet (dSl (dFn fTuple (dCons (dOp fAdd (dSl (dOp fMul (dVarB 7) (dVarB 1)) oNone (oSome (dOp fSub (dVarB 8) (dC (.int 1))))) (dLst (dCons (dCall S_L_pick (dCons (dVar 0) (dCons (dVar 3) dNil))) dNil))) dNil)) oNone (oSome (dVarB 2))))))
  dNx)
  (dRet (dFn fTuple (dCons (dOfN (nComp (dRg1 (dCons (dOp fAdd (dC (.int 1)) (dCall S_L_draw (dCons (dVar 0) (dCons (dVar 2) dNil)))) dNil)) (dgN 6) dYes (dCall S_L_pick (dCons (dVar 0) (dCons (dVar 3) dNil))) [6])) dNil)))))))
def pieceB (st : Int) : D → Bool
  | .tuple xs => decide (1 ≤ xs.length) && decide (xs.length ≤ 5040) && xs.all (changeB st)
  | _ => false
def itemsOk : D → Prop
  | .tuple xs => xs.length ≤ 5040 → ∀ x ∈ xs, flat1 x ∧ lenOk x
  | _ => True
section
variable {A : Amb} {ds : List D} {s : A.S} {Q : D → A.S → Prop}
def S_is_piece : FS A := fun ds s Q => ∃ (st : Int) (v : D), ds = [.int st, v] ∧ notDict v ∧ itemsOk v ∧ Q (.bool (pieceB st v)) s
theorem p_is_piece (h : S_is_piece ds s Q) : t_is_piece S_is_change (retE Q) (startR 3 ds) s := by
  obtain ⟨st, v, rfl, nd, ok, q⟩ := h
  have e : startR 3 [.int st, v] = [.fz (.int st), .fz v, .un] := rfl
  have hs : 100000 ≤ sizeLine := by decide
  unfold t_is_piece
  simp [e, nd]
  cases v with
  | tuple xs =>
    simp
    by_cases h1 : 1 ≤ xs.length
    · by_cases h2 : xs.length ≤ 5040
      · have h1' : (1 : Int) ≤ xs.length := by omega
        have h2' : (xs.length : Int) ≤ 5040 := by omega
        simp [h1', h2']
        refine comp_pure (xs := xs) (fun k z => by simpa using z) (by simp) (by omega) (fun x => some (.bool (changeB st x))) (fun x m s k z => ?_) ?_
        · have o := ok h2 x m
          simp
          exact ⟨st, x, rfl, o.1, o.2, z⟩
        · rw [fm_some]
          show fAll [.list _] _
          rw [q_all, boolsV_map, List.all_map]
          simpa [pieceB, h1, h2] using q
      · have h1' : (1 : Int) ≤ xs.length := by omega
        have h2' : ¬ (xs.length : Int) ≤ 5040 := by omega
        simp [h1', h2']
        simpa [pieceB, h1, h2] using q
    · have h1' : ¬ (1 : Int) ≤ xs.length := by omega
      simp [h1']
      simpa [pieceB, h1] using q
  | dict _ => exact nd.elim
  | _ => simpa [pieceB] using q
theorem atI_last {xs : List D} {d : D} (h : xs.getLast? = some d) : atI xs (-1) = some d := by
  have ne : xs ≠ [] := fun z => by rw [z] at h; cases h
  have hp := List.length_pos_iff.mpr ne
  unfold atI ixN
  rw [if_neg (by omega), if_pos (by omega)]
  have e : ((-1 : Int) + (xs.length : Nat)).toNat = xs.length - 1 := by omega
  rw [e]
  show xs[xs.length - 1]? = some d
  rw [← List.getLast?_eq_getElem?]
  exact h
end
end Dl
namespace Dl
open PySem L2
theorem changes_list {st : Int} {L : List D} (h : ∀ x ∈ L, x ∈ changesD st) : ∃ pcs : List (List Int), L = pcs.map tupI ∧ ∀ c ∈ pcs, c ∈ chS st := by
  induction L with
  | nil => exact ⟨[], rfl, fun c m => by cases m⟩
  | cons x r ih =>
    obtain ⟨pcs, e, hp⟩ := ih fun y m => h y (List.mem_cons_of_mem _ m)
    obtain ⟨c, hc, rfl⟩ := mem_changesD (h x (List.mem_cons_self ..))
    refine ⟨c :: pcs, by rw [e]; rfl, fun c' m => ?_⟩
    rcases List.mem_cons.mp m with rfl | m
    · exact hc
    · exact hp c' m
theorem in_changesD {st : Int} {c : List Int} (h : c ∈ chS st) : tupI c ∈ changesD st := (List.mergeSort_perm _ _).mem_iff.mpr (List.mem_map.mpr ⟨c, h, rfl⟩)
theorem hunt_ok {st : Int} (h3 : 3 ≤ st) (h8 : st ≤ 8) : (st % 2 = 1 → [1] ∈ chS st ∧ [st] ∈ chS st) ∧ (¬ st % 2 = 1 → [] ∈ chS st ∧ [1, st] ∈ chS st) := by
  rcases (by omega : st = 3 ∨ st = 4 ∨ st = 5 ∨ st = 6 ∨ st = 7 ∨ st = 8) with rfl | rfl | rfl | rfl | rfl | rfl <;> decide +kernel
theorem comp_it {A : Amb} {it : DI A} {g : DG A} {tt : DT A} {te : DE A} {vs : List Nat} {ρ : Rho} {s : A.S} {QC : Cell → A.S → Prop} (h : it ρ s fun xs s' => nComp (fun _ s Q => Q xs s) g tt te vs ρ s' QC) : nComp it g tt te vs ρ s QC := h
section
variable {a : Addr} {ds : List D} {s : (poolA a).S} {Q : D → (poolA a).S → Prop}
theorem picks {st : Int} (h3 : 3 ≤ st) (h8 : st ≤ 8) {n : Nat} (hn : n ≤ 10000) {ρ : Rho} {it : DI (poolA a)} {QC : Cell → (poolA a).S → Prop} {i : Nat} (hi : ∀ k : List D → (poolA a).S → Prop, k (rngD 0 n) s → it ρ s k) (cl : clean ρ [i]) (i3 : i ≠ 3) (i0 : i ≠ 0) (hρ0 : ρ[0]? = some (.fz (refD a))) (hρ3 : ρ[3]? = some (.fz (.list (changesD st))))
    (q : ∀ L : List D, (∀ x ∈ L, x ∈ changesD st) → L.length = n → QC (.ol L) s) : nComp it (dgN i) dYes (dCall (S_L_pick a) (dCons (dVar 0) (dCons (dVar 3) dNil))) [i] ρ s QC := by
  have hs : 100000 ≤ sizeLine := by decide
  obtain ⟨c1, c2⟩ := ch_some h3 h8
  refine comp_rel (xs := rngD 0 n) hi cl (by rw [rngD_length]; omega) (fun x r => ∃ d', r = some d' ∧ d' ∈ changesD st) (fun x m s k z => ?_) (fun rs hr => ?_)
  · simp
    rw [List.getElem?_set_ne i0, hρ0]
    simp
    rw [List.getElem?_set_ne i3, hρ3]
    simp
    exact ⟨_, _, rfl, rfl, c1, by omega, fun d hd => z _ ⟨d, rfl, hd⟩⟩
  · have all : ∀ (xs : List D) (rs : List (Option D)), All2 (fun _ r => ∃ d', r = some d' ∧ d' ∈ changesD st) xs rs → (∀ x ∈ rs.filterMap id, x ∈ changesD st) ∧ (rs.filterMap id).length = xs.length := fun xs rs h => by
      induction h with
      | nil => simp
      | cons r t ih =>
        obtain ⟨d', rfl, ok⟩ := r
        rw [show (some d' :: _ : List (Option D)).filterMap id = d' :: List.filterMap id _ from rfl]
        refine ⟨fun x m => ?_, by simpa using ih.2⟩
        rcases List.mem_cons.mp m with rfl | m
        · exact ok
        · exact ih.1 x m
    obtain ⟨a1, a2⟩ := all _ _ hr
    exact q _ a1 (by rw [a2, rngD_length])
def S_L_piece (a : Addr) : FS (poolA a) := fun ds s Q => ∃ st m : Int, ds = [refD a, .int st, .int m] ∧ 3 ≤ st ∧ st ≤ 8 ∧ 2 ≤ m ∧ m ≤ 1000 ∧ ∀ L : List D, (∀ x ∈ L, x ∈ changesD st) → 1 ≤ L.length → L.length ≤ m.toNat → Q (.tuple L) s
theorem cut_ok {st m : Int} {L : List D} (hm : 2 ≤ m) (h : ∀ x ∈ L, x ∈ changesD st) (h1 : 1 ≤ L.length) : (∀ x ∈ cutD L none (some m), x ∈ changesD st) ∧ 1 ≤ (cutD L none (some m)).length ∧ (cutD L none (some m)).length ≤ m.toNat := by
  refine ⟨fun x hx => h x (mem_cutD hx), ?_, ?_⟩
  · rw [cutD_to (by omega), List.length_take]
    omega
  · rw [cutD_to (by omega), List.length_take]
    omega
theorem p_L_piece (h : S_L_piece a ds s Q) : t_L_piece S_changes_of (S_draw a) (S_L_pick a) (retE Q) (startR 9 ds) s := by
  obtain ⟨st, m, rfl, h3, h8, m2, mz, q⟩ := h
  have e : startR 9 [refD a, .int st, .int m] = [.fz (refD a), .fz (.int st), .fz (.int m), .un, .un, .un, .un, .un, .un] := rfl
  have hs : 100000 ≤ sizeLine := by decide
  obtain ⟨c1, c2⟩ := ch_some h3 h8
  obtain ⟨hu1, hu2⟩ := hunt_ok h3 h8
  unfold t_L_piece
  rw [e, q_dSeq]
  simp [-q_dSeq, -q_dIfS]
  refine ⟨st, rfl, h3, h8, ?_⟩
  try dsimp only
  rw [q_dSeq]
  simp [-q_dSeq, -q_dIfS]
  refine ⟨4, rfl, by omega, by omega, fun turn t0 t4 => ?_⟩
  dsimp only
  refine seq_if ?_ fun U hU => ?_
  · refine seq_if ?_ fun U hU => ?_
    · rw [q_dRet, q_dFn, q_dCons, q_dOfN]
      refine comp_it ?_
      simp
      refine ⟨m, rfl, by omega, by omega, fun v v0 v1 => ?_⟩
      refine ⟨_, rfl, ⟨by omega, by omega⟩, ?_⟩
      refine picks (i := 6) h3 h8 (n := (1 + v).toNat) (by omega) (fun k z => z) ?_ (by decide) (by decide) ?_ ?_ fun L hL hl => ?_
      · simp
      · rfl
      · rfl
      · simp
        exact q _ hL (by omega) (by omega)
    · have hunt : ∀ T : List D, (∀ x ∈ T, x ∈ changesD st) → T.length = 2 → CMul 2 st ∧
          fMul (PyData.list T) (PyData.int st) fun z => slV z none (some (2 * st - 1)) fun d => S_L_pick a [refD a, PyData.list (changesD st)] s fun x s1 => 1 ≤ sizeLine ∧ fAdd d (PyData.list [x]) fun z => fTuple [z] fun z => slV z none (some m) fun d => Q d s1 := fun T hT lT => by
        refine ⟨.inl ⟨by decide, by decide⟩, ?_⟩
        have fl : (List.replicate st.toNat T).flatten.length ≤ 16 := by
          rw [List.length_flatten]
          simp [lT]
          omega
        refine ⟨by omega, by omega, by rw [lT]; omega, ?_⟩
        simp
        refine ⟨_, _, rfl, rfl, c1, by omega, fun x hx => ?_⟩
        have ml : ∀ y ∈ cutD (List.replicate st.toNat T).flatten none (some (2 * st - 1)) ++ [x], y ∈ changesD st := fun y my => by
          rcases List.mem_append.mp my with my | my
          · obtain ⟨r, hr, hy⟩ := List.mem_flatten.mp (mem_cutD my)
            rw [List.eq_of_mem_replicate hr] at hy
            exact hT y hy
          · rw [List.mem_singleton.mp my]; exact hx
        obtain ⟨p1, p2, p3⟩ := cut_ok m2 ml (by simp)
        have lc := len_cutD (ds := (List.replicate st.toNat T).flatten) (l := none) (u := some (2 * st - 1))
        simp
        exact ⟨by omega, by omega, q _ p1 p2 p3⟩
      simp
      split
      · rename_i ht
        by_cases ho : st % 2 = 1
        · obtain ⟨k1, k2⟩ := hu1 ho
          simp [ho]
          have hh : ∀ x ∈ [PyData.tuple [PyData.int 1], PyData.tuple [PyData.int st]], x ∈ changesD st := fun x mx => by
            simp only [List.mem_cons, List.not_mem_nil, or_false] at mx
            rcases mx with rfl | rfl
            · exact in_changesD k1
            · exact in_changesD k2
          exact ⟨by omega, by omega, hunt _ hh rfl⟩
        · obtain ⟨k1, k2⟩ := hu2 ho
          simp [ho]
          have hh : ∀ x ∈ [PyData.tuple [], PyData.tuple [PyData.int 1, PyData.int st]], x ∈ changesD st := fun x mx => by
            simp only [List.mem_cons, List.not_mem_nil, or_false] at mx
            rcases mx with rfl | rfl
            · exact in_changesD k1
            · exact in_changesD k2
          exact ⟨by omega, hunt _ hh rfl⟩
      · exact hU
  · simp
    split
    · refine comp_it ?_
      simp
      refine ⟨⟨by decide, by decide⟩, m / 2, rfl, by omega, by omega, fun v v0 v1 => ?_⟩
      refine ⟨_, rfl, ⟨by omega, by omega⟩, ?_⟩
      refine picks (i := 6) h3 h8 (n := (1 + v).toNat) (by omega) (fun k z => z) ?_ (by decide) (by decide) ?_ ?_ fun L hL hl => ?_
      · simp
      · rfl
      · rfl
      · simp
        refine ⟨_, _, rfl, rfl, c1, by omega, fun x hx => ?_⟩
        simp
        refine ⟨by omega, by omega, by omega, _, _, rfl, rfl, c1, by omega, fun y hy => ?_⟩
        have ml : ∀ z ∈ L ++ x :: (L.reverse ++ [y]), z ∈ changesD st := fun z mz => by
          rcases List.mem_append.mp mz with mz | mz
          · exact hL z mz
          · rcases List.mem_cons.mp mz with rfl | mz
            · exact hx
            · rcases List.mem_append.mp mz with mz | mz
              · exact hL z (List.mem_reverse.mp mz)
              · rw [List.mem_singleton.mp mz]; exact hy
        obtain ⟨p1, p2, p3⟩ := cut_ok m2 ml (by simp; omega)
        simp
        exact ⟨by omega, by omega, q _ p1 p2 p3⟩
    · exact hU
end
end Dl
namespace Dl
open PySem L2
section
variable {A : Amb} {ds : List D} {s : A.S} {Q : D → A.S → Prop}
theorem len_is_piece (h : S_is_piece ds s Q) : ds.length = 2 := by obtain ⟨_, _, e, _⟩ := h; rw [e]; rfl
end
theorem len_L_piece {a : Addr} {ds : List D} {s : (poolA a).S} {Q : D → (poolA a).S → Prop} (h : S_L_piece a ds s Q) : ds.length = 3 := by obtain ⟨_, _, e, _⟩ := h; rw [e]; rfl
end Dl
namespace Dl
open PySem L2
section
variable {A : Amb} {ds : List D} {s : A.S} {Q : D → A.S → Prop}
def oneTo (n : Nat) : List Int := (List.range n).map fun (i : Nat) => 1 + (i : Int)
end
end Dl
namespace Dl
open PySem L2
@[simp] theorem eqOk_tupI (a b : List Int) : eqOk (tupI a) (tupI b) = True := eq_true (eqOk_intsT a b)
@[simp] theorem eqv_tupI (a b : List Int) : PyData.eqv (tupI a) (tupI b) = decide (a = b) := eqv_intsT a b
end Dl
namespace Dl
open PySem L2
section
variable {A : Amb} {ρ : Rho} {s : A.S} {D0 : DEnds A} {t u : DS A}
theorem seq_inv (P : Rho → A.S → Prop) (hu : ∀ ρ' s', P ρ' s' → u D0 ρ' s') (h : ∀ U : Rho → A.S → Prop, (∀ ρ' s', P ρ' s' → U ρ' s') → t ⟨U, D0.rt, D0.bk, D0.ct⟩ ρ s) : dSeq t u D0 ρ s := h _ hu
end
end Dl
namespace Dl
open PySem L2
section
variable {f : Int → Int} {n : Nat} (hf : ∀ b : Int, 1 ≤ b → b ≤ n → 1 ≤ f b ∧ f b ≤ n) (inj : ∀ a b : Int, 1 ≤ a → a ≤ n → 1 ≤ b → b ≤ n → f a = f b → a = b)
include hf
include inj
end
theorem oneTo_len (n : Nat) : (oneTo n).length = n := by simp [oneTo]
theorem oneTo_mem {n : Nat} {x : Int} : x ∈ oneTo n ↔ 1 ≤ x ∧ x ≤ n := by
  unfold oneTo
  rw [List.mem_map]
  constructor
  · rintro ⟨i, hi, rfl⟩
    rw [List.mem_range] at hi
    omega
  · intro h
    exact ⟨(x - 1).toNat, List.mem_range.mpr (by omega), by omega⟩
section
variable {p : List Int} {n : Nat} (hp : p.Perm (oneTo n))
include hp
end
end Dl
namespace Dl
open PySem L2
def t_L_spelled {A : Amb} : DS A :=
  (dSeq (dSet 1 (dC (.str "")))
  (dSeq (dSet 2 (dVar 0))
  (dSeq (dWhile (dTest (dOp fGt (dVarB 2) (dC (.int 0))))
  (dSeq (dSet 1 (dOp fAdd (dOp fIx (dC (.str "abcdefghijklmnopqrstuvwxyz")) (dOp fMod (dFn fInt (dCons (dOp fSub (dVarB 2) (dC (.int 1))) dNil)) (dC (.int 26)))) (dVarB 1)))
  (dSet 2 (dOp fDiv (dOp fSub (dVarB 2) (dC (.int 1))) (dC (.int 26))))))
  (dRet (dVar 1)))))
def t_L_chain_words {A : Amb} (S_L_spelled S_L_draw : FS A) : DS A :=
  (dSeq (dSetN 2 (nLst dNil))
  (dSeq (dFor (dRg1 (dCons (dVar 1) dNil)) (dgN 3)
  (dSeq (dSet 4 (dOp fAdd (dC (.int 1)) (dCall S_L_draw (dCons (dVar 0) (dCons (dOp fIx (dTup (dCons (dC (.int 26)) (dCons (dC (.int 702)) (dCons (dC (.int 18278)) (dCons (dC (.int 95428956661682176)) dNil))))) (dCall S_L_draw (dCons (dVar 0) (dCons (dC (.int 4)) dNil)))) dNil)))))
  (dSeq (dWhile (dTest (dOp fIn (dVarB 4) (dVarB 2)))
  (dSet 4 (dOp fAdd (dVarB 4) (dC (.int 1)))))
  (dApp 2 (dVar 4)))))
  (dFrz 2 (dRet (dOfN (nComp (dIt (dVar 2)) (dgN 4) dYes (dCall S_L_spelled (dCons (dVar 4) dNil)) [4]))))))
def lstV (x : D) (k : List D → Prop) : Prop := match x with
  | .list es => k es
  | _ => False
@[simp] theorem lstV_list {es : List D} {k : List D → Prop} : lstV (.list es) k = k es := rfl
section
variable {A : Amb} {ρ : Rho} {s : A.S} {D0 : DEnds A} {te : DE A} {i : Nat}
@[simp] theorem q_dExt : dExt i te D0 ρ s = atO ρ[i]? fun ds => te ρ s fun d s' => lstV d fun es => ds.length + es.length ≤ sizeLine ∧ D0.nx (ρ.set i (.ol (ds ++ es))) s' := by
  unfold dExt
  generalize ρ[i]? = c
  cases c with
  | none => rfl
  | some c => cases c <;> rfl
end
@[simp] theorem q_ixS {z : Str} {i : Int} {k : D → Prop} : fIx (.str z) (.int i) k = (z.length ≤ sizeLine ∧ oV (atS z i) fun d => k (.str d)) := by
  unfold fIx
  dsimp only
  cases atS z i <;> rfl
def wordOk (x : Str) : Prop := PyData.strOk x = true ∧ x.length ≤ 60
theorem word_plain {x : Str} (h : wordOk x) : plainB 0 (.str x) = true := by
  rw [plainB, PyData.canLay0]
  exact h.1
section
variable {A : Amb} {ds : List D} {s : A.S} {Q : D → A.S → Prop}
def S_L_spelled : FS A := fun ds s Q => ∃ n : Int, ds = [.int n] ∧ n < 2 ^ 60 ∧ ∀ x, wordOk x → Q (.str x) s
end
theorem anyEq_int {n : Int} {ns : List Int} (h : anyEq (.int n) (intsD ns) = true) : n ∈ ns := by
  unfold anyEq at h
  obtain ⟨y, m, e⟩ := List.any_eq_true.mp h
  obtain ⟨j, hj, rfl⟩ := List.mem_map.mp m
  simp at e
  rw [← e]
  exact hj
section
variable {a : Addr} {ds : List D} {s : (poolA a).S} {Q : D → (poolA a).S → Prop}
def S_L_chain_words (a : Addr) : FS (poolA a) := fun ds s Q => ∃ m : Int, ds = [refD a, .int m] ∧ 0 ≤ m ∧ m ≤ 10 ∧ ∀ L : List Str, L.length = m.toNat → (∀ x ∈ L, wordOk x) → Q (.list (L.map .str)) s
end
end Dl
namespace Dl
open PySem L2
def t_L_book {A : Amb} (S_L_piece S_L_draw S_L_chain_words S_L_pick S_L_changes : FS A) : DS A :=
  (dSeq (dSet 4 (dIf (dTest (dOp fEqU (dCall S_L_draw (dCons (dVar 0) (dCons (dC (.int 2)) dNil))) (dC (.int 0)))) (dOfN (nFn gSorted (dCons (dCall S_L_chain_words (dCons (dVar 0) (dCons (dVar 2) dNil))) dNil))) (dSl (dLst (dCons (dC (.str "b")) (dCons (dC (.str "p")) (dCons (dC (.str "s")) (dCons (dC (.str "t")) dNil))))) oNone (oSome (dVarB 2)))))
  (dSeq (dSet 5 (dCall S_L_piece (dCons (dVar 0) (dCons (dVar 1) (dCons (dVar 3) dNil)))))
  (dSeq (dSetN 6 (nLst dNil))
  (dSeq (dFor (dRg1 (dCons (dVar 2) dNil)) (dgN 7)
  (dSeq (dSet 8 (dCall S_L_draw (dCons (dVar 0) (dCons (dC (.int 3)) dNil))))
  (dSeq (dSet 9 (dVar 5))
  (dSeq (dIfS (dAndT (dTest (dOp fGt (dVarB 7) (dC (.int 0)))) (dTest (dOp fLt (dVarB 8) (dC (.int 2)))))
  (dSet 9 (dOp fAdd (dSl (dVarB 5) oNone (oSome (dUn fNeg (dC (.int 1))))) (dTup (dCons (dCall S_L_pick (dCons (dVar 0) (dCons (dCall S_L_changes (dCons (dVar 1) dNil)) dNil))) dNil))))
  dNx)
  (dSeq (dIfS (dAndT (dTest (dOp fGt (dVarB 7) (dC (.int 0)))) (dTest (dOp fEqU (dVarB 8) (dC (.int 2)))))
  (dSet 9 (dCall S_L_piece (dCons (dVar 0) (dCons (dVar 1) (dCons (dVar 3) dNil)))))
  dNx)
  (dApp 6 (dTup (dCons (dOp fIx (dVarB 4) (dVarB 7)) (dCons (dVar 9) dNil)))))))))
  (dRet (dFn fTuple (dCons (dVarB 6) dNil)))))))
def t_L_touch {A : Amb} (S_L_pick S_L_draw : FS A) : DS A :=
  (dRet (dFn fTuple (dCons (dOfN (nComp (dRg1 (dCons (dOp fAdd (dC (.int 1)) (dCall S_L_draw (dCons (dVar 0) (dCons (dVar 2) dNil)))) dNil)) (dgN 4) dYes (dCall S_L_pick (dCons (dVar 0) (dCons (dOfN (nComp (dIt (dVar 1)) (dgN 3) dYes (dOp fIx (dVarB 3) (dC (.int 0))) [3])) dNil))) [4])) dNil)))
abbrev Lead := Str × List (List Int)
def pairX (p : Lead) : D := .tuple [.str p.1, .tuple (p.2.map tupI)]
def bookD (bs : List Lead) : D := .tuple (bs.map pairX)
def pieceOk (st : Int) (most : Nat) (cs : List (List Int)) : Prop := 1 ≤ cs.length ∧ cs.length ≤ most ∧ ∀ c ∈ cs, c ∈ chS st
def bookOk (st : Int) (most : Nat) (bs : List Lead) : Prop := ∀ p ∈ bs, wordOk p.1 ∧ pieceOk st most p.2
theorem words_list : ∀ {ys : List D}, (∀ y ∈ ys, ∃ x, y = .str x ∧ wordOk x) → ∃ L : List Str, ys = L.map .str ∧ L.length = ys.length ∧ ∀ x ∈ L, wordOk x
  | [], _ => ⟨[], rfl, rfl, fun x m => by cases m⟩
  | y :: ys, h => by
    obtain ⟨x, rfl, ok⟩ := h y (List.mem_cons_self ..)
    obtain ⟨L, e, hl, ho⟩ := words_list fun z m => h z (List.mem_cons_of_mem _ m)
    refine ⟨x :: L, by rw [List.map_cons, ← e], by rw [List.length_cons, List.length_cons, hl], fun y m => ?_⟩
    rcases List.mem_cons.mp m with rfl | m
    · exact ok
    · exact ho y m
theorem sortOk_strs {L : List Str} (h : ∀ x ∈ L, wordOk x) : sortOk (L.map .str) := by
  refine ⟨?_, fun d hd d' hd' => ?_, fun d hd => ?_⟩
  · exact plainAll_lay (n := 0) (plainAll_iff.mpr fun x m => by
      obtain ⟨y, hy, rfl⟩ := List.mem_map.mp m
      exact word_plain (h y hy))
  · obtain ⟨i, _, rfl⟩ := List.mem_map.mp hd
    obtain ⟨j, _, rfl⟩ := List.mem_map.mp hd'
    rfl
  · obtain ⟨i, _, rfl⟩ := List.mem_map.mp hd
    exact ⟨fun z => (nomatch z), by simp [PyData.depth]⟩
theorem all2_map {α : Type} {f : α → D} {p : α → Prop} {xs : List D} {rs : List (Option D)} (h : All2 (fun _ r => ∃ x, r = some (f x) ∧ p x) xs rs) : ∃ L : List α, rs.filterMap id = L.map f ∧ L.length = xs.length ∧ ∀ x ∈ L, p x := by
  induction h with
  | nil => exact ⟨[], rfl, rfl, fun x m => by cases m⟩
  | cons r t ih =>
    obtain ⟨x, rfl, ok⟩ := r
    obtain ⟨L, e, hl, ho⟩ := ih
    refine ⟨x :: L, ?_, by rw [List.length_cons, List.length_cons, hl], fun y m => ?_⟩
    · rw [show (some (f x) :: _ : List (Option D)).filterMap id = f x :: List.filterMap id _ from rfl, e]
      rfl
    · rcases List.mem_cons.mp m with rfl | m
      · exact ok
      · exact ho y m
theorem piece_list {st : Int} {m : Nat} {L : List D} (h : ∀ x ∈ L, x ∈ changesD st) (l1 : 1 ≤ L.length) (l2 : L.length ≤ m) : ∃ cs, L = cs.map tupI ∧ pieceOk st m cs := by
  obtain ⟨cs, rfl, hc⟩ := changes_list h
  rw [List.length_map] at l1 l2
  exact ⟨cs, rfl, l1, l2, hc⟩
section
variable {a : Addr} {ds : List D} {s : (poolA a).S} {Q : D → (poolA a).S → Prop}
def S_L_book (a : Addr) : FS (poolA a) := fun ds s Q => ∃ st many most : Int, ds = [refD a, .int st, .int many, .int most] ∧ 3 ≤ st ∧ st ≤ 8 ∧ 1 ≤ many ∧ many ≤ 4 ∧ 2 ≤ most ∧ most ≤ 1000 ∧
  ∀ bs : List Lead, bs.length = many.toNat → bookOk st most.toNat bs → Q (bookD bs) s
def touchD (ws : List Str) : D := .tuple (ws.map .str)
def S_L_touch (a : Addr) : FS (poolA a) := fun ds s Q => ∃ (bs : List Lead) (most : Int), ds = [refD a, bookD bs, .int most] ∧ bs ≠ [] ∧ bs.length ≤ 1000 ∧ 1 ≤ most ∧ most ≤ 10000 ∧
  ∀ ws : List Str, (∀ w ∈ ws, w ∈ bs.map (·.1)) → 1 ≤ ws.length → ws.length ≤ most.toNat → Q (touchD ws) s
theorem p_L_touch (h : S_L_touch a ds s Q) : t_L_touch (S_L_pick a) (S_draw a) (retE Q) (startR 5 ds) s := by
  obtain ⟨bs, most, rfl, ne, lb, m1, m2, q⟩ := h
  have e : startR 5 [refD a, bookD bs, .int most] = [.fz (refD a), .fz (bookD bs), .fz (.int most), .un, .un] := rfl
  have hs : 1000000 ≤ sizeLine := by decide
  unfold t_L_touch
  simp [e]
  refine comp_it ?_
  simp
  refine ⟨most, rfl, by omega, by omega, fun v v0 v1 => ?_⟩
  refine ⟨_, rfl, ⟨by omega, by omega⟩, ?_⟩
  refine comp_rel (xs := rngD 0 (1 + v).toNat) (fun k z => z) (by simp) (by rw [rngD_length]; omega) (fun x r => ∃ w : Str, r = some (.str w) ∧ w ∈ bs.map (·.1)) (fun x m s k z => ?_) (fun rs hr => ?_)
  · simp
    refine comp_pure (xs := bs.map pairX) (fun k z => by simpa [bookD] using z) (by simp) (by rw [List.length_map]; omega) (fun x => match x with | .tuple (y :: _) => some y | _ => none) (fun x m s k z => ?_) ?_
    · obtain ⟨p, _, rfl⟩ := List.mem_map.mp m
      have a0 : atI [PyData.str p.1, PyData.tuple (p.2.map tupI)] 0 = some (.str p.1) := atI_nat (j := 0) rfl
      simp [pairX, a0]
      exact z
    · have ee : (bs.map pairX).filterMap (fun x => match x with | .tuple (y :: _) => some y | _ => none) = (bs.map (·.1)).map PyData.str := by
        rw [List.filterMap_map, List.map_map]
        exact congrFun List.filterMap_eq_map' bs
      rw [ee]
      simp
      refine ⟨_, _, rfl, rfl, by simpa using ne, by simp; omega, fun x hx => ?_⟩
      obtain ⟨p, hp, rfl⟩ := List.mem_map.mp hx
      exact z _ ⟨p.1, rfl, List.mem_map.mpr ⟨p, hp, rfl⟩⟩
  · obtain ⟨ws, ew, lw, okw⟩ := all2_map hr
    rw [ew]
    simp
    rw [rngD_length] at lw
    exact q ws okw (by omega) (by omega)
end
end Dl
namespace Dl
open PySem L2
theorem str_dig {p : Int} (h0 : 0 ≤ p) (h9 : p ≤ 9) : (Str.ofString (toString p) = tx [(48 + p).toNat]) ∧ p.natAbs.log2 < 1920 := by
  have : p = 0 ∨ p = 1 ∨ p = 2 ∨ p = 3 ∨ p = 4 ∨ p = 5 ∨ p = 6 ∨ p = 7 ∨ p = 8 ∨ p = 9 := by omega
  rcases this with rfl | rfl | rfl | rfl | rfl | rfl | rfl | rfl | rfl | rfl <;> decide +kernel
def digS (p : Int) : Str := tx [(48 + p).toNat]
theorem join_digs (c : List Int) : Txt.join (Str.ofString "") (c.map digS) = tx (c.map fun p => (48 + p).toNat) := by
  have go : ∀ c : List Int, glu [] (c.map fun p => [(48 + p).toNat]) = c.map fun p => (48 + p).toNat := by
    intro c
    induction c with
    | nil => rfl
    | cons p c ih =>
      cases c with
      | nil => rfl
      | cons q c =>
        rw [List.map_cons] at ih ⊢
        rw [List.map_cons, glu]
        rw [List.map_cons] at ih
        rw [ih]
        rfl
  have e : (Txt.join (Str.ofString "") (c.map digS)).cps.toList = c.map fun p => (48 + p).toNat := by
    unfold Txt.join
    rw [StrLaws.glued_eq_join, glued_glu, List.map_map]
    exact go c
  rw [← e, tx_list]
section
variable {A : Amb} {ds : List D} {s : A.S} {Q : D → A.S → Prop}
theorem join_comp {c : List Int} {ρ : Rho} {s : A.S} {j : Nat} {cj : Cell} (te : DI A) (hc : digsOk c) (hl : c.length ≤ 100000) (hi : ∀ k : List D → A.S → Prop, k (intsD c) s → te ρ s k) (hj : ρ[j]? = some cj) (fj : freeC (some cj)) {Q : D → A.S → Prop} (q : Q (.str (tx (c.map fun p => (48 + p).toNat))) s) :
    dJoin "" (dOfN (nComp te (dgN j) dYes (dFn fStr (dCons (dVarB j) dNil)) [j])) ρ s Q := by
  have hs : 1000000 ≤ sizeLine := by decide
  have lj : j < ρ.length := (List.getElem?_eq_some_iff.mp hj).1
  simp
  refine comp_map (L := c) PyData.int hi (by simp [hj]; exact fj) (by omega) (fun p => some (.str (digS p))) (fun p mp s k z => ?_) ?_
  · have hp := hc p mp
    obtain ⟨e1, e2⟩ := str_dig hp.1 hp.2
    simp [lj]
    show p.natAbs.log2 < 1920 ∧ k (some (.str (Str.ofString (toString p)))) s
    rw [e1]
    exact ⟨e2, z⟩
  · rw [fm_map]
    refine ⟨c.map digS, .inl (by rw [List.map_map]; rfl), ?_, by rw [join_digs]; exact q⟩
    have sum1 : ∀ c : List Int, (c.map ((fun x : Str => x.length) ∘ digS)).sum = c.length := fun c => by
      induction c with
      | nil => rfl
      | cons p c ih =>
        rw [List.map_cons, List.sum_cons, ih, List.length_cons]
        have : ((fun x : Str => x.length) ∘ digS) p = 1 := rfl
        omega
    have e0 : (Str.ofString "").length = 0 := by decide +kernel
    rw [List.map_map, List.length_map, sum1, e0]
    omega
def S_write_change : FS A := fun ds s Q => ∃ c : List Int, ds = [tupI c] ∧ digsOk c ∧ c.length ≤ 1000 ∧ Q (.str (tx (wCl c))) s
theorem p_write_change (h : S_write_change ds s Q) : t_write_change (retE Q) (startR 2 ds) s := by
  obtain ⟨c, rfl, hc, hl, q⟩ := h
  have e : startR 2 [tupI c] = [.fz (tupI c), .un] := rfl
  unfold t_write_change
  rw [e]
  have lt : fLen [tupI c] = fun k => k (.int (c.length : Nat)) := by
    funext k
    show k (.int (((intsD c).length : Nat) : Int)) = _
    rw [intsD_length]
  simp [lt]
  unfold wCl at q
  by_cases n : c = []
  · subst n
    rw [if_pos rfl] at q
    simp
    exact q
  · rw [if_neg n] at q
    have : 0 < c.length := List.length_pos_iff.mpr n
    rw [if_pos (by omega)]
    exact join_comp (ρ := [.fz (tupI c), .un]) (cj := .un) (dIt (dVar 0)) hc (by omega) (fun k z => by simpa [tupI] using z) rfl trivial q
def prevB (cs : List (List Int)) (k : Nat) : Bool := decide (0 < k) && decide (cs.getD (k - 1) [] ≠ [])
theorem wPg_len : ∀ (cs : List (List Int)) (b : Bool), (∀ c ∈ cs, c.length ≤ 9) → (wPg b cs).length ≤ 10 * cs.length
  | [], _, _ => by rw [wPg]; simp
  | c :: cs, b, h => by
    have ih := wPg_len cs (decide (c ≠ [])) fun x m => h x (List.mem_cons_of_mem _ m)
    have hc := h c (List.mem_cons_self ..)
    rw [wPg, List.length_append, List.length_append, List.length_cons]
    by_cases n : c = []
    · subst n
      have e1 : wCl [] = [120] := rfl
      rw [if_neg (fun z => z.2 rfl), e1]
      simp at ih ⊢
      omega
    · have e1 : (wCl c).length = c.length := by
        unfold wCl
        rw [if_neg n, List.length_map]
      rw [e1]
      split
      · rw [List.length_singleton]
        omega
      · rw [List.length_nil]
        omega
def S_write_piece : FS A := fun ds s Q => ∃ cs : List (List Int), ds = [.tuple (cs.map tupI)] ∧ (∀ c ∈ cs, digsOk c ∧ c.length ≤ 9) ∧ cs.length ≤ 5040 ∧ Q (.str (tx (wP cs))) s
def WrI (cs : List (List Int)) (mk : Cell → Cell → Cell → Cell → Rho) (s0 : A.S) (r : List D) (ρ : Rho) (s' : A.S) : Prop := s' = s0 ∧ ∃ (k : Nat) (pre : List Nat) (c1 c2 c3 : Cell), k ≤ cs.length ∧ r = rngD (k : Int) (cs.length - k) ∧ pre ++ wPg (prevB cs k) (cs.drop k) = wP cs ∧ freeC (some c2) ∧ freeC (some c3) ∧ ρ = mk (.fz (.str (tx pre))) c1 c2 c3
theorem lenTT {cs : List (List Int)} : fLen [.tuple (cs.map tupI)] = fun k => k (.int (cs.length : Nat)) := by
  funext k
  rw [q_lenT, List.length_map]
theorem lenTI {c : List Int} : fLen [tupI c] = fun k => k (.int (c.length : Nat)) := by
  funext k
  show k (.int (((intsD c).length : Nat) : Int)) = _
  rw [intsD_length]
theorem p_write_piece (h : S_write_piece ds s Q) : t_write_piece S_write_change (retE Q) (startR 4 ds) s := by
  obtain ⟨cs, rfl, hc, hl, q⟩ := h
  have e : startR 4 [.tuple (cs.map tupI)] = [.fz (.tuple (cs.map tupI)), .un, .un, .un] := rfl
  have hs : 1000000 ≤ sizeLine := by decide
  have wl := wPg_len cs false fun c m => (hc c m).2
  unfold t_write_piece
  rw [e, q_dSeq]
  simp [-q_dSeq, -q_dIfS]
  rw [q_dSeq]
  refine for_of (xs := rngD 0 cs.length) (fun k z => by simp [lenTT]; exact ⟨by omega, z⟩) (WrI cs (fun c1 c2 c3 _ => [.fz (.tuple (cs.map tupI)), c1, c2, c3]) s) ⟨rfl, 0, [], .un, .un, .un, by omega, rfl, rfl, trivial, trivial, rfl⟩ ?_ ?_
  · rintro x r ρ s' ⟨rfl, k, pre, c1, c2, c3, kl, hr, hp, f2, f3, rfl⟩ D' hrt hbk hnx hct
    have klt : k < cs.length := by
      have := congrArg List.length hr
      rw [List.length_cons, rngD_length] at this
      omega
    rw [show cs.length - k = (cs.length - (k + 1)) + 1 by omega, rngD_succ] at hr
    obtain ⟨rfl, rfl⟩ := List.cons.inj hr
    have mc : cs[k] ∈ cs := List.getElem_mem klt
    have ek : atI (cs.map tupI) (k : Int) = some (tupI cs[k]) := atI_nat (by rw [List.getElem?_map, List.getElem?_eq_getElem klt]; rfl)
    have ed : cs.drop k = cs[k] :: cs.drop (k + 1) := List.drop_eq_getElem_cons klt
    simp only [q_dgN, List.set_cons_succ, List.set_cons_zero]
    rw [q_dSeq]
    simp [-q_dSeq, -q_dIfS, lenTI, ek]
    rw [ed, wPg] at hp
    have lp : (pre ++ ((if prevB cs k = true ∧ cs[k] ≠ [] then [46] else []) ++ wCl cs[k])).length ≤ 60000 := by
      have := congrArg List.length hp
      rw [show wP cs = wPg false cs from rfl] at this
      rw [List.length_append, List.length_append] at this
      rw [List.length_append]
      omega
    have fin : ∀ (l : List Nat) (v : Cell), freeC (some v) → l = (if prevB cs k = true ∧ cs[k] ≠ [] then [46] else []) → S_write_change [tupI cs[k]] s' fun y s2 => fAdd (PyData.str (tx l)) y fun z => fAddI (PyData.str (tx pre)) z fun z => D'.nx [.fz (.tuple (cs.map tupI)), .fz z, .fz (.int (k : Nat)), v] s2 := fun l v fv el => by
      refine ⟨cs[k], rfl, (hc _ mc).1, by have := (hc _ mc).2; omega, ?_⟩
      rw [← el, List.length_append, List.length_append] at lp
      rw [q_addS, tx_app]
      refine ⟨by rw [tx_len, tx_len]; omega, ?_⟩
      rw [q_addIS, tx_app]
      refine ⟨by rw [tx_len, tx_len, List.length_append]; omega, ?_⟩
      refine hnx _ _ ⟨rfl, k + 1, pre ++ (l ++ wCl cs[k]), .fz (.int (k : Nat)), v, .un, by omega, rfl, ?_, fv, trivial, rfl⟩
      have ep : prevB cs (k + 1) = decide (cs[k] ≠ []) := by
        unfold prevB
        have : cs.getD (k + 1 - 1) [] = cs[k] := by
          rw [Nat.add_sub_cancel, List.getD_eq_getElem?_getD, List.getElem?_eq_getElem klt]
          rfl
        rw [this, decide_eq_true (Nat.succ_pos k), Bool.true_and]
      rw [ep, el, List.append_assoc]
      exact hp
    have e46 : Str.ofString "." = tx [46] := by decide +kernel
    have e0 : Str.ofString "" = tx [] := by decide +kernel
    rw [e46, e0]
    split
    · rename_i k0
      split
      · rename_i c0
        have ek1 : atI (cs.map tupI) ((k : Int) - 1) = some (tupI (cs[k - 1]'(by omega))) := by
          have : ((k : Int) - 1) = ((k - 1 : Nat) : Int) := by omega
          rw [this]
          exact atI_nat (by rw [List.getElem?_map, List.getElem?_eq_getElem (by omega)]; rfl)
        have eg : cs.getD (k - 1) [] = cs[k - 1]'(by omega) := by
          rw [List.getD_eq_getElem?_getD, List.getElem?_eq_getElem (by omega)]
          rfl
        have n : cs[k] ≠ [] := List.length_pos_iff.mp (by omega)
        rw [ek1, oV_some]
        simp [lenTI]
        split
        · rename_i c1
          have n1 : cs[k - 1]'(by omega) ≠ [] := List.length_pos_iff.mp (by omega)
          refine fin _ _ trivial ?_
          rw [if_pos ⟨by unfold prevB; rw [eg, decide_eq_true k0, decide_eq_true n1]; rfl, n⟩]
        · rename_i c1
          have n1 : cs[k - 1]'(by omega) = [] := List.length_eq_zero_iff.mp (by omega)
          refine fin _ _ trivial ?_
          rw [if_neg]
          rintro ⟨z, _⟩
          unfold prevB at z
          rw [eg, n1] at z
          simp at z
      · rename_i c0
        have n : cs[k] = [] := List.length_eq_zero_iff.mp (by omega)
        exact fin _ _ trivial (by rw [if_neg fun z => z.2 n])
    · rename_i k0
      refine fin _ _ trivial ?_
      rw [if_neg]
      rintro ⟨z, _⟩
      unfold prevB at z
      rw [decide_eq_false k0] at z
      cases z
  · rintro ρ s' ⟨rfl, k, pre, c1, c2, c3, kl, hr, hp, f2, f3, rfl⟩
    have : cs.length - k = 0 := by
      have := congrArg List.length hr
      rw [List.length_nil, rngD_length] at this
      omega
    rw [List.drop_eq_nil_of_le (by omega), wPg, List.append_nil] at hp
    subst hp
    simp
    exact q
end
end Dl
namespace Dl
open PySem L2
section
variable {A : Amb} {ds : List D} {s : A.S} {Q : D → A.S → Prop}
theorem sgn_eq {c k : Nat} {z : Str} (h : z = tx [k]) : ((⟨#[c]⟩ : Str) = z) ↔ c = k := by
  subst h
  constructor
  · intro e
    have := tx_inj (show tx [c] = tx [k] from e)
    exact (List.cons.inj this).1
  · rintro rfl
    rfl
theorem p_L_piece_text (h : S_write_piece ds s Q) : t_L_piece_text (retE Q) (startR 4 ds) s := by
  obtain ⟨cs, rfl, hc, hl, q⟩ := h
  have e : startR 4 [.tuple (cs.map tupI)] = [.fz (.tuple (cs.map tupI)), .un, .un, .un] := rfl
  have hs : 1000000 ≤ sizeLine := by decide
  have wl := wPg_len cs false fun c m => (hc c m).2
  unfold t_L_piece_text
  rw [e, q_dSeq]
  simp [-q_dSeq, -q_dIfS]
  rw [q_dSeq]
  refine for_of (xs := rngD 0 cs.length) (fun k z => by simp [lenTT]; exact ⟨by omega, z⟩) (WrI cs (fun c1 c2 c3 _ => [.fz (.tuple (cs.map tupI)), c1, c2, c3]) s) ⟨rfl, 0, [], .un, .un, .un, by omega, rfl, rfl, trivial, trivial, rfl⟩ ?_ ?_
  · rintro x r ρ s' ⟨rfl, k, pre, c1, c2, c3, kl, hr, hp, f2, f3, rfl⟩ D' hrt hbk hnx hct
    have klt : k < cs.length := by
      have := congrArg List.length hr
      rw [List.length_cons, rngD_length] at this
      omega
    rw [show cs.length - k = (cs.length - (k + 1)) + 1 by omega, rngD_succ] at hr
    obtain ⟨rfl, rfl⟩ := List.cons.inj hr
    have mc : cs[k] ∈ cs := List.getElem_mem klt
    have ek : atI (cs.map tupI) (k : Int) = some (tupI cs[k]) := atI_nat (by rw [List.getElem?_map, List.getElem?_eq_getElem klt]; rfl)
    have ed : cs.drop k = cs[k] :: cs.drop (k + 1) := List.drop_eq_getElem_cons klt
    simp only [q_dgN, List.set_cons_succ, List.set_cons_zero]
    rw [ed, wPg] at hp
    have lp : (pre ++ ((if prevB cs k = true ∧ cs[k] ≠ [] then [46] else []) ++ wCl cs[k])).length ≤ 60000 := by
      have := congrArg List.length hp
      rw [show wP cs = wPg false cs from rfl] at this
      rw [List.length_append, List.length_append] at this
      rw [List.length_append]
      omega
    have e46 : Str.ofString "." = tx [46] := by decide +kernel
    have ex : Str.ofString "x" = tx [120] := by decide +kernel
    refine seq_inv (fun ρ' sx => sx = s' ∧ ρ' = [.fz (.tuple (cs.map tupI)), .fz (.str (tx (pre ++ (if prevB cs k = true ∧ cs[k] ≠ [] then [46] else [])))), .fz (.int (k : Nat)), c2]) ?_ fun U hU => ?_
    rotate_left
    · rw [q_dIfS]
      simp [-q_dSeq, -q_dIfS, lenTI, ek]
      have no : ¬ (prevB cs k = true ∧ cs[k] ≠ []) → U [.fz (.tuple (cs.map tupI)), .fz (.str (tx pre)), .fz (.int (k : Nat)), c2] s' := fun z => hU _ _ ⟨rfl, by rw [if_neg z, List.append_nil]⟩
      split
      · rename_i k0
        split
        · rename_i c0
          have ek1 : atI (cs.map tupI) ((k : Int) - 1) = some (tupI (cs[k - 1]'(by omega))) := by
            have : ((k : Int) - 1) = ((k - 1 : Nat) : Int) := by omega
            rw [this]
            exact atI_nat (by rw [List.getElem?_map, List.getElem?_eq_getElem (by omega)]; rfl)
          have eg : cs.getD (k - 1) [] = cs[k - 1]'(by omega) := by
            rw [List.getD_eq_getElem?_getD, List.getElem?_eq_getElem (by omega)]
            rfl
          have n : cs[k] ≠ [] := List.length_pos_iff.mp (by omega)
          rw [ek1, oV_some]
          simp [lenTI]
          split
          · rename_i c1
            have n1 : cs[k - 1]'(by omega) ≠ [] := List.length_pos_iff.mp (by omega)
            have yes : prevB cs k = true ∧ cs[k] ≠ [] := ⟨by unfold prevB; rw [eg, decide_eq_true k0, decide_eq_true n1]; rfl, n⟩
            rw [if_pos yes] at hU lp
            rw [e46, tx_app]
            rw [List.length_append, List.length_append, List.length_singleton] at lp
            exact ⟨by rw [tx_len, tx_len, List.length_singleton]; omega, hU _ _ ⟨rfl, rfl⟩⟩
          · rename_i c1
            have n1 : cs[k - 1]'(by omega) = [] := List.length_eq_zero_iff.mp (by omega)
            refine no ?_
            rintro ⟨z, _⟩
            unfold prevB at z
            rw [eg, n1] at z
            simp at z
        · rename_i c0
          have n : cs[k] = [] := List.length_eq_zero_iff.mp (by omega)
          exact no fun z => z.2 n
      · rename_i k0
        refine no ?_
        rintro ⟨z, _⟩
        unfold prevB at z
        rw [decide_eq_false k0] at z
        cases z
    rintro ρ' sx ⟨rfl, rfl⟩
    have fin : (tx (pre ++ (if prevB cs k = true ∧ cs[k] ≠ [] then [46] else []))).length + (tx (wCl cs[k])).length ≤ sizeLine ∧ D'.nx [.fz (.tuple (cs.map tupI)), .fz (.str (tx (pre ++ (if prevB cs k = true ∧ cs[k] ≠ [] then [46] else [])) ++ tx (wCl cs[k]))), .fz (.int (k : Nat)), c2] sx := by
      rw [List.length_append, List.length_append] at lp
      refine ⟨by rw [tx_len, tx_len, List.length_append]; omega, ?_⟩
      rw [tx_app]
      refine hnx _ _ ⟨rfl, k + 1, pre ++ (if prevB cs k = true ∧ cs[k] ≠ [] then [46] else []) ++ wCl cs[k], .fz (.int (k : Nat)), c2, .un, by omega, rfl, ?_, f2, trivial, rfl⟩
      have ep : prevB cs (k + 1) = decide (cs[k] ≠ []) := by
        unfold prevB
        have : cs.getD (k + 1 - 1) [] = cs[k] := by
          rw [Nat.add_sub_cancel, List.getD_eq_getElem?_getD, List.getElem?_eq_getElem klt]
          rfl
        rw [this, decide_eq_true (Nat.succ_pos k), Bool.true_and]
      rw [ep, List.append_assoc, List.append_assoc]
      rw [List.append_assoc] at hp
      exact hp
    generalize (pre ++ (if prevB cs k = true ∧ cs[k] ≠ [] then [46] else [])) = P at fin
    simp [-q_dSeq, -q_dIfS, lenTI, ek, -q_dJoin]
    by_cases n : cs[k] = []
    · have ew : wCl cs[k] = [120] := by rw [n]; rfl
      rw [ew] at fin
      rw [if_pos (by simp [n]), ex]
      exact fin
    · have lpos : 0 < cs[k].length := List.length_pos_iff.mpr n
      rw [if_neg (by omega)]
      have ew : wCl cs[k] = cs[k].map fun p => (48 + p).toNat := by unfold wCl; rw [if_neg n]
      refine join_comp (cj := c2) (dIt (dOp fIx (dVarB 0) (dVarB 2))) (hc _ mc).1 (by have := (hc _ mc).2; omega) (fun k z => ?_) rfl f2 ?_
      · simpa [ek, tupI] using z
      · rw [← ew]
        exact fin
  · rintro ρ s' ⟨rfl, k, pre, c1, c2, c3, kl, hr, hp, f2, f3, rfl⟩
    have : cs.length - k = 0 := by
      have := congrArg List.length hr
      rw [List.length_nil, rngD_length] at this
      omega
    rw [List.drop_eq_nil_of_le (by omega), wPg, List.append_nil] at hp
    subst hp
    simp
    exact q
theorem fm_ifm2 {α : Type} {f : α → D} {p : α → Bool} : ∀ {l : List α}, l.filterMap (fun x => if p x = true then some (f x) else none) = (l.filter p).map f
  | [] => rfl
  | x :: l => by
    rw [List.filterMap_cons, List.filter_cons]
    cases h : p x with
    | true => rw [if_pos rfl, if_pos rfl, fm_ifm2]; rfl
    | false => rw [if_neg Bool.false_ne_true, if_neg Bool.false_ne_true, fm_ifm2]
def itemsT (t : Str) : List (List Nat) := neL (itRd [] t.cps.toList)
def S_items_of : FS A := fun ds s Q => ∃ t : Str, ds = [.str t] ∧ t.length ≤ 100000 ∧ Q (.list ((itemsT t).map fun l => .str (tx l))) s
def txD (l : List Nat) : D := .str (tx l)
def ItI (t : Str) (s0 : A.S) (r : List D) (ρ : Rho) (s' : A.S) : Prop := s' = s0 ∧ ∃ (rest : List Nat) (pre : List (List Nat)) (last : List Nat) (c2 c3 : Cell), r = rest.map (fun c => .str ⟨#[c]⟩) ∧ pre ++ itRd last rest = itRd [] t.cps.toList ∧ last.length + rest.length ≤ t.cps.toList.length ∧ pre.length + rest.length ≤ t.cps.toList.length ∧ freeC (some c3) ∧ ρ = [.fz (.str t), .ol ((pre ++ [last]).map txD), c2, c3]
theorem digits_mem {c : Nat} : c ∈ (Str.ofString "0123456789").cps.toList ↔ digN c := by
  have e : (Str.ofString "0123456789").cps.toList = [48, 49, 50, 51, 52, 53, 54, 55, 56, 57] := by decide +kernel
  rw [e]
  unfold digN
  simp
  omega
theorem digits_memA {c : Nat} : c ∈ (Str.ofString "0123456789").cps ↔ digN c := by
  rw [Array.mem_def]
  exact digits_mem
theorem it_len : ∀ (r last : List Nat), (itRd last r).length ≤ r.length + 1
  | [], last => by rw [itRd]; simp
  | c :: r, last => by
    have i1 := it_len r [c]
    have i2 := it_len r []
    have i3 := it_len r (last ++ [c])
    rw [itRd, List.length_cons]
    split
    · rw [List.length_cons]; omega
    · split
      · rw [List.length_cons]; omega
      · omega
theorem aug_last {pre : List D} {d : D} {i : Nat} {ρ : Rho} {s : A.S} {D0 : DEnds A} {te : DE A} (h : ρ[i]? = some (.ol (pre ++ [d]))) (q : te ρ s fun y s2 => fAddI d y fun z => D0.nx (ρ.set i (.ol (pre ++ [z]))) s2) : dAugIx i (dUn fNeg (dC (.int 1))) fAddI te D0 ρ s := by
  unfold dAugIx
  rw [h]
  dsimp only
  simp only [q_dUn, q_dC, q_neg]
  refine ⟨pre.length, d, ?_, by simp, ?_⟩
  · unfold L2.ixN
    rw [List.length_append, List.length_singleton, if_neg (by omega), if_pos (by omega)]
    congr 1
    omega
  · have e : ∀ z : D, (pre ++ [d]).set pre.length z = pre ++ [z] := fun z => by
      rw [List.set_append_right _ _ (Nat.le_refl _), Nat.sub_self]
      rfl
    simp only [e]
    exact q
theorem p_items_of (h : S_items_of ds s Q) : t_items_of (retE Q) (startR 4 ds) s := by
  obtain ⟨t, rfl, hl, q⟩ := h
  have e : startR 4 [.str t] = [.fz (.str t), .un, .un, .un] := rfl
  have hs : 1000000 ≤ sizeLine := by decide
  have e46 : Str.ofString "." = tx [46] := by decide +kernel
  have ex : Str.ofString "x" = tx [120] := by decide +kernel
  have e0 : Str.ofString "" = tx [] := by decide +kernel
  have hl' : t.cps.toList.length ≤ 100000 := by rw [Array.length_toList]; exact hl
  unfold t_items_of
  rw [e, q_dSeq]
  simp [-q_dSeq, -q_dIfS]
  refine ⟨by omega, ?_⟩
  rw [q_dSeq]
  refine for_of (xs := t.cps.toList.map fun c => .str ⟨#[c]⟩) (fun k z => by simpa [signsD] using z) (ItI t s) ⟨rfl, t.cps.toList, [], [], .un, .un, rfl, rfl, by simp, by simp, trivial, by rw [e0]; rfl⟩ ?_ ?_
  · rintro x r ρ s' ⟨rfl, rest, pre, last, c2, c3, hr, hp, l1, l2, f3, rfl⟩ D' hrt hbk hnx hct
    cases rest with
    | nil => cases hr
    | cons c rest =>
      obtain ⟨rfl, rfl⟩ := List.cons.inj hr
      have al : atI ((pre ++ [last]).map txD) (-1) = some (txD last) := atI_last (by rw [List.getLast?_map, List.getLast?_concat]; rfl)
      simp only [q_dgN, List.set_cons_succ, List.set_cons_zero]
      rw [q_dIfS]
      rw [itRd] at hp
      have s120 := sgn_eq (c := c) ex
      have s46 := sgn_eq (c := c) e46
      have l120 : (tx last = Str.ofString "x") ↔ last = [120] := by
        rw [ex]
        exact ⟨fun z => tx_inj z, fun z => by rw [z]⟩
      have rl : (c :: rest).length = rest.length + 1 := List.length_cons
      rw [rl] at l1 l2
      have app : (c = 120 ∨ last = [120] ∧ digN c) → pre.length + 1 < sizeLine ∧ D'.nx [.fz (.str t), .ol ((pre ++ [last]).map txD ++ [.str ⟨#[c]⟩]), .fz (.str ⟨#[c]⟩), c3] s' := fun z => by
        rw [if_pos z] at hp
        refine ⟨by omega, hnx _ _ ⟨rfl, rest, pre ++ [last], [c], .fz (.str ⟨#[c]⟩), c3, rfl, by rw [List.append_assoc]; exact hp, by rw [List.length_singleton]; omega, by rw [List.length_append, List.length_singleton]; omega, f3, by rw [List.map_append (l₁ := pre ++ [last])]; rfl⟩⟩
      have oth : ¬ (c = 120 ∨ last = [120] ∧ digN c) → dIfS (dTest (dOp fEqU (dVarB 2) (dC (PyData.str (Str.ofString "."))))) (dApp 1 (dC (PyData.str (Str.ofString "")))) (dAugIx 1 (dUn fNeg (dC (PyData.int 1))) fAddI (dVar 2)) D' [.fz (.str t), .ol ((pre ++ [last]).map txD), .fz (.str ⟨#[c]⟩), c3] s' := fun z => by
        rw [if_neg z] at hp
        rw [q_dIfS]
        simp only [q_dTest, q_dOp, q_dVarB, q_dC]
        simp [-q_dSeq, -q_dIfS, -List.map_append]
        by_cases k46 : c = 46
        · rw [if_pos k46] at hp
          rw [if_pos (s46.mpr k46)]
          refine ⟨by omega, hnx _ _ ⟨rfl, rest, pre ++ [last], [], .fz (.str ⟨#[c]⟩), c3, rfl, by rw [List.append_assoc]; exact hp, by rw [List.length_nil]; omega, by rw [List.length_append, List.length_singleton]; omega, f3, by rw [List.map_append (l₁ := pre ++ [last]), e0]; rfl⟩⟩
        · rw [if_neg k46] at hp
          rw [if_neg fun z => k46 (s46.mp z)]
          refine aug_last (pre := pre.map txD) (d := txD last) (by rw [List.map_append]; rfl) ?_
          simp [txD]
          refine ⟨by rw [tx_len]; show _ + 1 ≤ _; omega, ?_⟩
          have et : tx last ++ (⟨#[c]⟩ : Str) = tx (last ++ [c]) := tx_app (b := [c])
          rw [et]
          exact hnx _ _ ⟨rfl, rest, pre, last ++ [c], .fz (.str ⟨#[c]⟩), c3, rfl, hp, by rw [List.length_append, List.length_singleton]; omega, by omega, f3, by rw [List.map_append]; rfl⟩
      simp [-q_dSeq, -q_dIfS, -List.map_append, al, txD]
      by_cases c120 : c = 120
      · rw [if_pos (s120.mpr c120)]
        exact app (.inl c120)
      · rw [if_neg fun z => c120 (s120.mp z)]
        by_cases lx : last = [120]
        · rw [if_pos (l120.mpr lx)]
          refine ⟨c, rfl, ?_⟩
          simp [-List.map_append, -q_dSeq, -q_dIfS]
          by_cases dg : digN c
          · rw [if_pos (digits_memA.mpr dg)]
            exact app (.inr ⟨lx, dg⟩)
          · rw [if_neg fun z => dg (digits_memA.mp z)]
            exact oth fun z => z.elim c120 fun z => dg z.2
        · rw [if_neg fun z => lx (l120.mp z)]
          exact oth fun z => z.elim c120 fun z => lx z.1
  · rintro ρ s' ⟨rfl, rest, pre, last, c2, c3, hr, hp, l1, l2, f3, rfl⟩
    have : rest = [] := List.map_eq_nil_iff.mp hr.symm
    subst this
    rw [itRd] at hp
    rw [hp]
    dsimp only
    rw [q_dFrz]
    have il := it_len t.cps.toList []
    simp
    refine comp_map (L := itRd [] t.cps.toList) txD (fun k z => by simpa using z) (by simp; exact f3) (by omega) (fun l => if decide (l ≠ []) = true then some (txD l) else none) (fun l ml s k z => ?_) ?_
    · have le : (tx l = Str.ofString "") ↔ l = [] := by
        rw [e0]
        exact ⟨fun z => tx_inj z, fun z => by rw [z]⟩
      simp [txD, le]
      by_cases n : l = []
      · subst n
        simpa using z
      · simpa [n, txD] using z
    · rw [fm_ifm2]
      unfold itemsT neL at q
      exact q
end
end Dl
namespace Dl
open PySem L2
def pieceW (st : Int) (cs : List (List Int)) : Prop := pieceB st (.tuple (cs.map tupI)) = true
theorem pieceW_ok {st : Int} (h0 : 0 ≤ st) (h8 : st ≤ 8) {cs : List (List Int)} (h : pieceW st cs) : 1 ≤ cs.length ∧ cs.length ≤ 5040 ∧ ∀ c ∈ cs, digsOk c ∧ c.length ≤ 9 := by
  unfold pieceW pieceB at h
  rw [Bool.and_eq_true, Bool.and_eq_true, decide_eq_true_eq, decide_eq_true_eq, List.length_map, List.all_eq_true] at h
  refine ⟨h.1.1, h.1.2, fun c mc => ?_⟩
  obtain ⟨h1, h2, _⟩ := change_ok (h.2 _ (List.mem_map.mpr ⟨c, mc, rfl⟩))
  refine ⟨fun p mp => by have := h2 p mp; omega, ?_⟩
  have nd : c.Nodup := h1.imp fun {a b} (z : a < b) (e : a = b) => by omega
  have := nodup_le (L := oneTo st.toNat) nd fun y my => oneTo_mem.mpr (by have := h2 y my; omega)
  rw [oneTo_len] at this
  omega
open Classical in
noncomputable def readP (st : Int) (l : List Nat) : Option (List (List Int)) := if h : ∃ cs, pieceW st cs ∧ wP cs = l then some h.choose else none
theorem read_some {st : Int} (h0 : 0 ≤ st) (h8 : st ≤ 8) {cs : List (List Int)} {l : List Nat} (h : pieceW st cs) (e : wP cs = l) : readP st l = some cs := by
  have ex : ∃ cs, pieceW st cs ∧ wP cs = l := ⟨cs, h, e⟩
  unfold readP
  rw [dif_pos ex]
  have := ex.choose_spec
  rw [wP_inj (fun c m => ((pieceW_ok h0 h8 this.1).2.2 c m).1) (fun c m => ((pieceW_ok h0 h8 h).2.2 c m).1) (this.2.trans e.symm)]
theorem read_none {st : Int} {l : List Nat} (h : ∀ cs, pieceW st cs → wP cs ≠ l) : readP st l = none := by
  unfold readP
  rw [dif_neg fun ⟨cs, a, b⟩ => h cs a b]
theorem items_ok {st : Int} (h0 : 0 ≤ st) (h8 : st ≤ 8) {cs : List (List Int)} {t : Str} (h : pieceW st cs) (e : wP cs = t.cps.toList) : itemsT t = cs.map wCl ∧ (itemsT t).map parseI = cs := by
  have dg := fun c m => ((pieceW_ok h0 h8 h).2.2 c m).1
  have e1 : itemsT t = cs.map wCl := by
    unfold itemsT
    rw [← e]
    exact (items_w cs dg).1
  refine ⟨e1, ?_⟩
  rw [e1, List.map_map]
  exact (List.map_congr_left fun c hc => parse_w (dg c hc)).trans (List.map_id cs)
theorem it_wide : ∀ (r last : List Nat), ∀ l ∈ itRd last r, l.length ≤ last.length + r.length + 1
  | [], last, l, m => by
    rw [itRd, List.mem_singleton] at m
    rw [m]
    omega
  | c :: r, last, l, m => by
    rw [itRd] at m
    rw [List.length_cons]
    split at m
    · rcases List.mem_cons.mp m with rfl | m
      · omega
      · have := it_wide r [c] l m
        rw [List.length_singleton] at this
        omega
    · split at m
      · rcases List.mem_cons.mp m with rfl | m
        · omega
        · have := it_wide r [] l m
          rw [List.length_nil] at this
          omega
      · have := it_wide r (last ++ [c]) l m
        rw [List.length_append, List.length_singleton] at this
        omega
def goodI (l : List Nat) : Prop := l = [120] ∨ ∀ k ∈ l, digN k
theorem wCl_good {c : List Int} (h : digsOk c) : goodI (wCl c) := by
  by_cases n : c = []
  · subst n
    exact .inl rfl
  · exact .inr (wCl_dig h n)
theorem int_sign {k : Nat} (h : digN k) : PySem.intText? ⟨#[k]⟩ = some ((k : Int) - 48) := by
  have : k = 48 ∨ k = 49 ∨ k = 50 ∨ k = 51 ∨ k = 52 ∨ k = 53 ∨ k = 54 ∨ k = 55 ∨ k = 56 ∨ k = 57 := by unfold digN at h; omega
  rcases this with rfl | rfl | rfl | rfl | rfl | rfl | rfl | rfl | rfl | rfl <;> decide +kernel
section
variable {A : Amb} {ds : List D} {s : A.S} {Q : D → A.S → Prop} {R : Er → A.S → Prop}
theorem sgns {l : List Nat} : signsD (tx l) = l.map fun k => .str ⟨#[k]⟩ := rfl
theorem all_digs {l : List Nat} {ρ : Rho} {s : A.S} {i j : Nat} {cj : Cell} (hl : l.length ≤ 100000) (hi : ρ[i]? = some (.fz (.str (tx l)))) (hj : ρ[j]? = some cj) (fj : freeC (some cj)) {Q : D → A.S → Prop} (q : Q (.bool (l.all fun k => decide (digN k))) s) :
    dFn fAll (dCons (dOfN (nComp (dIt (dVar i)) (dgN j) dYes (dOp fIn (dVarB j) (dC (.str "0123456789"))) [j])) dNil) ρ s Q := by
  have hs : 1000000 ≤ sizeLine := by decide
  have lj : j < ρ.length := (List.getElem?_eq_some_iff.mp hj).1
  simp
  refine comp_map (L := l) (fun k => .str ⟨#[k]⟩) (fun k z => by simp [hi]; rw [sgns]; exact z) (by simp [hj]; exact fj) (by omega) (fun k => some (.bool (decide (digN k)))) (fun c mc s k z => ?_) ?_
  · simp [lj]
    refine ⟨c, rfl, ?_⟩
    simp only [digits_mem, Bool.false_eq_true, if_false]
    exact z
  · rw [fm_map]
    show fAll [.list (l.map fun k => .bool (decide (digN k)))] _
    rw [q_all, boolsV_map, List.all_map]
    exact q
theorem intsT_of {l : List Nat} {ρ : Rho} {s : A.S} {j : Nat} {cj : Cell} (te : DI A) (hd : ∀ k ∈ l, digN k) (hl : l.length ≤ 100000) (hi : ∀ k : List D → A.S → Prop, k (l.map fun k => .str ⟨#[k]⟩) s → te ρ s k) (hj : ρ[j]? = some cj) (fj : freeC (some cj)) {Q : D → A.S → Prop} (q : Q (tupI (l.map fun k : Nat => (k : Int) - 48)) s) :
    dFn fTuple (dCons (dOfN (nComp te (dgN j) dYes (dFn fIntS (dCons (dVarB j) dNil)) [j])) dNil) ρ s Q := by
  have hs : 1000000 ≤ sizeLine := by decide
  have lj : j < ρ.length := (List.getElem?_eq_some_iff.mp hj).1
  simp
  refine comp_map (L := l) (fun k => .str ⟨#[k]⟩) hi (by simp [hj]; exact fj) (by omega) (fun k => some (.int ((k : Int) - 48))) (fun c mc s k z => ?_) ?_
  · simp [lj]
    refine ⟨(c : Int) - 48, int_sign (hd c mc), by show (1 : Nat) ≤ 640; omega, z⟩
  · rw [fm_map]
    simp
    have : (l.map fun k : Nat => PyData.int ((k : Int) - 48)) = intsD (l.map fun k : Nat => (k : Int) - 48) := by
      unfold intsD
      rw [List.map_map]
      rfl
    rw [this]
    exact q
def S_read_piece : FX A := fun ds s Q R => ∃ (st : Int) (t : Str), ds = [.int st, .str t] ∧ 0 ≤ st ∧ st ≤ 8 ∧ t.length ≤ 1000 ∧ (∀ cs, pieceW st cs → readP st t.cps.toList = some cs → Q (.tuple (cs.map tupI)) s) ∧ (readP st t.cps.toList = none → R ⟨"BadText"⟩ s)
def RpI (st : Int) (t : Str) (s0 : A.S) (r : List D) (ρ : Rho) (s' : A.S) : Prop := s' = s0 ∧ ∃ (pre rest : List (List Nat)) (c3 c4 c5 : Cell), r = rest.map txD ∧ pre ++ rest = itemsT t ∧ freeC (some c4) ∧ ρ = [.fz (.int st), .fz (.str t), .ol ((pre.map parseI).map tupI), c3, c4, c5]
theorem p_read_piece (h : S_read_piece ds s Q R) : t_read_piece (fun e _ s' => R e s') S_items_of S_is_piece S_write_piece (retE Q) (startR 6 ds) s := by
  obtain ⟨st, t, rfl, h0, h8, hl, q, r⟩ := h
  have e : startR 6 [.int st, .str t] = [.fz (.int st), .fz (.str t), .un, .un, .un, .un] := rfl
  have hs : 1000000 ≤ sizeLine := by decide
  have hl' : t.cps.toList.length ≤ 1000 := by rw [Array.length_toList]; exact hl
  have il : (itemsT t).length ≤ 1001 := by
    unfold itemsT neL
    have := it_len t.cps.toList []
    exact Nat.le_trans (List.length_filter_le _ _) (by omega)
  have iw : ∀ l ∈ itemsT t, l.length ≤ 1001 := fun l m => by
    unfold itemsT neL at m
    have := it_wide _ _ l (List.mem_filter.mp m).1
    rw [List.length_nil] at this
    omega
  have ex : Str.ofString "x" = tx [120] := by decide +kernel
  have bad : (∀ cs, pieceW st cs → wP cs ≠ t.cps.toList) → R ⟨"BadText"⟩ s := fun z => r (read_none z)
  unfold t_read_piece
  rw [e, q_dSeq]
  simp [-q_dSeq, -q_dIfS]
  rw [q_dSeq]
  refine for_of (xs := (itemsT t).map txD) (fun k z => ?_) (RpI st t s) ⟨rfl, [], itemsT t, .un, .un, .un, rfl, rfl, trivial, rfl⟩ ?_ ?_
  · simp
    exact ⟨t, rfl, by omega, z⟩
  · rintro x r' ρ s' ⟨rfl, pre, rest, c3, c4, c5, hr, hp, f4, rfl⟩ D' hrt hbk hnx hct
    cases rest with
    | nil => cases hr
    | cons l rest =>
      obtain ⟨rfl, rfl⟩ := List.cons.inj hr
      have ml : l ∈ itemsT t := by rw [← hp]; simp
      have ll := iw l ml
      have lx : (tx l = Str.ofString "x") ↔ l = [120] := by
        rw [ex]
        exact ⟨fun z => tx_inj z, fun z => by rw [z]⟩
      simp only [q_dgN, List.set_cons_succ, List.set_cons_zero]
      have lp : (pre.map parseI).length ≤ 1001 := by
        have := congrArg List.length hp
        rw [List.length_append, List.length_cons] at this
        rw [List.length_map]
        omega
      have go : ∀ c4', freeC (some c4') → D'.nx [.fz (.int st), .fz (.str t), .ol ((pre.map parseI).map tupI ++ [tupI (parseI l)]), .fz (txD l), c4', c5] s' := fun c4' f4' =>
        hnx _ _ ⟨rfl, pre ++ [l], rest, .fz (txD l), c4', c5, rfl, by rw [List.append_assoc]; exact hp, f4', by rw [List.map_append, List.map_append]; rfl⟩
      refine seq_ifH (goodI l) (fun good => ?_) fun U hU => ?_
      · simp [-q_dFn, -List.map_map, txD]
        by_cases l0 : l = [120]
        · rw [if_pos (lx.mpr l0)]
          have ep : parseI l = [] := by rw [l0]; rfl
          rw [ep] at go
          exact ⟨by rw [List.length_map] at lp; omega, go c4 f4⟩
        · rw [if_neg fun z => l0 (lx.mp z)]
          have dg : ∀ k ∈ l, digN k := good.elim (fun z => (l0 z).elim) id
          refine intsT_of (cj := c4) (dIt (dVar 3)) dg (by omega) (fun k z => ?_) rfl f4 ?_
          · simp
            rw [sgns]
            exact z
          · have ep : parseI l = l.map fun k : Nat => (k : Int) - 48 := by unfold parseI; rw [if_neg l0]
            rw [← ep]
            exact ⟨by rw [List.length_map] at lp; omega, go c4 f4⟩
      · simp [-q_dFn, -List.map_map, txD]
        by_cases l0 : l = [120]
        · rw [if_pos (lx.mpr l0)]
          exact hU (.inl l0)
        · rw [if_neg fun z => l0 (lx.mp z)]
          refine all_digs (l := l) (cj := c4) (by omega) rfl rfl f4 ?_
          by_cases dg : ∀ k ∈ l, digN k
          · have : (l.all fun k => decide (digN k)) = true := List.all_eq_true.mpr fun k m => decide_eq_true (dg k m)
            rw [this]
            simp only [bV_bool, if_pos]
            exact hU (.inr dg)
          · have : (l.all fun k => decide (digN k)) = false := Bool.eq_false_iff.mpr fun z => dg fun k m => of_decide_eq_true (List.all_eq_true.mp z k m)
            rw [this]
            simp
            refine ⟨by omega, bad fun cs ok ew => ?_⟩
            obtain ⟨e1, _⟩ := items_ok h0 h8 ok ew
            rw [e1] at ml
            obtain ⟨c, mc, rfl⟩ := List.mem_map.mp ml
            exact (wCl_good ((pieceW_ok h0 h8 ok).2.2 c mc).1).elim l0 dg
  · rintro ρ s' ⟨rfl, pre, rest, c3, c4, c5, hr, hp, f4, rfl⟩
    have : rest = [] := List.map_eq_nil_iff.mp hr.symm
    subst this
    rw [List.append_nil] at hp
    subst hp
    dsimp only
    rw [q_dSeq]
    simp [-q_dSeq, -q_dIfS, -List.map_map]
    have cand : ∀ cs, pieceW st cs → wP cs = t.cps.toList → cs = (itemsT t).map parseI := fun cs ok ew => (items_ok h0 h8 ok ew).2.symm
    obtain ⟨cs, ecs⟩ : ∃ cs, cs = (itemsT t).map parseI := ⟨_, rfl⟩
    rw [← ecs] at cand ⊢
    have cl : cs.length ≤ 1001 := by rw [ecs, List.length_map]; exact il
    have cw : ∀ c ∈ cs, c.length ≤ 1001 := fun c m => by
      rw [ecs] at m
      obtain ⟨l, ml, rfl⟩ := List.mem_map.mp m
      have := iw l ml
      unfold parseI
      split
      · simp
      · rw [List.length_map]; exact this
    refine seq_ifH (pieceW st cs ∧ wP cs = t.cps.toList) (fun ⟨ok, ew⟩ => ?_) fun U hU => ?_
    · simp
      exact q cs ok (read_some h0 h8 ok ew)
    · simp [-List.map_map]
      refine ⟨st, .tuple (cs.map tupI), rfl, trivial, fun _ x m => ?_, ?_⟩
      · obtain ⟨c, mc, rfl⟩ := List.mem_map.mp m
        have := cw c mc
        refine ⟨fun x m => ?_, by show (intsD c).length ≤ 90000; rw [intsD_length]; omega⟩
        obtain ⟨i, _, rfl⟩ := List.mem_map.mp m
        trivial
      · cases hb : pieceB st (.tuple (cs.map tupI)) with
        | false =>
          simp
          refine ⟨by omega, bad fun ds ok ew => ?_⟩
          have := cand ds ok ew
          subst this
          have : pieceB st (.tuple (ds.map tupI)) = true := ok
          rw [hb] at this
          cases this
        | true =>
          have ok : pieceW st cs := hb
          have pk := pieceW_ok h0 h8 ok
          simp [-List.map_map]
          refine ⟨cs, rfl, pk.2.2, pk.2.1, ?_⟩
          by_cases ew : wP cs = t.cps.toList
          · have : tx (wP cs) = t := by rw [ew, tx_list]
            rw [this]
            simp
            exact hU ⟨ok, ew⟩
          · have : ¬ tx (wP cs) = t := fun z => ew (by rw [← z]; rfl)
            simp [this]
            refine ⟨by omega, bad fun ds ok2 ew2 => ?_⟩
            have := cand ds ok2 ew2
            subst this
            exact ew ew2
end
end Dl
namespace Dl
open PySem L2
section
variable {A : Amb} {ds : List D} {s : A.S} {Q : D → A.S → Prop} {R : Er → A.S → Prop}
theorem flat_tupI {c : List Int} : flat1 (tupI c) := fun x m => by
  obtain ⟨i, _, rfl⟩ := List.mem_map.mp m
  trivial
def S_L_piece_from : FS A := fun ds s Q => ∃ (st : Int) (t : Str), ds = [.int st, .str t] ∧ 0 ≤ st ∧ st ≤ 8 ∧ t.length ≤ 1000 ∧ (∀ cs, pieceW st cs → readP st t.cps.toList = some cs → Q (.tuple (cs.map tupI)) s) ∧ (readP st t.cps.toList = none → Q .none s)
end
section
variable {A : Amb} {ds : List D} {s : A.S} {Q : D → A.S → Prop}
theorem spl_wide {c : Nat} : ∀ l, (splL c l).length ≤ l.length + 1 ∧ ∀ p ∈ splL c l, p.length ≤ l.length
  | [] => ⟨by rw [splL]; simp, fun p m => by rw [splL, List.mem_singleton] at m; rw [m]; simp⟩
  | d :: r => by
    obtain ⟨i1, i2⟩ := spl_wide (c := c) r
    rw [splL, List.length_cons]
    split
    · refine ⟨by rw [List.length_cons]; omega, fun p m => ?_⟩
      rcases List.mem_cons.mp m with rfl | m
      · simp
      · have := i2 p m
        omega
    · cases h : splL c r with
      | nil => exact (splL_ne r h).elim
      | cons q1 q2 =>
        rw [h, List.length_cons] at i1
        rw [h] at i2
        refine ⟨by rw [List.length_cons]; omega, fun p m => ?_⟩
        rcases List.mem_cons.mp m with rfl | m
        · have := i2 q1 (List.mem_cons_self ..)
          rw [List.length_cons]
          omega
        · have := i2 p (List.mem_cons_of_mem _ m)
          omega
theorem repl_wide : ∀ l, (replX l).length ≤ 3 * l.length
  | [] => by unfold replX; simp
  | d :: r => by
    have ih := repl_wide r
    unfold replX at ih ⊢
    rw [List.flatMap_cons, List.length_append, List.length_cons]
    split
    · simp at ih ⊢
      omega
    · simp at ih ⊢
      omega
def partsT (t : Str) : List Str := Txt.split (Txt.replace t (Str.ofString "x") (Str.ofString ".x.")) (Str.ofString ".")
theorem parts_eq (t : Str) : (partsT t).map (fun p => p.cps.toList) = partsL t.cps.toList := by
  have e : (Str.ofString ".") = (⟨#[46]⟩ : Str) := by decide +kernel
  unfold partsT partsL
  rw [e, split_spl, replace_x]
def PfI (st : Int) (t : Str) (s0 : A.S) (r : List D) (ρ : Rho) (s' : A.S) : Prop := s' = s0 ∧ ∃ (pre rest : List Str) (c3 c4 c5 : Cell), r = rest.map .str ∧ pre ++ rest = partsT t ∧ freeC (some c5) ∧ ρ = [.fz (.int st), .fz (.str t), .ol (((neL (pre.map fun p => p.cps.toList)).map parseI).map tupI), c3, c4, c5, .un, .un]
theorem ne_snoc {l : List (List Nat)} {p : List Nat} : neL (l ++ [p]) = neL l ++ (if p = [] then [] else [p]) := by
  unfold neL
  rw [List.filter_append]
  by_cases n : p = [] <;> simp [n]
theorem p_L_piece_from (h : S_L_piece_from ds s Q) : t_L_piece_from S_write_piece S_L_is_change (retE Q) (startR 8 ds) s := by
  obtain ⟨st, t, rfl, h0, h8, hl, q, r⟩ := h
  have e : startR 8 [.int st, .str t] = [.fz (.int st), .fz (.str t), .un, .un, .un, .un, .un, .un] := rfl
  have hs : 1000000 ≤ sizeLine := by decide
  have hl' : t.cps.toList.length ≤ 1000 := by rw [Array.length_toList]; exact hl
  have ex : Str.ofString "x" = tx [120] := by decide +kernel
  have e0 : Str.ofString "" = tx [] := by decide +kernel
  have rw3 := repl_wide t.cps.toList
  obtain ⟨sw1, sw2⟩ := spl_wide (c := 46) (replX t.cps.toList)
  have pe := parts_eq t
  have pl : (partsT t).length ≤ 3001 := by
    have := congrArg List.length pe
    rw [List.length_map] at this
    unfold partsL at this
    omega
  have pw : ∀ p ∈ partsT t, p.cps.toList.length ≤ 3000 := fun p m => by
    have : p.cps.toList ∈ partsL t.cps.toList := by rw [← pe]; exact List.mem_map.mpr ⟨p, m, rfl⟩
    have := sw2 _ this
    omega
  have bad : (∀ cs, pieceW st cs → wP cs ≠ t.cps.toList) → Q .none s := fun z => r (read_none z)
  have pc : ∀ cs, pieceW st cs → wP cs = t.cps.toList → neL (partsL t.cps.toList) = cs.map wCl ∧ (neL (partsL t.cps.toList)).map parseI = cs := fun cs ok ew => by
    have dg := fun c m => ((pieceW_ok h0 h8 ok).2.2 c m).1
    have e1 : neL (partsL t.cps.toList) = cs.map wCl := by
      unfold partsL
      rw [← ew]
      exact parts_w cs false dg
    refine ⟨e1, ?_⟩
    rw [e1, List.map_map]
    exact (List.map_congr_left fun c hc => parse_w (dg c hc)).trans (List.map_id cs)
  unfold t_L_piece_from
  rw [e, q_dSeq]
  simp [-q_dSeq, -q_dIfS]
  rw [q_dSeq]
  refine for_of (xs := (partsT t).map .str) (fun k z => ?_) (PfI st t s) ⟨rfl, [], partsT t, .un, .un, .un, rfl, rfl, trivial, rfl⟩ ?_ ?_
  · simp
    refine ⟨?_, ?_, ?_, z⟩
    · have : (Str.ofString ".x.").length = 3 := by decide +kernel
      rw [this]
      omega
    · intro z
      exact absurd z (by decide +kernel)
    · have : (Txt.replace t (Str.ofString "x") (Str.ofString ".x.")).length = (replX t.cps.toList).length := by
        rw [← replace_x, Array.length_toList]
        rfl
      omega
  · rintro x r' ρ s' ⟨rfl, pre, rest, c3, c4, c5, hr, hp, f5, rfl⟩ D' hrt hbk hnx hct
    cases rest with
    | nil => cases hr
    | cons p rest =>
      obtain ⟨rfl, rfl⟩ := List.cons.inj hr
      have mp : p ∈ partsT t := by rw [← hp]; simp
      have ml : p.cps.toList ∈ partsL t.cps.toList := by rw [← pe]; exact List.mem_map.mpr ⟨p, mp, rfl⟩
      have ll := pw p mp
      obtain ⟨l, hl⟩ : ∃ l, l = p.cps.toList := ⟨_, rfl⟩
      have epl : p = tx l := by rw [hl, tx_list]
      rw [← hl] at ml ll
      subst epl
      have lx : (tx l = Str.ofString "x") ↔ l = [120] := by
        rw [ex]
        exact ⟨fun z => tx_inj z, fun z => by rw [z]⟩
      have l0 : (tx l = Str.ofString "") ↔ l = [] := by
        rw [e0]
        exact ⟨fun z => tx_inj z, fun z => by rw [z]⟩
      have lp : (((neL (pre.map fun p => p.cps.toList)).map parseI).map tupI).length ≤ 3001 := by
        have := congrArg List.length hp
        rw [List.length_append, List.length_cons] at this
        rw [List.length_map, List.length_map]
        unfold neL
        have := List.length_filter_le (fun p => decide (p ≠ [])) (pre.map fun p => p.cps.toList)
        rw [List.length_map] at this
        omega
      have go : ∀ c4' c5', freeC (some c5') → l ≠ [] → D'.nx [.fz (.int st), .fz (.str t), .ol (((neL (pre.map fun p => p.cps.toList)).map parseI).map tupI ++ [tupI (parseI l)]), .fz (.str (tx l)), c4', c5', .un, .un] s' := fun c4' c5' f5' n =>
        hnx _ _ ⟨rfl, pre ++ [tx l], rest, .fz (.str (tx l)), c4', c5', rfl, by rw [List.append_assoc]; exact hp, f5', by
          rw [List.map_append, List.map_singleton, ne_snoc, tx_cps, if_neg n, List.map_append, List.map_append]
          rfl⟩
      simp only [q_dgN, List.set_cons_succ, List.set_cons_zero]
      rw [q_dIfS]
      simp [-q_dSeq, -q_dIfS, -List.map_map, -q_dFn]
      by_cases c120 : l = [120]
      · rw [if_pos (lx.mpr c120)]
        have ep : parseI l = [] := by rw [c120]; rfl
        rw [ep] at go
        rw [List.length_map, List.length_map] at lp
        exact ⟨by omega, go c4 c5 f5 (by rw [c120]; simp)⟩
      · rw [if_neg fun z => c120 (lx.mp z)]
        by_cases n : l = []
        · have := l0.mpr n
          simp [this]
          refine hnx _ _ ⟨rfl, pre ++ [tx l], rest, .fz (.str (tx l)), c4, c5, rfl, by rw [List.append_assoc]; exact hp, f5, ?_⟩
          rw [List.map_append, List.map_singleton, ne_snoc, tx_cps, if_pos n, List.append_nil, List.map_map, this]
        · have : ¬ tx l = Str.ofString "" := fun z => n (l0.mp z)
          rw [q_dIfS]
          simp [-q_dSeq, -q_dIfS, -List.map_map, -q_dFn, this]
          rw [q_dSeq]
          simp [-q_dSeq, -q_dIfS, -List.map_map, -q_dFn]
          refine comp_map (L := l) (fun k => PyData.str ⟨#[k]⟩) (fun k z => by simp; rw [sgns]; exact z) (by simp; exact f5) (by omega) (fun k => if decide (digN k) = true then some (.str ⟨#[k]⟩) else none) (fun k mk s k' z => ?_) ?_
          · simp
            refine ⟨k, rfl, ?_⟩
            simp only [digits_mem, Bool.false_eq_true, if_false]
            by_cases dg : digN k
            · simpa [dg] using z
            · simpa [dg] using z
          · rw [fm_ifm2 (f := fun k : Nat => PyData.str ⟨#[k]⟩)]
            dsimp only [Cell.data]
            have lf : (l.filter fun k => decide (digN k)).length ≤ l.length := List.length_filter_le _ _
            refine seq_ifH (∀ k ∈ l, digN k) (fun dg => ?_) fun U hU => ?_
            · have ef : (l.filter fun k => decide (digN k)) = l := List.filter_eq_self.mpr fun k m => decide_eq_true (dg k m)
              rw [ef]
              simp [-List.map_map, -q_dFn]
              refine intsT_of (cj := c5) (dIt (dVar 4)) dg (by omega) (fun k z => by simpa using z) rfl f5 ?_
              have ep : parseI l = l.map fun k : Nat => (k : Int) - 48 := by unfold parseI; rw [if_neg c120]
              rw [← ep]
              rw [List.length_map, List.length_map] at lp
              exact ⟨by omega, go _ c5 f5 n⟩
            · simp [-List.map_map, tx_len]
              refine ⟨by rw [tx_len]; omega, ?_⟩
              rw [tx_len]
              simp only [q_cmpI, bV_bool, q_ltI, decide_eq_true_eq]
              by_cases dg : ∀ k ∈ l, digN k
              · have ef : (l.filter fun k => decide (digN k)) = l := List.filter_eq_self.mpr fun k m => decide_eq_true (dg k m)
                have el : (l.filter fun k => decide (digN k)).length = l.length := by rw [ef]
                rw [el, if_neg (by omega)]
                exact hU dg
              · have lt : (l.filter fun k => decide (digN k)).length < l.length := by
                  refine Nat.lt_of_le_of_ne lf fun z => dg fun k m => ?_
                  exact of_decide_eq_true (List.length_filter_eq_length_iff.mp z k m)
                rw [if_pos (by omega), hrt]
                refine bad fun cs ok ew => ?_
                have e1 := (pc cs ok ew).1
                have : l ∈ neL (partsL t.cps.toList) := by
                  unfold neL
                  exact List.mem_filter.mpr ⟨ml, decide_eq_true n⟩
                rw [e1] at this
                obtain ⟨c, mc, rfl⟩ := List.mem_map.mp this
                exact (wCl_good ((pieceW_ok h0 h8 ok).2.2 c mc).1).elim c120 dg
  · rintro ρ s' ⟨rfl, pre, rest, c3, c4, c5, hr, hp, f5, rfl⟩
    have : rest = [] := List.map_eq_nil_iff.mp hr.symm
    subst this
    rw [List.append_nil] at hp
    subst hp
    rw [pe]
    dsimp only
    rw [q_dSeq]
    simp [-q_dSeq, -q_dIfS, -List.map_map]
    have cand : ∀ cs, pieceW st cs → wP cs = t.cps.toList → cs = (neL (partsL t.cps.toList)).map parseI := fun cs ok ew => (pc cs ok ew).2.symm
    obtain ⟨cs, ecs⟩ : ∃ cs, cs = (neL (partsL t.cps.toList)).map parseI := ⟨_, rfl⟩
    rw [← ecs] at cand ⊢
    have cl : cs.length ≤ 3001 := by
      rw [ecs, List.length_map]
      unfold neL partsL
      exact Nat.le_trans (List.length_filter_le _ _) (by omega)
    have cw : ∀ c ∈ cs, c.length ≤ 3000 := fun c m => by
      rw [ecs] at m
      obtain ⟨l, ml, rfl⟩ := List.mem_map.mp m
      unfold neL partsL at ml
      have := sw2 l (List.mem_filter.mp ml).1
      unfold parseI
      split
      · simp
      · rw [List.length_map]; omega
    have no : ¬ pieceW st cs → Q .none s' := fun nk => bad fun ds ok ew => by
      have := cand ds ok ew
      subst this
      exact nk ok
    refine seq_ifH (pieceW st cs) (fun ok => ?_) fun U hU => ?_
    · have pk := pieceW_ok h0 h8 ok
      simp [-List.map_map]
      refine ⟨cs, rfl, pk.2.2, pk.2.1, ?_⟩
      simp [-List.map_map]
      by_cases ew : wP cs = t.cps.toList
      · rw [if_pos (by rw [ew, tx_list])]
        exact q cs ok (read_some h0 h8 ok ew)
      · rw [if_neg fun z => ew (by rw [← z]; rfl)]
        refine bad fun ds ok2 ew2 => ?_
        have := cand ds ok2 ew2
        subst this
        exact ew ew2
    · simp [-List.map_map, lenTT]
      by_cases k0 : cs = []
      · rw [if_pos k0]
        exact no fun ok => by
          have := (pieceW_ok h0 h8 ok).1
          rw [k0] at this
          cases this
      · rw [if_neg k0, if_neg (by omega)]
        refine comp_map (L := cs) tupI (fun k z => by simpa using z) (by simp) (by omega) (fun c => if decide (changeB st (tupI c) = false) = true then some (tupI c) else none) (fun c mc s k z => ?_) ?_
        · have := cw c mc
          simp
          refine ⟨st, tupI c, rfl, by omega, by omega, flat_tupI, by show (intsD c).length ≤ 90000; rw [intsD_length]; omega, ?_⟩
          cases hb : changeB st (tupI c) with
          | true => simpa [hb] using z
          | false => simpa [hb] using z
        · rw [fm_ifm2]
          simp
          have pos : 0 < cs.length := List.length_pos_iff.mpr k0
          by_cases ok : ∀ c ∈ cs, changeB st (tupI c) = true
          · have okp : pieceW st cs := by
              unfold pieceW pieceB
              rw [Bool.and_eq_true, Bool.and_eq_true, decide_eq_true_eq, decide_eq_true_eq, List.length_map, List.all_eq_true]
              refine ⟨⟨pos, by omega⟩, fun x m => ?_⟩
              obtain ⟨c, mc, rfl⟩ := List.mem_map.mp m
              exact ok c mc
            rw [if_neg]
            · exact hU okp
            · rintro ⟨c, mc, z⟩
              rw [ok c mc] at z
              cases z
          · rw [if_pos]
            · refine no fun okp => ok fun c mc => ?_
              unfold pieceW pieceB at okp
              rw [Bool.and_eq_true, List.all_eq_true] at okp
              exact okp.2 _ (List.mem_map.mpr ⟨c, mc, rfl⟩)
            · refine Classical.byContradiction fun z => ok fun c mc => ?_
              cases hb : changeB st (tupI c) with
              | true => rfl
              | false => exact (z ⟨c, mc, hb⟩).elim
end
section
variable {a : Addr} {ds : List D} {s : (poolA a).S} {Q : D → (poolA a).S → Prop}
def S_L_spoilt (a : Addr) : FS (poolA a) := fun ds s Q => ∃ t z : Str, ds = [refD a, .str t, .str z] ∧ t.length ≤ 5000 ∧ 1 ≤ z.length ∧ z.length ≤ 1000 ∧ ∀ t' : Str, t'.length ≤ 2 * t.length + 1 → Q (.str t') s
end
end Dl
namespace Dl
open PySem L2
section
variable {A : Amb} {ds : List D} {s : A.S} {Q : D → A.S → Prop} {R : Er → A.S → Prop}
theorem len_write_change (h : S_write_change ds s Q) : ds.length = 1 := by obtain ⟨_, e, _⟩ := h; rw [e]; rfl
theorem len_write_piece (h : S_write_piece ds s Q) : ds.length = 1 := by obtain ⟨_, e, _⟩ := h; rw [e]; rfl
theorem len_L_piece_text (h : S_write_piece ds s Q) : ds.length = 1 := len_write_piece h
theorem len_items_of (h : S_items_of ds s Q) : ds.length = 1 := by obtain ⟨_, e, _⟩ := h; rw [e]; rfl
theorem len_read_piece (h : S_read_piece ds s Q R) : ds.length = 2 := by obtain ⟨_, _, e, _⟩ := h; rw [e]; rfl
theorem len_L_piece_from (h : S_L_piece_from ds s Q) : ds.length = 2 := by obtain ⟨_, _, e, _⟩ := h; rw [e]; rfl
end
end Dl
namespace Dl
open PySem L2
section
variable {a : Addr} {ds : List D} {s : (poolA a).S} {Q : D → (poolA a).S → Prop}
theorem len_L_touch (h : S_L_touch a ds s Q) : ds.length = 3 := by obtain ⟨_, _, e, _⟩ := h; rw [e]; rfl
end
end Dl
namespace Dl
open PySem L2 PySem.W
theorem nodup_map {α β : Type} {f : α → β} {l : List α} (hf : ∀ a b, f a = f b → a = b) (h : l.Nodup) : (l.map f).Nodup := by
  unfold List.Nodup
  rw [List.pairwise_map]
  exact h.imp fun ne e => ne (hf _ _ e)
theorem nodup_of_map {α β : Type} {f : α → β} {l : List α} (h : (l.map f).Nodup) : l.Nodup := by
  unfold List.Nodup at h
  rw [List.pairwise_map] at h
  exact h.imp fun ne e => ne (by rw [e])
def valW : List Nat → Int
  | [] => 0
  | c :: cs => ((c : Int) - 96) * 26 ^ cs.length + valW cs
section
variable {a : Addr} {ds : List D} {s : (poolA a).S} {Q : D → (poolA a).S → Prop}
theorem anyEq_of {n : Int} {ns : List Int} (h : n ∈ ns) : anyEq (.int n) (intsD ns) = true := by
  unfold anyEq
  exact List.any_eq_true.mpr ⟨.int n, List.mem_map.mpr ⟨n, h, rfl⟩, by simp⟩
end
def wlt (x y : Str) : Prop := dataLt (.str x) (.str y) = true
theorem wlt_total {x y : Str} (h : ¬ wlt x y) (g : ¬ wlt y x) : x = y := by
  have := PyProof.Rows.lex_total (O := PyProof.Rows.itemOrd) _ _ (by simpa [wlt, dataLt] using h) (by simpa [wlt, dataLt] using g)
  unfold keyToks at this
  exact str_of_cps (Sum.inr.inj (List.cons.inj this).1)
def WAsc (L : List Str) : Prop := L.Pairwise wlt
theorem sort_asc {L L' : List Str} (nd : L.Nodup) (e : sortD (L.map .str) = L'.map .str) : WAsc L' := by
  have pm : (sortD (L.map .str)).Perm (L.map .str) := List.mergeSort_perm _ _
  have pw := List.pairwise_mergeSort (le := dataLe false (id : D → D)) (fun a b c h1 h2 => ?_) (fun a b => ?_) (L.map .str)
  · rw [show (L.map PyData.str).mergeSort (dataLe false id) = L'.map .str from e, List.pairwise_map] at pw
    have nd' : L'.Nodup := by
      rw [e] at pm
      have : (L'.map PyData.str).Nodup := pm.nodup_iff.mpr (nodup_map (fun a b e => by simpa using e) nd)
      exact nodup_of_map this
    refine (pw.and nd').imp fun {x y} ⟨h1, h2⟩ => ?_
    rw [dataLe_eq] at h1
    have h1' : dataLt (.str y) (.str x) = false := by simpa using h1
    by_cases c : wlt x y
    · exact c
    · exact absurd (wlt_total c (by unfold wlt; rw [h1']; exact Bool.false_ne_true)) h2
  · rw [dataLe_eq] at h1 h2 ⊢
    simp only [cond_false, id, Bool.not_eq_true'] at h1 h2 ⊢
    cases q : dataLt c a with
    | false => rfl
    | true =>
      rcases PyProof.Rows.lex_negTrans (O := PyProof.Rows.itemOrd) _ (keyToks b) _ q with z | z
      · exact absurd (show dataLt c b = true from z) (by rw [h2]; exact Bool.false_ne_true)
      · exact absurd (show dataLt b a = true from z) (by rw [h1]; exact Bool.false_ne_true)
  · rw [dataLe_eq]
    simp only [cond_false, id, Bool.or_eq_true, Bool.not_eq_true']
    cases q : dataLt b a with
    | false => exact .inl rfl
    | true =>
      refine .inr ?_
      cases q2 : dataLt a b with
      | false => rfl
      | true =>
        have := PyProof.Rows.lex_trans _ _ _ q q2
        rw [PyProof.Rows.lex_irrefl] at this
        cases this
end Dl
namespace Dl
open PySem L2
section
variable {f : Int → Int} {n : Nat} (hf : ∀ b : Int, 1 ≤ b → b ≤ n → 1 ≤ f b ∧ f b ≤ n) (inj : ∀ a b : Int, 1 ≤ a → a ≤ n → 1 ≤ b → b ≤ n → f a = f b → a = b)
include hf inj
end
end Dl
namespace Dl
open PySem L2
def t_is_word {A : Amb} : DS A :=
  (dRet (dAnd (dUn (fIsi .str) (dVarB 0)) (dAnd (dChain fLe fLe (dC (.int 1)) (dFn fLen (dCons (dVarB 0) dNil)) (dC (.int 12))) (dFn fAll (dCons (dOfN (nComp (dIt (dVar 0)) (dgN 1) dYes (dOp fIn (dVarB 1) (dC (.str "abcdefghijklmnopqrstuvwxyz"))) [1])) dNil)))))
def t_is_book {A : Amb} (S_is_ascending S_is_piece S_is_word : FS A) : DS A :=
  (dSeq (dIfS (dOrT (dNotT (dTest (dUn (fIsi .tuple) (dVarB 1)))) (dNotT (dTest (dChain fLe fLe (dC (.int 1)) (dFn fLen (dCons (dVarB 1) dNil)) (dC (.int 4))))))
  (dRet (dC (.bool false)))
  dNx)
  (dSeq (dIfS (dNotT (dTest (dFn fAll (dCons (dOfN (nComp (dIt (dVar 1)) (dgN 2) dYes (dAnd (dUn (fIsi .tuple) (dVarB 2)) (dAnd (dOp fEqU (dFn fLen (dCons (dVarB 2) dNil)) (dC (.int 2))) (dCall S_is_word (dCons (dOp fIx (dVarB 2) (dC (.int 0))) dNil)))) [2])) dNil))))
  (dRet (dC (.bool false)))
  dNx)
  (dRet (dAnd (dCall S_is_ascending (dCons (dOfN (nComp (dIt (dVar 1)) (dgN 2) dYes (dOp fIx (dVarB 2) (dC (.int 0))) [2])) dNil)) (dFn fAll (dCons (dOfN (nComp (dIt (dVar 1)) (dgN 2) dYes (dCall S_is_piece (dCons (dVar 0) (dCons (dOp fIx (dVarB 2) (dC (.int 1))) dNil))) [2])) dNil))))))
def t_L_is_word {A : Amb} : DS A :=
  (dSeq (dIfS (dOrT (dNotT (dTest (dUn (fIsi .str) (dVarB 0)))) (dOrT (dTest (dOp fLt (dFn fLen (dCons (dVarB 0) dNil)) (dC (.int 1)))) (dTest (dOp fGt (dFn fLen (dCons (dVarB 0) dNil)) (dC (.int 12))))))
  (dRet (dC (.bool false)))
  dNx)
  (dRet (dOp fEqU (dFn fLen (dCons (dOfN (nComp (dIt (dVar 0)) (dgN 1) (dTest (dOp fNotIn (dVarB 1) (dC (.str "abcdefghijklmnopqrstuvwxyz")))) (dVar 1) [1])) dNil)) (dC (.int 0)))))
@[simp] theorem q_lenS {z : Str} {k : D → Prop} : fLen [.str z] k = (z.length ≤ sizeLine ∧ k (.int z.length)) := rfl
@[simp] theorem q_inS {neg : Bool} {x : D} {z : Str} {k : D → Prop} : fInG neg x (.str z) k = (∃ c : Nat, x = .str ⟨#[c]⟩ ∧ k (.bool (if neg then !decide (c ∈ z.cps.toList) else decide (c ∈ z.cps.toList)))) := rfl
def letterB (c : Nat) : Bool := decide (c ∈ ("abcdefghijklmnopqrstuvwxyz" : Str).cps.toList)
def signB : D → Bool
  | .str y => y.cps.toList.all letterB
  | _ => false
def wordB : D → Bool
  | .str x => decide (1 ≤ x.length) && decide (x.length ≤ 12) && x.cps.toList.all letterB
  | _ => false
theorem signs_all (x : Str) : ((signsD x).map signB).all id = x.cps.toList.all letterB := by
  unfold signsD
  rw [List.map_map, List.all_map]
  congr 1
  funext c
  simp [signB]
theorem signs_len (x : Str) : (signsD x).length = x.length := by
  unfold signsD
  rw [List.length_map, Array.length_toList]
  rfl
section
variable {A : Amb} {ds : List D} {s : A.S} {Q : D → A.S → Prop}
def S_is_word : FS A := fun ds s Q => ∃ v, ds = [v] ∧ notDict v ∧ (∀ x, v = .str x → x.length ≤ 10000) ∧ Q (.bool (wordB v)) s
theorem p_is_word (h : S_is_word ds s Q) : t_is_word (retE Q) (startR 2 ds) s := by
  obtain ⟨v, rfl, nd, hl, q⟩ := h
  have e : startR 2 [v] = [.fz v, .un] := rfl
  have hs : 100000 ≤ sizeLine := by decide
  unfold t_is_word
  simp [e, nd]
  cases v with
  | str x =>
    have hx := hl x rfl
    simp
    refine ⟨by omega, ?_⟩
    by_cases h1 : 1 ≤ x.length
    · by_cases h2 : x.length ≤ 12
      · have h1' : (1 : Int) ≤ x.length := by omega
        have h2' : (x.length : Int) ≤ 12 := by omega
        simp [h1', h2']
        refine comp_pure (xs := signsD x) (fun k z => by simpa using z) (by simp) (by rw [signs_len]; omega) (fun x => some (.bool (signB x))) (fun d m s k z => ?_) ?_
        · unfold signsD at m
          obtain ⟨c, _, rfl⟩ := List.mem_map.mp m
          simp
          simpa [signB, letterB] using z
        · rw [fm_some]
          show fAll [.list _] _
          rw [q_all, boolsV_map, signs_all]
          simpa [wordB, h1, h2] using q
      · have h1' : (1 : Int) ≤ x.length := by omega
        have h2' : ¬ (x.length : Int) ≤ 12 := by omega
        simp [h1', h2']
        simpa [wordB, h1, h2] using q
    · have h1' : ¬ (1 : Int) ≤ x.length := by omega
      simp [h1']
      simpa [wordB, h1] using q
  | dict _ => exact nd.elim
  | _ => simpa [wordB] using q
theorem p_L_is_word (h : S_is_word ds s Q) : t_L_is_word (retE Q) (startR 2 ds) s := by
  obtain ⟨v, rfl, nd, hl, q⟩ := h
  have e : startR 2 [v] = [.fz v, .un] := rfl
  have hs : 100000 ≤ sizeLine := by decide
  unfold t_L_is_word
  simp [e, nd]
  cases v with
  | str x =>
    have hx := hl x rfl
    simp
    refine ⟨by omega, ?_⟩
    by_cases h1 : 1 ≤ x.length
    · by_cases h2 : x.length ≤ 12
      · have h1' : ¬ (x.length : Int) < 1 := by omega
        have h2' : ¬ (12 : Int) < x.length := by omega
        have h3 : ¬ x.length = 0 := by omega
        simp [h1', h2', h3]
        refine ⟨by omega, ?_⟩
        refine comp_pure (xs := signsD x) (fun k z => by simpa using z) (by simp) (by rw [signs_len]; omega) (fun d => if (!signB d) = true then some d else none) (fun d m s k z => ?_) ?_
        · unfold signsD at m
          obtain ⟨c, _, rfl⟩ := List.mem_map.mp m
          simp
          by_cases hc : letterB c = true
          · have hc' : c ∈ (Str.ofString "abcdefghijklmnopqrstuvwxyz").cps := Array.mem_toList_iff.mp (of_decide_eq_true hc)
            simpa [signB, hc, hc'] using z
          · have hc' : ¬ c ∈ (Str.ofString "abcdefghijklmnopqrstuvwxyz").cps := fun z => hc (decide_eq_true (Array.mem_toList_iff.mpr z))
            simpa [signB, hc, hc'] using z
        · rw [fm_if]
          simp
          have qq : decide ((((List.filter (fun x => !signB x) (signsD x)).length : Nat) : Int) = 0) = wordB (.str x) := by
            rw [Bool.eq_iff_iff, decide_eq_true_eq]
            rw [wordB, decide_eq_true h1, decide_eq_true h2, ← signs_all]
            simp [List.filter_eq_nil_iff]
          simpa [← qq] using q
      · have h1' : ¬ (x.length : Int) < 1 := by omega
        have h2' : (12 : Int) < x.length := by omega
        have h3 : ¬ x.length = 0 := by omega
        simp [h1', h2', h3]
        exact ⟨by omega, by simpa [wordB, h1, h2] using q⟩
    · have h1' : (x.length : Int) < 1 := by omega
      simp [h1']
      simpa [wordB, h1] using q
  | dict _ => exact nd.elim
  | _ => simpa [wordB] using q
end
end Dl
namespace Dl
open PySem L2 PySem.W
def bpstW : List Str := [Str.ofString "b", Str.ofString "p", Str.ofString "s", Str.ofString "t"]
theorem bpst_asc : WAsc bpstW := by
  have h : bpstW.Pairwise fun x y => decide (x.cps.toList < y.cps.toList) = true := by decide +kernel
  exact h.imp fun {x y} r => by unfold wlt; rw [dataLt_str]; exact r
theorem All2.imp {α β : Type} {R S : α → β → Prop} (i : ∀ a b, R a b → S a b) {xs : List α} {ys : List β} (h : All2 R xs ys) : All2 S xs ys := by
  induction h with
  | nil => exact .nil
  | cons r t ih => exact .cons (i _ _ r) ih
end Dl
namespace Dl
open PySem L2
abbrev FI (A : Amb) := List D → A.S → (List (Str × D) → A.S → Prop) → Prop
end Dl
namespace Dl
open PySem L2 PySem.Spec PyProof.Rows
abbrev Sto := Addr → V → V → Hp → (Hp → Prop) → Prop
end Dl
namespace Dl
open PySem
def fI (i : Nat) : Nat := 5 * i + 1
end Dl
namespace Dl
open PySem PySem.SetTable
def wk (t : SetTable) : Nat → Probe → Probe
  | 0, p => p
  | n + 1, p => wk t n (t.advance p)
def blk (M i q : Nat) (d : Option Nat) : Probe := { j := i, more := runEnd M i - i, i, perturb := q, dummy := d }
end Dl
namespace Dl
open PySem PySem.SetTable L2
def way (M : Nat) (h : Int) (n : Nat) : Nat := (wk { mask := M, place := #[], dummies := #[], finger := 0, led := true, moves := 0, plain := true } n (probeStart { mask := M, place := #[], dummies := #[], finger := 0, led := true, moves := 0, plain := true } h)).j
end Dl
namespace Dl
open PySem PySem.Spec PyProof.Rows L2
section
variable {P : Program} {w : World} {A : Around} {E : Value → Shared → Prop} {s : Shared}
abbrev TRow := Addr × List Key
variable {a : Addr} {L : List TRow} {es : Array (Int × Value)} {ep : Nat} {t : SetTable}
end
end Dl
namespace Dl
open PySem L2
theorem ints_of {X : List D} (h : ∀ d ∈ X, d = .int (numD d)) : X = intsD (X.map numD) := by
  unfold intsD
  rw [List.map_map]
  have e : X.map (PyData.int ∘ numD) = X.map id := List.map_congr_left fun d m => (h d m).symm
  rw [e, List.map_id]
end Dl
namespace Dl
open PySem L2
structure TV where
  st : Int
  ls : List Lead
  rg : List (List Int)
  bk : List (Bool × Bool × Nat)
end Dl
namespace Dl
open PySem L2 PySem.Spec PyProof.Rows
def DkAt (F H : Hp) (x : Addr) (kvs : List (Key × D)) : Prop := ∃ kv : List (Key × V), H x = some (.dK kv) ∧ kv.map (·.1) = kvs.map (·.1) ∧ ∀ K, RpL K F (kv.map (·.2)) (kvs.map (·.2))
def LsAt (F H : Hp) (x : Addr) (ds : List D) : Prop := ∃ xs : List V, H x = some (.lst xs) ∧ ∀ K, RpL K F xs ds
structure SnS where
  tp : Addr
  ap : Addr
  ar : Addr
  ab : Addr
  pieces : List (Key × D)
  rung : List D
  book : List D
def SnS.ad (z : SnS) : List Addr := [z.ap, z.ar, z.ab]
def SnOk (F H : Hp) (z : SnS) : Prop := (∃ ob : Obj, ob.dict = none ∧ F z.tp = some (.frz ob (.tup [.ref z.ap, .ref z.ar, .ref z.ab]))) ∧ DkAt F H z.ap z.pieces ∧ LsAt F H z.ar z.rung ∧ LsAt F H z.ab z.book
inductive Fd where
  | v (d : D)
  | dk (x : Addr) (kvs : List (Key × D))
  | ls (x : Addr) (ds : List D)
  | ps (x : Addr) (sn : List SnS)
def Fd.ad : Fd → List Addr
  | .v _ => []
  | .dk x _ => [x]
  | .ls x _ => [x]
  | .ps x sn => x :: sn.flatMap SnS.ad
def FdOk (F H : Hp) : Fd → V → Prop
  | .v d, u => ∀ K, Rp K F u d
  | .dk x kvs, u => u = .ref x ∧ DkAt F H x kvs
  | .ls x ds, u => u = .ref x ∧ LsAt F H x ds
  | .ps x sn, u => u = .ref x ∧ H x = some (.lst (sn.map fun z => .ref z.tp)) ∧ ∀ z ∈ sn, SnOk F H z
theorem DkAt.stay {F F' H H' : Hp} {x : Addr} {kvs : List (Key × D)} (h : DkAt F H x kvs) (le : Hle F F') (e : H' x = H x) : DkAt F' H' x kvs := by
  obtain ⟨kv, h1, h2, h3⟩ := h
  exact ⟨kv, e.trans h1, h2, fun K => (h3 K).mono le⟩
theorem LsAt.stay {F F' H H' : Hp} {x : Addr} {ds : List D} (h : LsAt F H x ds) (le : Hle F F') (e : H' x = H x) : LsAt F' H' x ds := by
  obtain ⟨xs, h1, h3⟩ := h
  exact ⟨xs, e.trans h1, fun K => (h3 K).mono le⟩
theorem SnOk.stay {F F' H H' : Hp} {z : SnS} (h : SnOk F H z) (le : Hle F F') (e : ∀ b ∈ z.ad, H' b = H b) : SnOk F' H' z := by
  obtain ⟨⟨ob, h0, h1⟩, h2, h3, h4⟩ := h
  exact ⟨⟨ob, h0, le _ _ h1⟩, h2.stay le (e _ (by simp [SnS.ad])), h3.stay le (e _ (by simp [SnS.ad])), h4.stay le (e _ (by simp [SnS.ad]))⟩
theorem FdOk.stay {F F' H H' : Hp} {f : Fd} {u : V} (h : FdOk F H f u) (le : Hle F F') (e : ∀ b ∈ f.ad, H' b = H b) : FdOk F' H' f u := by
  cases f with
  | v d => exact fun K => (h K).mono le
  | dk x kvs => exact ⟨h.1, h.2.stay le (e _ (by simp [Fd.ad]))⟩
  | ls x ds => exact ⟨h.1, h.2.stay le (e _ (by simp [Fd.ad]))⟩
  | ps x sn =>
    obtain ⟨h1, h2, h3⟩ := h
    refine ⟨h1, (e _ (by simp [Fd.ad])).trans h2, fun z m => (h3 z m).stay le fun b hb => e b ?_⟩
    exact List.mem_cons_of_mem _ (List.mem_flatMap.mpr ⟨z, m, hb⟩)
theorem FdOk.dom {F H : Hp} {f : Fd} {u : V} (h : FdOk F H f u) : ∀ b ∈ f.ad, ∃ o, H b = some o := fun b m => by
  cases f with
  | v d => cases m
  | dk x kvs =>
    rw [List.mem_singleton.mp m]
    obtain ⟨kv, h1, _⟩ := h.2
    exact ⟨_, h1⟩
  | ls x ds =>
    rw [List.mem_singleton.mp m]
    obtain ⟨kv, h1, _⟩ := h.2
    exact ⟨_, h1⟩
  | ps x sn =>
    obtain ⟨_, h2, h3⟩ := h
    rcases List.mem_cons.mp m with rfl | m
    · exact ⟨_, h2⟩
    · obtain ⟨z, mz, hb⟩ := List.mem_flatMap.mp m
      obtain ⟨_, ⟨k1, e1, _⟩, ⟨k2, e2, _⟩, ⟨k3, e3, _⟩⟩ := h3 z mz
      simp only [SnS.ad, List.mem_cons, List.not_mem_nil, or_false] at hb
      rcases hb with rfl | rfl | rfl
      · exact ⟨_, e1⟩
      · exact ⟨_, e2⟩
      · exact ⟨_, e3⟩
structure InS where
  t : Addr
  C : Addr
  dx : Addr
  fs : List (Str × Fd)
def adF (fs : List (Str × Fd)) : List Addr := fs.flatMap fun p => p.2.ad
def InS.ad (I : InS) : List Addr := I.t :: adF I.fs
inductive FsOk (F H : Hp) : List (Str × Fd) → List (Str × V) → Prop
  | nil : FsOk F H [] []
  | cons {x : Str} {f : Fd} {u : V} {fs : List (Str × Fd)} {vs : List (Str × V)} : FdOk F H f u → FsOk F H fs vs → FsOk F H ((x, f) :: fs) ((x, u) :: vs)
theorem FsOk.stay {F F' H H' : Hp} : ∀ {fs : List (Str × Fd)} {vs : List (Str × V)}, FsOk F H fs vs → Hle F F' → (∀ b ∈ adF fs, H' b = H b) → FsOk F' H' fs vs
  | _, _, .nil, _, _ => .nil
  | _, _, .cons h t, le, e => .cons (h.stay le fun b m => e b (List.mem_append_left _ m)) (t.stay le fun b m => e b (List.mem_append_right _ m))
theorem FsOk.dom {F H : Hp} : ∀ {fs : List (Str × Fd)} {vs : List (Str × V)}, FsOk F H fs vs → ∀ b ∈ adF fs, ∃ o, H b = some o
  | _, _, .nil, b, m => by cases m
  | _, _, .cons h t, b, m => by
    rcases List.mem_append.mp m with m | m
    · exact h.dom b m
    · exact t.dom b m
theorem FsOk.len {F H : Hp} : ∀ {fs : List (Str × Fd)} {vs : List (Str × V)}, FsOk F H fs vs → vs.length = fs.length
  | _, _, .nil => rfl
  | _, _, .cons _ t => congrArg (· + 1) t.len
theorem FsOk.none {F H : Hp} {x : Str} : ∀ {fs : List (Str × Fd)} {vs : List (Str × V)}, FsOk F H fs vs → fs.lookup x = Option.none → vs.lookup x = Option.none
  | _, _, .nil, _ => rfl
  | _, _, .cons (x := y) h t, e => by
    rw [List.lookup_cons] at e ⊢
    split at e
    · cases e
    · next c => exact t.none e
def setF (x : Str) (f : Fd) : List (Str × Fd) → List (Str × Fd)
  | [] => [(x, f)]
  | (y, g) :: r => if y = x then (x, f) :: r else (y, g) :: setF x f r
theorem FsOk.set {F F' H H' : Hp} {x : Str} {f : Fd} {u : V} (hf : FdOk F' H' f u) (le : Hle F F') : ∀ {fs : List (Str × Fd)} {vs : List (Str × V)}, FsOk F H fs vs → (∀ y g, (y, g) ∈ fs → y ≠ x → ∀ b ∈ g.ad, H' b = H b) → (fs.map (·.1)).Nodup → FsOk F' H' (setF x f fs) (putF x u vs)
  | _, _, .nil, _, _ => .cons hf .nil
  | _, _, .cons (x := y) (f := g) (u := w) h t, e, nd => by
    rw [List.map_cons, List.nodup_cons] at nd
    rw [setF, putF]
    by_cases c : y = x
    · subst c
      rw [if_pos rfl, if_pos rfl]
      refine .cons hf (t.stay le fun b m => ?_)
      obtain ⟨p, mp, hb⟩ := List.mem_flatMap.mp m
      exact e p.1 p.2 (List.mem_cons_of_mem _ mp) (fun z => nd.1 (List.mem_map.mpr ⟨p, mp, z⟩)) b hb
    · rw [if_neg c, if_neg c]
      exact .cons (h.stay le fun b m => e y g (List.mem_cons_self ..) c b m) (t.set hf le (fun y' g' m => e y' g' (List.mem_cons_of_mem _ m)) nd.2)
def insφ (I : InS) (F H : Hp) : Prop := I.ad.Nodup ∧ (I.fs.map (·.1)).Nodup ∧ ∃ vs, H I.t = some (.ins I.C I.dx vs) ∧ FsOk F H I.fs vs
def insE (I : InS) : ExS where
  ad := I.ad
  φ := insφ I
  dom := fun {F H b} ⟨_, _, vs, h1, h2⟩ m => by
    rcases List.mem_cons.mp m with rfl | m
    · exact ⟨_, h1⟩
    · exact h2.dom b m
  stay := fun ⟨n1, n2, vs, h1, h2⟩ le e => ⟨n1, n2, vs, (e _ (List.mem_cons_self ..)).trans h1, h2.stay le fun b m => e b (List.mem_cons_of_mem _ m)⟩
abbrev inS {a : Addr} (I : InS) : (poolA a).S := KnS.ex (insE I)
section
variable {a : Addr} {K : PySem.W.Frag} {N : Ent} {σ : L2.St} {H H2 : Hp} {ρ : Rho} {O : Addr → Prop} {E E' : ExS}
theorem Rel.ex_at (R : Rel (poolA a) K N (KnS.ex E) σ H ρ O) : E.φ (fzP H (Px N σ ρ O)) H := by
  obtain ⟨p, hp, k1, k2, k3, k4⟩ := R.amb
  exact k4
end
end Dl
namespace Dl
open PySem L2 PySem.Spec PyProof.Rows
section
variable {a : Addr} {K : PySem.W.Frag} {N : Ent} {σ : L2.St} {H : Hp} {ρ : Rho} {O : Addr → Prop} {I : InS} {f : Str} {fd fd' : Fd} {i : Nat}
theorem Rel.slot_ref (R : Rel (poolA a) K N (inS I) σ H ρ O) {t : Addr} (e : ρ[i]? = some (.fz (refD t))) : σ[i]? = some (some (.ref t)) := by
  obtain ⟨v, ev, v', rfl, rv⟩ := R.slot e
  rw [rv.ref_of] at ev
  exact ev
end
end Dl
namespace Dl
open PySem L2 PySem.Spec PyProof.Rows
structure TwD where
  st : Int
  kvs : List (Key × D)
  rung : List D
  book : List D
  sn : List SnS
  xa : Addr
  xr : Addr
  xb : Addr
  xq : Addr
end Dl
namespace Dl
open PySem L2 PySem.Spec PyProof.Rows
section
variable {a : Addr} {X : Cx} {N : Ent} {e o : Expr} {es : List Expr} {p pos apos : Pos} {tL : DA (poolA a)} {C : Addr} {m : Str} {i : Nat} {L : List Str} {W : DXW (poolA a)} {ρ : Rho} {s : (poolA a).S} {Q : D → (poolA a).S → Prop}
theorem Rel.here {K : PySem.W.Frag} {σ : L2.St} {H : Hp} {O : Addr → Prop} {I : InS} (R : Rel (poolA a) K N (inS I) σ H ρ O) (ei : ρ[i]? = some (.fz (refD I.t))) (ln : I.fs.lookup m = none) : ∃ vs : List (Str × V), σ[i]? = some (some (.ref I.t)) ∧ H I.t = some (.ins I.C I.dx vs) ∧ vs.lookup m = none := by
  obtain ⟨_, _, vs, hI, fo⟩ := R.ex_at
  exact ⟨vs, R.slot_ref ei, hI, fo.none ln⟩
end
end Dl
namespace Dl
open PySem L2 PySem.Spec PyProof.Rows PySem.W
section
variable {A : Amb} {X : Cx} {N : Ent} {c e o : Expr} {te : DE A} {p pos : Pos} {i : Nat} {ρ : Rho} {s : A.S}
theorem XAO.of {F : Hp} {a : Addr} {kv : List XRow} {kvs : List (List Key × D)} (ne : kvs ≠ []) (h : XAO F a kv ∨ (kv = [] ∧ F a = some (.dK []))) (e : kv.map (·.1) = kvs.map (·.1)) : XAO F a kv := by
  rcases h with h | ⟨z, _⟩
  · exact h
  · subst z
    cases kvs with
    | nil => exact (ne rfl).elim
    | cons _ _ => cases e
end
end Dl
namespace Dl
open PySem L2 PyProof.Rows PySem.Spec
@[reducible] def ambE (A : Amb) (o : Option Addr) : Amb where
  S := A.S
  at_ := fun s O F H => A.at_ s O F H ∧ ∀ a, o = some a → XAO F a []
  dom := fun h z => A.dom h.1 z
  stay := fun h le k => ⟨A.stay h.1 le k, fun a e => (h.2 a e).mono le⟩
end Dl
namespace Dl
open PySem L2 PyProof.Rows PySem.Spec
def FzK (F : Hp) (a : Addr) (kvs : List (Key × D)) : Prop := ∃ (ob : Obj) (kv : List (Key × V)), F a = some (.frz ob (.dK kv)) ∧ kv.map (·.1) = kvs.map (·.1) ∧ ∀ K, RpL K F (kv.map (·.2)) (kvs.map (·.2))
theorem FzK.mono {F F' : Hp} {a : Addr} {kvs : List (Key × D)} (h : FzK F a kvs) (le : Hle F F') : FzK F' a kvs := let ⟨ob, kv, e, m, r⟩ := h; ⟨ob, kv, le _ _ e, m, fun K => (r K).mono le⟩
@[reducible] def ambF (A : Amb) (a : Addr) (kvs : List (Key × D)) : Amb where
  S := A.S
  at_ := fun s O F H => A.at_ s O F H ∧ FzK F a kvs
  dom := fun h z => A.dom h.1 z
  stay := fun h le k => ⟨A.stay h.1 le k, h.2.mono le⟩
end Dl
namespace Dl
open PySem L2
@[simp] theorem at_0 {x : D} {xs : List D} : atI (x :: xs) 0 = some x := atI_nat (j := 0) rfl
@[simp] theorem at_1 {x y : D} {xs : List D} : atI (x :: y :: xs) 1 = some y := atI_nat (j := 1) rfl
@[simp] theorem at_2 {x y z : D} {xs : List D} : atI (x :: y :: z :: xs) 2 = some z := atI_nat (j := 2) rfl
@[simp] theorem at_3 {x y z u : D} {xs : List D} : atI (x :: y :: z :: u :: xs) 3 = some u := atI_nat (j := 3) rfl
end Dl
namespace Dl
open PySem L2 PySem.W
def capI : Nat → Int
  | 0 => 0
  | r + 1 => 26 * capI r + 26
theorem abc_at3 {i : Int} (h0 : 0 ≤ i) (h1 : i < 26) : ∃ c : Nat, atS (Str.ofString "abcdefghijklmnopqrstuvwxyz") i = some ⟨#[c]⟩ ∧ (c : Int) = 97 + i ∧ c < 128 ∧ letterB c = true := by
  have all : ∀ k : Fin 26, atS (Str.ofString "abcdefghijklmnopqrstuvwxyz") ((k : Nat) : Int) = some ⟨#[97 + (k : Nat)]⟩ ∧ letterB (97 + (k : Nat)) = true := by decide +kernel
  have := all ⟨i.toNat, by omega⟩
  dsimp only at this
  rw [show ((i.toNat : Nat) : Int) = i by omega] at this
  exact ⟨97 + i.toNat, this.1, by omega, by omega, this.2⟩
section
variable {A : Amb} {ds : List D} {s : A.S} {Q : D → A.S → Prop}
def S_L_spelled3 : FS A := fun ds s Q => ∃ n : Int, ds = [.int n] ∧ 1 ≤ n ∧ n ≤ capI 12 ∧ ∀ x, wordOk x → wordB (.str x) = true → valW x.cps.toList = n → Q (.str x) s
def SpI3 (s0 : A.S) (n0 : Int) (n : Nat) (ρ : Rho) (s' : A.S) : Prop := s' = s0 ∧ ∃ (l : Int) (x : Str) (e : Nat), n = l.toNat ∧ PyData.strOk x = true ∧ x.length + e = 12 ∧ l ≤ capI e ∧ 0 ≤ l ∧ (1 ≤ l ∨ 1 ≤ x.length) ∧ x.cps.toList.all letterB = true ∧ l * 26 ^ x.cps.toList.length + valW x.cps.toList = n0 ∧ ρ = [.fz (.int n0), .fz (.str x), .fz (.int l)]
theorem p_L_spelled3 (h : S_L_spelled3 ds s Q) : t_L_spelled (retE Q) (startR 3 ds) s := by
  obtain ⟨n, rfl, hn0, hn, q⟩ := h
  have e : startR 3 [.int n] = [.fz (.int n), .un, .un] := rfl
  have hs : 1000000 ≤ sizeLine := by decide
  have habc : (Str.ofString "abcdefghijklmnopqrstuvwxyz").length = 26 := by decide +kernel
  unfold t_L_spelled
  simp [e]
  have ez : (Str.ofString "").cps.toList = [] := by decide +kernel
  refine while_inv (SpI3 s n) n.toNat ⟨rfl, n, _, 12, rfl, by decide +kernel, by decide +kernel, hn, by omega, .inl hn0, by rw [ez]; rfl, by rw [ez]; simp [valW], rfl⟩ ?_
  rintro m ρ s' ⟨rfl, l, x, e, rfl, hx, hl, lt, l0, h1, ha, hv, rfl⟩
  simp
  by_cases pos : 0 < l
  · simp [pos]
    obtain ⟨c, ec, hc, cs, hlt⟩ := abc_at3 (i := (l - 1) % 26) (by omega) (by omega)
    have e1 : 1 ≤ e := by
      rcases Nat.eq_zero_or_pos e with z | z
      · subst z
        have : capI 0 = 0 := rfl
        omega
      · exact z
    obtain ⟨e', rfl⟩ : ∃ e', e = e' + 1 := ⟨e - 1, by omega⟩
    have ep : capI (e' + 1) = 26 * capI e' + 26 := rfl
    rw [ec]
    simp
    have l1 : (⟨#[c]⟩ : Str).length = 1 := rfl
    have ecp : ((⟨#[c]⟩ : Str) ++ x).cps.toList = c :: x.cps.toList := by
      show ((⟨#[c]⟩ : Str).cps ++ x.cps).toList = _
      rw [Array.toList_append]
      rfl
    refine ⟨by rw [habc]; omega, by rw [l1]; omega, ⟨by omega, by omega⟩, ((l - 1) / 26).toNat, by omega, rfl, (l - 1) / 26, _, e', rfl, ?_, ?_, ?_, by omega, .inr ?_, ?_, ?_, rfl⟩
    · refine strOk_append (strOk_iff.mpr fun d m => ?_) hx
      have : d = c := by simpa using m
      omega
    · rw [len_append, l1]; omega
    · rw [ep] at lt
      omega
    · rw [len_append, l1]; omega
    · rw [ecp, List.all_cons, hlt, ha]
      rfl
    · rw [ecp, valW, List.length_cons, Int.pow_succ, hc]
      generalize (26 : Int) ^ x.cps.toList.length = P at hv ⊢
      have e1 : (l - 1) / 26 * (P * 26) + ((97 + (l - 1) % 26 - 96) * P + valW x.cps.toList) = (26 * ((l - 1) / 26) + ((l - 1) % 26 + 1)) * P + valW x.cps.toList := by
        rw [show (97 + (l - 1) % 26 - 96 : Int) = (l - 1) % 26 + 1 by omega, Int.add_mul, ← Int.add_assoc]
        congr 1
        rw [Int.add_mul (26 * ((l - 1) / 26)), Int.add_mul ((l - 1) % 26), Int.mul_comm 26 ((l - 1) / 26), Int.mul_assoc, Int.mul_comm P 26]
      rw [e1, show 26 * ((l - 1) / 26) + ((l - 1) % 26 + 1) = l by omega]
      exact hv
  · simp [pos]
    have : l = 0 := by omega
    subst this
    have hw : wordB (.str x) = true := by
      have x1 : 1 ≤ x.length := by omega
      have x12 : x.length ≤ 12 := by omega
      simp only [wordB, x1, x12, ha, decide_true, Bool.and_self]
    exact q _ ⟨hx, by omega⟩ hw (by simpa using hv)
end
end Dl
namespace Dl
open PySem L2
def pairW : D → Bool
  | .tuple [a, _] => wordB a
  | _ => false
def headS : D → Str
  | .tuple (.str x :: _) => x
  | _ => ⟨#[]⟩
def sndD : D → D
  | .tuple [_, b] => b
  | _ => .none
def bookB (st : Int) : D → Bool
  | .tuple xs => decide (1 ≤ xs.length) && decide (xs.length ≤ 4) && (xs.all pairW && (adjS (xs.map headS) && xs.all fun p => pieceB st (sndD p)))
  | _ => false
theorem pairW_of {p : D} (h : pairW p = true) : ∃ x b, p = .tuple [.str x, b] ∧ wordB (.str x) = true := by
  unfold pairW at h
  split at h
  · next a b =>
    cases a with
    | str x => exact ⟨x, b, rfl, h⟩
    | _ => simp [wordB] at h
  · simp at h
def triedB (v : D) : Prop := notDict v ∧ ∀ xs, v = .tuple xs → ∀ p ∈ xs, notDict p ∧ ∀ ys, p = .tuple ys → ∀ y ∈ ys, notDict y ∧ itemsOk y ∧ ∀ x, y = .str x → x.length ≤ 10000
section
variable {A : Amb} {ds : List D} {s : A.S} {Q : D → A.S → Prop}
def S_is_book : FS A := fun ds s Q => ∃ (st : Int) (v : D), ds = [.int st, v] ∧ triedB v ∧ Q (.bool (bookB st v)) s
theorem p_is_book (h : S_is_book ds s Q) : t_is_book S_is_ascending S_is_piece S_is_word (retE Q) (startR 3 ds) s := by
  obtain ⟨st, v, rfl, ⟨nd, ok⟩, q⟩ := h
  have e : startR 3 [.int st, v] = [.fz (.int st), .fz v, .un] := rfl
  have hs : 100000 ≤ sizeLine := by decide
  unfold t_is_book
  simp [e, nd]
  cases v with
  | tuple xs =>
    have ok := ok xs rfl
    simp
    by_cases h1 : 1 ≤ xs.length
    · by_cases h2 : xs.length ≤ 4
      · have h1' : (1 : Int) ≤ xs.length := by omega
        have h2' : (xs.length : Int) ≤ 4 := by omega
        simp [h1', h2']
        refine comp_pure (xs := xs) (fun k z => by simpa using z) (by simp) (by omega) (fun x => some (.bool (pairW x))) (fun p m s k z => ?_) ?_
        · obtain ⟨np, okp⟩ := ok p m
          simp [np]
          cases p with
          | tuple ys =>
            simp
            have okp := okp ys rfl
            match ys, okp with
            | [], _ => simpa [pairW] using z
            | [a], _ => simpa [pairW] using z
            | [a, b], okp =>
              have oa := okp a (by simp)
              have e0 : atI [a, b] (0 : Int) = some a := rfl
              simp [e0]
              exact ⟨a, rfl, oa.1, oa.2.2, by simpa [pairW] using z⟩
            | a :: b :: c :: r, _ =>
              have : ¬ ((r.length : Int) + 1 + 1 + 1 = 2) := by omega
              simp [this]
              simpa [pairW] using z
          | dict _ => exact np.elim
          | _ => simpa [pairW] using z
        · rw [fm_some]
          simp
          by_cases hw : xs.all pairW = true
          · have hw2 : (xs.map pairW).all id = true := by rw [List.all_map]; exact hw
            have hw3 : ∀ x ∈ xs, pairW x = true := List.all_eq_true.mp hw
            have hw4 : ¬ ∃ x, x ∈ xs ∧ pairW x = false := fun ⟨x, m, z⟩ => by rw [hw3 x m] at z; cases z
            try simp only [hw4, if_false]
            refine comp_pure (xs := xs) (fun k z => by simpa using z) (by simp) (by omega) (fun p => some (.str (headS p))) (fun p m s k z => ?_) ?_
            · obtain ⟨x, b, rfl, _⟩ := pairW_of (hw3 p m)
              have e0 : atI [PyData.str x, b] (0 : Int) = some (.str x) := rfl
              simp [e0]
              exact z
            · rw [fm_some]
              refine .inr ⟨xs.map headS, by rw [List.map_map]; rfl, by rw [List.length_map]; omega, ?_⟩
              have qq : Q (.bool (adjS (xs.map headS) && xs.all fun p => pieceB st (sndD p))) s := by
                have e : bookB st (.tuple xs) = (adjS (xs.map headS) && xs.all fun p => pieceB st (sndD p)) := by
                  rw [bookB, hw, decide_eq_true h1, decide_eq_true h2]
                  rfl
                rw [← e]
                exact q
              cases ha : adjS (xs.map headS) with
              | false => simpa [ha] using qq
              | true =>
                simp
                refine comp_pure (xs := xs) (fun k z => by simpa using z) (by simp) (by omega) (fun p => some (.bool (pieceB st (sndD p)))) (fun p m s k z => ?_) ?_
                · obtain ⟨np, okp⟩ := ok p m
                  obtain ⟨x, b, rfl, _⟩ := pairW_of (hw3 p m)
                  have ob := okp _ rfl b (by simp)
                  have e0 : atI [PyData.str x, b] (1 : Int) = some b := rfl
                  simp [e0]
                  exact ⟨st, b, rfl, ob.1, ob.2.1, z⟩
                · rw [fm_some]
                  show fAll [.list _] _
                  rw [q_all, boolsV_map, List.all_map]
                  simpa [ha] using qq
          · have hw2 : ∃ x, x ∈ xs ∧ pairW x = false := by simpa using hw
            have hw3 : xs.all pairW = false := by simpa using hw
            simp only [hw2, if_true]
            have e : bookB st (.tuple xs) = false := by rw [bookB, hw3]; simp
            rw [e] at q
            exact q
      · have h1' : (1 : Int) ≤ xs.length := by omega
        have h2' : ¬ (xs.length : Int) ≤ 4 := by omega
        simp [h1', h2']
        simpa [bookB, h1, h2] using q
    · have h1' : ¬ (1 : Int) ≤ xs.length := by omega
      simp [h1']
      simpa [bookB, h1] using q
  | dict _ => exact nd.elim
  | _ => simpa [bookB] using q
end
end Dl
namespace Dl
open PySem L2
abbrev valN (l : List Nat) : Nat := NumText.digitsVal l
def decS (n : Nat) : Str := Str.ofString (toString ((n : Nat) : Int))
theorem dec_list (n : Nat) : (decS n).cps.toList = (Nat.toDigits 10 n).map Char.toNat := PySem.W.KIN.signs_num n
theorem rev_ind {P : List Nat → Prop} (h0 : P []) (h1 : ∀ l c, P l → P (l ++ [c])) (l : List Nat) : P l := by
  have : ∀ l : List Nat, P l.reverse := fun l => by
    induction l with
    | nil => exact h0
    | cons c l ih => rw [List.reverse_cons]; exact h1 _ _ ih
  have := this l.reverse
  rwa [List.reverse_reverse] at this
theorem val_snoc (l : List Nat) (c : Nat) : valN (l ++ [c]) = valN l * 10 + (c - 48) := by
  unfold valN NumText.digitsVal
  rw [List.foldl_append]
  rfl
theorem dig_char {d : Nat} (h : d < 10) : (Nat.digitChar d).toNat = 48 + d := by
  have : ∀ k : Fin 10, (Nat.digitChar (k : Nat)).toNat = 48 + (k : Nat) := by decide
  exact this ⟨d, h⟩
def leadOk (l : List Nat) : Prop := l.length = 1 ∨ l.head? ≠ some 48
instance {l : List Nat} : Decidable (leadOk l) := by unfold leadOk; infer_instance
theorem val_pos : ∀ {l : List Nat}, (∀ c ∈ l, digN c) → l ≠ [] → l.head? ≠ some 48 → 0 < valN l := by
  intro l
  induction l using rev_ind with
  | h0 => intro _ h; exact (h rfl).elim
  | h1 l c ih =>
    intro hd _ hh
    rw [val_snoc]
    have hc := hd c (by simp)
    unfold digN at hc
    cases l with
    | nil =>
      have : c ≠ 48 := fun z => hh (by rw [z]; rfl)
      show 0 < 0 * 10 + (c - 48)
      omega
    | cons a l =>
      have := ih (fun x m => hd x (List.mem_append_left _ m)) (by simp) (by simpa using hh)
      omega
theorem dec_val : ∀ {l : List Nat}, (∀ c ∈ l, digN c) → l ≠ [] → leadOk l → (Nat.toDigits 10 (valN l)).map Char.toNat = l := by
  intro l
  induction l using rev_ind with
  | h0 => intro _ h; exact (h rfl).elim
  | h1 l c ih =>
    intro hd _ hl
    rw [val_snoc]
    have hc := hd c (by simp)
    unfold digN at hc
    cases l with
    | nil =>
      show (Nat.toDigits 10 (0 * 10 + (c - 48))).map Char.toNat = [c]
      rw [Nat.toDigits_of_lt_base (by omega), List.map_singleton, dig_char (by omega)]
      congr 1
      omega
    | cons a l =>
      have hh : (a :: l).head? ≠ some 48 := by
        rcases hl with z | z
        · simp at z
        · simpa using z
      have pos := val_pos (fun x m => hd x (List.mem_append_left _ m)) (by simp) hh
      rw [show valN (a :: l) * 10 + (c - 48) = 10 * valN (a :: l) + (c - 48) by omega, ← Nat.toDigits_append_toDigits (by decide) pos (by omega), List.map_append, ih (fun x m => hd x (List.mem_append_left _ m)) (by simp) (.inr hh), Nat.toDigits_of_lt_base (by omega), List.map_singleton, dig_char (by omega)]
      congr 2
      omega
theorem toDigits_head : ∀ (n : Nat), 0 < n → ((Nat.toDigits 10 n).map Char.toNat).head? ≠ some 48 := by
  intro n
  induction n using Nat.strongRecOn with
  | ind n ih =>
    intro h
    by_cases c : n < 10
    · rw [Nat.toDigits_of_lt_base c, List.map_singleton, dig_char c]
      simp
      omega
    · rw [Nat.toDigits_of_base_le (by decide) (by omega), List.map_append]
      have := ih (n / 10) (by omega) (by omega)
      cases e : (Nat.toDigits 10 (n / 10)).map Char.toNat with
      | nil =>
        have z := congrArg List.length e
        have : Nat.toDigits 10 (n / 10) ≠ [] := by
          by_cases c2 : n / 10 < 10
          · rw [Nat.toDigits_of_lt_base c2]; simp
          · rw [Nat.toDigits_of_base_le (by decide) (by omega)]; simp
        rw [List.length_map, List.length_nil] at z
        exact (this (List.length_eq_zero_iff.mp z)).elim
      | cons a l =>
        rw [e] at this
        simpa using this
theorem dec_iff {l : List Nat} (hd : ∀ c ∈ l, digN c) (ne : l ≠ []) : decS (valN l) = tx l ↔ leadOk l := by
  have e1 : decS (valN l) = tx l ↔ (Nat.toDigits 10 (valN l)).map Char.toNat = l := by
    rw [← dec_list]
    constructor
    · intro h; rw [h]; rfl
    · intro h; rw [← tx_list (decS (valN l)), h]
  rw [e1]
  constructor
  · intro h
    by_cases p : 0 < valN l
    · have := toDigits_head _ p
      rw [h] at this
      exact .inr this
    · have : valN l = 0 := by omega
      rw [this] at h
      refine .inl ?_
      rw [← h]
      rfl
  · exact dec_val hd ne
def numL (l : List Nat) : Option Nat := if 1 ≤ l.length ∧ l.length ≤ 10 ∧ (∀ c ∈ l, digN c) ∧ leadOk l then some (valN l) else none
theorem int_val {t : Str} (hd : ∀ c ∈ t.cps.toList, digN c) (h1 : 1 ≤ t.length) (h2 : t.length ≤ 100) : PySem.intText? t = some ((valN t.cps.toList : Nat) : Int) := by
  refine intText_digits hd (fun z => ?_) (by omega)
  have : t.cps.toList.length = t.length := Array.length_toList
  rw [z] at this
  simp at this
  omega
theorem val_bound : ∀ {l : List Nat}, (∀ c ∈ l, digN c) → valN l < 10 ^ l.length := by
  intro l
  induction l using rev_ind with
  | h0 => intro _; decide
  | h1 l c ih =>
    intro hd
    have hc := hd c (by simp)
    unfold digN at hc
    have := ih fun x m => hd x (List.mem_append_left _ m)
    rw [val_snoc, List.length_append, List.length_singleton, Nat.pow_succ]
    omega
def rl : List Str → List (Nat × Str)
  | [] => []
  | w :: r => ((r.takeWhile fun x => decide (x = w)).length + 1, w) :: rl (r.dropWhile fun x => decide (x = w))
termination_by l => l.length
decreasing_by
  rw [List.length_cons]
  have := (List.dropWhile_sublist (fun x => decide (x = w)) (l := r)).length_le
  omega
theorem rl_cut : ∀ {m : Nat} {w : Str} {ws : List Str}, 1 ≤ m → m ≤ ws.length → (∀ i, i < m → ws[i]? = some w) → ws[m]? ≠ some w → rl ws = (m, w) :: rl (ws.drop m) := by
  intro m w ws h1 hm ha hn
  cases ws with
  | nil => simp at hm; omega
  | cons x r =>
    have ex : x = w := by simpa using ha 0 (by omega)
    subst ex
    obtain ⟨k, rfl⟩ : ∃ k, m = k + 1 := ⟨m - 1, by omega⟩
    have tk : ∀ (k : Nat) (r : List Str), k ≤ r.length → (∀ i, i < k → r[i]? = some x) → r[k]? ≠ some x → (r.takeWhile fun y => decide (y = x)).length = k ∧ (r.dropWhile fun y => decide (y = x)) = r.drop k := by
      intro k
      induction k with
      | zero =>
        intro r _ _ hn
        cases r with
        | nil => exact ⟨rfl, rfl⟩
        | cons y r =>
          have : ¬ y = x := fun z => hn (by simp [z])
          simp [List.takeWhile_cons, List.dropWhile_cons, this]
      | succ k ih =>
        intro r hl ha hn
        cases r with
        | nil => simp at hl
        | cons y r =>
          have ey : y = x := by simpa using ha 0 (by omega)
          obtain ⟨i1, i2⟩ := ih r (by simpa using hl) (fun i hi => by have := ha (i + 1) (by omega); simpa using this) (by simpa using hn)
          simp [List.takeWhile_cons, List.dropWhile_cons, ey, i1, i2]
    obtain ⟨t1, t2⟩ := tk k r (by simpa using hm) (fun i hi => by have := ha (i + 1) (by omega); simpa using this) (by simpa using hn)
    rw [rl, t1, t2]
    rfl
def runTx (p : Nat × Str) : Str := if p.1 = 1 then p.2 else decS p.1 ++ "*" ++ p.2
def wT (ws : List Str) : Str := Txt.join " " ((rl ws).map runTx)
def cutL (l : List Nat) : Option (List Nat) × List Nat := if 42 ∈ l then (some (l.takeWhile fun c => decide (c ≠ 42)), (l.dropWhile fun c => decide (c ≠ 42)).drop 1) else (none, l)
def itM (it : Str) : Option (Nat × Str) := match cutL it.cps.toList with
  | (none, _) => if wordB (.str it) = true then some (1, it) else none
  | (some b, w) => match numL b with
    | some n => if n ≤ 200 ∧ wordB (.str (tx w)) = true then some (n, tx w) else none
    | none => none
def allM : List Str → Option (List Str)
  | [] => some []
  | it :: r => match itM it, allM r with
    | some (n, w), some ws => some (List.replicate n w ++ ws)
    | _, _ => none
def readT (t : Str) : Option (List Str) := match allM (Txt.split t " ") with
  | some ws => if 1 ≤ ws.length ∧ ws.length ≤ 200 ∧ wT ws = t then some ws else none
  | none => none
end Dl
namespace Dl
open PySem L2
section
variable {A : Amb} {X : Cx} {N : Ent} {o e : Expr} {te t1 t2 : DE A} {pos apos p p0 p1 p2 pt tpos c0 : Pos} {n0 n1 n2 b : Str} {i0 i1 i2 j kk : Nat} {ρ : Rho} {s : A.S} {D0 : DEnds A} {Q : D → A.S → Prop}
def dPart (i0 i1 i2 : Nat) (te : DE A) (b : Str) : DS A := fun D0 ρ s => te ρ s fun d s1 => ∃ a : Str, d = .str a ∧ a.length ≤ sizeLine ∧ D0.nx (((ρ.set i0 (.fz (.str (Txt.partition a b).1))).set i1 (.fz (.str (Txt.partition a b).2.1))).set i2 (.fz (.str (Txt.partition a b).2.2))) s1
@[simp] theorem q_dPart : dPart i0 i1 i2 te b D0 ρ s = te ρ s fun d s1 => ∃ a : Str, d = .str a ∧ a.length ≤ sizeLine ∧ D0.nx (((ρ.set i0 (.fz (.str (Txt.partition a b).1))).set i1 (.fz (.str (Txt.partition a b).2.1))).set i2 (.fz (.str (Txt.partition a b).2.2))) s1 := rfl
theorem s_part (hc : X.calm = true) (nd : X.N.Nodup) (he : PE X o (liftE A X.K N te)) (hb : (b.length == 0) = false := by rfl)
    (h0 : X.N[i0]? = some n0 := by rfl) (h1 : X.N[i1]? = some n1 := by rfl) (h2 : X.N[i2]? = some n2 := by rfl)
    (g0 : Loc X.env.scope n0 := by first | exact Or.inl rfl | exact Or.inr rfl) (g1 : Loc X.env.scope n1 := by first | exact Or.inl rfl | exact Or.inr rfl) (g2 : Loc X.env.scope n2 := by first | exact Or.inl rfl | exact Or.inr rfl)
    (f0 : X.fn n0 = true ∨ X.env.scope.names.lookup n0 = some .local := by first | exact .inl rfl | exact .inr rfl) (f1 : X.fn n1 = true ∨ X.env.scope.names.lookup n1 = some .local := by first | exact .inl rfl | exact .inr rfl) (f2 : X.fn n2 = true ∨ X.env.scope.names.lookup n2 = some .local := by first | exact .inl rfl | exact .inr rfl)
    (k1 : starEach [.Constant (.str b) j c0] X.env = [(false, eval (.Constant (.str b) j c0) X.env)] := by rfl) (hbase : attributeBase o "partition" X.env (eval o X.env) = eval o X.env := by rfl) (hline : (apos.endLine == p.line) = true := by rfl)
    (hs : swapsWithSole [.Tuple [.Name n0 p0, .Name n1 p1, .Name n2 p2] kk pt] (.Call (.Attribute o "partition" apos) [.Constant (.str b) j c0] [] p) pos.line X.env = pure false := by rfl) (hw : swappedStores [.Tuple [.Name n0 p0, .Name n1 p1, .Name n2 p2] kk pt] (.Call (.Attribute o "partition" apos) [.Constant (.str b) j c0] [] p) X.env = pure none := by rfl) :
    PS X (.Assign [.Tuple [.Name n0 p0, .Name n1 p1, .Name n2 p2] kk pt] (.Call (.Attribute o "partition" apos) [.Constant (.str b) j c0] [] p) pos) (liftS A X.K N (dPart i0 i1 i2 te b)) :=
  s_imp (ps_asg (pe_partition he pe_str k1 hbase hline) (pg_tup hc (pgs_cons (pg_name nd h0 g0 f0) (pgs_cons (pg_name nd h1 g1 f1) (pgs_cons (pg_name nd h2 g2 f2) pgs_nil)))) hs hw) fun D σ H ρ s O Dd R E q =>
    ⟨ρ, s, O, _, R, q, fun d s1 v H1 O1 ⟨a, ed, hl, q1⟩ R1 le1 rx => by
      subst ed
      cases rx
      refine ⟨⟨a, rfl⟩, a, b, rfl, rfl, hb, hl, fun p hp => ?_⟩
      have R2 := R1.alloc (same_upd (o := .tup [.str (Txt.partition a b).1, .str (Txt.partition a b).2.1, .str (Txt.partition a b).2.2]) hp)
      have le2 := R1.fzle (same_upd (o := .tup [.str (Txt.partition a b).1, .str (Txt.partition a b).2.1, .str (Txt.partition a b).2.2]) hp)
      refine ⟨p, _, rfl, .inl (.inl upd_same), rfl, _, _, rfl, _, _, rfl, _, _, rfl, rfl, ?_⟩
      obtain ⟨R3, le3⟩ := R2.setFz (i := i0) (c := .fz (.str (Txt.partition a b).1)) (fun z => z) ⟨_, rfl, .str _⟩
      obtain ⟨R4, le4⟩ := R3.setFz (i := i1) (c := .fz (.str (Txt.partition a b).2.1)) (fun z => z) ⟨_, rfl, .str _⟩
      obtain ⟨R5, le5⟩ := R4.setFz (i := i2) (c := .fz (.str (Txt.partition a b).2.2)) (fun z => z) ⟨_, rfl, .str _⟩
      exact E.nx _ _ _ _ _ R5 ((((le1.trans le2).trans le3).trans le4).trans le5) q1⟩
def dSIdx (te : DE A) (b : Str) : DE A := fun ρ s Q => te ρ s fun d s1 => ∃ (a : Str) (i : Nat) (rest : List Nat), d = .str a ∧ Builtin.Str.occurrences a b 0 a.length 1 = i :: rest ∧ Q (.int (i : Nat)) s1
@[simp] theorem q_dSIdx : dSIdx te b ρ s Q = te ρ s fun d s1 => ∃ (a : Str) (i : Nat) (rest : List Nat), d = .str a ∧ Builtin.Str.occurrences a b 0 a.length 1 = i :: rest ∧ Q (.int (i : Nat)) s1 := rfl
theorem e_sidx (he : PE X o (liftE A X.K N te)) (k1 : starEach [.Constant (.str b) j c0] X.env = [(false, eval (.Constant (.str b) j c0) X.env)] := by rfl) (hbase : attributeBase o "index" X.env (eval o X.env) = eval o X.env := by rfl) (hline : (apos.endLine == p.line) = true := by rfl) :
    PE X (.Call (.Attribute o "index" apos) [.Constant (.str b) j c0] [] p) (liftE A X.K N (dSIdx te b)) :=
  PE.imp (pe_m1 F.slot_str_index F.type_str_index mt_sindex he pe_str k1 hbase hline) fun σ H Q ⟨ρ, s, O, P, R0, q, k⟩ => ⟨ρ, s, O, _, R0, q, fun d s1 v H1 O1 ⟨a, i, rest, ed, ho, q1⟩ R1 le1 rx => by
    subst ed
    cases rx
    exact ⟨⟨a, rfl⟩, a, b, i, rest, rfl, rfl, ho, k _ s1 _ H1 O1 q1 R1 le1 (.int _)⟩⟩
def fmtV (d : D) (k : Str → Prop) : Prop := match d with
  | .int i => i.natAbs.log2 < 1920 ∧ k (toString i)
  | .str z => z.length ≤ sizeLine ∧ k z
  | _ => False
@[simp] theorem fmtV_int {i : Int} {k : Str → Prop} : fmtV (.int i) k = (i.natAbs.log2 < 1920 ∧ k (toString i)) := rfl
@[simp] theorem fmtV_str {z : Str} {k : Str → Prop} : fmtV (.str z) k = (z.length ≤ sizeLine ∧ k z) := rfl
def dFmt2 (t1 : DE A) (b : Str) (t2 : DE A) : DE A := fun ρ s Q => t1 ρ s fun x s1 => fmtV x fun y => y.length + b.length ≤ sizeLine ∧ t2 ρ s1 fun x2 s2 => fmtV x2 fun z => y.length + b.length + z.length ≤ sizeLine ∧ Q (.str (y ++ b ++ z)) s2
@[simp] theorem q_dFmt2 : dFmt2 t1 b t2 ρ s Q = t1 ρ s fun x s1 => fmtV x fun y => y.length + b.length ≤ sizeLine ∧ t2 ρ s1 fun x2 s2 => fmtV x2 fun z => y.length + b.length + z.length ≤ sizeLine ∧ Q (.str (y ++ b ++ z)) s2 := rfl
theorem empty_cat (y : Str) : Str.empty ++ y = y := by
  show (⟨Str.empty.cps ++ y.cps⟩ : Str) = y
  have : Str.empty.cps = #[] := rfl
  rw [this, Array.empty_append]
theorem len_cat (x y : Str) : (x ++ y).length = x.length + y.length := by
  show (x.cps ++ y.cps).size = _
  rw [Array.size_append]
  rfl
theorem e_fmt2 {e1 e2 : Expr} (h1 : PE X e1 (liftE A X.K N t1)) (h2 : PE X e2 (liftE A X.K N t2)) :
    PE X (.JoinedStr [.FormattedValue e1 (-1) none p0, .Constant (.str b) j c0, .FormattedValue e2 (-1) none p1] p) (liftE A X.K N (dFmt2 t1 b t2)) :=
  PE.imp (pe_joined (.cons (pe_fmt h1) (.cons pe_str (.cons (pe_fmt h2) .nil)))) fun σ H Q ⟨ρ, s, O, P, R0, q, k⟩ => ⟨ρ, s, O, _, R0, q, fun x s1 v H1 O1 q1 R1 le1 rx => by
    have main : ∀ y : Str, (y.length + b.length ≤ sizeLine ∧ t2 ρ s1 fun x2 s2 => fmtV x2 fun z => y.length + b.length + z.length ≤ sizeLine ∧ P (.str (y ++ b ++ z)) s2) → ∃ y', V.str y = .str y' ∧ (Str.empty ++ y').length ≤ sizeLine ∧ tJs [tC (.str b), tFmt (liftE A X.K N t2)] (Str.empty ++ y') σ H1 fun out H1 => Q (.str out) H1 := fun y ⟨l1, q2⟩ => by
      refine ⟨y, rfl, by rw [empty_cat]; omega, ?_⟩
      rw [empty_cat]
      refine ⟨b, rfl, by rw [len_cat]; exact l1, ρ, s1, O1, _, R1, q2, fun x2 s2 v2 H2 O2 q3 R2 le2 rx2 => ?_⟩
      have fin : ∀ z : Str, (y.length + b.length + z.length ≤ sizeLine ∧ P (.str (y ++ b ++ z)) s2) → ∃ z', V.str z = .str z' ∧ (y ++ b ++ z').length ≤ sizeLine ∧ tJs [] (y ++ b ++ z') σ H2 fun out H1 => Q (.str out) H1 := fun z ⟨l2, q4⟩ =>
        ⟨z, rfl, by rw [len_cat, len_cat]; exact l2, k _ s2 _ H2 O2 q4 R2 (le1.trans le2) (.str _)⟩
      unfold fmtV at q3
      split at q3
      · cases rx2
        exact .inr ⟨_, rfl, q3.1, fin _ q3.2⟩
      · cases rx2
        exact .inl ⟨_, rfl, q3.1, fin _ q3.2⟩
      · exact q3.elim
    unfold fmtV at q1
    split at q1
    · cases rx
      exact .inr ⟨_, rfl, q1.1, main _ q1.2⟩
    · cases rx
      exact .inl ⟨_, rfl, q1.1, main _ q1.2⟩
    · exact q1.elim⟩
end
end Dl
namespace Dl
open PySem L2
def t_read_number {A : Amb} (W : DXW A) : DS A :=
  (dSeq (dIfS (dOrT (dNotT (dTest (dChain fLe fLe (dC (.int 1)) (dFn fLen (dCons (dVarB 0) dNil)) (dC (.int 10))))) (dOrT (dNotT (dTest (dFn fAll (dCons (dOfN (nComp (dIt (dVar 0)) (dgN 1) dYes (dOp fIn (dVarB 1) (dC (.str "0123456789"))) [1])) dNil)))) (dTest (dOp fNeU (dFn fStr (dCons (dFn fIntS (dCons (dVarB 0) dNil)) dNil)) (dVarB 0)))))
  (dRaise W "BadText" (dCons (dVar 0) dNil))
  dNx)
  (dRet (dFn fIntS (dCons (dVarB 0) dNil))))
def t_write_touch {A : Amb} : DS A :=
  (dSeq (dSetN 1 (nLst dNil))
  (dSeq (dSet 2 (dC (.int 0)))
  (dSeq (dFor (dRg2 (dCons (dC (.int 1)) (dCons (dOp fAdd (dFn fLen (dCons (dVarB 0) dNil)) (dC (.int 1))) dNil))) (dgN 3)
  (dIfS (dOrT (dTest (dOp fEqU (dVarB 3) (dFn fLen (dCons (dVarB 0) dNil)))) (dTest (dOp fNeU (dOp fIx (dVarB 0) (dVarB 3)) (dOp fIx (dVarB 0) (dVarB 2)))))
  (dSeq (dSet 4 (dOp fSub (dVarB 3) (dVarB 2)))
  (dSeq (dApp 1 (dIf (dTest (dOp fEqU (dVarB 4) (dC (.int 1)))) (dOp fIx (dVarB 0) (dVarB 2)) (dFmt2 (dVar 4) "*" (dOp fIx (dVarB 0) (dVarB 2)))))
  (dSet 2 (dVar 3))))
  dNx))
  (dFrz 1 (dRet (dJoin " " (dVar 1)))))))
def t_read_touch {A : Amb} (W : DXW A) (S_read_number : FX A) (S_is_word : FS A) (S_write_touch : FS A) : DS A :=
  (dSeq (dSetN 1 (nLst dNil))
  (dSeq (dFor (dIt (dSplit (dVar 0) " ")) (dgN 2)
  (dSeq (dPart 3 4 5 (dVar 2) "*")
  (dSeq (dIfS (dTest (dOp fEqU (dVarB 4) (dC (.str ""))))
  (dPar 3 5 (dCons (dC (.str "1")) (dCons (dVar 2) dNil)))
  dNx)
  (dSeq (dIfS (dNotT (dTest (dCall S_is_word (dCons (dVar 5) dNil))))
  (dRaise W "BadText" (dCons (dVar 0) dNil))
  dNx)
  (dSeq (dSet 6 (dCallX W S_read_number (dCons (dVar 3) dNil)))
  (dSeq (dIfS (dTest (dOp fGt (dVarB 6) (dC (.int 200))))
  (dRaise W "BadText" (dCons (dVar 0) dNil))
  dNx)
  (dExt 1 (dOp fMul (dLst (dCons (dVar 5) dNil)) (dVarB 6)))))))))
  (dSeq (dSet 7 (dFn fTuple (dCons (dVarB 1) dNil)))
  (dSeq (dIfS (dOrT (dNotT (dTest (dChain fLe fLe (dC (.int 1)) (dFn fLen (dCons (dVarB 7) dNil)) (dC (.int 200))))) (dTest (dOp fNeU (dCall S_write_touch (dCons (dVar 7) dNil)) (dVarB 0))))
  (dRaise W "BadText" (dCons (dVar 0) dNil))
  dNx)
  (dRet (dVar 7))))))
def t_L_touch_text {A : Amb} : DS A :=
  (dSeq (dSetN 1 (nLst dNil))
  (dSeq (dSet 2 (dOfN (nFn gList (dCons (dVarB 0) dNil))))
  (dSeq (dWhile (dTest (dOp fGt (dFn fLen (dCons (dVarB 2) dNil)) (dC (.int 0))))
  (dSeq (dSet 3 (dC (.int 1)))
  (dSeq (dWhile (dAndT (dTest (dOp fLt (dVarB 3) (dFn fLen (dCons (dVarB 2) dNil)))) (dTest (dOp fEqU (dOp fIx (dVarB 2) (dVarB 3)) (dOp fIx (dVarB 2) (dC (.int 0))))))
  (dSet 3 (dOp fAdd (dVarB 3) (dC (.int 1)))))
  (dSeq (dApp 1 (dIf (dTest (dOp fEqU (dVarB 3) (dC (.int 1)))) (dOp fIx (dVarB 2) (dC (.int 0))) (dOp fAdd (dOp fAdd (dFn fStr (dCons (dVarB 3) dNil)) (dC (.str "*"))) (dOp fIx (dVarB 2) (dC (.int 0))))))
  (dSet 2 (dSl (dVarB 2) (oSome (dVarB 3)) oNone))))))
  (dFrz 1 (dRet (dJoin " " (dVar 1)))))))
theorem digits_len : ∀ n : Nat, (Nat.toDigits 10 n).length ≤ n + 1 := by
  intro n
  induction n using Nat.strongRecOn with
  | ind n ih =>
    by_cases c : n < 10
    · rw [Nat.toDigits_of_lt_base c]; simp
    · rw [Nat.toDigits_of_base_le (by decide) (by omega), List.length_append, List.length_singleton]
      have := ih (n / 10) (by omega)
      omega
theorem dec_len (n : Nat) : (decS n).length ≤ n + 1 := by
  have : (decS n).cps.toList.length = (decS n).length := Array.length_toList
  rw [← this, dec_list, List.length_map]
  exact digits_len n
theorem rl_mem : ∀ {ws : List Str} {p : Nat × Str}, p ∈ rl ws → p.1 ≤ ws.length ∧ p.2 ∈ ws := by
  intro ws
  induction hn : ws.length using Nat.strongRecOn generalizing ws with
  | ind n ih =>
    intro p m
    cases ws with
    | nil => rw [rl] at m; cases m
    | cons w r =>
      rw [rl] at m
      have ls := (List.dropWhile_sublist (fun x => decide (x = w)) (l := r))
      have lt := (List.takeWhile_sublist (fun x => decide (x = w)) (l := r)).length_le
      rw [List.length_cons] at hn
      rcases List.mem_cons.mp m with rfl | m
      · exact ⟨by show _ + 1 ≤ n; omega, List.mem_cons_self ..⟩
      · have := ih (r.dropWhile fun x => decide (x = w)).length (by have := ls.length_le; omega) rfl m
        exact ⟨by have := ls.length_le; omega, List.mem_cons_of_mem _ (ls.subset this.2)⟩
theorem rl_len : ∀ {ws : List Str}, (rl ws).length ≤ ws.length := by
  intro ws
  induction hn : ws.length using Nat.strongRecOn generalizing ws with
  | ind n ih =>
    cases ws with
    | nil => rw [rl]; simp
    | cons w r =>
      rw [rl, List.length_cons]
      have ls := (List.dropWhile_sublist (fun x => decide (x = w)) (l := r)).length_le
      rw [List.length_cons] at hn
      have := ih (r.dropWhile fun x => decide (x = w)).length (by omega) rfl
      omega
theorem sum_le {B : Nat} : ∀ {l : List Nat}, (∀ x ∈ l, x ≤ B) → l.sum ≤ l.length * B
  | [], _ => by simp
  | x :: l, h => by
    have := sum_le (l := l) fun y m => h y (List.mem_cons_of_mem _ m)
    have := h x (List.mem_cons_self ..)
    rw [List.sum_cons, List.length_cons, Nat.add_mul]
    omega
def TchOk (ws : List Str) : Prop := ws.length ≤ 1000 ∧ ∀ w ∈ ws, w.length ≤ 100
theorem runTx_len {p : Nat × Str} : (runTx p).length ≤ p.1 + 2 + p.2.length := by
  unfold runTx
  split
  · omega
  · rw [len_cat, len_cat]
    have := dec_len p.1
    have : ("*" : Str).length = 1 := by decide +kernel
    omega
theorem runs_join {ws : List Str} (h : TchOk ws) : (((rl ws).map runTx).map (·.length)).sum + ((rl ws).map runTx).length * (" " : Str).length ≤ 16777216 := by
  have e1 : (" " : Str).length = 1 := by decide +kernel
  have l := rl_len (ws := ws)
  have := sum_le (B := 1102) (l := ((rl ws).map runTx).map (·.length)) fun x m => by
    obtain ⟨y, my, rfl⟩ := List.mem_map.mp m
    obtain ⟨p, mp, rfl⟩ := List.mem_map.mp my
    obtain ⟨p1, p2⟩ := rl_mem mp
    have := runTx_len (p := p)
    have := h.2 _ p2
    have := h.1
    show (runTx p).length ≤ 1102
    omega
  rw [List.length_map, List.length_map] at this
  rw [List.length_map, e1]
  have := h.1
  have : (rl ws).length * 1102 ≤ 1000 * 1102 := Nat.mul_le_mul_right _ (by omega)
  omega
theorem eqv_strT (a b : Str) : PyData.eqv (.str a) (.str b) = decide (a = b) := by simp
section
variable {A : Amb} {ds : List D} {s : A.S} {Q : D → A.S → Prop} {R : Er → A.S → Prop}
def S_read_number : FX A := fun ds s Q R => ∃ t : Str, ds = [.str t] ∧ t.length ≤ 100000 ∧ (∀ n, numL t.cps.toList = some n → Q (.int (n : Nat)) s) ∧ (numL t.cps.toList = none → R ⟨"BadText"⟩ s)
theorem p_read_number (h : S_read_number ds s Q R) : t_read_number (fun e _ s' => R e s') (retE Q) (startR 2 ds) s := by
  obtain ⟨t, rfl, hl, q, r⟩ := h
  have e : startR 2 [.str t] = [.fz (.str t), .un] := rfl
  have hs : 1000000 ≤ sizeLine := by decide
  have et : t = tx t.cps.toList := (tx_list t).symm
  have hl' : t.cps.toList.length = t.length := Array.length_toList
  unfold t_read_number
  rw [e]
  refine seq_ifH (∃ n, numL t.cps.toList = some n) (fun ⟨n, hn⟩ => ?_) fun U hU => ?_
  · have hn' := hn
    unfold numL at hn
    split at hn
    · next c =>
      cases hn
      simp
      exact ⟨_, int_val c.2.2.1 (by omega) (by omega), by omega, q _ hn'⟩
    · cases hn
  · have bad : ¬ (∃ n, numL t.cps.toList = some n) → 1 ≤ sizeLine ∧ R ⟨"BadText"⟩ s := fun z => by
      refine ⟨by omega, r ?_⟩
      cases hn : numL t.cps.toList with
      | none => rfl
      | some n => exact (z ⟨n, hn⟩).elim
    have ev1 : ∀ QT : Bool → A.S → Prop, QT (!(decide (1 ≤ t.length) && decide (t.length ≤ 10))) s → dNotT (dTest (dChain fLe fLe (dC (.int 1)) (dFn fLen (dCons (dVarB 0) dNil)) (dC (.int 10)))) [.fz (.str t), .un] s QT := fun QT z => by
      simp
      refine ⟨by omega, ?_⟩
      by_cases l1 : 1 ≤ t.length
      · by_cases l2 : t.length ≤ 10
        · have l1' : (1 : Int) ≤ t.length := by omega
          have l2' : (t.length : Int) ≤ 10 := by omega
          simp [l1', l2']
          simpa [l1, l2] using z
        · have l1' : (1 : Int) ≤ t.length := by omega
          have l2' : ¬ (t.length : Int) ≤ 10 := by omega
          simp [l1', l2']
          simpa [l1, l2] using z
      · have l1' : ¬ (1 : Int) ≤ t.length := by omega
        simp [l1']
        simpa [l1] using z
    rw [q_dOrT]
    refine ev1 _ ?_
    by_cases hlen : 1 ≤ t.length ∧ t.length ≤ 10
    rotate_left
    · have : (!(decide (1 ≤ t.length) && decide (t.length ≤ 10))) = true := by
        rw [Bool.not_eq_true', Bool.and_eq_false_iff]
        rcases Classical.not_and_iff_not_or_not.mp hlen with z | z
        · exact .inl (decide_eq_false z)
        · exact .inr (decide_eq_false z)
      rw [if_pos this]
      simp
      refine bad fun ⟨n, hn⟩ => hlen ?_
      unfold numL at hn
      split at hn
      · next c => exact ⟨by omega, by omega⟩
      · cases hn
    rw [if_neg (by simp [hlen.1, hlen.2]), q_dOrT, q_dNotT, q_dTest]
    refine all_digs (l := t.cps.toList) (cj := .un) (by omega) (by rw [← et]; rfl) rfl trivial ?_
    by_cases dg : ∀ k ∈ t.cps.toList, digN k
    rotate_left
    · have ea : (t.cps.toList.all fun k => decide (digN k)) = false := Bool.eq_false_iff.mpr fun z => dg fun k m => of_decide_eq_true (List.all_eq_true.mp z k m)
      rw [ea]
      simp
      refine bad fun ⟨n, hn⟩ => dg ?_
      unfold numL at hn
      split at hn
      · next c => exact c.2.2.1
      · cases hn
    have ea : (t.cps.toList.all fun k => decide (digN k)) = true := List.all_eq_true.mpr fun k m => decide_eq_true (dg k m)
    have ne : t.cps.toList ≠ [] := fun z => by rw [z] at hl'; simp at hl'; omega
    have vb := val_bound dg
    rw [ea]
    simp
    refine ⟨_, int_val dg hlen.1 (by omega), by omega, ?_, ?_⟩
    · have p10 : 10 ^ t.cps.toList.length ≤ 10 ^ 10 := Nat.pow_le_pow_right (by decide) (by omega)
      have : ((valN t.cps.toList : Nat) : Int).natAbs = valN t.cps.toList := Int.natAbs_natCast _
      rw [this]
      by_cases z : valN t.cps.toList = 0
      · rw [z]
        decide
      · have : (valN t.cps.toList).log2 < 40 := (Nat.log2_lt z).mpr (by omega)
        omega
    · have di := dec_iff dg ne
      unfold decS at di
      rw [← et] at di
      by_cases ld : leadOk t.cps.toList
      · have dt := di.mpr ld
        refine ⟨by simp, ?_⟩
        rw [eqv_strT, decide_eq_true dt, if_pos rfl]
        refine hU ⟨valN t.cps.toList, ?_⟩
        unfold numL
        rw [if_pos ⟨by omega, by omega, dg, ld⟩]
      · have dt : ¬ _ := fun z => ld (di.mp z)
        refine ⟨by simp, ?_⟩
        rw [eqv_strT, decide_eq_false dt, if_neg Bool.false_ne_true]
        refine bad fun ⟨n, hn⟩ => ld ?_
        unfold numL at hn
        split at hn
        · next c => exact c.2.2.2
        · cases hn
def S_write_touch : FS A := fun ds s Q => ∃ ws : List Str, ds = [touchD ws] ∧ TchOk ws ∧ Q (.str (wT ws)) s
theorem p_write_touch (h : S_write_touch ds s Q) : t_write_touch (retE Q) (startR 5 ds) s := by
  obtain ⟨ws, rfl, ok, q⟩ := h
  have e : startR 5 [touchD ws] = [.fz (touchD ws), .un, .un, .un, .un] := rfl
  have hs : 1000000 ≤ sizeLine := by decide
  have hl := ok.1
  unfold t_write_touch
  rw [e, q_dSeq]
  simp [-q_dSeq]
  rw [q_dSeq]
  simp [-q_dSeq]
  rw [q_dSeq]
  have ll : ∀ k : D → Prop, fLen [touchD ws] k = k (.int (ws.length : Nat)) := fun k => by
    show k (.int ((ws.map PyData.str).length : Nat)) = _
    rw [List.length_map]
  have ixw : ∀ (i : Nat) (hi : i < ws.length) (k : D → Prop), fIx (touchD ws) (.int (i : Nat)) k = k (.str ws[i]) := fun i hi k => by
    unfold touchD
    rw [q_ixT, show atI (ws.map PyData.str) ((i : Nat) : Int) = some (.str ws[i]) from atI_nat (by rw [List.getElem?_map, List.getElem?_eq_getElem hi]; rfl)]
    rfl
  refine for_of (xs := rngD 1 ws.length) (fun k z => ?_) (fun r ρ s' => s' = s ∧ ∃ (k st : Nat) (pre : List Str) (c3 c4 : Cell), r = rngD k (ws.length + 1 - k) ∧ 1 ≤ k ∧ k ≤ ws.length + 1 ∧ (st < k) ∧ (k = ws.length + 1 → st = ws.length) ∧ (k ≤ ws.length → ∀ i, st ≤ i → i < k → ws[i]? = ws[st]?) ∧ pre ++ (rl (ws.drop st)).map runTx = (rl ws).map runTx ∧
    ρ = [.fz (touchD ws), .ol (pre.map .str), .fz (.int (st : Nat)), c3, c4]) ⟨rfl, 1, 0, [], .un, .un, by simp, by omega, by omega, by omega, by omega, fun _ i h0 h1 => by rw [show i = 0 by omega], rfl, rfl⟩ ?_ ?_
  · simp [ll]
    refine ⟨_, _, ⟨rfl, rfl⟩, ⟨by omega, by omega, by omega, by omega⟩, ?_⟩
    have : (((ws.length : Nat) : Int) + 1 - 1).toNat = ws.length := by omega
    first
      | exact z
      | (rw [this]; exact z)
  · rintro x r ρ s' ⟨rfl, k, st, pre, c3, c4, hr, k1, kl, sk, he, ha, hp, rfl⟩ D' hrt hbk hnx hct
    have lt : k < ws.length + 1 := by
      have := congrArg List.length hr
      rw [List.length_cons, rngD_length] at this
      omega
    rw [show ws.length + 1 - k = (ws.length + 1 - (k + 1)) + 1 by omega, rngD_succ] at hr
    obtain ⟨rfl, rfl⟩ := List.cons.inj hr
    have stl : st < ws.length := by omega
    have ha := ha (by omega)
    have prel : pre.length ≤ ws.length := by
      have := congrArg List.length hp
      rw [List.length_append, List.length_map, List.length_map] at this
      have := rl_len (ws := ws)
      omega
    have cut : (k = ws.length ∨ ws[k]? ≠ ws[st]?) → rl (ws.drop st) = (k - st, ws[st]) :: rl (ws.drop k) := fun hk => by
      have ed : (ws.drop st).drop (k - st) = ws.drop k := by rw [List.drop_drop]; congr 1; omega
      rw [← ed]
      refine rl_cut (by omega) (by rw [List.length_drop]; omega) (fun i hi => ?_) ?_
      · rw [List.getElem?_drop, ha (st + i) (by omega) (by omega), List.getElem?_eq_getElem stl]
      · rw [List.getElem?_drop, show st + (k - st) = k by omega]
        rcases hk with hk | hk
        · rw [List.getElem?_eq_none (by omega)]
          simp
        · rw [List.getElem?_eq_getElem stl] at hk
          exact hk
    simp only [q_dgN, List.set_cons_succ, List.set_cons_zero]
    have next : ∀ (c4' : Cell), (k = ws.length ∨ ws[k]? ≠ ws[st]?) → D'.nx [.fz (touchD ws), .ol ((pre ++ [runTx (k - st, ws[st])]).map .str), .fz (.int (k : Nat)), .fz (.int (k : Nat)), c4'] s' := fun c4' hk =>
      hnx _ _ ⟨rfl, k + 1, k, pre ++ [runTx (k - st, ws[st])], _, _, by simp, by omega, by omega, by omega, by omega, fun _ i h0 h1 => by rw [show i = k by omega], by
        rw [List.append_assoc, List.singleton_append, ← List.map_cons, ← cut hk]
        exact hp, rfl⟩
    have same : ¬ (k = ws.length ∨ ws[k]? ≠ ws[st]?) → D'.nx [.fz (touchD ws), .ol (pre.map .str), .fz (.int (st : Nat)), .fz (.int (k : Nat)), c4] s' := fun hk => by
      have hk1 : ¬ k = ws.length := fun z => hk (.inl z)
      have hk2 : ws[k]? = ws[st]? := Classical.byContradiction fun z => hk (.inr z)
      refine hnx _ _ ⟨rfl, k + 1, st, pre, _, _, by simp, by omega, by omega, by omega, by omega, fun _ i h0 h1 => ?_, hp, rfl⟩
      by_cases hi : i = k
      · rw [hi]; exact hk2
      · exact ha i h0 (by omega)
    have wst := ok.2 ws[st] (List.getElem_mem _)
    have em : ((k : Int) - (st : Int)) = ((k - st : Nat) : Int) := by omega
    have star : ("*" : Str).length = 1 := by decide +kernel
    have write : (k = ws.length ∨ ws[k]? ≠ ws[st]?) → dSeq (dSet 4 (dOp fSub (dVarB 3) (dVarB 2)))
        (dSeq (dApp 1 (dIf (dTest (dOp fEqU (dVarB 4) (dC (.int 1)))) (dOp fIx (dVarB 0) (dVarB 2)) (dFmt2 (dVar 4) "*" (dOp fIx (dVarB 0) (dVarB 2)))))
        (dSet 2 (dVar 3))) D' [.fz (touchD ws), .ol (pre.map .str), .fz (.int (st : Nat)), .fz (.int (k : Nat)), c4] s' := fun hk => by
      have nx := next (.fz (.int ((k - st : Nat) : Int))) hk
      simp [ixw st stl]
      rw [em]
      have n0 : ¬ (((k - st : Nat) : Int) = 1) ↔ ¬ (k - st = 1) := by omega
      by_cases h1 : k - st = 1
      · rw [if_pos (by omega)]
        refine ⟨by omega, ?_⟩
        rw [List.map_append, List.map_singleton, show runTx (k - st, ws[st]) = ws[st] from if_pos h1] at nx
        exact nx
      · rw [if_neg (by omega)]
        have dl := dec_len (k - st)
        have lg : (k - st).log2 < 40 := by
          by_cases z : k - st = 0
          · rw [z]; decide
          · exact (Nat.log2_lt z).mpr (by omega)
        have dl : (Str.ofString (((k - st : Nat) : Int).repr)).length ≤ k - st + 1 := dl
        refine ⟨by rw [Int.natAbs_natCast]; omega, by omega, by omega, by omega, by omega, ?_⟩
        rw [List.map_append, List.map_singleton, show runTx (k - st, ws[st]) = decS (k - st) ++ "*" ++ ws[st] from if_neg h1] at nx
        exact nx
    rw [q_dIfS, q_dOrT]
    simp [-q_dSeq, ll, ixw st stl]
    by_cases hk1 : k = ws.length
    · rw [if_pos (by omega)]
      exact write (.inl hk1)
    · rw [if_neg (by omega), ixw k (by omega)]
      simp [-q_dSeq]
      by_cases hk2 : ws[k] = ws[st]
      · rw [if_pos hk2]
        refine same fun z => ?_
        rcases z with z | z
        · exact hk1 z
        · exact z (by rw [List.getElem?_eq_getElem (by omega), List.getElem?_eq_getElem stl, hk2])
      · rw [if_neg hk2]
        exact write (.inr fun z => hk2 (by rw [List.getElem?_eq_getElem (by omega), List.getElem?_eq_getElem stl] at z; exact Option.some.inj z))
  · rintro ρ s' ⟨rfl, k, st, pre, c3, c4, hr, k1, kl, sk, he, ha, hp, rfl⟩
    have : k = ws.length + 1 := by
      have := congrArg List.length hr
      rw [List.length_nil, rngD_length] at this
      omega
    have := he this
    rw [this, List.drop_length, show rl [] = [] by rw [rl], List.map_nil, List.append_nil] at hp
    simp
    refine ⟨pre, rfl, ?_, ?_⟩
    · rw [hp]
      exact runs_join ok
    · rw [hp]
      exact q
theorem p_L_touch_text (h : S_write_touch ds s Q) : t_L_touch_text (retE Q) (startR 4 ds) s := by
  obtain ⟨ws, rfl, ok, q⟩ := h
  have e : startR 4 [touchD ws] = [.fz (touchD ws), .un, .un, .un] := rfl
  have hs : 1000000 ≤ sizeLine := by decide
  have hl := ok.1
  unfold t_L_touch_text
  rw [e, q_dSeq]
  simp [-q_dSeq]
  rw [q_dSeq]
  unfold touchD
  simp [-q_dSeq]
  rw [q_dSeq]
  refine while_inv (fun n ρ s' => s' = s ∧ ∃ (left : List Str) (pre : List Str) (c3 : Cell), n = left.length ∧ left.length ≤ ws.length ∧ (∀ w ∈ left, w ∈ ws) ∧ pre ++ (rl left).map runTx = (rl ws).map runTx ∧ ρ = [.fz (.tuple (ws.map .str)), .ol (pre.map .str), .fz (.list (left.map .str)), c3]) ws.length ⟨rfl, ws, [], .un, rfl, Nat.le_refl _, fun w m => m, rfl, rfl⟩ ?_
  rintro n ρ s' ⟨rfl, left, pre, c3, rfl, ll, lm, hp, rfl⟩
  have prel : pre.length ≤ ws.length := by
    have := congrArg List.length hp
    rw [List.length_append, List.length_map, List.length_map] at this
    have := rl_len (ws := ws)
    omega
  by_cases ne : left = []
  · subst ne
    rw [show rl [] = [] by rw [rl], List.map_nil, List.append_nil] at hp
    simp
    refine ⟨pre, rfl, ?_, ?_⟩
    · rw [hp]
      exact runs_join ok
    · rw [hp]
      exact q
  · have pos : 0 < left.length := List.length_pos_iff.mpr ne
    have w100 := ok.2 left[0] (lm _ (List.getElem_mem pos))
    have lW : ∀ k : D → Prop, fLen [.list (left.map PyData.str)] k = k (.int (left.length : Nat)) := fun k => by
      show k (.int ((left.map PyData.str).length : Nat)) = _
      rw [List.length_map]
    have atn : ∀ (i : Nat) (hi : i < left.length), atI (left.map PyData.str) ((i : Nat) : Int) = some (.str left[i]) := fun i hi => atI_nat (by rw [List.getElem?_map, List.getElem?_eq_getElem hi]; rfl)
    have at0 : atI (left.map PyData.str) 0 = some (.str left[0]) := atI_nat (j := 0) (by rw [List.getElem?_map, List.getElem?_eq_getElem pos]; rfl)
    simp [-q_dSeq, lW, pos]
    rw [q_dSeq]
    simp [-q_dSeq]
    rw [q_dSeq]
    refine while_inv (fun n ρ s'' => s'' = s' ∧ ∃ m : Nat, n = left.length - m ∧ 1 ≤ m ∧ m ≤ left.length ∧ (∀ i, i < m → left[i]? = left[0]?) ∧ ρ = [.fz (.tuple (ws.map .str)), .ol (pre.map .str), .fz (.list (left.map .str)), .fz (.int (m : Nat))]) (left.length - 1) ⟨rfl, 1, rfl, Nat.le_refl _, pos, fun i hi => by rw [show i = 0 by omega], rfl⟩ ?_
    rintro n ρ s'' ⟨rfl, m, rfl, m1, ml, ha, rfl⟩
    have dl := dec_len m
    have dl : (Str.ofString (((m : Nat) : Int).repr)).length ≤ m + 1 := dl
    have star : ("*" : Str).length = 1 := by decide +kernel
    have lg : m.log2 < 40 := (Nat.log2_lt (by omega)).mpr (by omega)
    have stop : (m = left.length ∨ left[m]? ≠ left[0]?) → ∃ k, k < left.length ∧ k = (left.drop m).length ∧ (left.drop m).length ≤ ws.length ∧ (∀ w, w ∈ left.drop m → w ∈ ws) ∧ (pre ++ [runTx (m, left[0])]) ++ (rl (left.drop m)).map runTx = (rl ws).map runTx := fun hm => by
      refine ⟨_, ?_, rfl, ?_, fun w mw => lm w (List.mem_of_mem_drop mw), ?_⟩
      · rw [List.length_drop]; omega
      · rw [List.length_drop]; omega
      · rw [List.append_assoc, List.singleton_append, ← List.map_cons, ← rl_cut m1 ml (fun i hi => by rw [ha i hi, List.getElem?_eq_getElem pos]) ?_]
        · exact hp
        · rcases hm with hm | hm
          · rw [List.getElem?_eq_none (by omega)]; simp
          · rw [List.getElem?_eq_getElem pos] at hm; exact hm
    have sl : ∀ j : Int, j = (m : Int) → cutD (left.map PyData.str) (some j) none = (left.drop m).map PyData.str := fun j hj => by
      rw [hj, cutD_from (by omega), List.map_drop, Int.toNat_natCast]
    have qs : ∀ k : D → Prop, fStr [.int (m : Nat)] k = (((m : Nat) : Int).natAbs.log2 < 1920 ∧ k (.str (decS m))) := fun k => rfl
    have fin : ∀ (BK CT : Rho → A.S → Prop), (m = left.length ∨ left[m]? ≠ left[0]?) → dSeq
        (dApp 1 (dIf (dTest (dOp fEqU (dVarB 3) (dC (.int 1)))) (dOp fIx (dVarB 2) (dC (.int 0))) (dOp fAdd (dOp fAdd (dFn fStr (dCons (dVarB 3) dNil)) (dC (.str "*"))) (dOp fIx (dVarB 2) (dC (.int 0))))))
        (dSet 2 (dSl (dVarB 2) (oSome (dVarB 3)) oNone))
        ⟨fun ρ' s'_1 => ∃ k, k < left.length ∧ s'_1 = s'' ∧ ∃ left' : List Str, k = left'.length ∧ left'.length ≤ ws.length ∧ (∀ w, w ∈ left' → w ∈ ws) ∧ ∃ x : List Str, x ++ (rl left').map runTx = (rl ws).map runTx ∧ ∃ c3, ρ' = [.fz (.tuple (ws.map .str)), .ol (x.map .str), .fz (.list (left'.map .str)), c3], Q, BK, CT⟩
        [.fz (.tuple (ws.map .str)), .ol (pre.map .str), .fz (.list (left.map .str)), .fz (.int (m : Nat))] s'' := fun BK CT hm => by
      obtain ⟨k, k1, k2, k3, k4, k5⟩ := stop hm
      by_cases h1 : m = 1
      · simp [at0, h1]
        refine ⟨by omega, k, k1, left.drop m, k2, k3, k4, _, k5, ?_, ?_⟩
        · rw [h1, show runTx (1, left[0]) = left[0] from if_pos rfl, List.map_append]
          rfl
        · exact sl _ (by omega)
      · have h1' : ¬ ((m : Nat) : Int) = 1 := by omega
        simp [at0, h1', qs]
        refine ⟨by omega, by omega, by rw [len_cat]; omega, by omega, k, k1, left.drop m, k2, k3, k4, _, k5, ?_, sl _ rfl⟩
        rw [show runTx (m, left[0]) = decS m ++ "*" ++ left[0] from if_neg h1, List.map_append]
        rfl
    simp [-q_dSeq, lW]
    by_cases c1 : m < left.length
    · rw [if_pos c1, atn m c1, at0]
      simp [-q_dSeq]
      by_cases c2 : left[m] = left[0]
      · rw [if_pos c2]
        refine ⟨_, ?_, m + 1, rfl, by omega, by omega, fun i hi => ?_, by omega⟩
        · omega
        · by_cases z : i = m
          · rw [z, List.getElem?_eq_getElem c1, List.getElem?_eq_getElem pos, c2]
          · exact ha i (by omega)
      · rw [if_neg c2]
        refine fin _ _ (.inr fun z => c2 ?_)
        rw [List.getElem?_eq_getElem c1, List.getElem?_eq_getElem pos] at z
        exact Option.some.inj z
    · rw [if_neg c1]
      exact fin _ _ (.inl (by omega))
end
end Dl
namespace Dl
open PySem L2
section
variable {A : Amb} {ds : List D} {s : A.S} {Q : D → A.S → Prop}
theorem len_is_word (h : S_is_word ds s Q) : ds.length = 1 := by obtain ⟨_, e, _⟩ := h; rw [e]; rfl
theorem len_L_is_word (h : S_is_word ds s Q) : ds.length = 1 := len_is_word h
end
end Dl
namespace Dl
open PySem L2
section
variable {A : Amb} {ds : List D} {s : A.S} {Q : D → A.S → Prop}
theorem len_is_book (h : S_is_book ds s Q) : ds.length = 2 := by obtain ⟨_, _, e, _⟩ := h; rw [e]; rfl
end
end Dl
namespace Dl
open PySem L2
theorem star_tl : (("*" : Str)).cps.toList = [42] := by decide +kernel
theorem part_none {it : Str} (h : 42 ∉ it.cps.toList) : Txt.partition it "*" = (it, Str.empty, Str.empty) := TL.partition_none (y := "*") star_tl h
theorem cut_at : ∀ {l : List Nat}, 42 ∈ l → ∃ a r, l = a ++ 42 :: r ∧ 42 ∉ a ∧ (l.takeWhile fun c => decide (c ≠ 42)) = a ∧ ((l.dropWhile fun c => decide (c ≠ 42)).drop 1) = r := by
  intro l
  induction l with
  | nil => intro h; cases h
  | cons c l ih =>
    intro h
    by_cases e : c = 42
    · subst e
      exact ⟨[], l, rfl, by simp, by simp, by simp⟩
    · obtain ⟨a, r, e1, e2, e3, e4⟩ := ih (by rcases List.mem_cons.mp h with z | z; exact (e z.symm).elim; exact z)
      refine ⟨c :: a, r, by rw [e1]; rfl, fun m => ?_, ?_, ?_⟩
      · rcases List.mem_cons.mp m with z | z
        · exact e z.symm
        · exact e2 z
      · rw [List.takeWhile_cons, if_pos (by simp [e]), e3]
      · rw [List.dropWhile_cons, if_pos (by simp [e]), e4]
theorem cut_some {l : List Nat} (h : 42 ∈ l) : ∃ a r, l = a ++ 42 :: r ∧ 42 ∉ a ∧ cutL l = (some a, r) := by
  obtain ⟨a, r, e1, e2, e3, e4⟩ := cut_at h
  exact ⟨a, r, e1, e2, by unfold cutL; rw [if_pos h, e3, e4]⟩
theorem cut_none {l : List Nat} (h : 42 ∉ l) : cutL l = (none, l) := if_neg h
theorem part_some {it : Str} {a r : List Nat} (e : it.cps.toList = a ++ 42 :: r) (h : 42 ∉ a) : Txt.partition it "*" = (tx a, ("*" : Str), tx r) := by
  have e : it = tx a ++ "*" ++ tx r := by
    have es : ("*" : Str) = tx [42] := by decide +kernel
    rw [es, tx_app, tx_app, ← tx_list it, e, List.append_assoc]
    rfl
  rw [e]
  exact TL.partition_app (y := "*") star_tl h
theorem num_one : numL (("1" : Str)).cps.toList = some 1 := by decide +kernel
def itP (it : Str) : Str × Str := if 42 ∈ it.cps.toList then ((Txt.partition it "*").1, (Txt.partition it "*").2.2) else ("1", it)
theorem itM_eq (it : Str) : itM it = (match numL (itP it).1.cps.toList with
  | some n => if n ≤ 200 ∧ wordB (.str (itP it).2) = true then some (n, (itP it).2) else none
  | none => none) := by
  unfold itM itP
  by_cases h : 42 ∈ it.cps.toList
  · obtain ⟨a, r, e1, e2, e3⟩ := cut_some h
    rw [if_pos h, e3, part_some e1 e2]
    rfl
  · rw [if_neg h, cut_none h, num_one]
    by_cases w : wordB (.str it) = true
    · simp [w]
    · simp [w]
theorem word12 {x : Str} (h : wordB (.str x) = true) : x.length ≤ 12 := by
  unfold wordB at h
  simp at h
  exact h.1.2
theorem itM_some {it w : Str} {n : Nat} (h : itM it = some (n, w)) : n ≤ 200 ∧ wordB (.str w) = true ∧ numL (itP it).1.cps.toList = some n ∧ (itP it).2 = w := by
  rw [itM_eq] at h
  split at h
  · next m hm =>
    split at h
    · next c =>
      cases h
      exact ⟨c.1, c.2, hm, rfl⟩
    · cases h
  · cases h
theorem allM_words : ∀ {is : List Str} {ws : List Str}, allM is = some ws → ∀ w ∈ ws, wordB (.str w) = true := by
  intro is
  induction is with
  | nil => intro ws h w m; cases h; cases m
  | cons it r ih =>
    intro ws h w m
    unfold allM at h
    split at h
    · next n v us h1 h2 =>
      cases h
      rcases List.mem_append.mp m with m | m
      · rw [List.eq_of_mem_replicate m]
        exact (itM_some h1).2.1
      · exact ih h2 w m
    · cases h
theorem allM_snoc : ∀ {is : List Str} {it : Str}, allM (is ++ [it]) = (match allM is, itM it with
  | some ws, some (n, w) => some (ws ++ List.replicate n w)
  | _, _ => none) := by
  intro is it
  induction is with
  | nil =>
    simp only [List.nil_append, allM]
    cases h : itM it with
    | none => rfl
    | some p =>
      obtain ⟨n, w⟩ := p
      simp
  | cons x r ih =>
    rw [List.cons_append]
    unfold allM
    rw [ih]
    cases itM x with
    | none => rfl
    | some p =>
      cases allM r with
      | none => rfl
      | some ws =>
        cases itM it with
        | none => rfl
        | some q => simp
theorem allM_none : ∀ {is r : List Str}, allM is = none → allM (is ++ r) = none := by
  intro is r h
  induction is with
  | nil => cases h
  | cons x is ih =>
    rw [List.cons_append]
    unfold allM at h ⊢
    cases h1 : itM x with
    | none => rfl
    | some p =>
      rw [h1] at h
      cases h2 : allM is with
      | none => rw [ih h2]
      | some ws => rw [h2] at h; cases h
section
variable {A : Amb} {ds : List D} {s : A.S} {Q : D → A.S → Prop} {R : Er → A.S → Prop}
def S_read_touch : FX A := fun ds s Q R => ∃ t : Str, ds = [.str t] ∧ t.length ≤ 9000 ∧ (∀ ws, readT t = some ws → Q (touchD ws) s) ∧ (readT t = none → R ⟨"BadText"⟩ s)
theorem split_len {t : Str} : (Txt.split t " ").length ≤ t.length + 1 ∧ ∀ x ∈ Txt.split t " ", x.length ≤ t.length := by
  have e : (" " : Str) = (⟨#[32]⟩ : Str) := by decide +kernel
  have pe := split_spl t 32
  obtain ⟨w1, w2⟩ := spl_wide (c := 32) t.cps.toList
  have tl : t.cps.toList.length = t.length := Array.length_toList
  rw [e]
  refine ⟨?_, fun x m => ?_⟩
  · have := congrArg List.length pe
    rw [List.length_map] at this
    omega
  · have : x.cps.toList ∈ splL 32 t.cps.toList := by rw [← pe]; exact List.mem_map.mpr ⟨x, m, rfl⟩
    have := w2 _ this
    have xl : x.cps.toList.length = x.length := Array.length_toList
    omega
theorem repl_flat {α : Type} {x : α} : ∀ n : Nat, (List.replicate n [x]).flatten = List.replicate n x
  | 0 => rfl
  | n + 1 => by rw [List.replicate_succ, List.flatten_cons, repl_flat n, List.replicate_succ]; rfl
theorem p_read_touch (h : S_read_touch ds s Q R) : t_read_touch (fun e _ s' => R e s') S_read_number S_is_word S_write_touch (retE Q) (startR 8 ds) s := by
  obtain ⟨t, rfl, hl, q, r⟩ := h
  have e : startR 8 [.str t] = [.fz (.str t), .un, .un, .un, .un, .un, .un, .un] := rfl
  have hs : 3000000 ≤ sizeLine := by decide
  obtain ⟨sl1, sl2⟩ := split_len (t := t)
  unfold t_read_touch
  rw [e, q_dSeq]
  simp [-q_dSeq]
  rw [q_dSeq]
  refine for_of (xs := (Txt.split t " ").map .str) (fun k z => ?_) (fun r ρ s' => s' = s ∧ ∃ (done rest : List Str) (pre : List Str) (c2 c3 c4 c5 c6 : Cell), r = rest.map .str ∧ done ++ rest = Txt.split t " " ∧ allM done = some pre ∧ pre.length ≤ done.length * 200 ∧
    ρ = [.fz (.str t), .ol (pre.map .str), c2, c3, c4, c5, c6, .un]) ⟨rfl, [], _, [], .un, .un, .un, .un, .un, rfl, rfl, rfl, by simp, rfl⟩ ?_ ?_
  · simp
    refine ⟨by decide +kernel, by omega, z⟩
  · rintro x r0 ρ s' ⟨rfl, done, rest, pre, c2, c3, c4, c5, c6, hr, hd, hp, hpl, rfl⟩ D' hrt hbk hnx hct
    cases rest with
    | nil => cases hr
    | cons it rest =>
      obtain ⟨rfl, rfl⟩ := List.cons.inj hr
      have itm : it ∈ Txt.split t " " := by rw [← hd]; simp
      have itl := sl2 it itm
      have dn : done.length ≤ 9000 := by
        have := congrArg List.length hd
        rw [List.length_append, List.length_cons] at this
        omega
      have bad : itM it = none → R ⟨"BadText"⟩ s' := fun hn => by
        refine r ?_
        unfold readT
        rw [← hd, show done ++ it :: rest = (done ++ [it]) ++ rest by simp, allM_none]
        rw [allM_snoc, hp, hn]
      simp only [q_dgN, List.set_cons_succ, List.set_cons_zero]
      rw [q_dSeq]
      simp [-q_dSeq]
      refine ⟨by omega, ?_⟩
      have es : ("*" : Str) = Str.ofString "*" := rfl
      have p1 : (itP it).1.length ≤ 9000 := by
        unfold itP
        split
        · next h =>
          obtain ⟨a, r, e1, e2, e3⟩ := cut_some h
          have := congrArg List.length e1
          have il : it.cps.toList.length = it.length := Array.length_toList
          rw [List.length_append, List.length_cons] at this
          rw [part_some e1 e2]
          show (tx a).length ≤ 9000
          rw [tx_len]
          omega
        · have : ("1" : Str).length = 1 := by decide +kernel
          show ("1" : Str).length ≤ 9000
          omega
      have p2 : (itP it).2.length ≤ 9000 := by
        unfold itP
        split
        · next h =>
          obtain ⟨a, r, e1, e2, e3⟩ := cut_some h
          have := congrArg List.length e1
          have il : it.cps.toList.length = it.length := Array.length_toList
          rw [List.length_append, List.length_cons] at this
          rw [part_some e1 e2]
          show (tx r).length ≤ 9000
          rw [tx_len]
          omega
        · show it.length ≤ 9000
          omega
      have main : ∀ c4' : Cell, (dSeq (dIfS (dNotT (dTest (dCall S_is_word (dCons (dVar 5) dNil))))
          (dRaise (fun e x s' => R e s') "BadText" (dCons (dVar 0) dNil)) dNx)
        (dSeq (dSet 6 (dCallX (fun e x s' => R e s') S_read_number (dCons (dVar 3) dNil)))
          (dSeq (dIfS (dTest (dOp fGt (dVarB 6) (dC (.int 200))))
            (dRaise (fun e x s' => R e s') "BadText" (dCons (dVar 0) dNil)) dNx)
            (dExt 1 (dOp fMul (dLst (dCons (dVar 5) dNil)) (dVarB 6)))))) D'
          [.fz (.str t), .ol (pre.map .str), .fz (.str it), .fz (.str (itP it).1), c4', .fz (.str (itP it).2), c6, .un] s' := fun c4' => by
        rw [q_dSeq]
        simp [-q_dSeq]
        refine ⟨_, rfl, trivial, fun x hx => by cases hx; omega, ?_⟩
        by_cases w : wordB (.str (itP it).2) = true
        · simp [-q_dSeq, w]
          rw [q_dSeq]
          simp [-q_dSeq]
          refine ⟨_, rfl, by omega, fun n hn => ?_, fun hn => bad (by rw [itM_eq, hn])⟩
          show dSeq _ _ _ _ _
          rw [q_dSeq]
          simp [-q_dSeq]
          by_cases big : 200 < n
          · rw [if_pos (by omega)]
            refine ⟨by omega, bad ?_⟩
            rw [itM_eq, hn]
            show (if _ then _ else _) = none
            rw [if_neg fun z => by omega]
          · rw [if_neg (by omega)]
            have hm : itM it = some (n, (itP it).2) := by
              rw [itM_eq, hn]
              exact if_pos ⟨by omega, w⟩
            have hp2 : allM (done ++ [it]) = some (pre ++ List.replicate n (itP it).2) := by rw [allM_snoc, hp, hm]
            have nx := hnx [.fz (.str t), .ol ((pre ++ List.replicate n (itP it).2).map .str), .fz (.str it), .fz (.str (itP it).1), c4', .fz (.str (itP it).2), .fz (.int (n : Nat)), .un] s' ⟨rfl, done ++ [it], rest, _, _, _, _, _, _, rfl, by rw [← hd]; simp, hp2, by
              rw [List.length_append, List.length_append, List.length_replicate, List.length_singleton]
              omega, rfl⟩
            rw [List.map_append, List.map_replicate] at nx
            have rp : (List.replicate n [PyData.str (itP it).2]).flatten = List.replicate n (.str (itP it).2) := repl_flat n
            refine ⟨by omega, by omega, by omega, by rw [List.length_singleton, Int.toNat_natCast]; omega, ?_⟩
            rw [Int.toNat_natCast]
            show lstV (.list (List.replicate n [PyData.str (itP it).2]).flatten) _
            rw [rp]
            refine ⟨by rw [List.length_replicate]; omega, ?_⟩
            exact nx
        · simp [-q_dSeq, w]
          refine ⟨by omega, bad ?_⟩
          rw [itM_eq]
          split
          · rw [if_neg fun z => w z.2]
          · rfl
      rw [q_dSeq]
      by_cases h : 42 ∈ it.cps.toList
      · obtain ⟨a, r, e1, e2, e3⟩ := cut_some h
        have ep : itP it = (tx a, tx r) := by unfold itP; rw [if_pos h, part_some e1 e2]
        rw [← es, part_some e1 e2]
        have ne : ("*" : Str) ≠ Str.ofString "" := by decide +kernel
        simp [-q_dSeq, ne]
        have := main (.fz (.str "*"))
        rw [ep] at this
        exact this
      · have ep : itP it = (("1" : Str), it) := by unfold itP; rw [if_neg h]
        have e0 : Str.empty = Str.ofString "" := by decide +kernel
        rw [← es, part_none h]
        simp [-q_dSeq, e0]
        have := main (.fz (.str (Str.ofString "")))
        rw [ep] at this
        exact ⟨_, _, ⟨rfl, rfl⟩, this⟩
  · rintro ρ s' ⟨rfl, done, rest, pre, c2, c3, c4, c5, c6, hr, hd, hp, hpl, rfl⟩
    have : rest = [] := List.map_eq_nil_iff.mp hr.symm
    rw [this, List.append_nil] at hd
    rw [hd] at hp
    have wd := allM_words hp
    have w12 := fun w m => word12 (wd w m)
    have rd : readT t = if 1 ≤ pre.length ∧ pre.length ≤ 200 ∧ wT pre = t then some pre else none := by
      unfold readT
      rw [hp]
    have bad : ¬ (1 ≤ pre.length ∧ pre.length ≤ 200 ∧ wT pre = t) → 1 ≤ sizeLine ∧ R ⟨"BadText"⟩ s' := fun z => ⟨by omega, r (by rw [rd, if_neg z])⟩
    simp
    by_cases l1 : 1 ≤ pre.length
    · rw [if_pos (by omega)]
      by_cases l2 : pre.length ≤ 200
      · rw [if_pos (by omega)]
        refine ⟨pre, rfl, ⟨by omega, fun w m => by have := w12 w m; omega⟩, ?_⟩
        refine ⟨by simp, ?_⟩
        rw [eqv_strT]
        by_cases et : wT pre = t
        · rw [decide_eq_true et, if_pos rfl]
          exact q _ (by rw [rd, if_pos ⟨l1, l2, et⟩])
        · rw [decide_eq_false et, if_neg Bool.false_ne_true]
          exact bad fun z => et z.2.2
      · rw [if_neg (by omega)]
        exact bad fun z => l2 z.2.1
    · rw [if_neg (by omega)]
      exact bad fun z => l1 z.1
end
end Dl
namespace Dl
open PySem L2
def t_L_touch_from {A : Amb} (S_L_decimal S_L_is_word S_L_touch_text : FS A) : DS A :=
  (dSeq (dSet 1 (dLst dNil))
  (dSeq (dFor (dIt (dSplit (dVar 0) " ")) (dgN 2)
  (dSeq (dSet 3 (dC (.int 1)))
  (dSeq (dSet 4 (dVar 2))
  (dSeq (dIfS (dTest (dOp fIn (dC (.str "*")) (dVarB 2)))
  (dSeq (dSet 5 (dSIdx (dVar 2) "*"))
  (dSeq (dSet 3 (dCall S_L_decimal (dCons (dSl (dVarB 2) oNone (oSome (dVarB 5))) dNil)))
  (dSet 4 (dSl (dVarB 2) (oSome (dOp fAdd (dVarB 5) (dC (.int 1)))) oNone))))
  dNx)
  (dSeq (dIfS (dOrT (dTest (dOp fIs (dVarB 3) (dC .none))) (dOrT (dTest (dOp fGt (dVarB 3) (dC (.int 200)))) (dNotT (dTest (dCall S_L_is_word (dCons (dVar 4) dNil))))))
  (dRet (dC .none))
  dNx)
  (dSet 1 (dOp fAdd (dVarB 1) (dOp fMul (dLst (dCons (dVar 4) dNil)) (dVarB 3)))))))))
  (dSeq (dSet 6 (dFn fTuple (dCons (dVarB 1) dNil)))
  (dRet (dIf (dAndT (dTest (dOp fGt (dFn fLen (dCons (dVarB 6) dNil)) (dC (.int 0)))) (dAndT (dTest (dOp fLe (dFn fLen (dCons (dVarB 6) dNil)) (dC (.int 200)))) (dTest (dOp fEqU (dCall S_L_touch_text (dCons (dVar 6) dNil)) (dVarB 0))))) (dVar 6) (dC .none))))))
theorem star_one : ("*" : Str) = (⟨#[42]⟩ : Str) := by decide +kernel
theorem star_occ {it : Str} {a r : List Nat} (e : it.cps.toList = a ++ 42 :: r) (h : 42 ∉ a) : ∃ rest, Builtin.Str.occurrences it "*" 0 it.length 1 = a.length :: rest := by
  rcases StrLaws.occ_head it "*" 1 (Nat.le_refl _) with ⟨_, no⟩ | ⟨i, rest, e1, ha, no⟩
  · have := (StrLaws.subAt_one it 42 a.length).mpr (by rw [e, List.getElem?_append_right (Nat.le_refl _), Nat.sub_self]; rfl)
    rw [← star_one] at this
    exact (no a.length this).elim
  · have at_ : ∀ k, StrLaws.At it "*" it.length k ↔ it.cps.toList[k]? = some 42 := fun k => by
      rw [star_one]
      exact StrLaws.subAt_one it 42 k
    have hi := (at_ i).mp ha
    have : i = a.length := by
      rcases Nat.lt_trichotomy i a.length with z | z | z
      · rw [e, List.getElem?_append_left z] at hi
        exact (h (List.mem_of_getElem? hi)).elim
      · exact z
      · exact (no a.length z ((at_ _).mpr (by rw [e, List.getElem?_append_right (Nat.le_refl _), Nat.sub_self]; rfl))).elim
    rw [← this]
    exact ⟨rest, e1⟩
theorem cut_to {it : Str} {a r : List Nat} (e : it.cps.toList = a ++ 42 :: r) : cutS it none (some (a.length : Nat)) = tx a ∧ cutS it (some ((a.length : Nat) + 1)) none = tx r := by
  have il : it.cps.toList.length = it.length := Array.length_toList
  have l := congrArg List.length e
  rw [List.length_append, List.length_cons] at l
  unfold cutS
  refine ⟨?_, ?_⟩
  · have e1 : HT.sIx it.length it.length (some (a.length : Int)) = a.length := by
      unfold HT.sIx
      dsimp only
      rw [if_neg (by omega)]
      omega
    rw [e1, HT.sIx_none, List.drop_zero, Nat.sub_zero, e, List.take_left]
    rfl
  · have e1 : HT.sIx it.length 0 (some ((a.length : Int) + 1)) = a.length + 1 := by
      unfold HT.sIx
      dsimp only
      rw [if_neg (by omega)]
      omega
    have e2 : it.cps.toList.drop (a.length + 1) = r := by
      rw [e, List.drop_append, List.drop_eq_nil_of_le (by omega), List.nil_append, show a.length + 1 - a.length = 1 by omega]
      rfl
    rw [e1, HT.sIx_none, e2, List.take_of_length_le (by omega)]
    rfl
section
variable {A : Amb} {ds : List D} {s : A.S} {Q : D → A.S → Prop} {R : Er → A.S → Prop}
def S_L_decimal : FS A := fun ds s Q => ∃ t : Str, ds = [.str t] ∧ t.length ≤ 100000 ∧ (∀ n, numL t.cps.toList = some n → Q (.int (n : Nat)) s) ∧ (numL t.cps.toList = none → Q .none s)
theorem p_L_decimal (h : S_L_decimal ds s Q) : t_L_decimal (retE Q) (startR 2 ds) s := by
  obtain ⟨t, rfl, hl, q, r⟩ := h
  have e : startR 2 [.str t] = [.fz (.str t), .un] := rfl
  have hs : 1000000 ≤ sizeLine := by decide
  have et : t = tx t.cps.toList := (tx_list t).symm
  have hl' : t.cps.toList.length = t.length := Array.length_toList
  unfold t_L_decimal
  rw [e, q_dSeq, q_dIfS, q_dOrT]
  have bad : ∀ c : Cell, ¬ (∃ n, numL t.cps.toList = some n) → (retE Q).rt .none s := fun c z => by
    refine r ?_
    cases hn : numL t.cps.toList with
    | none => rfl
    | some n => exact (z ⟨n, hn⟩).elim
  simp [-q_dSeq]
  refine ⟨by omega, ?_⟩
  by_cases l1 : t.length < 1
  · rw [if_pos (by omega)]
    exact bad .un fun ⟨n, hn⟩ => by
      unfold numL at hn
      rw [if_neg fun z => by omega] at hn
      cases hn
  rw [if_neg (by omega)]
  refine ⟨by omega, ?_⟩
  by_cases l2 : 10 < t.length
  · rw [if_pos (by omega)]
    exact bad .un fun ⟨n, hn⟩ => by
      unfold numL at hn
      rw [if_neg fun z => by omega] at hn
      cases hn
  rw [if_neg (by omega)]
  refine comp_map (L := t.cps.toList) (fun k => PyData.str ⟨#[k]⟩) (fun k z => by simp; rw [et, sgns] at *; exact z) (by simp) (by omega) (fun k => if decide (¬ digN k) = true then some (.str ⟨#[k]⟩) else none) (fun k mk s k' z => ?_) ?_
  · simp [digits_memA]
    by_cases dg : digN k
    · simpa [dg] using z
    · simpa [dg] using z
  · by_cases dg : ∀ k ∈ t.cps.toList, digN k
    · have : t.cps.toList.filterMap (fun k => if decide (¬ digN k) = true then some (PyData.str ⟨#[k]⟩) else none) = [] := by
        rw [List.filterMap_eq_nil_iff]
        intro k m
        simp [dg k m]
      rw [this]
      have iv := int_val dg (by omega) (by omega)
      have fin : leadOk t.cps.toList → ∃ n, PySem.intText? t = some n ∧ t.length ≤ 640 ∧ Q (PyData.int n) s := fun ld => ⟨_, iv, by omega, q _ (by unfold numL; rw [if_pos ⟨by omega, by omega, dg, ld⟩])⟩
      simp
      refine ⟨by omega, ?_⟩
      by_cases l3 : 1 < t.length
      · rw [if_pos (by omega)]
        refine ⟨by omega, ?_⟩
        cases hc : t.cps.toList with
        | nil => rw [hc] at hl'; simp at hl'; omega
        | cons c l =>
          have a0 : atS t 0 = some ⟨#[c]⟩ := by
            unfold atS
            rw [show atI t.cps.toList 0 = some c from atI_nat (j := 0) (by rw [hc]; rfl)]
            rfl
          have e0 : Str.ofString "0" = (⟨#[48]⟩ : Str) := by decide +kernel
          rw [a0, e0]
          show if (⟨#[c]⟩ : Str) = ⟨#[48]⟩ then _ else _
          by_cases z : c = 48
          · rw [if_pos (by rw [z])]
            refine bad .un fun ⟨n, hn⟩ => ?_
            unfold numL at hn
            rw [if_neg fun y => ?_] at hn
            · cases hn
            · rcases y.2.2.2 with y | y
              · omega
              · rw [hc, z] at y
                exact y rfl
          · rw [if_neg fun y => z (by cases y; rfl)]
            refine fin (.inr fun y => z ?_)
            rw [hc] at y
            exact Option.some.inj y
      · rw [if_neg (by omega)]
        exact fin (.inl (by omega))
    · obtain ⟨k, mk, nk⟩ : ∃ k ∈ t.cps.toList, ¬ digN k := Classical.byContradiction fun z => dg fun k m => Classical.byContradiction fun y => z ⟨k, m, y⟩
      have ps : 0 < (t.cps.toList.filterMap (fun k => if decide (¬ digN k) = true then some (PyData.str ⟨#[k]⟩) else none)).length := by
        refine List.length_pos_iff_exists_mem.mpr ⟨.str ⟨#[k]⟩, List.mem_filterMap.mpr ⟨k, mk, ?_⟩⟩
        simp [nk]
      have bd := bad .un fun ⟨n, hn⟩ => by
        unfold numL at hn
        rw [if_neg fun z => dg z.2.2.1] at hn
        cases hn
      generalize t.cps.toList.filterMap _ = L at ps
      have : (0 : Int) < (L.length : Nat) := by omega
      simp [this]
      rw [if_pos ps]
      exact bd
def S_L_touch_from : FS A := fun ds s Q => ∃ t : Str, ds = [.str t] ∧ t.length ≤ 9000 ∧ (∀ ws, readT t = some ws → Q (touchD ws) s) ∧ (readT t = none → Q .none s)
theorem p_L_touch_from (h : S_L_touch_from ds s Q) : t_L_touch_from S_L_decimal S_is_word S_write_touch (retE Q) (startR 7 ds) s := by
  obtain ⟨t, rfl, hl, q, r⟩ := h
  have e : startR 7 [.str t] = [.fz (.str t), .un, .un, .un, .un, .un, .un] := rfl
  have hs : 3000000 ≤ sizeLine := by decide
  obtain ⟨sl1, sl2⟩ := split_len (t := t)
  unfold t_L_touch_from
  rw [e, q_dSeq]
  simp [-q_dSeq]
  rw [q_dSeq]
  refine for_of (xs := (Txt.split t " ").map .str) (fun k z => ?_) (fun r ρ s' => s' = s ∧ ∃ (done rest : List Str) (pre : List Str) (c2 c3 c4 c5 : Cell), r = rest.map .str ∧ done ++ rest = Txt.split t " " ∧ allM done = some pre ∧ pre.length ≤ done.length * 200 ∧
    ρ = [.fz (.str t), .fz (.list (pre.map .str)), c2, c3, c4, c5, .un]) ⟨rfl, [], _, [], .un, .un, .un, .un, rfl, rfl, rfl, by simp, rfl⟩ ?_ ?_
  · simp
    refine ⟨by decide +kernel, by omega, z⟩
  · rintro x r0 ρ s' ⟨rfl, done, rest, pre, c2, c3, c4, c5, hr, hd, hp, hpl, rfl⟩ D' hrt hbk hnx hct
    cases rest with
    | nil => cases hr
    | cons it rest =>
      obtain ⟨rfl, rfl⟩ := List.cons.inj hr
      have itm : it ∈ Txt.split t " " := by rw [← hd]; simp
      have itl := sl2 it itm
      have il : it.cps.toList.length = it.length := Array.length_toList
      have dn : done.length ≤ 9000 := by
        have := congrArg List.length hd
        rw [List.length_append, List.length_cons] at this
        omega
      have bad : itM it = none → Q .none s' := fun hn => by
        refine r ?_
        unfold readT
        rw [← hd, show done ++ it :: rest = (done ++ [it]) ++ rest by simp, allM_none]
        rw [allM_snoc, hp, hn]
      simp only [q_dgN, List.set_cons_succ, List.set_cons_zero]
      rw [q_dSeq]
      simp [-q_dSeq]
      rw [q_dSeq]
      simp [-q_dSeq]
      have main : ∀ (d : D) (c5' : Cell), d = (match numL (itP it).1.cps.toList with | some n => .int (n : Nat) | none => .none) → (itP it).2.length ≤ 9000 → dSeq (dIfS (dOrT (dTest (dOp fIs (dVarB 3) (dC .none))) (dOrT (dTest (dOp fGt (dVarB 3) (dC (.int 200)))) (dNotT (dTest (dCall S_is_word (dCons (dVar 4) dNil))))))
            (dRet (dC .none))
            dNx)
          (dSet 1 (dOp fAdd (dVarB 1) (dOp fMul (dLst (dCons (dVar 4) dNil)) (dVarB 3)))) D'
          [.fz (.str t), .fz (.list (pre.map .str)), .fz (.str it), .fz d, .fz (.str (itP it).2), c5', .un] s' := fun d c5' hd' p2 => by
        rw [q_dSeq]
        cases hn : numL (itP it).1.cps.toList with
        | none =>
          rw [hn] at hd'
          subst hd'
          simp [-q_dSeq, hrt]
          exact bad (by rw [itM_eq, hn])
        | some n =>
          rw [hn] at hd'
          subst hd'
          simp [-q_dSeq, hrt]
          by_cases big : 200 < n
          · rw [if_pos (by omega)]
            refine bad ?_
            rw [itM_eq, hn]
            show (if _ then _ else _) = none
            rw [if_neg fun z => by omega]
          · rw [if_neg (by omega)]
            refine ⟨_, rfl, trivial, fun x hx => by cases hx; omega, ?_⟩
            by_cases w : wordB (.str (itP it).2) = true
            · have hm : itM it = some (n, (itP it).2) := by
                rw [itM_eq, hn]
                exact if_pos ⟨by omega, w⟩
              have hp2 : allM (done ++ [it]) = some (pre ++ List.replicate n (itP it).2) := by rw [allM_snoc, hp, hm]
              have nx := hnx [.fz (.str t), .fz (.list ((pre ++ List.replicate n (itP it).2).map .str)), .fz (.str it), .fz (.int (n : Nat)), .fz (.str (itP it).2), c5', .un] s' ⟨rfl, done ++ [it], rest, _, _, _, _, _, rfl, by rw [← hd]; simp, hp2, by
                rw [List.length_append, List.length_append, List.length_replicate, List.length_singleton]
                omega, rfl⟩
              rw [List.map_append, List.map_replicate] at nx
              simp [w]
              refine ⟨by omega, by omega, by omega, by rw [List.length_singleton, Int.toNat_natCast]; omega, ?_⟩
              rw [Int.toNat_natCast, repl_flat]
              refine ⟨by rw [List.length_map, List.length_replicate]; omega, ?_⟩
              exact nx
            · simp [w]
              refine bad ?_
              rw [itM_eq, hn]
              show (if _ then _ else _) = none
              rw [if_neg fun z => w z.2]
      rw [q_dSeq]
      by_cases h : 42 ∈ it.cps.toList
      · obtain ⟨a, r, e1, e2, e3⟩ := cut_some h
        have ep : itP it = (tx a, tx r) := by unfold itP; rw [if_pos h, part_some e1 e2]
        obtain ⟨occ, hocc⟩ := star_occ e1 e2
        obtain ⟨ct1, ct2⟩ := cut_to e1
        have l := congrArg List.length e1
        rw [List.length_append, List.length_cons] at l
        have hin : ∃ c : Nat, Str.ofString "*" = (⟨#[c]⟩ : Str) ∧ (decide (c ∈ it.cps.toList) = true) := ⟨42, star_one, by simp [h]⟩
        have nl : (tx a).cps.toList = a := rfl
        have hA : 42 ∈ it.cps := Array.mem_def.mpr h
        simp [-q_dSeq]
        refine ⟨42, star_one, ?_⟩
        rw [if_pos hA, q_dSeq]
        simp [-q_dSeq]
        refine ⟨_, ⟨occ, hocc⟩, ?_⟩
        rw [q_dSeq]
        simp [-q_dSeq]
        have ct1' : cutS it none (some (a.length : Int)) = tx a := ct1
        have ct2' : cutS it (some ((a.length : Int) + 1)) none = tx r := ct2
        have p2 : (itP it).2.length ≤ 9000 := by
          rw [ep]
          show (tx r).length ≤ 9000
          rw [tx_len]
          omega
        have p1 : (tx a).length ≤ 100000 := by rw [tx_len]; omega
        refine ⟨by omega, _, rfl, by rw [ct1']; exact p1, fun n hn => ?_, fun hn => ?_⟩
        · rw [ct1'] at hn
          have := main (.int (n : Nat)) (.fz (.int (a.length : Nat))) (by rw [ep]; show _ = match numL (tx a).cps.toList with | some n => _ | none => _; rw [hn]) p2
          rw [ep] at this
          simp [-q_dSeq, ct2']
          exact ⟨by omega, this⟩
        · rw [ct1'] at hn
          have := main .none (.fz (.int (a.length : Nat))) (by rw [ep]; show _ = match numL (tx a).cps.toList with | some n => _ | none => _; rw [hn]) p2
          rw [ep] at this
          simp [-q_dSeq, ct2']
          exact ⟨by omega, this⟩
      · have ep : itP it = (("1" : Str), it) := by unfold itP; rw [if_neg h]
        have hA : 42 ∉ it.cps := fun z => h (Array.mem_def.mp z)
        simp [-q_dSeq]
        refine ⟨42, star_one, ?_⟩
        rw [if_neg hA]
        have e1N : (match numL (("1" : Str)).cps.toList with | some n => PyData.int (n : Nat) | none => PyData.none) = PyData.int 1 := by rw [num_one]; rfl
        have := main (.int 1) c5 (by rw [ep]; exact e1N.symm) (by rw [ep]; show it.length ≤ 9000; omega)
        rw [ep] at this
        exact this
  · rintro ρ s' ⟨rfl, done, rest, pre, c2, c3, c4, c5, hr, hd, hp, hpl, rfl⟩
    have : rest = [] := List.map_eq_nil_iff.mp hr.symm
    rw [this, List.append_nil] at hd
    rw [hd] at hp
    have wd := allM_words hp
    have w12 := fun w m => word12 (wd w m)
    have rd : readT t = if 1 ≤ pre.length ∧ pre.length ≤ 200 ∧ wT pre = t then some pre else none := by
      unfold readT
      rw [hp]
    have bad : ¬ (1 ≤ pre.length ∧ pre.length ≤ 200 ∧ wT pre = t) → Q .none s' := fun z => r (by rw [rd, if_neg z])
    simp
    by_cases l1 : 1 ≤ pre.length
    · rw [if_pos (by omega)]
      by_cases l2 : pre.length ≤ 200
      · rw [if_pos (by omega)]
        refine ⟨pre, rfl, ⟨by omega, fun w m => by have := w12 w m; omega⟩, ?_⟩
        refine ⟨by simp, ?_⟩
        rw [eqv_strT]
        by_cases et : wT pre = t
        · rw [decide_eq_true et, if_pos rfl]
          exact q _ (by rw [rd, if_pos ⟨l1, l2, et⟩])
        · rw [decide_eq_false et, if_neg Bool.false_ne_true]
          exact bad fun z => et z.2.2
      · rw [if_neg (by omega)]
        exact bad fun z => l2 z.2.1
    · rw [if_neg (by omega)]
      exact bad fun z => l1 z.1
end
end Dl
namespace Dl
open PySem L2
def t_L_read_touch {A : Amb} (S_read_touch : FX A) : DS A :=
  (dTry (fun _ _ _ => False) "BadText" (fun Wd1 => (dRet (dTup (dCons (dC (.str "told")) (dCons (dCallX Wd1 S_read_touch (dCons (dVar 0) dNil)) dNil))))) 1
  (fun er ea => (dRet (dIf (dAndT (dTest (dIsE ea 1 "BellError" er)) (dAndT (dTest (dIsE ea 1 "ValueError" er)) (dNotT (dTest (dIsE ea 1 "BadLine" er))))) (dC (.str "bad")) (dC (.str "other"))))))
def t_write_lead {A : Amb} (S_write_piece : FS A) : DS A :=
  (dRet (dOp fAdd (dOp fAdd (dOp fIx (dVarB 0) (dC (.int 0))) (dC (.str " "))) (dCall S_write_piece (dCons (dOp fIx (dVarB 0) (dC (.int 1))) dNil))))
def t_write_book {A : Amb} (S_write_lead : FS A) : DS A :=
  (dRet (dJoin "\n" (dOfN (nComp (dIt (dVar 0)) (dgN 1) dYes (dCall S_write_lead (dCons (dVar 1) dNil)) [1]))))
section
variable {A : Amb} {ds : List D} {s : A.S} {Q : D → A.S → Prop}
def S_L_read_touch : FS A := fun ds s Q => ∃ t : Str, ds = [.str t] ∧ t.length ≤ 9000 ∧ (∀ ws, readT t = some ws → Q (.tuple [.str "told", touchD ws]) s) ∧ (readT t = none → Q (.str "bad") s)
theorem p_L_read_touch (h : S_L_read_touch ds s Q) : t_L_read_touch S_read_touch (retE Q) (startR 2 ds) s := by
  have hs : 1000000 ≤ sizeLine := by decide
  have b1 : subE "BadText" "BadText" = true := by decide +kernel
  have b2 : subE "BadText" "BellError" = true := by decide +kernel
  have b3 : subE "BadText" "ValueError" = true := by decide +kernel
  have b4 : subE "BadText" "BadLine" = false := by decide +kernel
  obtain ⟨t, rfl, tl, q, r⟩ := h
  have e : startR 2 [.str t] = [.fz (.str t), .un] := rfl
  unfold t_L_read_touch dTry
  rw [e]
  simp
  refine ⟨t, rfl, tl, fun ws z => ⟨by omega, q ws z⟩, fun z => ?_⟩
  dsimp only
  rw [if_pos b2, if_pos b3, if_neg (by rw [b4]; exact Bool.false_ne_true)]
  exact ⟨b1, r z⟩
def leadT (p : Lead) : Str := p.1 ++ " " ++ tx (wP p.2)
def bookT (bs : List Lead) : Str := Txt.join "\n" (bs.map leadT)
def LdOk (p : Lead) : Prop := p.1.length ≤ 1000 ∧ p.2.length ≤ 5040 ∧ ∀ c ∈ p.2, digsOk c ∧ c.length ≤ 9
theorem leadT_len {p : Lead} (h : LdOk p) : (leadT p).length ≤ 60000 := by
  have := wPg_len p.2 false fun c m => (h.2.2 c m).2
  have e1 : (" " : Str).length = 1 := by decide +kernel
  unfold leadT
  rw [len_cat, len_cat, tx_len]
  unfold wP
  have := h.1
  have := h.2.1
  omega
def S_write_lead : FS A := fun ds s Q => ∃ p : Lead, ds = [pairX p] ∧ LdOk p ∧ Q (.str (leadT p)) s
theorem p_write_lead (h : S_write_lead ds s Q) : t_write_lead S_write_piece (retE Q) (startR 1 ds) s := by
  have hs : 1000000 ≤ sizeLine := by decide
  obtain ⟨p, rfl, ok, q⟩ := h
  have e : startR 1 [pairX p] = [.fz (pairX p)] := rfl
  have e1 : (" " : Str).length = 1 := by decide +kernel
  have := leadT_len ok
  unfold leadT at this
  rw [len_cat, len_cat, e1] at this
  have := ok.1
  unfold t_write_lead
  rw [e]
  have i0 : ∀ k : D → Prop, fIx (pairX p) (.int 0) k = k (.str p.1) := fun k => rfl
  have i1 : ∀ k : D → Prop, fIx (pairX p) (.int 1) k = k (.tuple (p.2.map tupI)) := fun k => rfl
  simp [i0, i1]
  refine ⟨by omega, p.2, rfl, ok.2.2, ok.2.1, ?_⟩
  refine ⟨by rw [len_cat]; omega, q⟩
def S_write_book : FS A := fun ds s Q => ∃ bs : List Lead, ds = [bookD bs] ∧ bs.length ≤ 100 ∧ (∀ p ∈ bs, LdOk p) ∧ Q (.str (bookT bs)) s
theorem p_write_book (h : S_write_book ds s Q) : t_write_book S_write_lead (retE Q) (startR 2 ds) s := by
  have hs : 1000000 ≤ sizeLine := by decide
  obtain ⟨bs, rfl, hl, ok, q⟩ := h
  have e : startR 2 [bookD bs] = [.fz (bookD bs), .un] := rfl
  unfold t_write_book
  rw [e]
  unfold bookD
  simp
  refine comp_map (L := bs) pairX (fun k z => by simp; exact z) (by simp) (by omega) (fun p => some (.str (leadT p))) (fun p mp s k z => ?_) ?_
  · simp
    exact ⟨p, rfl, ok p mp, z⟩
  · rw [fm_map]
    simp
    refine ⟨bs.map leadT, by rw [List.map_map]; rfl, ?_, q⟩
    have := sum_le (B := 60000) (l := (bs.map leadT).map (·.length)) fun x m => by
      obtain ⟨y, my, rfl⟩ := List.mem_map.mp m
      obtain ⟨p, mp, rfl⟩ := List.mem_map.mp my
      exact leadT_len (ok p mp)
    have e1 : (Str.ofString "\n").length = 1 := by decide +kernel
    rw [List.length_map, List.length_map] at this
    rw [List.length_map, e1]
    have : bs.length * 60000 ≤ 100 * 60000 := Nat.mul_le_mul_right _ hl
    omega
end
end Dl
namespace Dl
open PySem L2 PySem.Spec PyProof.Rows
def both (E G : ExS) : ExS where
  ad := E.ad ++ G.ad
  φ := fun F H => E.φ F H ∧ G.φ F H ∧ ∀ b ∈ E.ad, b ∉ G.ad
  dom := fun {F H b} h m => by
    rcases List.mem_append.mp m with m | m
    · exact E.dom h.1 m
    · exact G.dom h.2.1 m
  stay := fun h le k => ⟨E.stay h.1 le fun b m => k b (List.mem_append_left _ m), G.stay h.2.1 le fun b m => k b (List.mem_append_right _ m), h.2.2⟩
end Dl
namespace Dl
open PySem L2 PySem.Spec PyProof.Rows
abbrev coS {a : Addr} (I J : InS) : (poolA a).S := KnS.ex (both (insE I) (insE J))
section
variable {a : Addr} {X : Cx} {K : PySem.W.Frag} {N : Ent} {e o : Expr} {es : List Expr} {p pos apos bpos : Pos} {tL : DA (poolA a)} {C B : Addr} {f g m : Str} {i : Nat} {L : List Str} {W : DXW (poolA a)} {ρ : Rho} {s : (poolA a).S} {Q : D → (poolA a).S → Prop} {σ : L2.St} {H : Hp} {O : Addr → Prop} {I J : InS}
theorem Rel.co (R : Rel (poolA a) K N (coS I J) σ H ρ O) : ∃ vI vJ : List (Str × V), H I.t = some (.ins I.C I.dx vI) ∧ FsOk (fzP H (Px N σ ρ O)) H I.fs vI ∧ H J.t = some (.ins J.C J.dx vJ) ∧ FsOk (fzP H (Px N σ ρ O)) H J.fs vJ := by
  obtain ⟨⟨_, _, v1, h1, h2⟩, ⟨_, _, v3, h3, h4⟩, _⟩ := R.ex_at
  exact ⟨v1, v3, h1, h2, h3, h4⟩
end
end Dl
namespace PySem.W
open Lean Elab Tactic Meta PySem PySem.Calls PyProof.Rows Builtin Builtin.ObjectAttr Builtin.Getset_descriptor
end PySem.W
namespace L2
open PySem PySem.Spec PyProof.Rows
end L2
namespace L2
open PySem PySem.Spec PyProof.Rows
end L2
namespace Dl
open PySem L2
section
variable {a CC C c : Addr} {ds : List D} {s : (poolA a).S} {Q : D → (poolA a).S → Prop} {R : Er → (poolA a).S → Prop}
theorem word_strOk {x : Str} (h : wordB (.str x) = true) : PyData.strOk x = true := by
  rw [strOk_iff]
  intro c m
  unfold wordB at h
  obtain ⟨_, h⟩ := Bool.and_eq_true_iff.mp h
  have hc := List.all_eq_true.mp h c m
  unfold letterB at hc
  have e : ("abcdefghijklmnopqrstuvwxyz" : Str).cps.toList = [97, 98, 99, 100, 101, 102, 103, 104, 105, 106, 107, 108, 109, 110, 111, 112, 113, 114, 115, 116, 117, 118, 119, 120, 121, 122] := by decide +kernel
  have hm : c ∈ ("abcdefghijklmnopqrstuvwxyz" : Str).cps.toList := of_decide_eq_true hc
  rw [e] at hm
  simp at hm
  omega
end
end Dl
namespace Dl
open PySem L2
section
variable {A : Amb} {ds : List D} {s : A.S} {Q : D → A.S → Prop} {R : Er → A.S → Prop}
theorem len_read_number (h : S_read_number ds s Q R) : ds.length = 1 := by obtain ⟨_, e, _⟩ := h; rw [e]; rfl
theorem len_write_touch (h : S_write_touch ds s Q) : ds.length = 1 := by obtain ⟨_, e, _⟩ := h; rw [e]; rfl
theorem len_L_touch_text (h : S_write_touch ds s Q) : ds.length = 1 := len_write_touch h
theorem len_read_touch (h : S_read_touch ds s Q R) : ds.length = 1 := by obtain ⟨_, e, _⟩ := h; rw [e]; rfl
theorem len_L_decimal (h : S_L_decimal ds s Q) : ds.length = 1 := by obtain ⟨_, e, _⟩ := h; rw [e]; rfl
theorem len_L_touch_from (h : S_L_touch_from ds s Q) : ds.length = 1 := by obtain ⟨_, e, _⟩ := h; rw [e]; rfl
theorem len_L_read_touch (h : S_L_read_touch ds s Q) : ds.length = 1 := by obtain ⟨_, e, _⟩ := h; rw [e]; rfl
theorem len_write_lead (h : S_write_lead ds s Q) : ds.length = 1 := by obtain ⟨_, e, _⟩ := h; rw [e]; rfl
theorem len_write_book (h : S_write_book ds s Q) : ds.length = 1 := by obtain ⟨_, e, _⟩ := h; rw [e]; rfl
end
end Dl
namespace Dl
open PySem L2
theorem cps_app (a b : Str) : (a ++ b).cps.toList = a.cps.toList ++ b.cps.toList := by
  show (a.cps ++ b.cps).toList = _
  rw [Array.toList_append]
theorem str_ex {a b : Str} (h : a.cps.toList = b.cps.toList) : a = b := by rw [← tx_list a, ← tx_list b, h]
theorem sp_tl : ((" " : Str)).cps.toList = [32] := by decide +kernel
theorem word_let {x : Str} (h : wordB (.str x) = true) : ∀ c ∈ x.cps.toList, 97 ≤ c ∧ c ≤ 122 := by
  intro c m
  unfold wordB at h
  obtain ⟨_, h⟩ := Bool.and_eq_true_iff.mp h
  have hc := List.all_eq_true.mp h c m
  unfold letterB at hc
  have e : ("abcdefghijklmnopqrstuvwxyz" : Str).cps.toList = [97, 98, 99, 100, 101, 102, 103, 104, 105, 106, 107, 108, 109, 110, 111, 112, 113, 114, 115, 116, 117, 118, 119, 120, 121, 122] := by decide +kernel
  have hm : c ∈ ("abcdefghijklmnopqrstuvwxyz" : Str).cps.toList := of_decide_eq_true hc
  rw [e] at hm
  simp at hm
  omega
theorem part_sp {x cmd rest : Str} (e : x.cps.toList = cmd.cps.toList ++ 32 :: rest.cps.toList) (h : 32 ∉ cmd.cps.toList) : Txt.partition x " " = (cmd, (" " : Str), rest) := by
  have e' : x = cmd ++ " " ++ rest := str_ex (by rw [cps_app, cps_app, sp_tl, e, List.append_assoc]; rfl)
  rw [e']
  exact TL.partition_app (y := " ") sp_tl h
theorem part_no {x : Str} (h : 32 ∉ x.cps.toList) : Txt.partition x " " = (x, Str.empty, Str.empty) := TL.partition_none (y := " ") sp_tl h
theorem join_glu {z : Str} {ps : List Str} : (Txt.join z ps).cps.toList = glu z.cps.toList (ps.map fun p => p.cps.toList) := by
  unfold Txt.join
  rw [StrLaws.glued_eq_join, glued_glu]
end Dl
namespace Dl
open PySem L2
section
variable {a CC C c : Addr} {V V' : TV} {P P' : List TV} {s : (poolA a).S} {ρ : Rho} {i j k : Nat} {Sask : FX (poolA a)} {D0 : DEnds (poolA a)}
theorem set_set {ρ : Rho} {j : Nat} {x y : Cell} : (ρ.set j x).set j y = ρ.set j y := List.set_set ..
end
end Dl
namespace Dl
open PySem L2
theorem strOk_dec (n : Nat) : PyData.strOk (decS n) = true := strOk_iff.mpr fun k m => by
  rw [dec_list] at m
  obtain ⟨c, _, rfl⟩ := List.mem_map.mp m
  have := c.valid
  show c.val.toNat < _
  rcases this with z | z
  · have : c.val.toNat < 0xd800 := z
    omega
  · exact z.2
end Dl
namespace L2
open PySem PySem.Spec PyProof.Rows Sem
def repZ (z : Str) (n : Nat) : Str := ⟨(List.replicate n z.cps).foldl (· ++ ·) #[]⟩
end L2
namespace Dl
open PySem L2 PySem.W
def zW : Str := repZ "z" 12
theorem zW_val : valW zW.cps.toList = 99246114928149462 := by decide +kernel
structure wordZ (x : Str) : Prop where
  ok : wordOk x
  b : wordB (.str x) = true
  nz : x ≠ zW
def bookZ (st : Int) (most : Nat) (bs : List Lead) : Prop := ∀ p ∈ bs, wordZ p.1 ∧ pieceOk st most p.2
theorem bookZ.ok {st : Int} {most : Nat} {bs : List Lead} (h : bookZ st most bs) : bookOk st most bs := fun p m => ⟨(h p m).1.ok, (h p m).2⟩
theorem bpst_Z {x : Str} (h : x ∈ bpstW) : wordZ x := by
  have : x = "b" ∨ x = "p" ∨ x = "s" ∨ x = "t" := by unfold bpstW at h; simpa using h
  rcases this with rfl | rfl | rfl | rfl <;> exact ⟨⟨by decide +kernel, by decide +kernel⟩, by decide +kernel, by decide +kernel⟩
theorem all2_words4 {xs : List D} {rs : List (Option D)} (h : All2 (fun y r => ∃ x, r = some (.str x) ∧ wordZ x ∧ y = .int (valW x.cps.toList)) xs rs) : ∃ L : List Str, rs.filterMap id = L.map .str ∧ xs = L.map (fun x => .int (valW x.cps.toList)) ∧ ∀ x ∈ L, wordZ x := by
  induction h with
  | nil => exact ⟨[], rfl, rfl, fun x m => by cases m⟩
  | cons r t ih =>
    obtain ⟨x, rfl, ok, ey⟩ := r
    obtain ⟨L, e, hl, ho⟩ := ih
    refine ⟨x :: L, ?_, by rw [List.map_cons, hl, ey], fun y m => ?_⟩
    · rw [show (some (PyData.str x) :: _ : List (Option D)).filterMap id = PyData.str x :: List.filterMap id _ from rfl, e]
      rfl
    · rcases List.mem_cons.mp m with rfl | m
      · exact ok
      · exact ho y m
section
variable {a : Addr} {ds : List D} {s : (poolA a).S} {Q : D → (poolA a).S → Prop}
def ChI4 (a : Addr) (m : Int) (ns : List Int) (x : D) (s0 : (poolA a).S) (n : Nat) (ρ : Rho) (s'' : (poolA a).S) : Prop := s'' = s0 ∧ ∃ k : Int, n = (95428956661682176 + (ns.length : Int) + 1 - k).toNat ∧ 1 ≤ k ∧ k < 95428956661682176 + (ns.length : Int) + 1 ∧ ρ = [.fz (refD a), .fz (.int m), .ol (intsD ns), .fz x, .fz (.int k)]
def S_L_chain_words4 (a : Addr) : FS (poolA a) := fun ds s Q => ∃ m : Int, ds = [refD a, .int m] ∧ 0 ≤ m ∧ m ≤ 20 ∧ ∀ L : List Str, L.length = m.toNat → L.Nodup → (∀ x ∈ L, wordZ x) → Q (.list (L.map .str)) s
theorem p_L_chain_words4 (h : S_L_chain_words4 a ds s Q) : t_L_chain_words S_L_spelled3 (S_draw a) (retE Q) (startR 5 ds) s := by
  obtain ⟨m, rfl, m0, m10, q⟩ := h
  have e : startR 5 [refD a, .int m] = [.fz (refD a), .fz (.int m), .un, .un, .un] := rfl
  have hs : 1000000 ≤ sizeLine := by decide
  unfold t_L_chain_words
  simp [e]
  refine for_of (xs := rngD 0 m.toNat) (fun k z => by simp; exact ⟨by omega, z⟩) (fun r ρ s' => s' = s ∧ ∃ (ns : List Int) (c3 c4 : Cell), ns.length + r.length = m.toNat ∧ (∀ n ∈ ns, 1 ≤ n ∧ n < 95428956661682176 + ns.length) ∧ ns.Nodup ∧ freeC (some c4) ∧ ρ = [.fz (refD a), .fz (.int m), .ol (intsD ns), c3, c4]) ⟨rfl, [], .un, .un, by rw [rngD_length]; simp, fun n h => (nomatch h), List.nodup_nil, trivial, rfl⟩ ?_ ?_
  · rintro x r ρ s' ⟨rfl, ns, c3, c4, hl, hb, nd, f4, rfl⟩ D' hrt hbk hnx hct
    rw [List.length_cons] at hl
    simp
    refine ⟨by omega, _, rfl, by omega, by omega, fun v v0 v4 => ?_⟩
    have T : ∃ t : Int, atI [PyData.int 26, PyData.int 702, PyData.int 18278, PyData.int 95428956661682176] v = some (.int t) ∧ 0 < t ∧ t ≤ 95428956661682176 := by
      rcases (by omega : v = 0 ∨ v = 1 ∨ v = 2 ∨ v = 3) with rfl | rfl | rfl | rfl
      · exact ⟨26, rfl, by omega, by omega⟩
      · exact ⟨702, rfl, by omega, by omega⟩
      · exact ⟨18278, rfl, by omega, by omega⟩
      · exact ⟨95428956661682176, rfl, by omega, by omega⟩
    obtain ⟨t, et, t0, t57⟩ := T
    simp [et]
    refine ⟨t, rfl, t0, by omega, fun u u0 ut => ?_⟩
    refine while_inv (ChI4 a m ns x s') _ ⟨rfl, 1 + u, rfl, by omega, by omega, rfl⟩ ?_
    rintro n ρ s'' ⟨rfl, k, rfl, k0, kb, rfl⟩
    simp
    refine ⟨⟨canLay_ints ns, by simp [PyData.canLay0], by simp [PyData.depth]⟩, ?_⟩
    by_cases c : anyEq (.int k) (intsD ns) = true
    · simp [c]
      have := hb k (anyEq_int c)
      exact ⟨(95428956661682176 + (ns.length : Int) + 1 - (k + 1)).toNat, by omega, rfl, k + 1, rfl, by omega, by omega, rfl⟩
    · simp [c]
      refine ⟨by omega, hnx _ _ ⟨rfl, ns ++ [k], .fz x, .fz (.int k), by simp; omega, fun j mj => ?_, ?_, trivial, by simp [intsD]⟩⟩
      · simp
        rcases List.mem_append.mp mj with mj | mj
        · have := hb j mj
          omega
        · rw [List.mem_singleton.mp mj]
          omega
      · refine List.nodup_append.mpr ⟨nd, by simp, fun y my z mz => ?_⟩
        rw [List.mem_singleton.mp mz]
        intro e
        rw [e] at my
        exact c (anyEq_of my)
  · rintro ρ s' ⟨rfl, ns, c3, c4, hl, hb, nd, f4, rfl⟩
    have hl' : ns.length = m.toNat := by simpa using hl
    simp
    refine comp_rel (xs := intsD ns) (fun k z => by simpa using z) (by simpa using f4) (by rw [intsD_length]; omega) (fun y r => ∃ w, r = some (.str w) ∧ wordZ w ∧ y = .int (valW w.cps.toList)) (fun x mx s k q => ?_) (fun rs hr => ?_)
    · obtain ⟨n, hn, rfl⟩ := List.mem_map.mp mx
      simp
      have := hb n hn
      have cap : capI 12 = 99246114928149462 := by decide +kernel
      exact ⟨n, rfl, by omega, by omega, fun w hw hb hv => q _ ⟨w, rfl, ⟨hw, hb, fun z => by rw [z, zW_val] at hv; omega⟩, by rw [hv]⟩⟩
    · obtain ⟨L, e, l1, ok⟩ := all2_words4 hr
      rw [e]
      have l2 := congrArg List.length l1
      rw [intsD_length, List.length_map] at l2
      have ndD : (intsD ns).Nodup := nodup_map (fun a b e => by simpa using e) nd
      refine q L (by rw [← l2, hl']) ?_ ok
      rw [l1] at ndD
      exact nodup_of_map ndD
section
variable {a : Addr} {ds : List D} {s : (poolA a).S} {Q : D → (poolA a).S → Prop}
def S_L_book4 (a : Addr) : FS (poolA a) := fun ds s Q => ∃ st many most : Int, ds = [refD a, .int st, .int many, .int most] ∧ 3 ≤ st ∧ st ≤ 8 ∧ 1 ≤ many ∧ many ≤ 4 ∧ 2 ≤ most ∧ most ≤ 1000 ∧
  ∀ bs : List Lead, bs.length = many.toNat → bookZ st most.toNat bs → WAsc (bs.map (·.1)) → Q (bookD bs) s
def BkI4 (a : Addr) (st many most : Int) (W : List Str) (pcs : List (List Int)) (s0 : (poolA a).S) (r : List D) (ρ : Rho) (s' : (poolA a).S) : Prop :=
  s' = s0 ∧ ∃ (j : Nat) (bs : List Lead) (c7 c8 c9 : Cell), r = rngD j (many.toNat - j) ∧ bs.length = j ∧ j ≤ many.toNat ∧ bookZ st most.toNat bs ∧ bs.map (·.1) = W.take j ∧ ρ = [.fz (refD a), .fz (.int st), .fz (.int many), .fz (.int most), .fz (.list (W.map .str)), .fz (.tuple (pcs.map tupI)), .ol (bs.map pairX), c7, c8, c9]
theorem p_L_book4 (h : S_L_book4 a ds s Q) : t_L_book (S_L_piece a) (S_draw a) (S_L_chain_words4 a) (S_L_pick a) S_changes_of (retE Q) (startR 10 ds) s := by
  obtain ⟨st, many, most, rfl, s3, s8, m1, m4, o2, o1000, q⟩ := h
  have e : startR 10 [refD a, .int st, .int many, .int most] = [.fz (refD a), .fz (.int st), .fz (.int many), .fz (.int most), .un, .un, .un, .un, .un, .un] := rfl
  have hs : 1000000 ≤ sizeLine := by decide
  obtain ⟨cn, cl⟩ := ch_some s3 s8
  unfold t_L_book
  rw [e]
  refine seq_inv (fun ρ' s' => s' = s ∧ ∃ L : List Str, L.length = many.toNat ∧ (∀ x ∈ L, wordZ x) ∧ WAsc L ∧ ρ' = [.fz (refD a), .fz (.int st), .fz (.int many), .fz (.int most), .fz (.list (L.map .str)), .un, .un, .un, .un, .un]) ?_ fun U hU => ?_
  rotate_left
  · simp
    refine ⟨2, rfl, by omega, by omega, fun v v0 v2 => ?_⟩
    simp
    by_cases hv : v = 0
    · simp [hv]
      refine ⟨many, rfl, by omega, by omega, fun L l1 nd ok => ?_⟩
      simp
      refine ⟨sortOk_strs fun x m => (ok x m).ok, ?_⟩
      have hp : (sortD (L.map .str)).Perm (L.map .str) := List.mergeSort_perm _ _
      obtain ⟨L', e', l', ok'⟩ := words_list (ys := sortD (L.map .str)) fun y m => by
        obtain ⟨x, hx, rfl⟩ := List.mem_map.mp (hp.mem_iff.mp m)
        exact ⟨x, rfl, (ok x hx).ok⟩
      have ok' : ∀ x ∈ L', wordZ x := fun x mx => by
        have m1 : PyData.str x ∈ sortD (L.map .str) := by rw [e']; exact List.mem_map.mpr ⟨x, mx, rfl⟩
        obtain ⟨y, my, ey⟩ := List.mem_map.mp (hp.mem_iff.mp m1)
        cases ey
        exact ok x my
      have asc := sort_asc nd e'
      rw [e']
      refine hU _ _ ⟨rfl, L', ?_, ok', asc, rfl⟩
      rw [l', hp.length_eq, List.length_map, l1]
    · simp [hv]
      refine ⟨by omega, ?_⟩
      rw [cutD_to (by omega)]
      refine hU _ _ ⟨rfl, [Str.ofString "b", Str.ofString "p", Str.ofString "s", Str.ofString "t"].take many.toNat, ?_, fun x m => ?_, List.Pairwise.sublist (List.take_sublist _ _) bpst_asc, ?_⟩
      · rw [List.length_take]
        simp
        omega
      · have := List.mem_of_mem_take m
        simp at this
        exact bpst_Z (by unfold bpstW; simpa using this)
      · rw [List.map_take]
        rfl
  rintro ρ' s1 ⟨rfl, L, l1, okL, ascL, rfl⟩
  rw [q_dSeq]
  simp [-q_dSeq, -q_dIfS]
  refine ⟨st, most, rfl, s3, s8, o2, o1000, fun P hP p1 p2 => ?_⟩
  obtain ⟨pcs, rfl, pok⟩ := piece_list (m := most.toNat) hP p1 p2
  rw [q_dSeq]
  simp [-q_dSeq, -q_dIfS]
  rw [q_dSeq]
  refine for_of (xs := rngD 0 many.toNat) (fun k z => by simp; exact ⟨by omega, z⟩) (BkI4 a st many most L pcs s1) ⟨rfl, 0, [], .un, .un, .un, rfl, rfl, by omega, fun p m => (nomatch m), rfl, rfl⟩ ?_ ?_
  · rintro x r ρ s' ⟨rfl, j, bs, c7, c8, c9, hr, hb, hj, okb, ew, rfl⟩ D' hrt hbk hnx hct
    have lt : j < many.toNat := by
      have := congrArg List.length hr
      rw [List.length_cons, rngD_length] at this
      omega
    rw [show many.toNat - j = (many.toNat - (j + 1)) + 1 by omega, rngD_succ] at hr
    obtain ⟨rfl, rfl⟩ := List.cons.inj hr
    have ltL : j < L.length := by omega
    simp only [q_dgN, List.set_cons_succ, List.set_cons_zero]
    rw [q_dSeq]
    simp [-q_dSeq, -q_dIfS]
    refine ⟨3, rfl, by omega, by omega, fun v v0 v3 => ?_⟩
    dsimp only
    rw [q_dSeq]
    simp [-q_dSeq, -q_dIfS]
    refine seq_inv (fun ρ' s2 => s2 = s' ∧ ∃ cs, pieceOk st most.toNat cs ∧ ρ' = [.fz (refD a), .fz (.int st), .fz (.int many), .fz (.int most), .fz (.list (L.map .str)), .fz (.tuple (pcs.map tupI)), .ol (bs.map pairX), .fz (.int (j : Nat)), .fz (.int v), .fz (.tuple (cs.map tupI))]) ?_ fun U hU => ?_
    rotate_left
    · simp
      have same := hU _ _ ⟨rfl, pcs, pok, rfl⟩
      by_cases hj0 : (0 : Int) < j
      · by_cases hv : v < 2
        · have hj0' : 0 < j := by omega
          simp [hj0, hj0', hv]
          refine ⟨st, rfl, s3, s8, ?_⟩
          refine ⟨_, _, rfl, rfl, cn, by omega, fun x hx => ?_⟩
          obtain ⟨c, hc, rfl⟩ := mem_changesD hx
          rw [cutD_last]
          have pl := pok.1
          have pm := pok.2.1
          refine ⟨by omega, ?_⟩
          simp
          refine ⟨by omega, ?_⟩
          have ee : (pcs.map tupI).dropLast ++ [PyData.tuple (intsD c)] = (pcs.dropLast ++ [c]).map tupI := by
            rw [← List.map_dropLast, List.map_append]
            rfl
          rw [ee]
          refine hU _ _ ⟨rfl, _, ⟨by simp, by simp; omega, fun d m => ?_⟩, rfl⟩
          rcases List.mem_append.mp m with m | m
          · exact pok.2.2 d (List.dropLast_subset _ m)
          · rw [List.mem_singleton.mp m]; exact hc
        · have hj0' : 0 < j := by omega
          simp [hj0, hj0', hv]
          exact same
      · have hj0' : ¬ 0 < j := by omega
        simp [hj0, hj0']
        exact same
    rintro ρ' s2 ⟨rfl, cs, csok, rfl⟩
    refine seq_inv (fun ρ' s3 => s3 = s2 ∧ ∃ cs, pieceOk st most.toNat cs ∧ ρ' = [.fz (refD a), .fz (.int st), .fz (.int many), .fz (.int most), .fz (.list (L.map .str)), .fz (.tuple (pcs.map tupI)), .ol (bs.map pairX), .fz (.int (j : Nat)), .fz (.int v), .fz (.tuple (cs.map tupI))]) ?_ fun U hU => ?_
    rotate_left
    · have same := hU _ _ ⟨rfl, cs, csok, rfl⟩
      simp
      by_cases hj0 : (0 : Int) < j
      · by_cases hv : v = 2
        · have hj0' : 0 < j := by omega
          subst hv
          simp [hj0, hj0']
          refine ⟨st, most, rfl, s3, s8, o2, o1000, fun P hP p1 p2 => ?_⟩
          obtain ⟨cs2, rfl, ok2⟩ := piece_list (m := most.toNat) hP p1 p2
          exact hU _ _ ⟨rfl, cs2, ok2, rfl⟩
        · have hj0' : 0 < j := by omega
          simp [hj0, hj0', hv]
          exact same
      · have hj0' : ¬ 0 < j := by omega
        simp [hj0, hj0']
        exact same
    rintro ρ' s3 ⟨rfl, cs2, cs2ok, rfl⟩
    have at1 : atI (L.map PyData.str) (j : Int) = some (.str L[j]) := atI_nat (by rw [List.getElem?_map, List.getElem?_eq_getElem ltL]; rfl)
    simp [at1]
    refine ⟨by omega, by omega, hnx _ _ ⟨rfl, j + 1, bs ++ [(L[j], cs2)], .fz (.int (j : Nat)), .fz (.int v), .fz (.tuple (cs2.map tupI)), by simp, by simp [hb], by omega, fun p m => ?_, by rw [List.map_append, ew, List.take_add_one, List.getElem?_eq_getElem ltL]; rfl, by simp [pairX]⟩⟩
    rcases List.mem_append.mp m with m | m
    · exact okb p m
    · rw [List.mem_singleton.mp m]
      exact ⟨okL _ (List.getElem_mem ltL), cs2ok⟩
  · rintro ρ s' ⟨rfl, j, bs, c7, c8, c9, hr, hb, hj, okb, ew, rfl⟩
    have ej : many.toNat - j = 0 := by
      have := congrArg List.length hr
      rw [List.length_nil, rngD_length] at this
      omega
    simp
    exact q bs (by omega) okb (by rw [ew, show j = L.length by omega, List.take_length]; exact ascL)
theorem len_L_chain_words4 (h : S_L_chain_words4 a ds s Q) : ds.length = 2 := by obtain ⟨_, e, _⟩ := h; rw [e]; rfl
theorem len_L_book4 (h : S_L_book4 a ds s Q) : ds.length = 4 := by obtain ⟨_, _, _, e, _⟩ := h; rw [e]; rfl
end
end
end Dl
namespace Dl
open PySem L2
def okNext (k : Nat) (acc : List Lead) (w : Str) : Bool := wordB (.str w) && decide (k ≤ 3) && (match acc.getLast? with
  | none => true
  | some q => decide (q.1.cps.toList < w.cps.toList))
noncomputable def dueB (st : Int) : Nat → List Lead → List Str → Except Nat (List Lead)
  | _, acc, [] => .ok acc
  | k, acc, l :: ls => match readP st (Txt.partition l " ").2.2.cps.toList with
    | none => .error k
    | some cs => if okNext k acc (Txt.partition l " ").1 = true then dueB st (k + 1) (acc ++ [((Txt.partition l " ").1, cs)]) ls else .error k
theorem adjS_snoc : ∀ (l : List Str) (x : Str), adjS (l ++ [x]) = (adjS l && (match l.getLast? with
    | none => true
    | some y => decide (y.cps.toList < x.cps.toList)))
  | [], x => rfl
  | [y], x => by simp [adjS]
  | y :: z :: r, x => by
    have ih := adjS_snoc (z :: r) x
    rw [List.cons_append] at ih
    rw [List.cons_append, List.cons_append, adjS, ih, adjS, Bool.and_assoc, List.getLast?_cons_cons]
theorem book_iff {st : Int} {bs : List Lead} : bookB st (bookD bs) = true ↔ 1 ≤ bs.length ∧ bs.length ≤ 4 ∧ (∀ p ∈ bs, wordB (.str p.1) = true) ∧ adjS (bs.map (·.1)) = true ∧ ∀ p ∈ bs, pieceW st p.2 := by
  have e1 : (bs.map pairX).map headS = bs.map (·.1) := by rw [List.map_map]; rfl
  unfold bookD bookB
  simp only [List.length_map, Bool.and_eq_true, decide_eq_true_eq, List.all_eq_true, e1]
  constructor
  · rintro ⟨⟨h1, h2⟩, h3, h4, h5⟩
    exact ⟨h1, h2, fun p m => h3 _ (List.mem_map.mpr ⟨p, m, rfl⟩), h4, fun p m => h5 _ (List.mem_map.mpr ⟨p, m, rfl⟩)⟩
  · rintro ⟨h1, h2, h3, h4, h5⟩
    refine ⟨⟨h1, h2⟩, fun x m => ?_, h4, fun x m => ?_⟩
    · obtain ⟨p, mp, rfl⟩ := List.mem_map.mp m
      exact h3 p mp
    · obtain ⟨p, mp, rfl⟩ := List.mem_map.mp m
      exact h5 p mp
theorem book_next {st : Int} {acc : List Lead} {w : Str} {cs : List (List Int)} (h : acc = [] ∨ bookB st (bookD acc) = true) (hc : pieceW st cs) : bookB st (bookD (acc ++ [(w, cs)])) = okNext acc.length acc w := by
  rw [Bool.eq_iff_iff, book_iff]
  have hm : (acc ++ [(w, cs)]).map (·.1) = acc.map (·.1) ++ [w] := by rw [List.map_append]; rfl
  rw [hm, adjS_snoc, List.getLast?_map]
  unfold okNext
  simp only [List.length_append, List.length_singleton, Bool.and_eq_true, decide_eq_true_eq]
  have hA : adjS (acc.map (·.1)) = true ∧ (∀ p ∈ acc, wordB (.str p.1) = true) ∧ ∀ p ∈ acc, pieceW st p.2 := by
    rcases h with rfl | h
    · exact ⟨rfl, fun p m => (nomatch m), fun p m => (nomatch m)⟩
    · obtain ⟨_, _, h3, h4, h5⟩ := book_iff.mp h
      exact ⟨h4, h3, h5⟩
  obtain ⟨a1, a2, a3⟩ := hA
  constructor
  · rintro ⟨_, h2, h3, ⟨_, h4⟩, _⟩
    refine ⟨⟨h3 (w, cs) (by simp), by omega⟩, ?_⟩
    cases e : acc.getLast? with
    | none => rfl
    | some q => rw [e] at h4; exact h4
  · rintro ⟨⟨h1, h2⟩, h3⟩
    refine ⟨by omega, by omega, fun p m => ?_, ⟨a1, ?_⟩, fun p m => ?_⟩
    · rcases List.mem_append.mp m with m | m
      · exact a2 p m
      · rw [List.mem_singleton.mp m]; exact h1
    · cases e : acc.getLast? with
      | none => rfl
      | some q => rw [e] at h3; exact h3
    · rcases List.mem_append.mp m with m | m
      · exact a3 p m
      · rw [List.mem_singleton.mp m]; exact hc
def resD : Except Nat (List Lead) → D
  | .ok bs => .tuple [.str "told", bookD bs]
  | .error k => .tuple [.str "line", .int (k : Nat)]
theorem due_len {st : Int} : ∀ (ls : List Str) (k : Nat) (acc bs : List Lead), dueB st k acc ls = .ok bs → bs.length = acc.length + ls.length
  | [], _, acc, bs, h => by rw [dueB] at h; cases h; rfl
  | l :: ls, k, acc, bs, h => by
    rw [dueB] at h
    split at h
    · cases h
    · split at h
      · have := due_len ls _ _ _ h
        rw [List.length_append, List.length_singleton] at this
        rw [List.length_cons]
        omega
      · cases h
end Dl
namespace Dl
open PySem L2 PySem.Spec PyProof.Rows
def fLeS : F2 := fun x y k => match x, y with
  | .str a, .str b => k (.bool (!decide (b.cps.toList < a.cps.toList)))
  | _, _ => False
@[simp] theorem q_fLeS {a b : Str} {k : D → Prop} : fLeS (.str a) (.str b) k = k (.bool (!decide (b.cps.toList < a.cps.toList))) := rfl
def rLeS : R2 := fun x y H Q => ∃ i j, x = .str i ∧ y = .str j ∧ Q (.bl (!decide (j.cps.toList < i.cps.toList))) H
theorem op_leS {X : Cx} : OpR X (compareOp .LtE) rLeS := op_le_str
theorem dr_leS {X : Cx} : DR2 X.K rLeS fLeS := fun H P x y dx dy k Q dm bx by_ f kk => by
  unfold fLeS at f
  split at f
  · exact ⟨_, _, bx.str, by_.str, kk _ H _ (Same.refl _) (.bl _) f⟩
  · exact f.elim
end Dl
namespace Dl
open PySem L2
def t_L_due_book {A : Amb} (S_L_piece_from S_L_is_word : FS A) : DS A :=
  (dSeq (dSet 2 (dTup dNil))
  (dSeq (dFor (dRg1 (dCons (dFn fLen (dCons (dVarB 1) dNil)) dNil)) (dgN 3)
  (dSeq (dPart 4 5 6 (dOp fIx (dVarB 1) (dVarB 3)) " ")
  (dSeq (dSet 7 (dCall S_L_piece_from (dCons (dVar 0) (dCons (dVar 6) dNil))))
  (dSeq (dIfS (dOrT (dNotT (dTest (dCall S_L_is_word (dCons (dVar 4) dNil)))) (dOrT (dTest (dOp fIs (dVarB 7) (dC .none))) (dOrT (dTest (dOp fGt (dVarB 3) (dC (.int 3)))) (dAndT (dTest (dOp fGt (dVarB 3) (dC (.int 0)))) (dTest (dOp fLeS (dVarB 4) (dOp fIx (dOp fIx (dVarB 2) (dUn fNeg (dC (.int 1)))) (dC (.int 0)))))))))
  (dRet (dTup (dCons (dC (.str "line")) (dCons (dVar 3) dNil))))
  dNx)
  (dSet 2 (dOp fAdd (dVarB 2) (dTup (dCons (dTup (dCons (dVar 4) (dCons (dVar 7) dNil))) dNil))))))))
  (dRet (dTup (dCons (dC (.str "told")) (dCons (dVar 2) dNil))))))
theorem part_len (l : Str) : (Txt.partition l " ").1.length ≤ l.length ∧ (Txt.partition l " ").2.2.length ≤ l.length := by
  have ll : ∀ x : Str, x.cps.toList.length = x.length := fun x => Array.length_toList
  by_cases m : 32 ∈ l.cps.toList
  · obtain ⟨a, r, e, n⟩ := List.eq_append_cons_of_mem m
    have := part_sp (x := l) (cmd := tx a) (rest := tx r) (by rw [e]; rfl) n
    rw [this]
    have e2 := congrArg List.length e
    rw [ll, List.length_append, List.length_cons] at e2
    refine ⟨?_, ?_⟩
    · rw [tx_len]; omega
    · rw [tx_len]; omega
  · rw [part_no m]
    exact ⟨Nat.le_refl _, Nat.zero_le _⟩
section
variable {A : Amb} {ds : List D} {s : A.S} {Q : D → A.S → Prop}
def S_L_due_book : FS A := fun ds s Q => ∃ (st : Int) (lines : List Str), ds = [.int st, .list (lines.map .str)] ∧ 3 ≤ st ∧ st ≤ 8 ∧ lines.length ≤ 1000 ∧ (∀ l ∈ lines, l.length ≤ 1000) ∧ Q (resD (dueB st 0 [] lines)) s
theorem len_L_due_book (h : S_L_due_book ds s Q) : ds.length = 2 := by obtain ⟨_, _, e, _⟩ := h; rw [e]; rfl
theorem p_L_due_book (h : S_L_due_book ds s Q) : t_L_due_book S_L_piece_from S_is_word (retE Q) (startR 8 ds) s := by
  obtain ⟨st, lines, rfl, s3, s8, hl, hw, q⟩ := h
  have e : startR 8 [.int st, .list (lines.map .str)] = [.fz (.int st), .fz (.list (lines.map .str)), .un, .un, .un, .un, .un, .un] := rfl
  have hs : 1000000 ≤ sizeLine := by decide
  unfold t_L_due_book
  rw [e, q_dSeq]
  simp [-q_dSeq, -q_dIfS, -List.map_map]
  rw [q_dSeq]
  refine for_of (xs := rngD 0 lines.length) (fun k z => by simp; exact ⟨by omega, z⟩) (fun r ρ s' => s' = s ∧ ∃ (j : Nat) (acc : List Lead) (c3 c4 c5 c6 c7 : Cell), r = rngD j (lines.length - j) ∧ j ≤ lines.length ∧ acc.length = j ∧ dueB st 0 [] lines = dueB st j acc (lines.drop j) ∧ ρ = [.fz (.int st), .fz (.list (lines.map .str)), .fz (bookD acc), c3, c4, c5, c6, c7]) ⟨rfl, 0, [], .un, .un, .un, .un, .un, rfl, by omega, rfl, rfl, rfl⟩ ?_ ?_
  · rintro x r ρ s' ⟨rfl, j, acc, c3, c4, c5, c6, c7, hr, hj, la, hd, rfl⟩ D' hrt hbk hnx hct
    have lt : j < lines.length := by
      have := congrArg List.length hr
      rw [List.length_cons, rngD_length] at this
      omega
    rw [show lines.length - j = (lines.length - (j + 1)) + 1 by omega, rngD_succ] at hr
    obtain ⟨rfl, rfl⟩ := List.cons.inj hr
    have hdrop : lines.drop j = lines[j] :: lines.drop (j + 1) := List.drop_eq_getElem_cons lt
    have lj := hw _ (List.getElem_mem lt)
    obtain ⟨pl1, pl2⟩ := part_len lines[j]
    rw [hdrop, dueB] at hd
    have at1 : atI (lines.map PyData.str) (j : Int) = some (.str lines[j]) := atI_nat (by rw [List.getElem?_map, List.getElem?_eq_getElem lt]; rfl)
    rw [q_dgN]
    simp only [List.set_cons_succ, List.set_cons_zero]
    rw [q_dSeq, q_dPart, q_dOp, q_dVarB]
    simp only [List.getElem?_cons_succ, List.getElem?_cons_zero, atB_fz, q_dVarB, q_ixL, at1, oV_some]
    refine ⟨lines[j], rfl, by omega, ?_⟩
    generalize hp : Txt.partition lines[j] " " = p at hd pl1 pl2
    obtain ⟨w, b, rest⟩ := p
    dsimp only at hd pl1 pl2
    simp only [List.set_cons_succ, List.set_cons_zero]
    rw [q_dSeq]
    unfold dSet
    rw [q_dAsg, q_dCall, q_dCons, q_dVar]
    simp only [List.getElem?_cons_succ, List.getElem?_cons_zero, atF_fz, q_dCons, q_dVar, q_dNil]
    have line : resD (dueB st 0 [] lines) = .tuple [.str "line", .int (j : Nat)] → D'.rt (.tuple [.str "line", .int (j : Nat)]) s' := fun e => by
      rw [hrt, ← e]
      exact q
    have cW : ∀ K : Bool → A.S → Prop, K (!wordB (.str w)) s' → ∀ c7 : Cell, dNotT (dTest (dCall S_is_word (dCons (dVar 4) dNil))) [.fz (.int st), .fz (.list (lines.map .str)), .fz (bookD acc), .fz (.int (j : Nat)), .fz (.str w), .fz (.str b), .fz (.str rest), c7] s' K := fun K z c7 => by
      rw [q_dNotT, q_dTest, q_dCall, q_dCons, q_dVar]
      simp only [List.getElem?_cons_succ, List.getElem?_cons_zero, atF_fz, q_dNil]
      exact ⟨_, rfl, trivial, fun x hx => by cases hx; omega, z⟩
    have bad : ∀ c7 : Cell, resD (dueB st 0 [] lines) = .tuple [.str "line", .int (j : Nat)] → dRet (dTup (dCons (dC (.str "line")) (dCons (dVar 3) dNil))) D' [.fz (.int st), .fz (.list (lines.map .str)), .fz (bookD acc), .fz (.int (j : Nat)), .fz (.str w), .fz (.str b), .fz (.str rest), c7] s' := fun c7 e => by
      rw [q_dRet, q_dTup, q_dCons, q_dC, q_dCons, q_dVar]
      simp only [List.getElem?_cons_succ, List.getElem?_cons_zero, atF_fz, q_dNil]
      exact ⟨by show 2 ≤ sizeLine; omega, line e⟩
    refine ⟨st, rest, rfl, by omega, s8, by omega, fun cs pw hr => ?_, fun hr => ?_⟩
    · rw [hr] at hd
      dsimp only at hd
      rw [q_dgN]
      simp only [List.set_cons_succ, List.set_cons_zero]
      have test : ∀ K : Bool → A.S → Prop, K (!okNext j acc w) s' → (dOrT (dNotT (dTest (dCall S_is_word (dCons (dVar 4) dNil)))) (dOrT (dTest (dOp fIs (dVarB 7) (dC .none))) (dOrT (dTest (dOp fGt (dVarB 3) (dC (.int 3)))) (dAndT (dTest (dOp fGt (dVarB 3) (dC (.int 0)))) (dTest (dOp fLeS (dVarB 4) (dOp fIx (dOp fIx (dVarB 2) (dUn fNeg (dC (.int 1)))) (dC (.int 0))))))))) [.fz (.int st), .fz (.list (lines.map .str)), .fz (bookD acc), .fz (.int (j : Nat)), .fz (.str w), .fz (.str b), .fz (.str rest), .fz (.tuple (cs.map tupI))] s' K := fun K z => by
        rw [q_dOrT]
        refine cW _ ?_ _
        cases hwB : wordB (.str w) with
        | false =>
          have : okNext j acc w = false := by unfold okNext; rw [hwB]; rfl
          rw [this] at z
          simpa using z
        | true =>
          have nn : isN (.tuple (cs.map tupI)) = false := rfl
          have nd : notDict (.tuple (cs.map tupI)) := trivial
          by_cases h3 : (3 : Int) < j
          · have : okNext j acc w = false := by unfold okNext; rw [hwB, decide_eq_false (by omega)]; rfl
            rw [this] at z
            simp [nn, nd, h3]
            simpa using z
          · by_cases h0 : (0 : Int) < j
            · have ne : acc ≠ [] := fun z => by rw [z] at la; simp at la; omega
              obtain ⟨q0, hq0⟩ : ∃ q0, acc.getLast? = some q0 := ⟨_, List.getLast?_eq_some_getLast ne⟩
              have al : atI (acc.map pairX) (-1) = some (pairX q0) := atI_last (by rw [List.getLast?_map, hq0]; rfl)
              have h3' : ¬ (3 : Nat) < j := by omega
              have h0' : 0 < j := by omega
              have ix0 : ∀ k : D → Prop, fIx (pairX q0) (.int 0) k = k (.str q0.1) := fun k => rfl
              have eo : okNext j acc w = decide (q0.1.cps.toList < w.cps.toList) := by
                unfold okNext
                rw [hwB, decide_eq_true (by omega), hq0]
                rfl
              rw [eo] at z
              simp [nn, nd, h3, h3', h0', bookD, al, ix0]
              simpa [h3] using z
            · have ej : j = 0 := by omega
              subst ej
              have ea : acc = [] := List.eq_nil_of_length_eq_zero la
              have : okNext 0 acc w = true := by unfold okNext; rw [hwB, ea]; rfl
              rw [this] at z
              simp [nn, nd]
              simpa using z
      rw [q_dSeq, q_dIfS]
      refine test _ ?_
      cases ho : okNext j acc w with
      | false =>
        rw [if_pos (by simp)]
        rw [ho, if_neg (by simp)] at hd
        exact bad _ (by rw [hd]; rfl)
      | true =>
        rw [if_neg (by simp), q_dNx]
        rw [ho, if_pos rfl] at hd
        dsimp only
        simp only [q_dAsg, q_dOp, q_dVarB, q_dTup, q_dCons, q_dVar, List.getElem?_cons_succ, List.getElem?_cons_zero, atB_fz, atF_fz, q_dNil]
        refine ⟨by show 2 ≤ sizeLine; omega, by show 1 ≤ sizeLine; omega, ?_⟩
        have ee : ∀ k : D → Prop, k (bookD (acc ++ [(w, cs)])) → fAdd (bookD acc) (.tuple [.tuple [.str w, .tuple (cs.map tupI)]]) k := fun k z => ⟨by rw [List.length_map]; show acc.length + 1 ≤ sizeLine; omega, by
          have : PyData.tuple (acc.map pairX ++ [.tuple [.str w, .tuple (cs.map tupI)]]) = bookD (acc ++ [(w, cs)]) := by unfold bookD; rw [List.map_append]; rfl
          rw [this]
          exact z⟩
        refine ee _ ?_
        rw [q_dgN]
        simp only [List.set_cons_succ, List.set_cons_zero]
        exact hnx _ _ ⟨rfl, j + 1, acc ++ [(w, cs)], _, _, _, _, _, by simp, by omega, by rw [List.length_append, List.length_singleton, la], hd, rfl⟩
    · rw [hr] at hd
      dsimp only at hd
      rw [q_dgN]
      simp only [List.set_cons_succ, List.set_cons_zero]
      rw [q_dSeq, q_dIfS, q_dOrT]
      refine cW _ ?_ _
      have nn : isN (PyData.none) = true := rfl
      cases hwB : wordB (.str w) with
      | false =>
        simp
        exact ⟨by omega, line (by rw [hd]; rfl)⟩
      | true =>
        simp
        exact ⟨by omega, line (by rw [hd]; rfl)⟩
  · rintro ρ s' ⟨rfl, j, acc, c3, c4, c5, c6, c7, hr, hj, la, hd, rfl⟩
    have ej : j = lines.length := by
      have := congrArg List.length hr
      rw [List.length_nil, rngD_length] at this
      omega
    have : lines.drop j = [] := by rw [ej]; exact List.drop_length
    rw [this, dueB] at hd
    rw [hd] at q
    simp
    exact ⟨by omega, q⟩
end
end Dl
namespace Dl
open PySem PySem.Spec PyProof.Rows L2
section
variable {prog : Program} {w : World} {A : Around} {E : Value → Shared → Prop} {h : Heap} {g : Array GenState} {d : Drawn} {t : Nat} {os : OsState}
variable {nm q : Str} {C N : Addr} {bs bm : List Value} {hdct : Bool} {sn : List Str} {sub : List Value} {ab : Bool} {col : Option Bool} {dd : Option Addr} {k0 k1 k2 k3 k5 : Option Value}
theorem ve_call_bw {u e t0 : Addr} {rest : List Value} {Q : Value → Shared → Prop}
    (hC : h.get? C = some (excClassObj nm q C N bs bm hdct sn sub ab col dd k0 k1 k2 k3 k5 "ValueError.__new__")) (he : h.get? e = some (HandSPX.excO C t0)) (hu : h.get? u = some (W.kxs_mw "ValueError.__init__" e)) (hrest : rest.length ≤ sizeLine)
    (hq : ∀ h' t1, (∀ b o, b ≠ e → h.get? b = some o → h'.get? b = some o) → h'.get? e = some (HandSPX.excO C t1) → Q .none ⟨h', g, d, t, os⟩) :
    wpAny (model prog w) A (call (.ref u) rest) Q E ⟨h, g, d, t, os⟩ := by
  refine wpAny_call (codeAny_of_tree ?_)
  show wpAny _ A.in1 (callAny (.ref u) ⟨rest, []⟩) _ _ _
  simp only [callAny]
  refine wpAny_bind (wpAny_load hu ?_)
  simp only [W.kxs_mw, show (Value.type "method-wrapper" == Value.type "method" || Value.type "method-wrapper" == Value.type "builtin_function_or_method" || Value.type "method-wrapper" == Value.type "method-wrapper") = true by decide, if_true]
  refine W.KFB.if_so (by decide) ?_
  refine wpAny_bind (ESX.check_bound F.excBase_ValueError hC he rfl ?_)
  refine wpAny_bind (wpAny_pure (wpAny_pure ?_))
  refine ⟨Code.quiet_builtin _ (by decide +kernel), codeAny_builtin F.excBase_ValueError.initEntry ?_⟩
  rw [Around.under_plainId F.excBase_ValueError.init.plain _]
  wp_walk
  refine hq _ h.objs.size (fun b o hb ho => ?_) ?_
  · rw [Heap.get?_update_other _ _ (Ne.symm hb)]
    exact Heap.get?_push_of_some _ ho
  · rw [Heap.get?_update_self _ (Heap.get?_push_of_some _ he) rfl]
    rfl
end
def blScope : Scope := { kind := .function, names := [(Str.ofString "self", .local), (Str.ofString "line", .local), (Str.ofString "__class__", .free), (Str.ofString "super", .globalImplicit)], isGenerator := false, isCoroutine := false, more := [] }
abbrev blBody : List Stmt := [.Expr (.Call (.Attribute (.Call (.Name "super" ⟨19, 8, 19, 13⟩) [] [] ⟨19, 8, 19, 15⟩) "__init__" ⟨19, 8, 19, 24⟩) [.Name "line" ⟨19, 25, 19, 29⟩] [] ⟨19, 8, 19, 30⟩) ⟨19, 8, 19, 30⟩, .Assign [.Attribute (.Name "self" ⟨20, 8, 20, 12⟩) "line" ⟨20, 8, 20, 17⟩] (.Name "line" ⟨20, 20, 20, 24⟩) ⟨20, 8, 20, 24⟩]
structure BlC (prog : Program) (K : W.Frag) (mg : Str → Option Value) (C fI cc cda : Addr) : Prop where
  T : OexC K C
  sup : W.ks_superIn K C C "__init__" = some (some (.builtin "ValueError.__init__"))
  sv : W.subIn K (.ref C) (.type "ValueError") = some true
  mro : W.mroIn K C (.ref C) = some true
  st : W.nsIn K cStatics "thirdparty.any" = some none
  nsup : mg "super" = none
  nol : W.findIn K (.ref C) "line" = some none
  cell : ∃ cl cld csl, K.lookup cc = some ⟨cl, cld, .cell (some (.ref C)), csl⟩
  code : ∃ ccl cdd vs ccs file tf, K.lookup cda = some ⟨ccl, cdd, .fields vs, ccs⟩ ∧ vs[2]? = some (.str file tf) ∧ ((prog.main.file : Str) == file) = true
  top : (prog.main.scope.names.lookup ("super" : Str)).isSome = false
def spBl (C : Addr) : Sp := fun vs H Q _ => ∃ (a : Addr) (n : Int), vs = [.ref a, .int n] ∧ H a = some (exo a C none) ∧ ∀ dx, H dx = none → dx ≠ a → Q .non (upd (upd H dx (exd dx [("line", .int n)])) a (exo a C (some dx)))
section
variable {P : Program} {w : World} {K : W.Frag} {mg : Str → Option Value} {base : Heap} {C fI cc cda : Addr} {nm qual : Str} {params : Arguments} {dV kV doc pm ct oc : Value} {an od : Option Addr} {osl : Array (Option Value)}
theorem bl_fn (B : BlC P K mg C fI cc cda) (lk : K.lookup fI = some ⟨oc, od, .func (W.ksFn nm qual params blBody blScope dV kV doc pm an (.ref cda) ct cc), osl⟩) (hcd : W.codeIn K (.ref cda) qual = true)
    (hpar : ∃ ar, (params.posonlyargs ++ params.args).head? = some ar ∧ ar.arg = "self") :
    L2H.FnH P w K mg base (L2.CX P w) 1 fI (W.ksFn nm qual params blBody blScope dV kV doc pm an (.ref cda) ct cc) ["self", "line"] (spBl C) := by
  obtain ⟨T, sup, sv, mro, st, nsup, nol, ⟨cl, cld, csl, hcell⟩, ⟨ccl, cdd, vs, ccs, file, tf, hcode, hvs, hfile⟩, htop⟩ := B
  refine ⟨fun vs H Q E h => ?_, fun Ar outer s H args us vs' Q E p hr hot hpin e0 hb r hsp => ?_⟩
  · obtain ⟨a, n, rfl, _⟩ := h
    rfl
  obtain ⟨a, n, rfl, ea, q⟩ := hsp
  obtain ⟨ar, har, hself⟩ := hpar
  obtain ⟨cnm, cq, N, bs, bm, sn, sub, ab, col, dd, k0, k1, k2, k3, k5, hC, hbm⟩ := T.cls
  have hcl : W.clsIn K C = some { name := cnm, bases := bs, mro := .ref C :: bm, ns := N, qualname := cq, hasDict := true, slotNames := sn, subclasses := sub, abstract := ab, collection := col, hasDel := false } := by unfold W.clsIn; rw [hC] <;> rfl
  cases r with
  | @cons _ u0 _ ur ra rw' =>
  cases rw' with
  | @cons _ u1 _ ur2 rn rn2 =>
  cases rn2
  obtain rfl : u0 = Value.ref a := ra
  obtain ⟨tn, rfl⟩ : ∃ tn, u1 = Value.int n tn := rn
  have KX : K.In s.heap := e0.mod.kin.keeps fun b o e => (e0.bs b o e).1
  have lim : s.heap.NoLimit := e0.mod.nolimit.keeps fun b o e => (e0.bs b o e).1
  have hb0 : ∀ b o, base.get? b = some o → s.heap.get? b = some o := fun b o e => (e0.bs b o e).1
  obtain ⟨t1, ha⟩ := exo_at e0.hok ea
  refine ks_codeAny_call_defAt (body := blBody) hr.depth (KX _ _ lk) rfl lim (W.codeRec_of KX hcd) rfl hb (show ∀ x ∈ blScope.names, x.2 ≠ .cell by decide) (fun x hx => ?_) fun h₀ hns hk => ?_
  · simp only [List.zip_cons_cons, List.zip_nil_right, List.mem_cons, List.not_mem_nil, or_false] at hx
    rcases hx with rfl | rfl <;> rfl
  have aL : a ≠ s.heap.objs.size := Nat.ne_of_lt (Heap.lt_size ha)
  have ha0 := hk a _ ha
  have KX0 : K.In h₀ := KX.keeps hk
  have hb1 : ∀ b o, base.get? b = some o → h₀.get? b = some o := fun b o e => hk b o (hb0 b o e)
  obtain ⟨mb, hbl, hbs⟩ := e0.mod.blt
  have oD : h₀.get? C = _ := KX0 _ _ hC
  refine ks_wpAt_execs_cons (ks_wpAt_Expr_any (ks_wpAt_MethodCall (ks_wpAt_super_base rfl rfl rfl rfl (KX0 _ _ lk) rfl har rfl (KX0 _ _ hcode) rfl hvs hfile htop ?_)))
  refine W.ks_loadName_global rfl rfl (Calls.loadGlobal_builtin (e0.mod.glob.keeps hb1) nsup (hbl.keeps hb1) ((hbs _ (by decide)).trans (by decide +kernel)) ⟨rfl, ?_⟩)
  refine wpAny_loadName_free rfl rfl rfl ⟨_, KX0 _ _ hcell, rfl⟩ ?_
  refine wpAny_loadName_local (v := .ref a) rfl (by rw [hself]; rfl) hns (by rw [hself]; rfl) ?_
  refine ks_wpAny_isType_cls oD rfl ⟨rfl, ?_⟩
  refine ks_wpAny_call_super oD rfl ha0 rfl (fun c e => by cases e) (W.looks_mroIn KX0 mro) (fun h1 e1 k1' => ?_)
  have KX1 : K.In h1 := KX0.keeps k1'
  have ha1 := k1' a _ ha0
  have I1 : W.InstAt h1 a _ C none := ⟨ha1, rfl, rfl, trivial⟩
  have sup' : W.alongIn K "__init__" (((Value.ref C :: bm).dropWhile (· != .ref C)).drop 1) = some (some (.builtin "ValueError.__init__")) := by
    unfold W.ks_superIn at sup
    rw [hcl] at sup
    exact sup
  refine W.kxs_getMethod W.kxs_ValueError e1 (W.looks_opaque KX1 st) (l₀ := Value.ref C :: bm) (fun A Q E s k q => wpAny_bind ((W.looks_clsIn KX1 hcl) A _ E s k (wpAny_pure q))) rfl KX1 sup' (I1.type.andThen (W.looks_subIn KX1 sv)) (W.ks_ne KX1 I1 hcl) (by decide) ?_
  have k2 : ∀ b o, h1.get? b = some o → (h1.push (W.kxs_mw "ValueError.__init__" a)).get? b = some o := fun b o e => Heap.get?_push_of_some _ e
  have eu : (h1.push (W.kxs_mw "ValueError.__init__" a)).get? h1.objs.size = some (W.kxs_mw "ValueError.__init__" a) := Heap.get?_push_at rfl rfl
  have ha2 := k2 a _ ha1
  have hns2 := (hns.keeps k1').keeps k2
  refine W.kxs_callWith (i := "ValueError.__init__") (x := a) rfl (Calls.evalArgs_plain (Calls.spliced_cons ?_))
  refine wpAny_Name (wpAny_loadName_local (v := .int n tn) rfl rfl hns2 rfl ?_) (by decide)
  refine Calls.spliced_nil ⟨eu, ?_⟩
  refine ve_call_bw (k2 _ _ (k1' _ _ oD)) ha2 eu (by show 1 ≤ sizeLine; rw [sizeLine_eq]; omega) fun h3 t3 k3' ha3 => ?_
  have kA : ∀ b o, b ≠ a → s.heap.get? b = some o → h3.get? b = some o := fun b o nb e => k3' b o nb (k2 _ _ (k1' _ _ (hk _ _ e)))
  have KX3 : K.In h3 := fun b o e => kA b o (fun z => by
    have y := (e0.bs b o (e0.mod.kin b o e)).2
    rw [z, ea] at y
    cases y) (KX b o e)
  have hns3 : h3.Ns s.heap.objs.size (fun x => List.lookup x ([Str.ofString "self", Str.ofString "line"].zip [Value.ref a, Value.int n tn]).reverse) := by
    obtain ⟨oL, es, ep, eL, rL⟩ := hns2
    exact ⟨oL, es, ep, k3' _ _ aL.symm eL, rL⟩
  refine ks_wpAt_execs_cons (ks_wpAt_Assign_Attr (wpAt_of_wpAny ?_))
  refine wpAny_Name (wpAny_loadName_local (v := .int n tn) rfl rfl hns3 rfl ?_) (by decide)
  refine wpAny_Name (wpAny_loadName_local (v := .ref a) rfl rfl hns3 rfl ?_) (by decide)
  refine W.set_plain KX3 (ox := HandSPX.excO C t3) (od := none) ⟨ha3, rfl, rfl, trivial⟩ T.sa ?_
  refine HandSPX.exc_osa KX3 ha3 hcl (show HandSPX.refsVE (.ref C :: bm) = true from hbm) rfl nol (fun h' tk' dx k dn dne hx hn => ?_)
  refine wpAt_of_wpAny (wpAny_execs_nil ?_)
  have kB : ∀ b o, b ≠ a → s.heap.get? b = some o → h'.get? b = some o := fun b o nb e => k b o nb (kA b o nb e)
  have szx : ∀ {b : Addr} {o : Obj}, s.heap.get? b = some o → b ≠ dx := fun {b o} e => by
    have : ∃ o', h3.get? b = some o' := by
      by_cases z : b = a
      · exact ⟨_, by rw [z]; exact ha3⟩
      · exact ⟨_, kA b o z e⟩
    obtain ⟨o', e'⟩ := this
    exact Nat.ne_of_lt (Nat.lt_of_lt_of_le (Heap.lt_size e') dn)
  have hnd : H dx = none := by
    cases z : H dx with
    | none => rfl
    | some o =>
      obtain ⟨o', e'⟩ := objOk_get (e0.hok dx o z)
      exact absurd rfl (szx e')
  have na : ∀ {b : Addr}, H b = none → b ≠ a := fun {b} n z => by
    rw [z, ea] at n
    cases n
  have Un1 : Un (frs outer) [] H (upd (upd H dx (exd dx [("line", .int n)])) a (exo a C (some dx))) s.heap h' := {
    keep := fun b o q n _ _ => kB b o (na n) q
    slot := fun b o q n _ _ => ⟨o.slots, kB b o (na n) q⟩
    free := fun b o q n _ => by rw [upd_ne (na n), upd_ne (szx q)]; exact n
    there := fun b o q _ => by
      by_cases hb : b = a
      · exact ⟨_, by rw [hb]; exact hx⟩
      · exact ⟨o, kB b o hb q⟩
    tups := fun b xs q => by rw [upd_ne (at_ne ea q exo_tup), upd_ne (ne_of_none q hnd)]; exact q
    frzs := fun b o v q => by rw [upd_ne (at_ne ea q exo_frz), upd_ne (ne_of_none q hnd)]; exact q
    tbls := fun b ps q => ⟨#[], by rw [upd_ne (at_ne ea q exo_tbl), upd_ne (ne_of_none q hnd), q]; simp⟩ }
  refine ⟨.non, _, rfl, e0.bare, Un1, fun b o q => ?_, rfl, q dx hnd dne⟩
  by_cases hb : b = a
  · subst hb
    rw [upd_same] at q
    cases q
    exact exo_ok hx
  · rw [upd_ne hb] at q
    by_cases hd : b = dx
    · subst hd
      rw [upd_same] at q
      cases q
      exact exd_ok hn (relO_put (fs := []) (show RelV (.int n) _ from ⟨tn, rfl⟩) fun g => True.intro)
    · rw [upd_ne hd] at q
      exact (e0.hok b o q).stay (fun c v hc z => kB c v (by
          rcases hc with hc | hc
          · rw [hc]
            exact hb
          · exact at_ne ea hc exo_own) z)
        (fun c hc => by rw [upd_ne (at_ne ea hc exo_own), upd_ne (ne_of_none hc hnd)]; exact hc) (fun c xs hc => by rw [upd_ne (at_ne ea hc exo_tup), upd_ne (ne_of_none hc hnd)]; exact hc)
end
end Dl
namespace Dl
open PySem L2 PySem.Spec PyProof.Rows
structure DFnXN (P : Program) (w : World) (K : PySem.W.Frag) (mg : Str → Option Value) (base : Heap) (A : Amb) (L : List Str) (k : Nat) (x : Str) (ps : List Str) (S : FX A) : Prop where
  len : ∀ xs s P R, S xs s P R → xs.length = ps.length
  fn : ∃ f fd, mg x = some (.ref f) ∧ PySem.W.keepIn K (.ref f) = true ∧ Binds K fd ps [] ∧ FnOk P w K mg base (L2N.CX P w) k f fd ps (liftFX A K mg L ps.length S)
section
variable {A : Amb} {X : Cx} {N : Ent} {e : Expr} {es : List Expr} {pos pos' : Pos} {tL : DA A} {W : DXW A} {L : List Str}
theorem e_callXN {k j : Nat} {x : Str} {p : Pos} {ps : List Str} {S : FX A} (G : DFnXN X.prog X.w X.K X.mg X.base A L k x ps S) (tk : L2N.Takes X (liftX A X.K N X.mg L W)) (hr : Room j X.A) (hj : k ≤ j) (ha : PA X (e :: es) (liftA A X.K N tL))
    (hg : Gl X x := by rfl) (hdb : (x == ("__debug__" : Str)) = false := by decide) (h1 : starEach (e :: es) X.env = (false, eval e X.env) :: starEach es X.env := by rfl) (h2 : (backTo pos (starEach es X.env)).any (·.1) = false := by rfl) :
    PE X (.Call (.Name x p) (e :: es) [] pos) (liftE A X.K N (dCallX W S tL)) := by
  obtain ⟨f, fd, hm, hk, hb, F⟩ := G.fn
  refine PE.imp (pe_callS F (hr.mono hj) hg hm hk hb (L2N.passAt tk) ha hdb h1 h2) fun σ H Q ⟨ρ, s, O, P, R0, q, kk⟩ => ⟨ρ, s, O, _, R0, q, fun xs s1 vs H1 O1 q1 R1 le1 r => ?_⟩
  refine ⟨by rw [r.length]; exact G.len _ _ _ _ q1, xs, s1, O1, fun b => OwnS σ ρ b ∨ N.X0 b, P, _, R1.amb, fun b z => ?_, r, q1, fun d s2 v H2 O2 p at2 kp rd => ?_, fun er s2 cls dd H2 O2 w at2 kp ea => ?_⟩
  · refine ⟨R1.dom (.inr z), ?_⟩
    rcases z with z | z
    · exact (R1.new b z).2
    · obtain ⟨⟨o, e⟩, n⟩ := R1.xd b z
      exact (R1.keep b o e n).2
  · have C := R1.call at2 kp
    exact kk d s2 v H2 O2 p C.1 (le1.trans C.2) rd
  · exact ⟨er, ρ, s2, O2, (R1.call at2 kp).1, ea, w⟩
theorem pmk_ownN {C : Addr} {bmB : List Value} {B newId initId : String} {x : Str} {p : Pos} {t : TA} (F : ExcBaseFacts B newId initId bmB) (q : PySem.W.excIn X.K C bmB newId = true) (gC : X.mg x = some (.ref C))
    (kC : PySem.W.keepIn X.K (.ref C) = true) (r : Raises X (.ref C)) (hg : Gl X x) (ha : PA X (e :: es) t) (hdb : (x == ("__debug__" : Str)) = false := by decide)
    (he : starEach (e :: es) X.env = (false, eval e X.env) :: starEach es X.env := by rfl) (hpl : (backTo pos (starEach es X.env)).any (·.1) = false := by rfl) :
    L2N.PMk X (.Call (.Name x p) (e :: es) [] pos) (fun σ H Q => t σ H fun vs H1 => vs.length ≤ sizeLine ∧ Q (.ref C) none H1) := by
  intro pins s σ H Q I h
  refine wpAny_Call_Name_kw (ld_glob I hg gC ?_ hdb)
  refine PySem.W.callWith_K (h₀ := X.base) I.ok.mod.kin kC (thn (ha.run pos pins s σ H _ I h) fun us s1 ⟨vs, H1, I1, r1, hz, q1⟩ => ⟨I1.kIn, ?_⟩) he hpl
  show wpAny _ _ (call (.ref C) us) _ _ _
  obtain ⟨bm, M, nm, qn, bs, hdct, sn, sub, ab, col, dd, k0, k1, k2, k3, k5, mN, hC, hN, hni, T⟩ := exc_obj I1.kIn q
  exact wpAny_call_exc_subT F T hC hN hni (fun h' e hm => L2N.mk_of I1 hm r q1 (I1.hok.gone hm.new)) (by rw [← r1.length]; exact hz)
theorem s_raiseN {n : Str} {p : Pos} {C : Addr} (R : RaisC X.K C) (hn : n ∈ L) (hm : X.mg n = some (.ref C)) (tk : L2N.Takes X (liftX A X.K N X.mg L W)) (ha : PA X (e :: es) (liftA A X.K N tL)) (hc : X.calm = true := by rfl)
    (hg : Gl X n := by rfl) (hdb : (n == ("__debug__" : Str)) = false := by decide) (h1 : starEach (e :: es) X.env = (false, eval e X.env) :: starEach es X.env := by rfl) (h2 : (backTo pos (starEach es X.env)).any (·.1) = false := by rfl) :
    PS X (.Raise (some (.Call (.Name n p) (e :: es) [] pos)) none pos') (liftS A X.K N (dRaise W n tL)) :=
  s_imp (L2N.ps_raise hc tk (pmk_ownN PySem.F.excBase_ValueError R.ex hm R.kp (raises_own R.sb R.ty) hg ha hdb h1 h2)) fun D σ H ρ s O Dd R E q =>
    ⟨ρ, s, O, _, R, q, fun xs s1 vs H1 O1 ⟨hl, w⟩ R1 le1 r => ⟨by rw [r.length]; exact hl, ⟨n⟩, ρ, s1, O1, R1, ⟨hn, rfl, C, hm, rfl⟩, w⟩⟩
end
section
variable {P : Program} {w : World} {K : PySem.W.Frag} {mg : Str → Option Value} {base : Heap} {A : Amb} {L : List Str}
theorem DFnXN.mk' {x qual : Str} {st : Stmt} {f : Addr} {fd : FuncData} {N ps : List Str} {k : Nat} {S : FX A} {tb : DXW A → DS A} (F : Fun K x qual st f fd) (hm : mg x = some (.ref f)) (b : Binds K fd ps []) (sc : FnScope N ps (defScope st)) (len : ∀ xs s P R, S xs s P R → xs.length = ps.length)
    (hb : ∀ (cdv : Value) (Ar : Around) (outer : List PySem.Env) (s : Shared) (H : Hp) (E : XK), Room k (Ar.deeper (PyProof.Rows.envOfC qual (defScope st) s.heap.objs.size f cdv)) → ∀ (Nt : Ent) (W : DXW A), L2N.Takes (cxOf (L2N.CX P w) P w K mg base N qual (defScope st) f cdv Ar outer s H E) (liftX A K Nt mg L W) →
      PassesOwn (model P w) (cxOf (L2N.CX P w) P w K mg base N qual (defScope st) f cdv Ar outer s H E).A (cxOf (L2N.CX P w) P w K mg base N qual (defScope st) f cdv Ar outer s H E).env (cxOf (L2N.CX P w) P w K mg base N qual (defScope st) f cdv Ar outer s H E).xe →
      PSs (cxOf (L2N.CX P w) P w K mg base N qual (defScope st) f cdv Ar outer s H E) (defBody st) (liftS A K Nt (tb W)))
    (ht : ∀ ds s Q R, S ds s Q R → tb (fun e _ s' => R e s') ⟨fun _ s' => Q .none s', Q, fun _ _ => False, fun _ _ => False⟩ (startR N.length ds) s) : DFnXN P w K mg base A L (k + 1) x ps S := by
  refine ⟨len, f, fd, hm, F.kp, b, ?_⟩
  obtain ⟨oc, od, kV, doc, pm, an, cdv, ct, osl, rfl, lk, hcd⟩ := F.ex
  refine fn_of lk hcd sc (fun vs H Q E h => h.1) fun Ar outer s H vs Q E hr h => ?_
  obtain ⟨hl, ds, s0, O, Y, Pk, R, a, y, r, q, kk, kx⟩ := h
  have hn : vs.length ≤ N.length := by
    have z := congrArg List.length sc.pre
    rw [List.length_take] at z
    omega
  obtain ⟨R0, hF⟩ := Rel.start (N := N) (ps := ps) hn a y r
  have leY : ∀ {H' : Hp} {σ' : L2.St} {ρ : Rho} {O' : Addr → Prop}, Hle (fzP H' (Px ⟨H, O, Y⟩ σ' ρ O')) (fzP H' fun b => O' b ∨ Y b) := fun {H' σ' ρ O'} => fzP_mono (Hle.refl _) fun b _ _ z => by
    rcases z with z | z
    · exact .inl z
    · exact .inr (.inr z)
  have tk : L2N.Takes (cxOf (L2N.CX P w) P w K mg base N qual (defScope st) f cdv Ar outer s H E) (liftX A K ⟨H, O, Y⟩ mg L fun e _ s' => R e s') :=
    (L2N.takes_of (X := cxOf (L2N.CX P w) P w K mg base N qual (defScope st) f cdv Ar outer s H E) (E := E) rfl rfl rfl rfl).imp fun cls d σ H' ⟨e, ρ, s', O', R', ea, hw⟩ => kx e s' cls d H' O' hw (A.stay R'.amb leY fun _ _ => rfl) R'.keep ea
  refine ⟨_, hb cdv Ar outer s H E hr ⟨H, O, Y⟩ _ tk (passes_of rfl), _, s0, O, ⟨fun _ s' => Pk .none s', Pk, fun _ _ => False, fun _ _ => False⟩, R0, ⟨fun ρ s' σ' H' O' R' le p => ?_, fun ρ s' σ' H' O' d v R' le rd p => ?_, fun _ _ _ _ _ _ _ z => z.elim, fun _ _ _ _ _ _ _ z => z.elim⟩, ht ds s0 _ _ q⟩
  · exact kk _ s' .non H' O' p (A.stay R'.amb leY fun _ _ => rfl) R'.keep .non
  · exact kk d s' v H' O' p (A.stay R'.amb leY fun _ _ => rfl) R'.keep (rd.mono leY)
end
end Dl
namespace Dl
open PySem L2 PySem.Spec PyProof.Rows
def lnD (k : Nat) : HO := .xd [("line", .int (k : Nat))]
abbrev DLW (A : Amb) := Nat → Rho → A.S → Prop
def liftXL (A : Amb) (K : PySem.W.Frag) (N : Ent) (C : Addr) (W : DLW A) : WX := fun cls d σ H => ∃ (k : Nat) (ρ : Rho) (s : A.S) (O : Addr → Prop) (dd : Addr), Rel A K N s σ H ρ O ∧ cls = .ref C ∧ d = some dd ∧ H dd = some (lnD k) ∧ ¬ Px N σ ρ O dd ∧ W k ρ s
abbrev FL (A : Amb) := List D → A.S → (D → A.S → Prop) → (Nat → A.S → Prop) → Prop
def liftFL (A : Amb) (K : PySem.W.Frag) (C : Addr) (n : Nat) (S : FL A) : Sp := fun vs H Q E => vs.length = n ∧ ∃ (ds : List D) (s : A.S) (O Y : Addr → Prop) (P : D → A.S → Prop) (R : Nat → A.S → Prop), A.at_ s O (fzP H fun b => O b ∨ Y b) H ∧ (∀ b, Y b → (∃ o, H b = some o) ∧ ¬ O b) ∧
  RpL K (fzP H fun b => O b ∨ Y b) vs ds ∧ S ds s P R ∧
  (∀ (d : D) (s' : A.S) (v : V) (H' : Hp) (O' : Addr → Prop), P d s' → A.at_ s' O' (fzP H' fun b => O' b ∨ Y b) H' → (∀ b o, H b = some o → ¬ O b → H' b = some o ∧ ¬ O' b) → Rp K (fzP H' fun b => O' b ∨ Y b) v d → Q v H') ∧
  ∀ (k : Nat) (s' : A.S) (dd : Addr) (H' : Hp) (O' : Addr → Prop), R k s' → A.at_ s' O' (fzP H' fun b => O' b ∨ Y b) H' → (∀ b o, H b = some o → ¬ O b → H' b = some o ∧ ¬ O' b) → H' dd = some (lnD k) → ¬ (O' dd ∨ Y dd) → E (.ref C) (some dd) H'
structure DFnL (P : Program) (w : World) (K : PySem.W.Frag) (mg : Str → Option Value) (base : Heap) (A : Amb) (C : Addr) (k : Nat) (x : Str) (ps : List Str) (S : FL A) : Prop where
  len : ∀ xs s P R, S xs s P R → xs.length = ps.length
  fn : ∃ f fd, mg x = some (.ref f) ∧ PySem.W.keepIn K (.ref f) = true ∧ Binds K fd ps [] ∧ FnOk P w K mg base (L2.CX P w) k f fd ps (liftFL A K C ps.length S)
def dCallL {A : Amb} (W : DLW A) (S : FL A) (a : DA A) : DE A := fun ρ s Q => a ρ s fun xs s1 => S xs s1 Q fun k s' => W k ρ s'
@[simp] theorem q_dCallL {A : Amb} {W : DLW A} {S : FL A} {a : DA A} {ρ : Rho} {s : A.S} {Q : D → A.S → Prop} : dCallL W S a ρ s Q = a ρ s fun xs s1 => S xs s1 Q fun k s' => W k ρ s' := rfl
def dRaiseL {A : Amb} (W : DLW A) (te : DE A) : DS A := fun _ ρ s => te ρ s fun d s' => ∃ k : Nat, d = .int (k : Nat) ∧ W k ρ s'
@[simp] theorem q_dRaiseL {A : Amb} {W : DLW A} {te : DE A} {D : DEnds A} {ρ : Rho} {s : A.S} : dRaiseL W te D ρ s = te ρ s fun d s' => ∃ k : Nat, d = .int (k : Nat) ∧ W k ρ s' := rfl
def dTryB {A : Amb} (C : Str) (tb : DXW A → DS A) (ts : DS A) : DS A := fun D ρ s => tb (fun e ρ' s' => e.cls = C ∧ ts D ρ' s') D ρ s
def dTryL {A : Amb} (tb : DLW A → DS A) (i : Nat) (ts : Nat → Addr → DS A) : DS A := fun D ρ s =>
  tb (fun k ρ' s' => ∀ a : Addr, ts k a ⟨fun ρ s => D.nx (ρ.set i .un) s, D.rt, fun ρ s => D.bk (ρ.set i .un) s, fun ρ s => D.ct (ρ.set i .un) s⟩ (ρ'.set i (.fz (refD a))) s') D ρ s
def dLine {A : Amb} (a : Addr) (i : Nat) (k : Nat) : DE A := fun ρ s Q => ρ[i]? = some (.fz (refD a)) ∧ Q (.int (k : Nat)) s
@[simp] theorem q_dLine {A : Amb} {a : Addr} {i k : Nat} {ρ : Rho} {s : A.S} {Q : D → A.S → Prop} : dLine a i k ρ s Q = (ρ[i]? = some (.fz (refD a)) ∧ Q (.int (k : Nat)) s) := rfl
def dIsL {A : Amb} (a : Addr) (i : Nat) (b : Bool) : DE A := fun ρ s Q => ρ[i]? = some (.fz (refD a)) ∧ Q (.bool b) s
@[simp] theorem q_dIsL {A : Amb} {a : Addr} {i : Nat} {b : Bool} {ρ : Rho} {s : A.S} {Q : D → A.S → Prop} : dIsL a i b ρ s Q = (ρ[i]? = some (.fz (refD a)) ∧ Q (.bool b) s) := rfl
section
variable {A : Amb} {X : Cx} {N : Ent} {e : Expr} {es : List Expr} {pos pos' : Pos} {tL : DA A} {te : DE A} {W : DLW A} {C : Addr}
theorem e_callL {k j : Nat} {x : Str} {p : Pos} {ps : List Str} {S : FL A} (G : DFnL X.prog X.w X.K X.mg X.base A C k x ps S) (tk : Takes X (liftXL A X.K N C W)) (hr : Room j X.A) (hj : k ≤ j) (ha : PA X (e :: es) (liftA A X.K N tL))
    (hg : Gl X x := by rfl) (hdb : (x == ("__debug__" : Str)) = false := by decide) (h1 : starEach (e :: es) X.env = (false, eval e X.env) :: starEach es X.env := by rfl) (h2 : (backTo pos (starEach es X.env)).any (·.1) = false := by rfl) :
    PE X (.Call (.Name x p) (e :: es) [] pos) (liftE A X.K N (dCallL W S tL)) := by
  obtain ⟨f, fd, hm, hk, hb, F⟩ := G.fn
  refine PE.imp (pe_callS F (hr.mono hj) hg hm hk hb (passAt tk) ha hdb h1 h2) fun σ H Q ⟨ρ, s, O, P, R0, q, kk⟩ => ⟨ρ, s, O, _, R0, q, fun xs s1 vs H1 O1 q1 R1 le1 r => ?_⟩
  refine ⟨by rw [r.length]; exact G.len _ _ _ _ q1, xs, s1, O1, fun b => OwnS σ ρ b ∨ N.X0 b, P, _, R1.amb, fun b z => ?_, r, q1, fun d s2 v H2 O2 p at2 kp rd => ?_, fun k s2 dd H2 O2 w at2 kp hd nd => ?_⟩
  · refine ⟨R1.dom (.inr z), ?_⟩
    rcases z with z | z
    · exact (R1.new b z).2
    · obtain ⟨⟨o, e⟩, n⟩ := R1.xd b z
      exact (R1.keep b o e n).2
  · have C := R1.call at2 kp
    exact kk d s2 v H2 O2 p C.1 (le1.trans C.2) rd
  · exact ⟨k, ρ, s2, O2, dd, (R1.call at2 kp).1, rfl, rfl, hd, nd, w⟩
theorem s_raiseL {n : Str} {p : Pos} {fI cc cda : Addr} {fd : FuncData} {j : Nat} (B : BlC X.prog X.K X.mg C fI cc cda) (iC : PySem.W.findIn X.K (.ref C) "__init__" = some (some (.ref fI))) (tI : PySem.W.typeIn X.K (.ref fI) = some (.type "function"))
    (F1 : L2H.FnH X.prog X.w X.K X.mg X.base (L2.CX X.prog X.w) 1 fI fd ["self", "line"] (spBl C)) (hr : L2H.RoomH j X.A) (hj : 2 ≤ j) (hc : L2H.HotC X) (hb : Binds X.K fd ["self", "line"] []) (hm : X.mg n = some (.ref C)) (tk : Takes X (liftXL A X.K N C W)) (he : PE X e (liftE A X.K N te))
    (hg : Gl X n := by rfl) (hdb : (n == ("__debug__" : Str)) = false := by decide) (h1 : starEach [e] X.env = (false, eval e X.env) :: starEach [] X.env := by rfl) (h2 : (backTo pos (starEach [] X.env)).any (·.1) = false := by rfl) :
    PS X (.Raise (some (.Call (.Name n p) [e] [] pos)) none pos') (liftS A X.K N (dRaiseL W te)) :=
  s_imp (L2H.ps_raiseH hc tk (L2H.pmk5_oexH (k := 1) B.T iC tI F1 (hr.mono hj) hc hb passL hg hm (a_cons he a_nil h1) hdb h1 h2).pmk) fun D σ H ρ s O Dd R E q => by
    refine ⟨ρ, s, O, fun xs s' => match xs with | [x] => ∃ k : Nat, x = .int (k : Nat) ∧ W k ρ s' | _ => False, R, q, fun xs s1 vs H1 O1 q1 R1 le1 r => ?_⟩
    match xs, r, q1 with
    | [x], r, ⟨k, ex, w⟩ =>
      subst ex
      cases r with
      | cons rx rn =>
        cases rn
        cases rx
        refine ⟨by show 1 ≤ 1000; omega, fun a ha => ⟨a, (k : Nat), rfl, upd_same, fun dx hd ne => ⟨rfl, dx, _, upd_same, by rw [upd_ne ne, upd_same], ?_, ?_⟩⟩⟩
        · rw [upd_ne ne] at hd
          exact hd
        · rw [upd_ne ne] at hd
          have eH : upd (del (upd (upd (upd H1 a (exo a C none)) dx (exd dx [("line", .int (k : Nat))])) a (exo a C (some dx))) a) dx (.xd [("line", .int (k : Nat))]) = upd H1 dx (lnD k) := by
            funext b
            by_cases e1 : b = dx
            · rw [e1, upd_same, upd_same]
              rfl
            · rw [upd_ne e1, upd_ne e1]
              by_cases e2 : b = a
              · rw [e2, del_same, ha]
              · rw [del_ne e2, upd_ne e2, upd_ne e1, upd_ne e2]
          rw [eH]
          refine ⟨k, ρ, s1, O1, dx, R1.alloc (Same.up dx _ hd), rfl, rfl, upd_same, fun z => ?_, w⟩
          obtain ⟨o, eo⟩ := R1.dom z
          rw [hd] at eo
          cases eo
theorem call_isL {D a dd : Addr} {oe : Obj} {k : Nat} {pn : List (Addr × Obj)} (T : ExcC X.K D) (hc : PySem.W.isClsIn X.K D = true) (hz : Zc (.ref D) (some dd) oe) (hf : ∃ vs, oe.data = .fields vs) :
    CallR (X.suite a ((a, oe) :: pn)) (.builtin "isinstance") (fun xs H Q => ∃ (c : V) (cv : Value) (b : Bool), xs = [.ref a, c] ∧ H dd = some (lnD k) ∧ (∀ u, RelV c u → u = cv) ∧ PySem.W.kitOne X.K (.ref D) cv = some b ∧ Q (.bl b) H) := by
  intro pins s σ H xs us Q I r h
  obtain ⟨c, cv, b, rfl, ed, hcv, e, q⟩ := h
  cases r with
  | cons rx rr =>
    cases rr with
    | cons rt rr =>
      cases rr
      cases rx
      have ec := hcv _ rt
      subst ec
      obtain ⟨hget, _⟩ := I.pin (a, oe) (List.mem_append.mpr (.inl List.mem_cons_self))
      obtain ⟨vs, hv⟩ := hf
      have hx : ObjOk X.prog X.w H s.heap dd (.xd [("line", .int (k : Nat))]) := I.hok dd _ ed
      obtain ⟨mA, hns, hr⟩ := hx
      obtain ⟨od, ho, hl⟩ := lookIn_ns hns
      have J : PySem.W.InstAt s.heap a oe D (some od) := ⟨hget, hz.1, by unfold PySem.W.notCls; rw [hv] <;> rfl, by rw [hz.2]; exact ho⟩
      exact PySem.W.kia_one (PySem.W.kitx_exc hc T.hg T.hk T.hs T.ha T.hn T.ht T.hm) I.kIn J e (fun z => nomatch z) fun tk => ⟨.bl b, H, I.kept (t' := tk) fun _ _ z => z, rfl, q⟩
theorem e_isL {D dd C : Addr} {a : Addr} {oe : Obj} {k i : Nat} {v : Bool} {m n : Str} {pn : List (Addr × Obj)} {p p1 p2 : Pos} (T : ExcC X.K D) (hc : PySem.W.isClsIn X.K D = true) (hz : Zc (.ref D) (some dd) oe) (hf : ∃ vs, oe.data = .fields vs) (eN : N.H0 dd = some (lnD k)) (nN : ¬ N.O0 dd) (hC : X.mg m = some (.ref C)) (ki : PySem.W.kitOne X.K (.ref D) (.ref C) = some v) (hi : X.mg "isinstance" = none) (hv : PE (X.suite a ((a, oe) :: pn)) (.Name n p1) (tVar i))
    (hg : Gl X "isinstance" := by rfl) (hg2 : Gl X m := by rfl) (hdb : (m == ("__debug__" : Str)) = false := by decide)
    (h1 : starEach [.Name n p1, .Name m p2] X.env = (false, eval (.Name n p1) X.env) :: starEach [.Name m p2] X.env := by rfl) (h2 : (backTo pos (starEach [.Name m p2] X.env)).any (·.1) = false := by rfl) (h3 : starEach [.Name m p2] X.env = (false, eval (.Name m p2) X.env) :: starEach [] X.env := by rfl) :
    PE (X.suite a ((a, oe) :: pn)) (.Call (.Name "isinstance" p) [.Name n p1, .Name m p2] [] pos) (liftE A X.K N (dIsL a i v)) := by
  refine PE.imp (pe_callB (X := X.suite a ((a, oe) :: pn)) (call_isL (k := k) T hc hz hf) hg hi (by decide +kernel) (pa_cons hv (pa_cons (pe_glob (v := .ref C) hg2 hC rfl hdb) pa_nil h3) h1) (by decide) (by decide) h1 h2) fun σ H Q ⟨ρ, s, O, P, R, ⟨hs, q⟩, kk⟩ => ?_
  obtain ⟨w, e1, z, rfl, rz⟩ := R.slot hs
  obtain rfl := rz.ref_of
  exact ⟨_, e1, _, .ref C, _, rfl, (R.keep dd _ eN nN).1, fun u r => by cases r; rfl, ki, kk _ s _ H O q R (Hle.refl _) (.bl _)⟩
theorem e_isLV {D dd : Addr} {a : Addr} {oe : Obj} {k i : Nat} {n : Str} {pn : List (Addr × Obj)} {p p1 p2 : Pos} (T : ExcC X.K D) (hc : PySem.W.isClsIn X.K D = true) (hz : Zc (.ref D) (some dd) oe) (hf : ∃ vs, oe.data = .fields vs) (eN : N.H0 dd = some (lnD k)) (nN : ¬ N.O0 dd) (hC : X.mg "ValueError" = none) (ki : PySem.W.kitOne X.K (.ref D) (.type "ValueError") = some true) (hi : X.mg "isinstance" = none) (hv : PE (X.suite a ((a, oe) :: pn)) (.Name n p1) (tVar i))
    (hg : Gl X "isinstance" := by rfl) (hg2 : Gl X "ValueError" := by rfl)
    (h1 : starEach [.Name n p1, .Name "ValueError" p2] X.env = (false, eval (.Name n p1) X.env) :: starEach [.Name "ValueError" p2] X.env := by rfl) (h2 : (backTo pos (starEach [.Name "ValueError" p2] X.env)).any (·.1) = false := by rfl) (h3 : starEach [.Name "ValueError" p2] X.env = (false, eval (.Name "ValueError" p2) X.env) :: starEach [] X.env := by rfl) :
    PE (X.suite a ((a, oe) :: pn)) (.Call (.Name "isinstance" p) [.Name n p1, .Name "ValueError" p2] [] pos) (liftE A X.K N (dIsL a i true)) := by
  refine PE.imp (pe_callB (X := X.suite a ((a, oe) :: pn)) (call_isL (k := k) T hc hz hf) hg hi (by decide +kernel) (pa_cons hv (pa_cons (pe_bltn (v := .ty "ValueError") hg2 hC (by decide +kernel) rfl (by decide) (by decide)) pa_nil h3) h1) (by decide) (by decide) h1 h2) fun σ H Q ⟨ρ, s, O, P, R, ⟨hs, q⟩, kk⟩ => ?_
  obtain ⟨w, e1, z, rfl, rz⟩ := R.slot hs
  obtain rfl := rz.ref_of
  exact ⟨_, e1, _, .type "ValueError", true, rfl, (R.keep dd _ eN nN).1, fun u r => by cases r; rfl, ki, kk _ s _ H O q R (Hle.refl _) (.bl _)⟩
theorem e_line {D dd : Addr} {a : Addr} {oe : Obj} {k i : Nat} {n : Str} {pn : List (Addr × Obj)} {p1 : Pos} (T : XfC X.K D) (hno : PySem.W.findIn X.K (.ref D) "line" = some none) (hz : Zc (.ref D) (some dd) oe) (hf : ∃ vs, oe.data = .fields vs) (eN : N.H0 dd = some (lnD k)) (nN : ¬ N.O0 dd) (hv : PE (X.suite a ((a, oe) :: pn)) (.Name n p1) (tVar i))
    (hb : attributeBase (.Name n p1) "line" X.env (eval (.Name n p1) X.env) = eval (.Name n p1) X.env := by rfl) :
    PE (X.suite a ((a, oe) :: pn)) (.Attribute (.Name n p1) "line" pos) (liftE A X.K N (dLine a i k)) := by
  refine PE.imp (pe_xf T hno hz hf hv hb) fun σ H Q ⟨ρ, s, O, P, R, ⟨hs, q⟩, kk⟩ => ?_
  obtain ⟨w, e1, z, rfl, rz⟩ := R.slot hs
  obtain rfl := rz.ref_of
  exact ⟨_, e1, rfl, rfl, dd, [("line", .int (k : Nat))], .int (k : Nat), rfl, (R.keep dd _ eN nN).1, rfl, kk _ s _ H O q R (Hle.refl _) (.int _)⟩
theorem s_tryB {L : List Str} {x : Str} {C D : Addr} {body suite : List Stmt} {b₀ : Stmt} {np : Pos} {tb : DXW A → DS A} {ts : DS A} (T : ExT X.K X.mg L) (hx : x ∈ L) (hm : X.mg x = some (.ref C)) (hs : X.stack = X.env :: X.outer) (hf : X.env.frame = some X.env.locals) (hpa : ∀ hd : Option Value, PassesOwnAt (model X.prog X.w) (X.A.mark hd) X.A X.env X.xe) (hg : Gl X x) (tk : Takes X (liftXL A X.K N D W))
    (hb : ∀ (N' : Ent) (Wd : DXW A) (pn : List (Addr × Obj)) (xe : Value → Shared → Prop), L2N.Takes (X.tr pn xe) (liftX A X.K N' X.mg L Wd) → PassesOwn (model X.prog X.w) X.A X.env xe → PSs (X.tr pn xe) body (liftS A X.K N' (tb Wd)))
    (hsu : ∀ (a : Addr) (oe : Obj) (pn : List (Addr × Obj)), Takes (L2H.suiteX X a ((a, oe) :: pn)) (liftXL A X.K N D W) → L2H.HotC (L2H.suiteX X a ((a, oe) :: pn)) → PSs (L2H.suiteX X a ((a, oe) :: pn)) (b₀ :: suite) (liftS A X.K N ts))
    (hdb : (x == ("__debug__" : Str)) = false := by decide) :
    PS X (.Try body [.ExceptHandler (some (.Name x np)) none (b₀ :: suite) pos'] [] [] pos) (liftS A X.K N (dTryB x tb ts)) := by
  refine s_imp (L2H.ps_try_onlyX (c := .ref C) (tb := fun Wx D σ H => ∃ (N' : Ent) (Wd : DXW A), (∀ cls d σ H, liftX A X.K N' X.mg L Wd cls d σ H → Wx cls d σ H) ∧ liftS A X.K N' (tb Wd) D σ H)
    (ts := fun a cls d D σ H => liftS A X.K N ts D σ H) hs hf ⟨hg, hdb, .inl hm⟩ hpa tk
    (fun Wx pn xe tkx _ ps => ⟨fun pins s σ H D I ⟨N', Wd, imp, q⟩ => (hb N' Wd pn xe (tkx.imp imp) ps).run pins s σ H D I q⟩)
    (fun a oe cls d pn hz hd tkS hot => hsu a oe pn tkS hot)) fun Dn σ H ρ s O Dd R E q => ?_
  refine ⟨N.mid H σ ρ O, (fun e ρ' s' => e.cls = x ∧ ts Dd ρ' s'), ?_, ρ, s, O, Dd, R.into, ?_, q⟩
  · rintro cls d σ' H' ⟨e, ρ', s', O', R', ea, ex, w⟩
    obtain ⟨R2, le2⟩ := R.outof R'
    obtain ⟨h1, h2, B, h3, h4⟩ := ea
    subst h2 h4
    have em := (T.mat _ h1 _ hx B C h3 hm).1
    have e1 : subE e.cls x = true := by
      unfold subE
      rw [ex]
      simp
    refine ⟨true, by rw [em, e1], fun _ a ha => ⟨ρ', s', O', Dd, R2, E.up le2, w⟩, fun z => (nomatch z)⟩
  · exact ⟨fun ρ' s' σ' H' O' R' le z => E.nx ρ' s' σ' H' O' (R.outof R').1 le z, fun ρ' s' σ' H' O' d v R' le => E.rt ρ' s' σ' H' O' d v (R.outof R').1 le, fun ρ' s' σ' H' O' R' le z => E.bk ρ' s' σ' H' O' (R.outof R').1 le z, fun ρ' s' σ' H' O' R' le z => E.ct ρ' s' σ' H' O' (R.outof R').1 le z⟩
theorem s_tryL {x n : Str} {i : Nat} {D : Addr} {body suite : List Stmt} {b₀ : Stmt} {np : Pos} {tb : DLW A → DS A} {ts : Nat → Addr → DS A} (hm : X.mg x = some (.ref D)) (hex : PySem.W.exmOne X.K (.ref D) (.ref D) = some true) (hs : X.stack = X.env :: X.outer) (hf : X.env.frame = some X.env.locals) (hN : X.N.Nodup) (hi : X.N[i]? = some n) (hln : X.env.kindOf n = some .local) (hg : Gl X x)
    (hb : ∀ (N' : Ent) (Wd : DLW A) (pn : List (Addr × Obj)) (xe : Value → Shared → Prop), Takes (X.tr pn xe) (liftXL A X.K N' D Wd) → PassesOwn (model X.prog X.w) X.A X.env xe → PSs (X.tr pn xe) body (liftS A X.K N' (tb Wd)))
    (hsu : ∀ (k : Nat) (a dd : Addr) (oe : Obj) (N' : Ent) (pn : List (Addr × Obj)), N'.H0 dd = some (lnD k) → ¬ N'.O0 dd → Zc (.ref D) (some dd) oe → (∃ vs, oe.data = .fields vs) → PSs (X.suite a ((a, oe) :: pn)) (b₀ :: suite) (liftS A X.K N' (ts k a)))
    (hdb : (x == ("__debug__" : Str)) = false := by decide) :
    PS X (.Try body [.ExceptHandler (some (.Name x np)) (some n) (b₀ :: suite) pos'] [] [] pos) (liftS A X.K N (dTryL tb i ts)) := by
  refine s_imp (ps_try_as (c := .ref D) (i := i) (tb := fun Wx Dn σ H => ∃ (N' : Ent) (Wd : DLW A), (∀ cls d σ H, liftXL A X.K N' D Wd cls d σ H → Wx cls d σ H) ∧ liftS A X.K N' (tb Wd) Dn σ H)
    (ts := fun a cls d Dn σ H => ∃ (k : Nat) (dd : Addr) (N' : Ent), cls = .ref D ∧ d = some dd ∧ N'.H0 dd = some (lnD k) ∧ ¬ N'.O0 dd ∧ liftS A X.K N' (ts k a) Dn σ H) hs hf hN hi hln ⟨hg, hdb, .inl hm⟩ takes0
    (fun Wx pn xe tkx ps => ⟨fun pins s σ H D I ⟨N', Wd, imp, q⟩ => (hb N' Wd pn xe (tkx.imp imp) ps).run pins s σ H D I q⟩)
    (fun a oe cls d pn hz hd => ⟨fun pins s σ H Dn I ⟨k, dd, N', h1, h2, h3, h4, q⟩ => by
      subst h1 h2
      exact (hsu k a dd oe N' pn h3 h4 hz hd).run pins s σ H Dn I q⟩)) fun Dn σ H ρ s O Dd R E q => ?_
  refine ⟨N.mid H σ ρ O, (fun k ρ' s' => ∀ a : Addr, ts k a ⟨fun ρ s => Dd.nx (ρ.set i .un) s, Dd.rt, fun ρ s => Dd.bk (ρ.set i .un) s, fun ρ s => Dd.ct (ρ.set i .un) s⟩ (ρ'.set i (.fz (refD a))) s'), ?_, ρ, s, O, Dd, R.into, ?_, q⟩
  · rintro cls d σ' H' ⟨k, ρ', s', O', dd, R', h1, h2, h3, h4, w⟩
    subst h1 h2
    obtain ⟨R2, le2⟩ := R.outof R'
    refine ⟨true, hex, fun _ a ha => ?_, fun z => (nomatch z)⟩
    obtain ⟨R3, le3⟩ := R2.setFz (i := i) (v := .ref a) (c := .fz (refD a)) (fun z => z) ⟨_, rfl, .obj a⟩
    have E3 := E.up (le2.trans le3)
    have n3 : ¬ (O' dd ∨ OwnS (σ'.set i (some (.ref a))) (ρ'.set i (.fz (refD a))) dd) := fun z => by
      rcases z with z | ⟨j, c', e1, o, e2⟩
      · exact h4 (.inl z)
      · rcases set_get e1 with ⟨_, rfl⟩ | ⟨nj, e1⟩
        · exact o
        · rcases set_get e2 with ⟨z, _⟩ | ⟨_, e2⟩
          · exact nj z
          · exact h4 (.inr (.inl ⟨j, c', e1, o, e2⟩))
    refine ⟨k, dd, N.mid H' (σ'.set i (some (.ref a))) (ρ'.set i (.fz (refD a))) O', rfl, rfl, h3, n3, _, s', O', ⟨fun ρ s => Dd.nx (ρ.set i .un) s, Dd.rt, fun ρ s => Dd.bk (ρ.set i .un) s, fun ρ s => Dd.ct (ρ.set i .un) s⟩, R3.into, ?_, w a⟩
    exact ⟨fun ρ s σ H O R le z => E3.nx _ s _ H O (R3.outof R).1.setUn.1 (le.trans R.setUn.2) z, fun ρ s σ H O d v R le => E3.rt ρ s σ H O d v (R3.outof R).1 le, fun ρ s σ H O R le z => E3.bk _ s _ H O (R3.outof R).1.setUn.1 (le.trans R.setUn.2) z, fun ρ s σ H O R le z => E3.ct _ s _ H O (R3.outof R).1.setUn.1 (le.trans R.setUn.2) z⟩
  · exact ⟨fun ρ' s' σ' H' O' R' le z => E.nx ρ' s' σ' H' O' (R.outof R').1 le z, fun ρ' s' σ' H' O' d v R' le => E.rt ρ' s' σ' H' O' d v (R.outof R').1 le, fun ρ' s' σ' H' O' R' le z => E.bk ρ' s' σ' H' O' (R.outof R').1 le z, fun ρ' s' σ' H' O' R' le z => E.ct ρ' s' σ' H' O' (R.outof R').1 le z⟩
end
section
variable {P : Program} {w : World} {K : PySem.W.Frag} {mg : Str → Option Value} {base : Heap} {A : Amb} {C : Addr}
theorem DFnL.mk' {x qual : Str} {st : Stmt} {f : Addr} {fd : FuncData} {N ps : List Str} {k : Nat} {S : FL A} {tb : DLW A → DS A} (F : Fun K x qual st f fd) (hm : mg x = some (.ref f)) (b : Binds K fd ps []) (sc : FnScope N ps (defScope st)) (len : ∀ xs s P R, S xs s P R → xs.length = ps.length)
    (hb : ∀ (cdv : Value) (Ar : Around) (outer : List PySem.Env) (s : Shared) (H : Hp) (E : XK), Room k (Ar.deeper (PyProof.Rows.envOfC qual (defScope st) s.heap.objs.size f cdv)) → ∀ (Nt : Ent) (W : DLW A), Takes (cxOf (L2.CX P w) P w K mg base N qual (defScope st) f cdv Ar outer s H E) (liftXL A K Nt C W) →
      PassesOwn (model P w) (cxOf (L2.CX P w) P w K mg base N qual (defScope st) f cdv Ar outer s H E).A (cxOf (L2.CX P w) P w K mg base N qual (defScope st) f cdv Ar outer s H E).env (cxOf (L2.CX P w) P w K mg base N qual (defScope st) f cdv Ar outer s H E).xe →
      (∀ hd : Option Value, PassesOwnAt (model P w) ((cxOf (L2.CX P w) P w K mg base N qual (defScope st) f cdv Ar outer s H E).A.mark hd) (cxOf (L2.CX P w) P w K mg base N qual (defScope st) f cdv Ar outer s H E).A (cxOf (L2.CX P w) P w K mg base N qual (defScope st) f cdv Ar outer s H E).env (cxOf (L2.CX P w) P w K mg base N qual (defScope st) f cdv Ar outer s H E).xe) →
      PSs (cxOf (L2.CX P w) P w K mg base N qual (defScope st) f cdv Ar outer s H E) (defBody st) (liftS A K Nt (tb W)))
    (ht : ∀ ds s Q R, S ds s Q R → tb (fun k _ s' => R k s') ⟨fun _ s' => Q .none s', Q, fun _ _ => False, fun _ _ => False⟩ (startR N.length ds) s) : DFnL P w K mg base A C (k + 1) x ps S := by
  refine ⟨len, f, fd, hm, F.kp, b, F.okX sc (fun vs H Q E h => h.1) fun cdv Ar outer s H vs Q E hr h => ?_⟩
  obtain ⟨hl, ds, s0, O, Y, Pk, R, a, y, r, q, kk, kx⟩ := h
  have hn : vs.length ≤ N.length := by
    have z := congrArg List.length sc.pre
    rw [List.length_take] at z
    omega
  obtain ⟨R0, hF⟩ := Rel.start (N := N) (ps := ps) hn a y r
  have leY : ∀ {H' : Hp} {σ' : L2.St} {ρ : Rho} {O' : Addr → Prop}, Hle (fzP H' (Px ⟨H, O, Y⟩ σ' ρ O')) (fzP H' fun b => O' b ∨ Y b) := fun {H' σ' ρ O'} => fzP_mono (Hle.refl _) fun b _ _ z => by
    rcases z with z | z
    · exact .inl z
    · exact .inr (.inr z)
  have tk : Takes (cxOf (L2.CX P w) P w K mg base N qual (defScope st) f cdv Ar outer s H E) (liftXL A K ⟨H, O, Y⟩ C fun k _ s' => R k s') :=
    (takes_of (X := cxOf (L2.CX P w) P w K mg base N qual (defScope st) f cdv Ar outer s H E) (E := E) rfl rfl rfl rfl).imp fun cls d σ H' ⟨k, ρ, s', O', dd, R', h1, h2, h3, h4, hw⟩ => by
      subst h1 h2
      exact kx k s' dd H' O' hw (A.stay R'.amb leY fun _ _ => rfl) R'.keep h3 fun z => h4 (z.elim .inl fun z => .inr (.inr z))
  refine ⟨_, hb cdv Ar outer s H E hr ⟨H, O, Y⟩ _ tk (passes_of rfl) (L2H.passesAt_of rfl), _, s0, O, ⟨fun _ s' => Pk .none s', Pk, fun _ _ => False, fun _ _ => False⟩, R0, ⟨fun ρ s' σ' H' O' R' le p => ?_, fun ρ s' σ' H' O' d v R' le rd p => ?_, fun _ _ _ _ _ _ _ z => z.elim, fun _ _ _ _ _ _ _ z => z.elim⟩, ht ds s0 _ _ q⟩
  · exact kk _ s' .non H' O' p (A.stay R'.amb leY fun _ _ => rfl) R'.keep .non
  · exact kk d s' v H' O' p (A.stay R'.amb leY fun _ _ => rfl) R'.keep (rd.mono leY)
end
end Dl
namespace Dl
open PySem L2 PySem.Spec PyProof.Rows HT
theorem noI_tup : typeLookup (.type "tuple") (dunderI "add") = pure none := by rw [typeLookup_type, builtinLookup_eq_fast]; kernel_rfl
section
variable {prog : Program} {w : World} {A : Around} {E : Value → Shared → Prop} {s : Shared}
theorem icat_tup {t b : Addr} {vs ws : List Value} {Q : Value → Shared → Prop} (ht : IsTup s.heap t vs.toArray) (hb : IsTup s.heap b ws.toArray)
    (h0 : vs = [] → Q (.ref b) s) (h1 : vs ≠ [] → ws = [] → Q (.ref t) s) (h2 : vs ≠ [] → ws ≠ [] → Q (.ref s.heap.objs.size) { s with heap := s.heap.push { cls := .type "tuple", data := .seq (vs ++ ws).toArray } })
    (hsz : vs.length + ws.length ≤ sizeLine) : wpAny (model prog w) A (inplaceOp .Add (.ref t) (.ref b)) Q E s := by
  obtain ⟨⟨cls, dd, data, sl⟩, ho, hc, n, hd⟩ := id ht
  obtain ⟨⟨cls2, dd2, data2, sl2⟩, ho2, hc2, n2, hd2⟩ := id hb
  simp only at hc hd hc2 hd2
  subst hc hd hc2 hd2
  have e : vs.toArray ++ ws.toArray = (vs ++ ws).toArray := by simp
  refine wpAny_inplaceOp_concat (T := "tuple") ⟨_, ho, rfl⟩ ⟨_, ho2, rfl⟩ noI_tup noFill_tuple_add seq_tuple_add ?_
  by_cases hv : vs = []
  · exact call_meets PySem.F.slot_tuple_add ⟨_, ho, rfl⟩ PySem.F.entry_tuple_add (PySem.F.args_tuple_add_2 _ _) (tuple_addW0 t b vs.toArray ws.toArray n n2 dd dd2 sl sl2 (by simp [hv])) ⟨ho, ho2, h0 hv⟩
  by_cases hw : ws = []
  · exact call_meets PySem.F.slot_tuple_add ⟨_, ho, rfl⟩ PySem.F.entry_tuple_add (PySem.F.args_tuple_add_2 _ _) (tuple_addW1 t b vs.toArray ws.toArray n n2 dd dd2 sl sl2 (by simpa using hv) (by simp [hw])) ⟨ho, ho2, h1 hv hw⟩
  · refine call_meets PySem.F.slot_tuple_add ⟨_, ho, rfl⟩ PySem.F.entry_tuple_add (PySem.F.args_tuple_add_2 _ _) (tuple_addW2 t b vs.toArray ws.toArray n n2 dd dd2 sl sl2 (by simpa using hv) (by simpa using hw) (by rw [List.size_toArray, List.size_toArray]; exact hsz)) ⟨ho, ho2, ?_⟩
    rw [e]
    exact h2 hv hw
end
section
variable {X : Cx}
theorem iop_catF : OpR X (inplaceOp .Add) (rCatF X.K) := by
  intro pins s σ H x y v u Q I rx ry h
  obtain ⟨a, b, xs, ys, rfl, rfl, ha, hb, hz, q0, q1, q2⟩ := h
  cases rx
  cases ry
  obtain ⟨its, r1, p1, _⟩ := I.tuple ha
  obtain ⟨its2, r2, p2, _⟩ := I.tuple hb
  exact icat_tup p1 p2 (fun z => ⟨.ref b, H, I, rfl, q0 (r1.nil_iff.mp z)⟩) (fun z1 z2 => ⟨.ref a, H, I, rfl, q1 (fun w => z1 (r1.nil_iff.mpr w)) (r2.nil_iff.mp z2)⟩)
    (fun z1 z2 => laidT I (r1.append r2) (by rw [List.length_append]; exact hz) (q2 (fun w => z1 (r1.nil_iff.mpr w)) fun w => z2 (r2.nil_iff.mpr w))) (by rw [← r1.length, ← r2.length]; exact hz)
end
def fAddT : F2 := fun x y k => match x, y with
  | .tuple xs, .tuple ys => xs.length + ys.length ≤ sizeLine ∧ k (.tuple (xs ++ ys))
  | _, _ => False
@[simp] theorem q_fAddT {xs ys : List D} {k : D → Prop} : fAddT (.tuple xs) (.tuple ys) k = (xs.length + ys.length ≤ sizeLine ∧ k (.tuple (xs ++ ys))) := rfl
theorem dr_addT {X : Cx} : DR2 X.K (rCatF X.K) fAddT := fun H P x y dx dy k Q dm bx by_ f kk => by
  unfold fAddT at f
  split at f
  · next xs ys =>
    obtain ⟨a, vs, rfl, s1, s1', r1⟩ := bx.tup fzP_le
    obtain ⟨b, ws, rfl, s2, s2', r2⟩ := by_.tup fzP_le
    refine ⟨a, b, vs, ws, rfl, rfl, s1', s2', by rw [r1.length, r2.length]; exact f.1, fun e => ?_, fun e e' => ?_, fun e e' => ⟨xs ++ ys, fun p o hp ho => ?_⟩⟩
    · have e2 := r1.nil_iff.mp e
      subst e2
      exact kk _ H _ (Same.refl _) (.tup s2 r2) f.2
    · have e2 := r2.nil_iff.mp e'
      subst e2
      rw [List.append_nil] at f
      exact kk _ H _ (Same.refl _) (.tup s1 r1) f.2
    · obtain ⟨n1, n2⟩ := new_fz dm (o := o) hp
      exact kk _ _ _ (same_upd hp) (.tup ⟨o, ho, n1⟩ ((r1.append r2).mono n2)) f.2
  · exact f.elim
end Dl
namespace Dl
open PySem L2
def t_read_book {A : Amb} (W : DLW A) (S_is_book : FS A) (S_read_piece : FX A) : DS A :=
  (dSeq (dSet 2 (dSplit (dVar 1) "\n"))
  (dSeq (dSet 3 (dTup dNil))
  (dSeq (dFor (dRg1 (dCons (dFn fLen (dCons (dVarB 2) dNil)) dNil)) (dgN 4)
  (dTryB "BadText" (fun Wd1 => (dSeq (dPart 5 6 7 (dOp fIx (dVarB 2) (dVarB 4)) " ")
  (dSeq (dAug 3 fAddT (dTup (dCons (dTup (dCons (dVar 5) (dCons (dCallX Wd1 S_read_piece (dCons (dVar 0) (dCons (dVar 7) dNil))) dNil))) dNil)))
  (dIfS (dNotT (dTest (dCall S_is_book (dCons (dVar 0) (dCons (dVar 3) dNil)))))
  (dRaise Wd1 "BadText" (dCons (dOp fIx (dVarB 2) (dVarB 4)) dNil))
  dNx))))
  (dRaiseL W (dVar 4))))
  (dRet (dVar 3)))))
def t_L_read_book {A : Amb} (S_read_book : FL A) : DS A :=
  (dTryL (fun Wd1 => (dRet (dTup (dCons (dC (.str "told")) (dCons (dCallL Wd1 S_read_book (dCons (dVar 0) (dCons (dVar 1) dNil))) dNil))))) 2
  (fun k a => (dRet (dIf (dAndT (dTest (dIsL a 2 true)) (dAndT (dTest (dIsL a 2 true)) (dNotT (dTest (dIsL a 2 false))))) (dTup (dCons (dC (.str "line")) (dCons (dLine a 2 k) dNil))) (dTup (dCons (dC (.str "other")) dNil))))))
theorem tried_pieceW {st : Int} {cs : List (List Int)} (h0 : 0 ≤ st) (h8 : st ≤ 8) (h : pieceW st cs) : itemsOk (.tuple (cs.map tupI)) := by
  obtain ⟨_, _, h9⟩ := pieceW_ok h0 h8 h
  intro _ x m
  obtain ⟨c, mc, rfl⟩ := List.mem_map.mp m
  have := (h9 c mc).2
  refine ⟨flat_tupI, ?_⟩
  show (c.map _).length ≤ 90000
  rw [List.length_map]
  omega
theorem tried_book {st : Int} {bs : List Lead} (h0 : 0 ≤ st) (h8 : st ≤ 8) (h : ∀ p ∈ bs, p.1.length ≤ 1000 ∧ pieceW st p.2) : triedB (bookD bs) := by
  refine ⟨trivial, fun xs e p mp => ?_⟩
  unfold bookD at e
  cases e
  obtain ⟨q, mq, rfl⟩ := List.mem_map.mp mp
  refine ⟨trivial, fun ys e y my => ?_⟩
  have e : PyData.tuple [.str q.1, .tuple (q.2.map tupI)] = .tuple ys := e
  cases e
  simp only [List.mem_cons, List.not_mem_nil, or_false] at my
  rcases my with rfl | rfl
  · exact ⟨trivial, trivial, fun x hx => by cases hx; have := (h q mq).1; omega⟩
  · exact ⟨trivial, tried_pieceW h0 h8 (h q mq).2, fun x hx => (nomatch hx)⟩
section
variable {A : Amb} {ds : List D} {s : A.S} {Q : D → A.S → Prop} {R : Nat → A.S → Prop}
def S_read_book : FL A := fun ds s Q R => ∃ (st : Int) (t : Str), ds = [.int st, .str t] ∧ 3 ≤ st ∧ st ≤ 8 ∧ t.length ≤ 100000 ∧ (Txt.split t "\n").length ≤ 1000 ∧ (∀ l ∈ Txt.split t "\n", l.length ≤ 1000) ∧ (∀ bs, dueB st 0 [] (Txt.split t "\n") = .ok bs → Q (bookD bs) s) ∧ ∀ k, dueB st 0 [] (Txt.split t "\n") = .error k → R k s
theorem len_read_book (h : S_read_book ds s Q R) : ds.length = 2 := by obtain ⟨_, _, e, _⟩ := h; rw [e]; rfl
theorem p_read_book (h : S_read_book ds s Q R) : t_read_book (fun k _ s' => R k s') S_is_book S_read_piece (retE Q) (startR 8 ds) s := by
  obtain ⟨st, t, rfl, s3, s8, tl, hl, hw, q, r⟩ := h
  generalize hlines : Txt.split t "\n" = lines at hl hw q r
  have e : startR 8 [.int st, .str t] = [.fz (.int st), .fz (.str t), .un, .un, .un, .un, .un, .un] := rfl
  have hs : 1000000 ≤ sizeLine := by decide
  unfold t_read_book
  rw [e, q_dSeq]
  simp [-q_dSeq, -q_dIfS, hlines]
  refine ⟨by decide +kernel, by omega, ?_⟩
  rw [q_dSeq]
  simp [-q_dSeq, -q_dIfS]
  rw [q_dSeq]
  refine for_of (xs := rngD 0 lines.length) (fun k z => by simp; exact ⟨by omega, z⟩) (fun r ρ s' => s' = s ∧ ∃ (j : Nat) (acc : List Lead) (c4 c5 c6 c7 : Cell), r = rngD j (lines.length - j) ∧ j ≤ lines.length ∧ acc.length = j ∧ (acc = [] ∨ bookB st (bookD acc) = true) ∧ (∀ p ∈ acc, p.1.length ≤ 1000 ∧ pieceW st p.2) ∧ dueB st 0 [] lines = dueB st j acc (lines.drop j) ∧ ρ = [.fz (.int st), .fz (.str t), .fz (.list (lines.map .str)), .fz (bookD acc), c4, c5, c6, c7]) ⟨rfl, 0, [], .un, .un, .un, .un, rfl, by omega, rfl, .inl rfl, fun p m => (nomatch m), rfl, rfl⟩ ?_ ?_
  · rintro x rr ρ s' ⟨rfl, j, acc, c4, c5, c6, c7, hr, hj, la, hb, hp, hd, rfl⟩ D' hrt hbk hnx hct
    have lt : j < lines.length := by
      have := congrArg List.length hr
      rw [List.length_cons, rngD_length] at this
      omega
    rw [show lines.length - j = (lines.length - (j + 1)) + 1 by omega, rngD_succ] at hr
    obtain ⟨rfl, rfl⟩ := List.cons.inj hr
    have hdrop : lines.drop j = lines[j] :: lines.drop (j + 1) := List.drop_eq_getElem_cons lt
    have lj := hw _ (List.getElem_mem lt)
    obtain ⟨pl1, pl2⟩ := part_len lines[j]
    rw [hdrop, dueB] at hd
    have at1 : atI (lines.map PyData.str) (j : Int) = some (.str lines[j]) := atI_nat (by rw [List.getElem?_map, List.getElem?_eq_getElem lt]; rfl)
    have l4 : acc.length ≤ 4 := by
      rcases hb with rfl | hb
      · exact Nat.zero_le _
      · exact (book_iff.mp hb).2.1
    rw [q_dgN]
    simp only [List.set_cons_succ, List.set_cons_zero]
    unfold dTryB
    dsimp only
    rw [q_dSeq, q_dPart, q_dOp, q_dVarB]
    simp only [List.getElem?_cons_succ, List.getElem?_cons_zero, atB_fz, q_dVarB, q_ixL, at1, oV_some]
    refine ⟨lines[j], rfl, by omega, ?_⟩
    generalize hpq : Txt.partition lines[j] " " = p at hd pl1 pl2
    obtain ⟨w, b, rest⟩ := p
    dsimp only at hd pl1 pl2
    simp only [List.set_cons_succ, List.set_cons_zero]
    have bad : ∀ (acc' : D) (s1 : A.S), s1 = s' → dueB st 0 [] lines = .error j → dRaiseL (fun k _ s' => R k s') (dVar 4) D' [.fz (.int st), .fz (.str t), .fz (.list (lines.map .str)), .fz acc', .fz (.int (j : Nat)), .fz (.str w), .fz (.str b), .fz (.str rest)] s1 := fun acc' s1 es e => by
      subst es
      rw [q_dRaiseL, q_dVar]
      exact ⟨j, rfl, r j e⟩
    rw [q_dSeq, q_dAug]
    simp only [List.getElem?_cons_succ, List.getElem?_cons_zero, atF_fz, q_dTup, q_dCons, q_dVar, q_dCallX, q_dNil]
    refine ⟨st, rest, rfl, by omega, s8, by omega, fun cs pw hr => ?_, fun hr => ?_⟩
    · rw [hr] at hd
      dsimp only at hd
      refine ⟨by show 2 ≤ sizeLine; omega, by show 1 ≤ sizeLine; omega, ?_⟩
      have ee : ∀ k : D → Prop, k (bookD (acc ++ [(w, cs)])) → fAddT (bookD acc) (.tuple [.tuple [.str w, .tuple (cs.map tupI)]]) k := fun k z => ⟨by rw [List.length_map]; show acc.length + 1 ≤ sizeLine; omega, by
        have : PyData.tuple (acc.map pairX ++ [.tuple [.str w, .tuple (cs.map tupI)]]) = bookD (acc ++ [(w, cs)]) := by unfold bookD; rw [List.map_append]; rfl
        rw [this]
        exact z⟩
      refine ee _ ?_
      simp only [List.set_cons_succ, List.set_cons_zero]
      have hp' : ∀ p ∈ acc ++ [(w, cs)], p.1.length ≤ 1000 ∧ pieceW st p.2 := fun p m => by
        rcases List.mem_append.mp m with m | m
        · exact hp p m
        · rw [List.mem_singleton.mp m]
          exact ⟨by show w.length ≤ 1000; omega, pw⟩
      rw [q_dIfS, q_dNotT, q_dTest, q_dCall]
      simp only [q_dCons, q_dVar, List.getElem?_cons_succ, List.getElem?_cons_zero, atF_fz, q_dNil]
      refine ⟨st, _, rfl, tried_book (by omega) s8 hp', ?_⟩
      have bn := book_next (w := w) hb pw
      rw [la] at bn
      rw [bn]
      show bV _ _
      rw [bV_bool]
      cases ho : okNext j acc w with
      | false =>
        rw [if_pos (by rfl)]
        rw [ho, if_neg (by simp)] at hd
        rw [q_dRaise]
        simp only [q_dCons, q_dOp, q_dVarB, List.getElem?_cons_succ, List.getElem?_cons_zero, atB_fz, q_ixL, at1, oV_some, q_dNil]
        exact ⟨by show 1 ≤ sizeLine; omega, trivial, bad _ _ rfl hd⟩
      | true =>
        rw [if_neg (by simp), q_dNx]
        rw [ho, if_pos rfl] at hd
        exact hnx _ _ ⟨rfl, j + 1, acc ++ [(w, cs)], _, _, _, _, by simp, by omega, by rw [List.length_append, List.length_singleton, la], .inr (by rw [bn, ho]), hp', hd, rfl⟩
    · rw [hr] at hd
      exact ⟨rfl, bad _ _ rfl hd⟩
  · rintro ρ s' ⟨rfl, j, acc, c4, c5, c6, c7, hr, hj, la, hb, hp, hd, rfl⟩
    have ej : j = lines.length := by
      have := congrArg List.length hr
      rw [List.length_nil, rngD_length] at this
      omega
    have : lines.drop j = [] := by rw [ej]; exact List.drop_length
    rw [this, dueB] at hd
    simp
    exact q _ hd
def S_L_read_book : FS A := fun ds s Q => ∃ (st : Int) (t : Str), ds = [.int st, .str t] ∧ 3 ≤ st ∧ st ≤ 8 ∧ t.length ≤ 100000 ∧ (Txt.split t "\n").length ≤ 1000 ∧ (∀ l ∈ Txt.split t "\n", l.length ≤ 1000) ∧ Q (resD (dueB st 0 [] (Txt.split t "\n"))) s
theorem len_L_read_book (h : S_L_read_book ds s Q) : ds.length = 2 := by obtain ⟨_, _, e, _⟩ := h; rw [e]; rfl
theorem p_L_read_book (h : S_L_read_book ds s Q) : t_L_read_book S_read_book (retE Q) (startR 3 ds) s := by
  obtain ⟨st, t, rfl, s3, s8, tl, hl, hw, q⟩ := h
  have e : startR 3 [.int st, .str t] = [.fz (.int st), .fz (.str t), .un] := rfl
  have hs : 1000000 ≤ sizeLine := by decide
  unfold t_L_read_book dTryL
  rw [e]
  simp
  refine ⟨st, t, rfl, s3, s8, tl, hl, hw, fun bs hb => ?_, fun k hk => ?_⟩
  · rw [hb] at q
    exact ⟨by omega, q⟩
  · rw [hk] at q
    exact ⟨by omega, q⟩
end
end Dl
namespace Dl
open PySem L2
def sgnIn (t z t' : Str) : Prop := ∀ c ∈ t'.cps.toList, c ∈ t.cps.toList ∨ c ∈ z.cps.toList
theorem sgn_cut {t z : Str} {l u : Option Int} : sgnIn t z (cutS t l u) := fun c m => .inl (List.mem_of_mem_drop (List.mem_of_mem_take (by exact m)))
theorem sgn_app {t z x y : Str} (hx : sgnIn t z x) (hy : sgnIn t z y) : sgnIn t z (x ++ y) := fun c m => by
  have m : c ∈ (x.cps ++ y.cps).toList := m
  rw [Array.toList_append] at m
  rcases List.mem_append.mp m with m | m
  · exact hx c m
  · exact hy c m
theorem sgn_self {t z : Str} : sgnIn t z t := fun c m => .inl m
theorem sgn_z {t z x : Str} (h : ∀ c ∈ x.cps.toList, c ∈ z.cps.toList) : sgnIn t z x := fun c m => .inr (h c m)
section
variable {a : Addr} {ds : List D} {s : (poolA a).S} {Q : D → (poolA a).S → Prop}
def S_L_spoilt2 (a : Addr) : FS (poolA a) := fun ds s Q => ∃ t z : Str, ds = [refD a, .str t, .str z] ∧ t.length ≤ 5000 ∧ 1 ≤ z.length ∧ z.length ≤ 1000 ∧ ∀ t' : Str, t'.length ≤ 2 * t.length + 1 → sgnIn t z t' → Q (.str t') s
theorem len_L_spoilt2 (h : S_L_spoilt2 a ds s Q) : ds.length = 3 := by obtain ⟨_, _, e, _⟩ := h; rw [e]; rfl
theorem p_L_spoilt2 (h : S_L_spoilt2 a ds s Q) : t_L_spoilt (S_draw a) (S_L_pick a) (retE Q) (startR 5 ds) s := by
  obtain ⟨t, z, rfl, hl, z1, z2, q⟩ := h
  have e : startR 5 [refD a, .str t, .str z] = [.fz (refD a), .fz (.str t), .fz (.str z), .un, .un] := rfl
  have hs : 1000000 ≤ sizeLine := by decide
  have zl : (signsD z).length = z.length := by unfold signsD; rw [List.length_map, Array.length_toList]; rfl
  unfold t_L_spoilt
  rw [e, q_dSeq]
  simp [-q_dSeq, -q_dIfS]
  refine ⟨by omega, _, rfl, by omega, by omega, fun at_ a0 a1 => ?_⟩
  dsimp only
  rw [q_dSeq]
  simp [-q_dSeq, -q_dIfS]
  refine ⟨4, rfl, by omega, by omega, fun turn t0 t4 => ?_⟩
  dsimp only
  have c1 : ∀ l u, (cutS t l u).length ≤ t.length := fun l u => len_cut
  have pk : ∀ k : D → (poolA a).S → Prop, (∀ x : Str, x.length = 1 → (∀ c ∈ x.cps.toList, c ∈ z.cps.toList) → k (.str x) s) → S_L_pick a [refD a, .str z] s k := fun k hk => by
    refine ⟨.str z, signsD z, rfl, rfl, fun n => ?_, by omega, fun x m => ?_⟩
    · rw [n] at zl
      simp at zl
      omega
    · obtain ⟨c, mc, rfl⟩ := List.mem_map.mp m
      exact hk _ rfl fun d md => by
        have : d = c := by simpa using md
        rw [this]
        exact mc
  refine seq_if ?_ fun U hU => ?_
  · refine seq_if ?_ fun U hU => ?_
    · refine seq_if ?_ fun U hU => ?_
      · simp
        refine pk _ fun x hx hz => ?_
        refine ⟨by omega, q _ ?_ (by first | exact sgn_app (sgn_app sgn_cut (sgn_z hz)) sgn_cut | exact sgn_app sgn_cut sgn_cut | exact sgn_app sgn_self (sgn_z hz))⟩
        rw [Dl.len_append]
        omega
      · simp
        split
        · refine ⟨by omega, pk _ fun x hx hz => ?_⟩
          have := c1 none (some at_)
          have := c1 (some at_) none
          refine ⟨by omega, by omega, by rw [Dl.len_append]; omega, q _ ?_ (by first | exact sgn_app (sgn_app sgn_cut (sgn_z hz)) sgn_cut | exact sgn_app sgn_cut sgn_cut | exact sgn_app sgn_self (sgn_z hz))⟩
          rw [Dl.len_append, Dl.len_append]
          omega
        · exact hU
    · simp
      split
      · refine ⟨by omega, pk _ fun x hx hz => ?_⟩
        have := c1 none (some at_)
        have := c1 (some (at_ + 1)) none
        refine ⟨by omega, by omega, by rw [Dl.len_append]; omega, q _ ?_ (by first | exact sgn_app (sgn_app sgn_cut (sgn_z hz)) sgn_cut | exact sgn_app sgn_cut sgn_cut | exact sgn_app sgn_self (sgn_z hz))⟩
        rw [Dl.len_append, Dl.len_append]
        omega
      · exact hU
  · simp
    split
    · have := c1 none (some at_)
      have := c1 (some (at_ + 1)) none
      refine ⟨by omega, by omega, q _ ?_ (by first | exact sgn_app (sgn_app sgn_cut (sgn_z hz)) sgn_cut | exact sgn_app sgn_cut sgn_cut | exact sgn_app sgn_self (sgn_z hz))⟩
      rw [Dl.len_append]
      omega
    · exact hU
end
end Dl
namespace Dl
open PySem L2
theorem nl_tl : (("\n" : Str)).cps.toList = [10] := by decide +kernel
theorem split_nl {is : List Str} (ne : is ≠ []) (h : ∀ x ∈ is, 10 ∉ x.cps.toList) : Txt.split (Txt.join "\n" is) "\n" = is := by
  have inj : ∀ {a b : List Str}, a.map (fun p => p.cps.toList) = b.map (fun p => p.cps.toList) → a = b := by
    intro a
    induction a with
    | nil => intro b e; cases b with
      | nil => rfl
      | cons y b => simp at e
    | cons x a ih => intro b e; cases b with
      | nil => simp at e
      | cons y b =>
        rw [List.map_cons, List.map_cons, List.cons.injEq] at e
        rw [str_ex e.1, ih e.2]
  refine inj ?_
  have e10 : ("\n" : Str) = ⟨#[10]⟩ := str_ex (by rw [nl_tl])
  rw [e10, split_spl, ← e10]
  rw [join_glu, nl_tl]
  refine spl_glu (by simpa using ne) fun p m => ?_
  obtain ⟨x, mx, rfl⟩ := List.mem_map.mp m
  exact h x mx
def lineOk (l : Str) : Prop := l.length ≤ 300 ∧ ∀ c ∈ l.cps.toList, 32 ≤ c ∧ c < 200
def rowsOk (ls : List Str) : Prop := ls.length ≤ 10 ∧ ∀ l ∈ ls, lineOk l
theorem wCl_ge {c : List Int} (h : digsOk c) : ∀ k ∈ wCl c, 46 ≤ k ∧ k ≤ 120 := fun k m => by
  by_cases e : c = []
  · subst e
    have : k = 120 := by simpa [wCl] using m
    omega
  · have := wCl_dig h e k m
    unfold digN at this
    omega
theorem wPg_ge : ∀ {cs : List (List Int)} {b : Bool}, (∀ c ∈ cs, digsOk c) → ∀ k ∈ wPg b cs, 46 ≤ k ∧ k ≤ 120 := by
  intro cs
  induction cs with
  | nil => intro b h k m; cases b <;> simp [wPg] at m
  | cons c cs ih =>
    intro b h k m
    have h1 := wCl_ge (h c (List.mem_cons_self ..))
    have h2 := fun b => ih (b := b) fun x mx => h x (List.mem_cons_of_mem _ mx)
    rw [wPg] at m
    simp only [List.mem_append] at m
    grind
theorem lead_line {st : Int} {p : Lead} (s3 : 3 ≤ st) (s8 : st ≤ 8) (h : wordZ p.1 ∧ pieceOk st 10 p.2) : LdOk p ∧ (leadT p).length ≤ 120 ∧ lineOk (leadT p) := by
  obtain ⟨⟨_, hb, _⟩, h1, h10, hc⟩ := h
  have w12 := word12 hb
  have ok : ∀ c ∈ p.2, digsOk c ∧ c.length ≤ 9 := by
    have pw : pieceW st p.2 := by
      unfold pieceW pieceB
      rw [Bool.and_eq_true, Bool.and_eq_true, decide_eq_true_eq, decide_eq_true_eq, List.length_map, List.all_eq_true]
      refine ⟨⟨h1, by omega⟩, fun x m => ?_⟩
      obtain ⟨c, mc, rfl⟩ := List.mem_map.mp m
      exact (mem_chS (by omega)).mp (hc c mc)
    exact (pieceW_ok (by omega) s8 pw).2.2
  have wl := wPg_len p.2 false fun c m => (ok c m).2
  have e1 : (" " : Str).length = 1 := by decide +kernel
  have tl : (tx (wP p.2)).length ≤ 100 := by
    rw [tx_len]
    show (wPg false p.2).length ≤ 100
    omega
  have l1 : (leadT p).length ≤ 120 := by
    unfold leadT
    rw [Dl.len_append, Dl.len_append]
    omega
  refine ⟨⟨by omega, by omega, ok⟩, l1, by omega, fun c m => ?_⟩
  unfold leadT at m
  rw [cps_app, cps_app, sp_tl] at m
  rcases List.mem_append.mp m with m | m
  · rcases List.mem_append.mp m with m | m
    · have := word_let hb c m
      omega
    · have := List.mem_singleton.mp m
      omega
  · have := wPg_ge (fun c m => (ok c m).1) c (by exact m)
    omega
theorem line_spoilt {t z t' : Str} (ht : t.length ≤ 120) (h : lineOk t) (hz : ∀ c ∈ z.cps.toList, 32 ≤ c ∧ c < 200) (hl : t'.length ≤ 2 * t.length + 1) (s : sgnIn t z t') : lineOk t' :=
  ⟨by omega, fun c m => (s c m).elim (h.2 c) (hz c)⟩
theorem rows_split {ls : List Str} (ne : ls ≠ []) (h : rowsOk ls) : Txt.split (Txt.join "\n" ls) "\n" = ls := split_nl ne fun x m z => by
  have := (h.2 x m).2 10 z
  omega
theorem rows_len {ls : List Str} (h : rowsOk ls) : (ls.map (·.length)).sum ≤ 3000 := by
  have := sum_le (B := 300) (l := ls.map (·.length)) fun x m => by
    obtain ⟨l, ml, rfl⟩ := List.mem_map.mp m
    exact (h.2 l ml).1
  rw [List.length_map] at this
  have := h.1
  omega
theorem glu_allC {P : Nat → Prop} {z : List Nat} (hz : ∀ c ∈ z, P c) : ∀ ps : List (List Nat), (∀ p ∈ ps, ∀ c ∈ p, P c) → ∀ c ∈ glu z ps, P c
  | [], _, c, m => by simp [glu] at m
  | [p], h, c, m => by
    have e : glu z [p] = p := by simp [glu]
    rw [e] at m
    exact h p (List.mem_cons_self ..) c m
  | p :: q :: r, h, c, m => by
    rw [glu_cons (by simp)] at m
    rcases List.mem_append.mp m with m | m
    · rcases List.mem_append.mp m with m | m
      · exact h p (List.mem_cons_self ..) c m
      · exact hz c m
    · exact glu_allC hz (q :: r) (fun x mx => h x (List.mem_cons_of_mem _ mx)) c m
theorem strOk_join {z : Str} {ls : List Str} (hz : PyData.strOk z = true) (h : ∀ l ∈ ls, PyData.strOk l = true) : PyData.strOk (Txt.join z ls) = true := strOk_iff.mpr fun c mc => by
  rw [join_glu] at mc
  refine glu_allC (P := fun c => c < 0x110000) (fun c m => strOk_iff.mp hz c m) _ (fun p mp c m => ?_) c mc
  obtain ⟨x, mx, rfl⟩ := List.mem_map.mp mp
  exact strOk_iff.mp (h x mx) c m
theorem str_plain {n : Nat} {x : Str} (h : PyData.strOk x = true) : plainB n (.str x) = true := plain_mono (n := 0) (by rw [plainB, PyData.canLay0]; exact h) (Nat.zero_le _)
theorem line_strOk {l : Str} (h : lineOk l) : PyData.strOk l = true := strOk_iff.mpr fun c m => by have := h.2 c m; omega
theorem strOk_runs {ws : List Str} (h : ∀ w ∈ ws, PyData.strOk w = true) : PyData.strOk (wT ws) = true := by
  refine strOk_join (by decide +kernel) fun x m => ?_
  obtain ⟨q, mq, rfl⟩ := List.mem_map.mp m
  have hw := h _ (rl_mem mq).2
  unfold runTx
  split
  · exact hw
  · exact strOk_append (strOk_append (strOk_dec _) (by decide +kernel)) hw
theorem dec3 {n : Nat} (h : n ≤ 200) : (decS n).length ≤ 3 := by
  have : ∀ m : Fin 201, (decS m.1).length ≤ 3 := by decide +kernel
  exact this ⟨n, by omega⟩
theorem join_len3 (z : Str) (ps : List Str) : (Txt.join z ps).length ≤ (ps.map (·.length)).sum + ps.length * z.length := by
  have ej : (Txt.join z ps).cps.toList.length = (Txt.join z ps).length := Array.length_toList
  have key : ∀ qs : List (List Nat), (glu z.cps.toList qs).length ≤ (qs.map (·.length)).sum + qs.length * z.cps.toList.length := by
    intro qs
    induction qs with
    | nil => simp [glu]
    | cons q r ih =>
      cases r with
      | nil => simp [glu]
      | cons x r =>
        rw [glu_cons (by simp), List.length_append, List.length_append, List.map_cons, List.sum_cons, List.length_cons, Nat.succ_mul]
        omega
  have := key (ps.map fun p => p.cps.toList)
  rw [← join_glu, ej, List.length_map, List.map_map] at this
  have ez : z.cps.toList.length = z.length := Array.length_toList
  have em : ps.map ((fun x => x.length) ∘ fun p : Str => p.cps.toList) = ps.map (·.length) := List.map_congr_left fun p _ => Array.length_toList
  rw [em, ez] at this
  exact this
theorem wT_long {ws : List Str} (hl : ws.length ≤ 200) (hw : ∀ w ∈ ws, w.length ≤ 12) : (wT ws).length ≤ 3400 := by
  unfold wT
  have h1 := rl_len (ws := ws)
  have h2 : (((rl ws).map runTx).map (·.length)).sum ≤ (((rl ws).map runTx).map (·.length)).length * 16 := sum_le fun x mx => by
    obtain ⟨y, my, rfl⟩ := List.mem_map.mp mx
    obtain ⟨p, mp, rfl⟩ := List.mem_map.mp my
    obtain ⟨a, b⟩ := rl_mem mp
    have d3 := dec3 (n := p.1) (by omega)
    have := hw _ b
    have e1 : ("*" : Str).length = 1 := by decide +kernel
    unfold runTx
    split
    · omega
    · rw [Dl.len_append, Dl.len_append]
      omega
  rw [List.length_map, List.length_map] at h2
  have := join_len3 " " ((rl ws).map runTx)
  rw [List.length_map, show (" " : Str).length = 1 by decide +kernel] at this
  omega
theorem due_ok {st : Int} : ∀ (ls : List Str) (k : Nat) (acc bs : List Lead), dueB st k acc ls = .ok bs → (∀ p ∈ acc, wordB (.str p.1) = true ∧ pieceW st p.2) → 0 ≤ st → st ≤ 8 → ∀ p ∈ bs, wordB (.str p.1) = true ∧ pieceW st p.2
  | [], _, acc, bs, h, ha, _, _ => by rw [dueB] at h; cases h; exact ha
  | l :: ls, k, acc, bs, h, ha, h0, h8 => by
    rw [dueB] at h
    split at h
    · cases h
    · next cs hcs =>
      split at h
      · next ho =>
        refine due_ok ls _ _ _ h (fun p m => ?_) h0 h8
        rcases List.mem_append.mp m with m | m
        · exact ha p m
        · rw [List.mem_singleton.mp m]
          refine ⟨?_, ?_⟩
          · unfold okNext at ho
            rw [Bool.and_eq_true, Bool.and_eq_true] at ho
            exact ho.1.1
          · unfold readP at hcs
            split at hcs
            · next ex =>
              cases hcs
              exact ex.choose_spec.1
            · cases hcs
      · cases h
theorem res_plain {st : Int} (h0 : 0 ≤ st) (h8 : st ≤ 8) {ls : List Str} (hl : ls.length ≤ 1000) : plainB 9 (resD (dueB st 0 [] ls)) = true := by
  cases e : dueB st 0 [] ls with
  | error k =>
    refine plain_tuple (n := 8) (fun x m => ?_) (by simp)
    simp only [List.mem_cons, List.not_mem_nil, or_false] at m
    rcases m with rfl | rfl
    · decide +kernel
    · simp [plainB]
  | ok bs =>
    have ok := due_ok ls 0 [] bs e (fun p m => (nomatch m)) h0 h8
    have lb := due_len ls 0 [] bs e
    rw [List.length_nil, Nat.zero_add] at lb
    refine plain_tuple (n := 8) (fun x m => ?_) (by simp)
    simp only [List.mem_cons, List.not_mem_nil, or_false] at m
    rcases m with rfl | rfl
    · decide +kernel
    · refine plain_mono (n := 4) (plain_tuple (n := 3) (fun x m => ?_) (by rw [List.length_map]; omega)) (by omega)
      obtain ⟨p, mp, rfl⟩ := List.mem_map.mp m
      obtain ⟨hw, pw⟩ := ok p mp
      have pk := pieceW_ok h0 h8 pw
      refine plain_tuple (n := 2) (fun x m => ?_) (by simp)
      simp only [List.mem_cons, List.not_mem_nil, or_false] at m
      rcases m with rfl | rfl
      · exact str_plain (word_strOk hw)
      · refine plain_tuple (n := 1) (fun x m => ?_) (by rw [List.length_map]; omega)
        obtain ⟨c, mc, rfl⟩ := List.mem_map.mp m
        have := (pk.2.2 c mc).2
        exact plain_tupI (n := 0) (by omega)
theorem told_touch {t : Str} {ws : List Str} (h : readT t = some ws) : plainB 9 (.tuple [.str "told", touchD ws]) = true := by
  unfold readT at h
  split at h
  · next ws' ha =>
    split at h
    · next hh =>
      cases h
      have hw := allM_words ha
      refine plain_tuple (n := 8) (fun x m => ?_) (by simp)
      simp only [List.mem_cons, List.not_mem_nil, or_false] at m
      rcases m with rfl | rfl
      · decide +kernel
      · refine plain_tuple (n := 7) (fun x m => ?_) (by rw [List.length_map]; omega)
        obtain ⟨w, mw, rfl⟩ := List.mem_map.mp m
        exact str_plain (word_strOk (hw w mw))
    · cases h
  · cases h
end Dl
namespace Dl
open PySem L2
def t_law_k21 {A : Amb} (S_L_stage S_L_book S_L_touch S_L_touch_text S_L_same S_L_draw S_L_touch_from S_L_piece_text S_write_book S_write_touch S_L_spoilt S_L_read_book S_L_due_book S_L_read_touch S_L_pick : FS A) : DS A :=
  (dSeq (dSet 2 (dCall S_L_stage (dCons (dVar 1) (dCons (dC (.int 8)) dNil))))
  (dSeq (dSet 3 (dCall S_L_book (dCons (dVar 1) (dCons (dVar 2) (dCons (dOp fAdd (dC (.int 1)) (dCall S_L_draw (dCons (dVar 1) (dCons (dC (.int 4)) dNil)))) (dCons (dC (.int 10)) dNil))))))
  (dSeq (dSet 4 (dOfN (nComp (dIt (dVar 3)) (dgN 5) dYes (dOp fAdd (dOp fAdd (dOp fIx (dVarB 5) (dC (.int 0))) (dC (.str " "))) (dCall S_L_piece_text (dCons (dOp fIx (dVarB 5) (dC (.int 1))) dNil))) [5])))
  (dSeq (dIfS (dNotT (dTest (dCall S_L_same (dCons (dCall S_write_book (dCons (dVar 3) dNil)) (dCons (dJoin "\n" (dVar 4)) dNil)))))
  (dRet (dC (.bool false)))
  dNx)
  (dSeq (dSet 6 (dLst (dCons (dC (.str "")) (dCons (dC (.str "a")) (dCons (dC (.str "a ")) (dCons (dC (.str "A x")) (dCons (dC (.str "a x.x")) (dCons (dC (.str "a  x")) (dCons (dC (.str "zz 12")) (dCons (dC (.str "a 9")) (dCons (dC (.str "p x ")) dNil)))))))))))
  (dSeq (dSetN 7 (nLst (dCons (dVar 4) (dCons (dRev (dVarB 4)) (dCons (dOp fAdd (dVarB 4) (dSl (dVarB 4) (oSome (dUn fNeg (dC (.int 1)))) oNone)) (dCons (dLst (dCons (dC (.str "")) dNil)) (dCons (dOp fAdd (dVarB 4) (dLst (dCons (dC (.str "")) dNil))) (dCons (dLst (dCons (dC (.str "a 1")) (dCons (dC (.str "b 1")) (dCons (dC (.str "c 1")) (dCons (dC (.str "d 1")) (dCons (dC (.str "e 1")) dNil)))))) dNil))))))))
  (dSeq (dFor (dRg1 (dCons (dC (.int 8)) dNil)) (dgN 8)
  (dSeq (dSet 9 (dCall S_L_draw (dCons (dVar 1) (dCons (dOp fAdd (dFn fLen (dCons (dVarB 4) dNil)) (dC (.int 1))) dNil))))
  (dSeq (dApp 7 (dOp fAdd (dOp fAdd (dSl (dVarB 4) oNone (oSome (dVarB 9))) (dLst (dCons (dCall S_L_pick (dCons (dVar 1) (dCons (dVar 6) dNil))) dNil))) (dSl (dVarB 4) (oSome (dVarB 9)) oNone)))
  (dSeq (dSet 9 (dCall S_L_draw (dCons (dVar 1) (dCons (dFn fLen (dCons (dVarB 4) dNil)) dNil))))
  (dSetN 7 (nOp gCat (dVarB 7) (dLst (dCons (dOp fAdd (dSl (dVarB 4) oNone (oSome (dVarB 9))) (dSl (dVarB 4) (oSome (dOp fAdd (dVarB 9) (dC (.int 1)))) oNone)) (dCons (dOp fAdd (dOp fAdd (dSl (dVarB 4) oNone (oSome (dVarB 9))) (dLst (dCons (dCall S_L_spoilt (dCons (dVar 1) (dCons (dOp fIx (dVarB 4) (dVarB 9)) (dCons (dC (.str "x1234. ab")) dNil)))) dNil))) (dSl (dVarB 4) (oSome (dOp fAdd (dVarB 9) (dC (.int 1)))) oNone)) dNil)))))))))
  (dSeq (dFrz 7 (dFor (dIt (dVar 7)) (dgN 10)
  (dSeq (dSet 10 (dIf (dTest (dOp fGt (dFn fLen (dCons (dVarB 10) dNil)) (dC (.int 0)))) (dVar 10) (dLst (dCons (dC (.str "")) dNil))))
  (dIfS (dNotT (dTest (dCall S_L_same (dCons (dCall S_L_read_book (dCons (dVar 2) (dCons (dJoin "\n" (dVar 10)) dNil))) (dCons (dCall S_L_due_book (dCons (dVar 2) (dCons (dVar 10) dNil))) dNil)))))
  (dRet (dC (.bool false)))
  dNx))))
  (dSeq (dSet 11 (dCall S_L_touch (dCons (dVar 1) (dCons (dVar 3) (dCons (dOp fIx (dTup (dCons (dC (.int 8)) (dCons (dC (.int 40)) dNil))) (dCall S_L_draw (dCons (dVar 1) (dCons (dC (.int 2)) dNil)))) dNil)))))
  (dSeq (dIfS (dTest (dOp fEqU (dCall S_L_draw (dCons (dVar 1) (dCons (dC (.int 2)) dNil))) (dC (.int 0))))
  (dSet 11 (dSl (dOp fAdd (dOp fMul (dSl (dVarB 11) oNone (oSome (dC (.int 1)))) (dOp fAdd (dC (.int 1)) (dCall S_L_draw (dCons (dVar 1) (dCons (dC (.int 150)) dNil))))) (dVarB 11)) oNone (oSome (dC (.int 200)))))
  dNx)
  (dSeq (dSet 12 (dCall S_L_touch_text (dCons (dVar 11) dNil)))
  (dSeq (dIfS (dNotT (dTest (dCall S_L_same (dCons (dCall S_write_touch (dCons (dVar 11) dNil)) (dCons (dVar 12) dNil)))))
  (dRet (dC (.bool false)))
  dNx)
  (dSeq (dSetN 7 (nLst (dCons (dVar 12) (dCons (dC (.str "")) (dCons (dC (.str "p p")) (dCons (dC (.str "2*p")) (dCons (dC (.str "1*p")) (dCons (dC (.str "0*p")) (dCons (dC (.str "02*p")) (dCons (dC (.str "2*")) (dCons (dC (.str "*p")) (dCons (dC (.str "2**p")) (dCons (dC (.str "2*P")) (dCons (dC (.str "p  b")) (dCons (dC (.str " p")) (dCons (dC (.str "p ")) (dCons (dC (.str "200*p")) (dCons (dC (.str "201*p")) (dCons (dC (.str "100*p b 99*p")) (dCons (dC (.str "100*p b 100*p")) dNil))))))))))))))))))))
  (dSeq (dSetN 7 (nOp gCat (dVarB 7) (dLst (dCons (dC (.str "2*p p")) (dCons (dC (.str "p*2")) (dCons (dC (.str "12345678901*p")) (dCons (dOp fAdd (dOp fAdd (dVarB 12) (dC (.str " "))) (dVarB 12)) dNil)))))))
  (dSeq (dFor (dIt (dOp fAdd (dVarB 7) (dOfN (nComp (dRg1 (dCons (dC (.int 8)) dNil)) (dgN 8) dYes (dCall S_L_spoilt (dCons (dVar 1) (dCons (dVar 12) (dCons (dC (.str "pb*12 ")) dNil)))) [8])))) (dgN 13)
  (dSeq (dSet 14 (dCall S_L_touch_from (dCons (dVar 13) dNil)))
  (dIfS (dNotT (dTest (dCall S_L_same (dCons (dCall S_L_read_touch (dCons (dVar 13) dNil)) (dCons (dIf (dTest (dOp fIs (dVarB 14) (dC .none))) (dC (.str "bad")) (dTup (dCons (dC (.str "told")) (dCons (dVar 14) dNil)))) dNil)))))
  (dRet (dC (.bool false)))
  dNx)))
  (dRet (dC (.bool true))))))))))))))))))
def oddL : List Str := ["", "a", "a ", "A x", "a x.x", "a  x", "zz 12", "a 9", "p x "]
theorem odd_ok : ∀ l ∈ oddL, lineOk l := by
  have : oddL.all (fun l => decide (l.length ≤ 300) && l.cps.toList.all fun c => decide (32 ≤ c) && decide (c < 200)) = true := by decide +kernel
  intro l m
  have := List.all_eq_true.mp this l m
  rw [Bool.and_eq_true, decide_eq_true_eq, List.all_eq_true] at this
  exact ⟨this.1, fun c mc => by have := this.2 c mc; simpa using this⟩
def rowD (ls : List Str) : D := .list (ls.map .str)
theorem same9 {A : Amb} {s : A.S} {Q : D → A.S → Prop} {d : D} (hp : plainB 9 d = true) (q : Q (.bool true) s) : S_same 10 [d, d] s Q := ⟨_, _, 9, rfl, rfl, ⟨9, hp⟩, hp, by rw [sameB_eq]; simpa using q⟩
def triedL : List Str := ["", "p p", "2*p", "1*p", "0*p", "02*p", "2*", "*p", "2**p", "2*P", "p  b", " p", "p ", "200*p", "201*p", "100*p b 99*p", "100*p b 100*p"]
theorem tried_ok : ∀ t ∈ triedL, t.length ≤ 7000 := fun t m => of_decide_eq_true (List.all_eq_true.mp (show triedL.all (fun t => decide (t.length ≤ 7000)) = true by decide +kernel) t m)
theorem all2_mapW {xs : List D} {rs : List (Option D)} (h : All2 (fun x r => ∃ t' : Str, r = some (.str t') ∧ t'.length ≤ 7000) xs rs) : ∃ T : List Str, rs.filterMap id = T.map .str ∧ T.length = xs.length ∧ ∀ t ∈ T, t.length ≤ 7000 := by
  induction h with
  | nil => exact ⟨[], rfl, rfl, fun t m => (nomatch m)⟩
  | cons r t ih =>
    obtain ⟨x, rfl, ok⟩ := r
    obtain ⟨L, e, hl, ho⟩ := ih
    refine ⟨x :: L, ?_, by rw [List.length_cons, List.length_cons, hl], fun y m => ?_⟩
    · rw [show (some (PyData.str x) :: _ : List (Option D)).filterMap id = PyData.str x :: List.filterMap id _ from rfl, e]
      rfl
    · rcases List.mem_cons.mp m with rfl | m
      · exact ok
      · exact ho y m
theorem cutS_strs {ls : List Str} {l u : Option Int} : ∃ ls' : List Str, cutD (ls.map .str) l u = ls'.map .str ∧ (∀ x ∈ ls', x ∈ ls) ∧ ls'.length ≤ ls.length := by
  refine ⟨(ls.drop (HT.sIx ls.length 0 l)).take (HT.sIx ls.length ls.length u - HT.sIx ls.length 0 l), ?_, fun x m => List.mem_of_mem_drop (List.mem_of_mem_take m), ?_⟩
  · unfold cutD
    rw [List.length_map, List.map_take, List.map_drop]
  · rw [List.length_take, List.length_drop]
    omega
theorem line_of {l : Str} (h : (decide (l.length ≤ 300) && l.cps.toList.all fun c => decide (32 ≤ c) && decide (c < 200)) = true) : lineOk l := by
  rw [Bool.and_eq_true, decide_eq_true_eq, List.all_eq_true] at h
  exact ⟨h.1, fun c mc => by have := h.2 c mc; simpa using this⟩
theorem rows_app {x y : List Str} (hx : ∀ l ∈ x, lineOk l) (hy : ∀ l ∈ y, lineOk l) (hl : x.length + y.length ≤ 10) : rowsOk (x ++ y) := ⟨by rw [List.length_append]; exact hl, fun l m => (List.mem_append.mp m).elim (hx l) (hy l)⟩
open Classical in
theorem p_law_k21 (a : Addr) (s : (poolA a).S) : t_law_k21 (S_stage a) (S_L_book4 a) (S_L_touch a) S_write_touch (S_same 10) (S_draw a) S_L_touch_from S_write_piece S_write_book S_write_touch (S_L_spoilt2 a) S_L_read_book S_L_due_book S_L_read_touch (S_L_pick a) (lawEnds _) (ρLaw a 13) s := by
  have e : ρLaw a 13 = [.un, .fz (refD a), .un, .un, .un, .un, .un, .un, .un, .un, .un, .un, .un, .un, .un] := rfl
  have hs : 1000000 ≤ sizeLine := by decide
  unfold t_law_k21
  refine seq_inv (fun ρ' s' => s' = s ∧ ∃ st : Int, 3 ≤ st ∧ st ≤ 8 ∧ ρ' = [.un, .fz (refD a), .fz (.int st), .un, .un, .un, .un, .un, .un, .un, .un, .un, .un, .un, .un]) ?_ fun U hU => ?_
  rotate_left
  · rw [e]
    simp [-q_dSeq, -q_dIfS]
    exact ⟨8, rfl, by omega, by omega, fun st s3 s8 => hU _ _ ⟨rfl, st, s3, s8, rfl⟩⟩
  rintro ρ' s1 ⟨rfl, st, s3, s8, rfl⟩
  refine seq_inv (fun ρ' s' => s' = s1 ∧ ∃ bs : List Lead, 1 ≤ bs.length ∧ bs.length ≤ 4 ∧ bookZ st 10 bs ∧ ρ' = [.un, .fz (refD a), .fz (.int st), .fz (bookD bs), .un, .un, .un, .un, .un, .un, .un, .un, .un, .un, .un]) ?_ fun U hU => ?_
  rotate_left
  · simp [-q_dSeq, -q_dIfS]
    refine ⟨4, rfl, by omega, by omega, fun v v0 v4 => ?_⟩
    refine ⟨st, 1 + v, 10, rfl, s3, s8, by omega, by omega, by omega, by omega, fun bs hl hz _ => hU _ _ ⟨rfl, bs, by omega, by omega, hz, rfl⟩⟩
  rintro ρ' s2 ⟨rfl, bs, b1, b4, hz, rfl⟩
  have ld : ∀ p ∈ bs, LdOk p ∧ (leadT p).length ≤ 120 ∧ lineOk (leadT p) := fun p m => lead_line s3 s8 (hz p m)
  refine seq_inv (fun ρ' s' => s' = s2 ∧ ρ' = [.un, .fz (refD a), .fz (.int st), .fz (bookD bs), .fz (.list ((bs.map leadT).map .str)), .un, .un, .un, .un, .un, .un, .un, .un, .un, .un]) ?_ fun U hU => ?_
  rotate_left
  · unfold dSet
    rw [q_dAsg, q_dOfN]
    refine comp_map (L := bs) pairX (fun k z => by simp [bookD]; exact z) (by simp) (by omega) (fun p => some (.str (leadT p))) (fun p mp s k z => ?_) ?_
    · obtain ⟨ok, _, _⟩ := ld p mp
      have l1 := ok.1
      have l2 : (tx (wP p.2)).length ≤ 60000 := by
        have := leadT_len ok
        unfold leadT at this
        rw [Dl.len_append] at this
        omega
      have e1 : (" " : Str).length = 1 := by decide +kernel
      simp [pairX]
      refine ⟨by omega, p.2, rfl, ok.2.2, ok.2.1, ?_⟩
      exact ⟨by rw [Dl.len_append]; omega, z⟩
    · have em : bs.filterMap (fun p => some (PyData.str (leadT p))) = (bs.map leadT).map .str := by
        rw [List.map_map]
        show bs.filterMap (some ∘ fun p => PyData.str (leadT p)) = _
        rw [List.filterMap_eq_map]
        rfl
      rw [em]
      exact hU _ _ ⟨rfl, rfl⟩
  rintro ρ' s3' ⟨rfl, rfl⟩
  have lo : rowsOk (bs.map leadT) := ⟨by rw [List.length_map]; omega, fun l m => by
    obtain ⟨p, mp, rfl⟩ := List.mem_map.mp m
    exact (ld p mp).2.2⟩
  have joinB : ∀ {ls : List Str}, rowsOk ls → (ls.map (·.length)).sum + ls.length * ("\n" : Str).length ≤ 16777216 ∧ (Txt.join "\n" ls).length ≤ 100000 ∧ PyData.strOk (Txt.join "\n" ls) = true := fun {ls} h => by
    have e1 : ("\n" : Str).length = 1 := by decide +kernel
    have s1 := rows_len h
    have l1 := h.1
    have := join_len3 "\n" ls
    refine ⟨by rw [e1]; omega, by rw [e1] at this; omega, strOk_join (by decide +kernel) fun l m => line_strOk (h.2 l m)⟩
  refine seq_if ?_ fun U hU => ?_
  rotate_left
  · simp [-q_dSeq, -q_dIfS, -List.map_map]
    exact ⟨bs, rfl, by omega, fun p m => (ld p m).1, bs.map leadT, rfl, (joinB lo).1, same9 (str_plain (joinB lo).2.2) ⟨rfl, hU⟩⟩
  refine seq_inv (fun ρ' s' => s' = s3' ∧ ρ' = [.un, .fz (refD a), .fz (.int st), .fz (bookD bs), .fz (.list ((bs.map leadT).map .str)), .un, .fz (.list (oddL.map .str)), .un, .un, .un, .un, .un, .un, .un, .un]) ?_ fun U hU => ?_
  rotate_left
  · exact ⟨by show 9 ≤ sizeLine; omega, hU _ _ ⟨rfl, rfl⟩⟩
  rintro ρ' s4 ⟨rfl, rfl⟩
  refine seq_inv (fun ρ' s' => s' = s4 ∧ ∃ T : List (List Str), (∀ ls ∈ T, rowsOk ls) ∧ T.length ≤ 6 ∧ ρ' = [.un, .fz (refD a), .fz (.int st), .fz (bookD bs), .fz (.list ((bs.map leadT).map .str)), .un, .fz (.list (oddL.map .str)), .ol (T.map rowD), .un, .un, .un, .un, .un, .un, .un]) ?_ fun U hU => ?_
  rotate_left
  · obtain ⟨last, el, lm, ll⟩ := cutS_strs (ls := bs.map leadT) (l := some (-1)) (u := none)
    rw [List.length_map] at ll
    simp [-q_dSeq, -q_dIfS, -List.map_map]
    rw [el]
    refine ⟨by rw [List.length_map]; omega, by omega, by omega, by omega, by omega, hU _ _ ⟨rfl, [bs.map leadT, (bs.map leadT).reverse, bs.map leadT ++ last, [("" : Str)], bs.map leadT ++ [("" : Str)], ["a 1", "b 1", "c 1", "d 1", "e 1"]], fun ls m => ?_, by simp, by simp [rowD]⟩⟩
    have e0 : lineOk "" := line_of (by decide +kernel)
    simp only [List.mem_cons, List.not_mem_nil, or_false] at m
    rcases m with rfl | rfl | rfl | rfl | rfl | rfl
    · exact lo
    · exact ⟨by rw [List.length_reverse]; exact lo.1, fun l m => lo.2 l (List.mem_reverse.mp m)⟩
    · exact rows_app lo.2 (fun l m => lo.2 l (lm l m)) (by rw [List.length_map]; omega)
    · exact ⟨by simp, fun l m => by rw [List.mem_singleton.mp m]; exact e0⟩
    · exact rows_app lo.2 (fun l m => by rw [List.mem_singleton.mp m]; exact e0) (by rw [List.length_map]; simp; omega)
    · refine ⟨by simp, fun l m => ?_⟩
      simp only [List.mem_cons, List.not_mem_nil, or_false] at m
      rcases m with rfl | rfl | rfl | rfl | rfl <;> exact line_of (by decide +kernel)
  rintro ρ' s5 ⟨rfl, T, hT, lT, rfl⟩
  refine seq_inv (fun ρ' s' => s' = s5 ∧ ∃ (T : List (List Str)) (c8 c9 : Cell), freeC (some c8) ∧ (∀ ls ∈ T, rowsOk ls) ∧ T.length ≤ 1000 ∧ ρ' = [.un, .fz (refD a), .fz (.int st), .fz (bookD bs), .fz (.list ((bs.map leadT).map .str)), .un, .fz (.list (oddL.map .str)), .ol (T.map rowD), c8, c9, .un, .un, .un, .un, .un]) ?_ fun U hU => ?_
  rotate_left
  · refine for_of (xs := rngD 0 8) (fun k z => by simpa using z) (fun r ρ s' => s' = s5 ∧ ∃ (T : List (List Str)) (c8 c9 : Cell), freeC (some c8) ∧ (∀ ls ∈ T, rowsOk ls) ∧ T.length + 3 * r.length ≤ 1000 ∧ ρ = [.un, .fz (refD a), .fz (.int st), .fz (bookD bs), .fz (.list ((bs.map leadT).map .str)), .un, .fz (.list (oddL.map .str)), .ol (T.map rowD), c8, c9, .un, .un, .un, .un, .un]) ⟨rfl, T, .un, .un, trivial, hT, by rw [rngD_length]; omega, rfl⟩ ?_ ?_
    · rintro x r ρ s' ⟨rfl, T, c8, c9, f8, hT, lT, rfl⟩ D' hrt hbk hnx hct
      rw [List.length_cons] at lT
      rw [q_dgN]
      simp only [List.set_cons_succ, List.set_cons_zero]
      rw [q_dSeq]
      simp [-q_dSeq, -q_dIfS, -List.map_map]
      refine ⟨_, rfl, by omega, by omega, fun v v0 vn => ?_⟩
      dsimp only
      rw [q_dSeq]
      simp [-q_dSeq, -q_dIfS, -List.map_map]
      refine ⟨_, oddL.map .str, rfl, rfl, by simp [oddL], by rw [List.length_map]; decide, fun x1 mx => ?_⟩
      obtain ⟨o, mo, rfl⟩ := List.mem_map.mp mx
      have lo1 := odd_ok o mo
      obtain ⟨A1, eA, mA, lA⟩ := cutS_strs (ls := bs.map leadT) (l := none) (u := some v)
      obtain ⟨B1, eB, mB, lB⟩ := cutS_strs (ls := bs.map leadT) (l := some v) (u := none)
      rw [List.length_map] at lA lB
      rw [eA, eB]
      have e1 : T.map rowD ++ [PyData.list (A1.map .str ++ .str o :: B1.map .str)] = (T ++ [A1 ++ o :: B1]).map rowD := by simp [rowD]
      rw [e1]
      refine ⟨by omega, by rw [List.length_map]; omega, by rw [List.length_map, List.length_map]; omega, by omega, ?_⟩
      have hT1 : ∀ ls ∈ T ++ [A1 ++ o :: B1], rowsOk ls := fun ls m => by
        rcases List.mem_append.mp m with m | m
        · exact hT ls m
        · rw [List.mem_singleton.mp m]
          exact rows_app (fun l m => lo.2 l (mA l m)) (fun l m => by
            rcases List.mem_cons.mp m with rfl | m
            · exact lo1
            · exact lo.2 l (mB l m)) (by rw [List.length_cons]; omega)
      have lT1 : (T ++ [A1 ++ o :: B1]).length = T.length + 1 := by simp
      generalize T ++ [A1 ++ o :: B1] = T1 at hT1 lT1 ⊢
      rw [q_dSeq]
      simp [-q_dSeq, -q_dIfS, -List.map_map]
      refine ⟨_, rfl, by omega, by omega, fun w w0 wn => ?_⟩
      dsimp only
      simp [-q_dSeq, -q_dIfS, -List.map_map]
      obtain ⟨A2, eA2, mA2, lA2⟩ := cutS_strs (ls := bs.map leadT) (l := none) (u := some w)
      obtain ⟨B2, eB2, mB2, lB2⟩ := cutS_strs (ls := bs.map leadT) (l := some (w + 1)) (u := none)
      rw [List.length_map] at lA2 lB2
      rw [eA2, eB2]
      obtain ⟨j, rfl⟩ : ∃ j : Nat, w = j := ⟨w.toNat, by omega⟩
      have jl : j < bs.length := by omega
      have aj : atI ((bs.map leadT).map PyData.str) (j : Int) = some (.str (leadT bs[j])) := atI_nat (by rw [List.getElem?_map, List.getElem?_map, List.getElem?_eq_getElem jl]; rfl)
      rw [aj, oV_some]
      obtain ⟨_, l120, lok⟩ := ld _ (List.getElem_mem jl)
      refine ⟨by rw [List.length_map, List.length_map]; omega, leadT bs[j], "x1234. ab", rfl, by omega, by decide +kernel, by decide +kernel, fun t' tl ts => ?_⟩
      have t'ok := line_spoilt l120 lok (z := "x1234. ab") (fun c m => (line_of (l := "x1234. ab") (by decide +kernel)).2 c m) tl ts
      refine ⟨by omega, by rw [List.length_map]; omega, by rw [List.length_map, List.length_map]; omega, by omega, ?_⟩
      have e2 : T1.map rowD ++ [PyData.list (A2.map .str ++ B2.map .str), PyData.list (A2.map .str ++ .str t' :: B2.map .str)] = (T1 ++ [A2 ++ B2, A2 ++ t' :: B2]).map rowD := by simp [rowD]
      refine ⟨by rw [List.length_map]; show T1.length + 2 ≤ sizeLine; omega, ?_⟩
      rw [e2]
      refine hnx _ _ ⟨rfl, _, .fz x, _, trivial, fun ls m => ?_, ?_, rfl⟩
      · rcases List.mem_append.mp m with m | m
        · exact hT1 ls m
        · simp only [List.mem_cons, List.not_mem_nil, or_false] at m
          rcases m with rfl | rfl
          · exact rows_app (fun l m => lo.2 l (mA2 l m)) (fun l m => lo.2 l (mB2 l m)) (by omega)
          · exact rows_app (fun l m => lo.2 l (mA2 l m)) (fun l m => by
              rcases List.mem_cons.mp m with rfl | m
              · exact t'ok
              · exact lo.2 l (mB2 l m)) (by rw [List.length_cons]; omega)
      · rw [List.length_append]
        show T1.length + 2 + 3 * _ ≤ 1000
        omega
    · rintro ρ s' ⟨rfl, T, c8, c9, f8, hT, lT, rfl⟩
      exact hU _ _ ⟨rfl, T, c8, c9, f8, hT, by simp at lT; omega, rfl⟩
  rintro ρ' s6 ⟨rfl, T, c8, c9, f8, hT, lT, rfl⟩
  refine seq_inv (fun ρ' s' => s' = s6 ∧ ∃ c7 c10 : Cell, ρ' = [.un, .fz (refD a), .fz (.int st), .fz (bookD bs), .fz (.list ((bs.map leadT).map .str)), .un, .fz (.list (oddL.map .str)), c7, c8, c9, c10, .un, .un, .un, .un]) ?_ fun U hU => ?_
  rotate_left
  · rw [q_dFrz]
    simp only [frzR_s, frzR_0, frzC]
    refine for_of (xs := T.map rowD) (fun k z => by simpa using z) (fun r ρ s' => s' = s6 ∧ ∃ (T' : List (List Str)) (c7 c10 : Cell), r = T'.map rowD ∧ (∀ ls ∈ T', rowsOk ls) ∧ ρ = [.un, .fz (refD a), .fz (.int st), .fz (bookD bs), .fz (.list ((bs.map leadT).map .str)), .un, .fz (.list (oddL.map .str)), c7, c8, c9, c10, .un, .un, .un, .un]) ⟨rfl, T, _, .un, rfl, hT, rfl⟩ ?_ ?_
    · rintro x r ρ s' ⟨rfl, T', c7, c10, hr, hT', rfl⟩ D' hrt hbk hnx hct
      cases T' with
      | nil => cases hr
      | cons ls T' =>
      obtain ⟨rfl, rfl⟩ := List.cons.inj hr
      have h1 := hT' ls (List.mem_cons_self ..)
      have h2 := fun x m => hT' x (List.mem_cons_of_mem _ m)
      rw [q_dgN]
      simp only [List.set_cons_succ, List.set_cons_zero]
      rw [q_dSeq]
      have go : ∀ ls2 : List Str, ls2 ≠ [] → rowsOk ls2 → dIfS (dNotT (dTest (dCall (S_same 10) (dCons (dCall S_L_read_book (dCons (dVar 2) (dCons (dJoin "\n" (dVar 10)) dNil))) (dCons (dCall S_L_due_book (dCons (dVar 2) (dCons (dVar 10) dNil))) dNil))))) (dRet (dC (.bool false))) dNx D' [.un, .fz (refD a), .fz (.int st), .fz (bookD bs), .fz (.list ((bs.map leadT).map .str)), .un, .fz (.list (oddL.map .str)), c7, c8, c9, .fz (rowD ls2), .un, .un, .un, .un] s' := fun ls2 ne ok => by
        have jb := joinB ok
        have sp := rows_split ne ok
        have l10 := ok.1
        rw [q_dIfS]
        simp [rowD, -List.map_map]
        refine ⟨ls2, rfl, jb.1, st, Txt.join "\n" ls2, rfl, s3, s8, jb.2.1, by rw [sp]; omega, by rw [sp]; exact fun l m => by have := (ok.2 l m).1; omega, ?_⟩
        rw [sp]
        refine ⟨st, ls2, rfl, s3, s8, by omega, fun l m => by have := (ok.2 l m).1; omega, ?_⟩
        exact same9 (res_plain (by omega) s8 (by omega)) (by simpa using hnx _ _ ⟨rfl, T', c7, _, rfl, h2, rfl⟩)
      by_cases ne : ls = []
      · subst ne
        have z := go [""] (by simp) ⟨by simp, fun l m => by rw [List.mem_singleton.mp m]; exact line_of (by decide +kernel)⟩
        unfold rowD
        simp [-q_dIfS, -List.map_map]
        exact ⟨by omega, z⟩
      · have z := go ls ne h1
        have pos : 0 < ls.length := List.length_pos_iff.mpr ne
        unfold rowD
        simp [-q_dIfS, pos, -List.map_map]
        exact z
    · rintro ρ s' ⟨rfl, T', c7, c10, hr, hT', rfl⟩
      exact hU _ _ ⟨rfl, _, _, rfl⟩
  rintro ρ' s7 ⟨rfl, c7, c10, rfl⟩
  refine seq_inv (fun ρ' s' => s' = s7 ∧ ∃ ws : List Str, (∀ w ∈ ws, w ∈ bs.map (·.1)) ∧ 1 ≤ ws.length ∧ ws.length ≤ 40 ∧ ρ' = [.un, .fz (refD a), .fz (.int st), .fz (bookD bs), .fz (.list ((bs.map leadT).map .str)), .un, .fz (.list (oddL.map .str)), c7, c8, c9, c10, .fz (touchD ws), .un, .un, .un]) ?_ fun U hU => ?_
  rotate_left
  · simp [-q_dSeq, -q_dIfS, -List.map_map]
    refine ⟨by omega, 2, rfl, by omega, by omega, fun v v0 v2 => ?_⟩
    have bne : bs ≠ [] := fun z => by rw [z] at b1; simp at b1
    have fin : ∀ m : Int, 1 ≤ m → m ≤ 40 → S_L_touch a [refD a, bookD bs, .int m] s7 fun d s' => U [.un, .fz (refD a), .fz (.int st), .fz (bookD bs), .fz (.list ((bs.map leadT).map .str)), .un, .fz (.list (oddL.map .str)), c7, c8, c9, c10, .fz d, .un, .un, .un] s' := fun m m1 m40 =>
      ⟨bs, m, rfl, bne, by omega, m1, by omega, fun ws hw l1 l2 => hU _ _ ⟨rfl, ws, hw, l1, by omega, rfl⟩⟩
    rcases (by omega : v = 0 ∨ v = 1) with rfl | rfl
    · have a0 : atI [PyData.int 8, PyData.int 40] 0 = some (.int 8) := rfl
      simp [a0, -List.map_map]
      exact fin 8 (by omega) (by omega)
    · have a1 : atI [PyData.int 8, PyData.int 40] 1 = some (.int 40) := rfl
      simp [a1, -List.map_map]
      exact fin 40 (by omega) (by omega)
  rintro ρ' s8' ⟨rfl, ws, hw, w1, w40, rfl⟩
  refine seq_inv (fun ρ' s' => s' = s8' ∧ ∃ ws : List Str, (∀ w ∈ ws, w ∈ bs.map (·.1)) ∧ 1 ≤ ws.length ∧ ws.length ≤ 200 ∧ ρ' = [.un, .fz (refD a), .fz (.int st), .fz (bookD bs), .fz (.list ((bs.map leadT).map .str)), .un, .fz (.list (oddL.map .str)), c7, c8, c9, c10, .fz (touchD ws), .un, .un, .un]) ?_ fun U hU => ?_
  rotate_left
  · rw [q_dIfS]
    simp [-q_dSeq, -q_dIfS, -List.map_map]
    refine ⟨2, rfl, by omega, by omega, fun v v0 v2 => ⟨by first | rfl | (unfold eqOk; simp [SeqAt.shaped]), ?_⟩⟩
    rw [show PyData.eqv (.int v) (.int 0) = decide (v = 0) by simp]
    by_cases ez : v = 0
    · rw [if_pos (decide_eq_true ez)]
      cases ws with
      | nil => simp at w1
      | cons w0 wr =>
      show slV (.tuple ((w0 :: wr).map .str)) none (some 1) _
      rw [slV_tuple, cutD_to (by omega)]
      refine ⟨150, rfl, by omega, by omega, fun u u0 u150 => ?_⟩
      refine ⟨by simp, by omega, ?_, ?_⟩
      · show 1 * (1 + u).toNat ≤ 1000000
        omega
      · have er : (List.replicate (1 + u).toNat (List.take (1 : Int).toNat ((w0 :: wr).map PyData.str))).flatten = (List.replicate (1 + u).toNat w0).map .str := by
          rw [List.map_replicate]
          exact repl_flat _
        rw [er]
        refine ⟨?_, ?_⟩
        · rw [List.length_map, List.length_map, List.length_replicate]
          rw [List.length_cons] at w40 ⊢
          omega
        · show slV _ _ _ _
          rw [slV_tuple, cutD_to (by omega), ← List.map_append, ← List.map_take]
          refine hU _ _ ⟨rfl, (List.replicate (1 + u).toNat w0 ++ w0 :: wr).take (200 : Int).toNat, fun w m => ?_, ?_, ?_, rfl⟩
          · rcases List.mem_append.mp (List.mem_of_mem_take m) with m | m
            · rw [(List.mem_replicate.mp m).2]
              exact hw w0 (List.mem_cons_self ..)
            · exact hw w m
          · rw [List.length_take, List.length_append, List.length_cons]
            show 1 ≤ min 200 _
            omega
          · rw [List.length_take]
            show min 200 _ ≤ 200
            omega
    · rw [if_neg (by simp [ez])]
      exact hU _ _ ⟨rfl, ws, hw, w1, by omega, rfl⟩
  rintro ρ' s9 ⟨rfl, ws, hw, w1, w200, rfl⟩
  have wB : ∀ w ∈ ws, wordB (.str w) = true := fun w mw => by
    obtain ⟨p, mp, rfl⟩ := List.mem_map.mp (hw w mw)
    exact (hz p mp).1.b
  have tch : TchOk ws := ⟨by omega, fun w mw => by have := word12 (wB w mw); omega⟩
  have tl := wT_long w200 fun w mw => word12 (wB w mw)
  have tso := strOk_runs fun w mw => word_strOk (wB w mw)
  refine seq_inv (fun ρ' s' => s' = s9 ∧ ρ' = [.un, .fz (refD a), .fz (.int st), .fz (bookD bs), .fz (.list ((bs.map leadT).map .str)), .un, .fz (.list (oddL.map .str)), c7, c8, c9, c10, .fz (touchD ws), .fz (.str (wT ws)), .un, .un]) ?_ fun U hU => ?_
  rotate_left
  · simp [-q_dSeq, -q_dIfS, -List.map_map]
    exact ⟨ws, rfl, tch, hU _ _ ⟨rfl, rfl⟩⟩
  rintro ρ' s10 ⟨rfl, rfl⟩
  refine seq_if ?_ fun U hU => ?_
  rotate_left
  · simp [-q_dSeq, -q_dIfS, -List.map_map]
    exact ⟨ws, rfl, tch, same9 (str_plain tso) ⟨rfl, hU⟩⟩
  refine seq_inv (fun ρ' s' => s' = s10 ∧ ∃ T : List Str, T.length ≤ 18 ∧ (∀ t ∈ T, t.length ≤ 7000) ∧ ρ' = [.un, .fz (refD a), .fz (.int st), .fz (bookD bs), .fz (.list ((bs.map leadT).map .str)), .un, .fz (.list (oddL.map .str)), .ol (T.map .str), c8, c9, c10, .fz (touchD ws), .fz (.str (wT ws)), .un, .un]) ?_ fun U hU => ?_
  rotate_left
  · refine ⟨by show 18 ≤ sizeLine; omega, hU _ _ ⟨rfl, wT ws :: triedL, by simp [triedL], fun t m => ?_, rfl⟩⟩
    rcases List.mem_cons.mp m with rfl | m
    · omega
    · exact tried_ok t m
  rintro ρ' s11 ⟨rfl, T, lT, hT, rfl⟩
  refine seq_inv (fun ρ' s' => s' = s11 ∧ ∃ T : List Str, T.length ≤ 22 ∧ (∀ t ∈ T, t.length ≤ 7000) ∧ ρ' = [.un, .fz (refD a), .fz (.int st), .fz (bookD bs), .fz (.list ((bs.map leadT).map .str)), .un, .fz (.list (oddL.map .str)), .ol (T.map .str), c8, c9, c10, .fz (touchD ws), .fz (.str (wT ws)), .un, .un]) ?_ fun U hU => ?_
  rotate_left
  · simp [-q_dSeq, -q_dIfS, -List.map_map]
    have e1 : (" " : Str).length = 1 := by decide +kernel
    refine ⟨by omega, by rw [Dl.len_append]; omega, by omega, by rw [List.length_map]; show T.length + 4 ≤ sizeLine; omega, ?_⟩
    refine hU _ _ ⟨rfl, T ++ ([("2*p p" : Str), "p*2", "12345678901*p", wT ws ++ " " ++ wT ws] : List Str), by simp; omega, fun t m => ?_, by simp⟩
    rcases List.mem_append.mp m with m | m
    · exact hT t m
    · simp only [List.mem_cons, List.not_mem_nil, or_false] at m
      rcases m with rfl | rfl | rfl | rfl
      · decide +kernel
      · decide +kernel
      · decide +kernel
      · rw [Dl.len_append, Dl.len_append]
        omega
  rintro ρ' s12 ⟨rfl, T, lT, hT, rfl⟩
  refine seq_inv (fun ρ' s' => True) ?_ fun U hU => ?_
  rotate_left
  · show dIt _ _ s12 _
    simp [-q_dSeq, -q_dIfS, -List.map_map]
    refine comp_rel (xs := rngD 0 8) (fun k z => by simpa using z) (by simp; exact f8) (by rw [rngD_length]; omega) (fun x r => ∃ t' : Str, r = some (.str t') ∧ t'.length ≤ 7000) (fun x m s k z => ?_) (fun rs hr => ?_)
    · simp
      exact ⟨_, _, rfl, by omega, by decide +kernel, by decide +kernel, fun t' ht _ => z _ ⟨t', rfl, by omega⟩⟩
    obtain ⟨T2, ep, lT2, T2w⟩ := all2_mapW hr
    rw [rngD_length] at lT2
    rw [ep]
    simp [-q_dSeq, -q_dIfS, -List.map_map]
    refine ⟨by omega, ?_⟩
    rw [← List.map_append]
    have all : ∀ t ∈ T ++ T2, t.length ≤ 7000 := fun t m => (List.mem_append.mp m).elim (hT t) (T2w t)
    generalize T ++ T2 = T3 at all ⊢
    refine for_inv (fun r ρ' s' => ∃ us : List Str, r = us.map .str ∧ (∀ u ∈ us, u.length ≤ 7000) ∧ ∃ c8 c13 c14, ρ' = [.un, .fz (refD a), .fz (.int st), .fz (bookD bs), .fz (.list ((bs.map leadT).map .str)), .un, .fz (.list (oddL.map .str)), .ol (T.map .str), c8, c9, c10, .fz (touchD ws), .fz (.str (wT ws)), c13, c14]) ⟨T3, rfl, all, _, _, _, rfl⟩ ?_ ?_
    · rintro x r ρ s' ⟨us, hr, hu, c8', c13, c14, rfl⟩ D' hrt hbk hnx hct
      cases us with
      | nil => cases hr
      | cons u us =>
        obtain ⟨rfl, rfl⟩ := List.cons.inj hr
        have ul := hu u (List.mem_cons_self ..)
        have go := hnx
        simp only [List.set_cons_succ, List.set_cons_zero]
        rw [q_dSeq]
        simp [-q_dSeq, -q_dIfS, -List.map_map]
        refine ⟨u, rfl, by omega, fun ws' hr' => ?_, fun hr' => ?_⟩
        · dsimp only
          rw [q_dIfS]
          simp [isN, -List.map_map]
          refine ⟨u, rfl, by omega, fun ws2 h2 => ?_, fun h2 => by rw [hr'] at h2; cases h2⟩
          rw [hr'] at h2
          cases h2
          refine ⟨trivial, ?_⟩
          rw [if_neg (by simp [touchD])]
          refine ⟨by omega, same9 (told_touch hr') ?_⟩
          show bV _ _
          rw [bV_bool, if_pos rfl]
          exact hnx _ _ ⟨us, rfl, fun t m => hu t (List.mem_cons_of_mem _ m), _, _, _, rfl⟩
        · dsimp only
          rw [q_dIfS]
          simp [isN, -List.map_map]
          refine ⟨u, rfl, by omega, (fun ws2 h2 => by rw [hr'] at h2; cases h2), fun h2 => ?_⟩
          refine same9 (str_plain (by decide +kernel)) ?_
          show bV _ _
          rw [bV_bool, if_pos rfl]
          exact hnx _ _ ⟨us, rfl, fun t m => hu t (List.mem_cons_of_mem _ m), _, _, _, rfl⟩
    · exact fun ρ s' _ => hU _ _ trivial
  intro ρ' s13 _
  show _ = _
  rfl
end Dl
namespace Dl
open PySem L2
section
variable {a : Addr} {ds : List D} {s : (poolA a).S} {Q : D → (poolA a).S → Prop} {QC : Cell → (poolA a).S → Prop} {C : Addr}
theorem len_L_spelled3 {A : Amb} {s : A.S} {Q : D → A.S → Prop} (h : S_L_spelled3 ds s Q) : ds.length = 1 := by obtain ⟨_, e, _⟩ := h; rw [e]; rfl
end
end Dl
namespace Dl
open PySem L2 PySem.Spec
def top (i : Nat) : Stmt := PySem.Challenge.pw_bellstrue_k21_texts_of_books_and_touches.main.body.getD i (.Pass ⟨0, 0, 0, 0⟩)
section
variable {P : Program} {w : World} {K : PySem.W.Frag} {mg : Str → Option Value} {base : Heap} {f : Addr} {cdv : Value} {Ar : Around} {outer : List PySem.Env} {s : Shared} {H : Hp} {E : XK}
abbrev N_is_whole : List Str := ["value"]
theorem sc_is_whole : FnScope N_is_whole ["value"] (defScope (top 2)) := ⟨rfl, rfl, rfl, by decide +kernel, rfl, by decide +kernel, by decide +kernel⟩
theorem d_is_whole {j : Nat} {A : Amb} (B : Bt mg) (hr : Room j (Ar.deeper (PyProof.Rows.envOfC "is_whole" (defScope (top 2)) s.heap.objs.size f cdv))) (Nt : Ent) :
    PSs (cxOf CX0 P w K mg base N_is_whole "is_whole" (defScope (top 2)) f cdv Ar outer s H E).nox (defBody (top 2)) (liftS A K Nt (t_is_whole)) :=
  have nd := sc_is_whole.nd
  (ss_one (s_ret (e_and (e_isi .int (vB 0) B.isinstance B.int bt_int) (pe_one (e_not (e_isi .bool (vB 0) B.isinstance B.bool bt_bool))))))
abbrev N_is_from : List Str := ["value", "low", "high"]
theorem sc_is_from : FnScope N_is_from ["value", "low", "high"] (defScope (top 3)) := ⟨rfl, rfl, rfl, by decide +kernel, rfl, by decide +kernel, by decide +kernel⟩
theorem d_is_from {j : Nat} {A : Amb} (B : Bt mg) {k_is_whole : Nat} {S_is_whole : FS A} (G_is_whole : DFn P w K mg base A k_is_whole "is_whole" ["value"] S_is_whole) (h_is_whole : k_is_whole ≤ j) (hr : Room j (Ar.deeper (PyProof.Rows.envOfC "is_from" (defScope (top 3)) s.heap.objs.size f cdv))) (Nt : Ent) :
    PSs (cxOf CX0 P w K mg base N_is_from "is_from" (defScope (top 3)) f cdv Ar outer s H E).nox (defBody (top 3)) (liftS A K Nt (t_is_from S_is_whole)) :=
  have nd := sc_is_from.nd
  (ss_one (s_ret (e_and (e_call G_is_whole hr h_is_whole (a_cons (vF 0) a_nil)) (pe_one (e_chain op_le op_le dr_cmpI dr_cmpI (vB 1) (vB 0) (vB 2))))))
abbrev N_is_word : List Str := ["value", "sign"]
theorem sc_is_word : FnScope N_is_word ["value"] (defScope (top 4)) := ⟨rfl, rfl, rfl, by decide +kernel, rfl, by decide +kernel, by decide +kernel⟩
theorem d_is_word {j : Nat} {A : Amb} (B : Bt mg) (C_LETTERS : ∃ t, mg "LETTERS" = some (.str "abcdefghijklmnopqrstuvwxyz" t)) (hr : Room j (Ar.deeper (PyProof.Rows.envOfC "is_word" (defScope (top 4)) s.heap.objs.size f cdv))) (Nt : Ent) :
    PSs (cxOf CX0 P w K mg base N_is_word "is_word" (defScope (top 4)) f cdv Ar outer s H E).nox (defBody (top 4)) (liftS A K Nt (t_is_word)) :=
  have nd := sc_is_word.nd
  (ss_one (s_ret (e_and (e_isi .str (vB 0) B.isinstance B.str bt_str) (e_and (e_chain op_le op_le dr_cmpI dr_cmpI (e_bw e_int) (e_bw (e_callB call_len dn_len B.len bt_len (b_cons (vB 0) b_nil))) (e_bw e_int)) (pe_one (e_callB (cr_all rfl) dn_all B.all bt_all (b_cons (e_bw (e_ofW (eC [("sign", 1)] nd (iA (vF 0)) (fun _ _ _ _ _ _ => (gN 1 nd)) (fun _ _ _ _ _ _ => ts_nil) (fun _ _ _ _ _ _ => (e_cmp (op_inA hr.units65) dr_inG (vB 1) (e_bw (gS C_LETTERS))))))) b_nil)))))))
abbrev N_is_ascending : List Str := ["items", "k"]
theorem sc_is_ascending : FnScope N_is_ascending ["items"] (defScope (top 5)) := ⟨rfl, rfl, rfl, by decide +kernel, rfl, by decide +kernel, by decide +kernel⟩
theorem d_is_ascending {j : Nat} {A : Amb} (B : Bt mg) (hr : Room j (Ar.deeper (PyProof.Rows.envOfC "is_ascending" (defScope (top 5)) s.heap.objs.size f cdv))) (Nt : Ent) :
    PSs (cxOf CX0 P w K mg base N_is_ascending "is_ascending" (defScope (top 5)) f cdv Ar outer s H E).nox (defBody (top 5)) (liftS A K Nt (t_is_ascending)) :=
  have nd := sc_is_ascending.nd
  (ss_one (s_ret (e_callB (cr_all rfl) dn_all B.all bt_all (b_cons (e_bw (e_ofW (eC [("k", 1)] nd (i_rg1 B.range (a_cons (e_op op_sub dr_sub (e_bw (e_callB call_len dn_len B.len bt_len (b_cons (vB 0) b_nil))) (e_bw e_int)) a_nil)) (fun _ _ _ _ _ _ => (gN 1 nd)) (fun _ _ _ _ _ _ => ts_nil) (fun _ _ _ _ _ _ => (e_cmp (op_ltA hr.units65) dr_ltA (e_bw (e_ix ix_seq dr_ix (vB 0) (vB 1))) (e_bw (e_ix ix_seq dr_ix (vB 0) (e_bw (e_op op_addA dr_add (vB 1) (e_bw e_int)))))))))) b_nil))))
abbrev N_is_change : List Str := ["stage", "value", "place", "ends", "k"]
theorem sc_is_change : FnScope N_is_change ["stage", "value"] (defScope (top 11)) := ⟨rfl, rfl, rfl, by decide +kernel, rfl, by decide +kernel, by decide +kernel⟩
theorem d_is_change {j : Nat} {A : Amb} (B : Bt mg) {k_is_ascending : Nat} {S_is_ascending : FS A} (G_is_ascending : DFn P w K mg base A k_is_ascending "is_ascending" ["items"] S_is_ascending) (h_is_ascending : k_is_ascending ≤ j) {k_is_from : Nat} {S_is_from : FS A} (G_is_from : DFn P w K mg base A k_is_from "is_from" ["value", "low", "high"] S_is_from) (h_is_from : k_is_from ≤ j) (hr : Room j (Ar.deeper (PyProof.Rows.envOfC "is_change" (defScope (top 11)) s.heap.objs.size f cdv))) (Nt : Ent) :
    PSs (cxOf CX0 P w K mg base N_is_change "is_change" (defScope (top 11)) f cdv Ar outer s H E).nox (defBody (top 11)) (liftS A K Nt (t_is_change S_is_ascending S_is_from)) :=
  have nd := sc_is_change.nd
  (ss_cons (s_if (PW.pt (w_or (t_not (t_val (e_isi .tuple (vB 1) B.isinstance B.tuple bt_tuple))) (w_or1 (t_not (t_val (e_callB (cr_all rfl) dn_all B.all bt_all (b_cons (e_bw (e_ofW (eC [("place", 2)] nd (iA (vF 1)) (fun _ _ _ _ _ _ => (gN 2 nd)) (fun _ _ _ _ _ _ => ts_nil) (fun _ _ _ _ _ _ => (e_call G_is_from hr h_is_from (a_cons (vF 2) (a_cons e_int (a_cons (vF 0) a_nil)))))))) b_nil)))))))
  (ss_one (s_ret e_bl))
  ss_nil)
  (ss_cons (s_if (PW.pt (w_or (t_not (t_val (e_call G_is_ascending hr h_is_ascending (a_cons (vF 1) a_nil)))) (w_or1 (t_cmp (op_eqU hr.units) dr_eqU (e_bw (e_callB call_len dn_len B.len bt_len (b_cons (vB 1) b_nil))) (vB 0)))))
  (ss_one (s_ret e_bl))
  ss_nil)
  (ss_cons (sS 3 nd (e_op op_addA dr_add (e_bw (e_op op_addA dr_add (e_bw (e_lst (a_cons e_int a_nil))) (e_bw (e_ofW (n_callTy call_list_of dw_list B.list bt_list (b_cons (vB 1) b_nil)))))) (e_bw (e_lst (a_cons (e_op op_addA dr_add (vB 0) (e_bw e_int)) a_nil)))))
  (ss_one (s_ret (e_callB (cr_all rfl) dn_all B.all bt_all (b_cons (e_bw (e_ofW (eC [("k", 4)] nd (i_rg1 B.range (a_cons (e_op op_sub dr_sub (e_bw (e_callB call_len dn_len B.len bt_len (b_cons (vB 3) b_nil))) (e_bw e_int)) a_nil)) (fun _ _ _ _ _ _ => (gN 4 nd)) (fun _ _ _ _ _ _ => ts_nil) (fun _ _ _ _ _ _ => (e_cmp (op_eqU hr.units) dr_eqU (e_bw (e_op op_mod dr_mod (e_bw (e_op op_sub dr_sub (e_bw (e_ix ix_seq dr_ix (vB 3) (e_bw (e_op op_addA dr_add (vB 4) (e_bw e_int))))) (e_bw (e_ix ix_seq dr_ix (vB 3) (vB 4))))) (e_bw e_int))) (e_bw e_int)))))) b_nil)))))))
abbrev N_is_piece : List Str := ["stage", "value", "change"]
theorem sc_is_piece : FnScope N_is_piece ["stage", "value"] (defScope (top 14)) := ⟨rfl, rfl, rfl, by decide +kernel, rfl, by decide +kernel, by decide +kernel⟩
theorem d_is_piece {j : Nat} {A : Amb} (B : Bt mg) (C_MOST_CHANGES : ∃ t, mg "MOST_CHANGES" = some (.int 5040 t)) {k_is_change : Nat} {S_is_change : FS A} (G_is_change : DFn P w K mg base A k_is_change "is_change" ["stage", "value"] S_is_change) (h_is_change : k_is_change ≤ j) (hr : Room j (Ar.deeper (PyProof.Rows.envOfC "is_piece" (defScope (top 14)) s.heap.objs.size f cdv))) (Nt : Ent) :
    PSs (cxOf CX0 P w K mg base N_is_piece "is_piece" (defScope (top 14)) f cdv Ar outer s H E).nox (defBody (top 14)) (liftS A K Nt (t_is_piece S_is_change)) :=
  have nd := sc_is_piece.nd
  (ss_cons (s_if (PW.pt (w_or (t_not (t_val (e_isi .tuple (vB 1) B.isinstance B.tuple bt_tuple))) (w_or1 (t_not (t_chain op_le op_le dr_cmpI dr_cmpI (e_bw e_int) (e_bw (e_callB call_len dn_len B.len bt_len (b_cons (vB 1) b_nil))) (e_bw (gI C_MOST_CHANGES)))))))
  (ss_one (s_ret e_bl))
  ss_nil)
  (ss_one (s_ret (e_callB (cr_all rfl) dn_all B.all bt_all (b_cons (e_bw (e_ofW (eC [("change", 2)] nd (iA (vF 1)) (fun _ _ _ _ _ _ => (gN 2 nd)) (fun _ _ _ _ _ _ => ts_nil) (fun _ _ _ _ _ _ => (e_call G_is_change hr h_is_change (a_cons (vF 0) (a_cons (vF 2) a_nil))))))) b_nil)))))
abbrev N_is_book : List Str := ["stage", "value", "pair"]
theorem sc_is_book : FnScope N_is_book ["stage", "value"] (defScope (top 17)) := ⟨rfl, rfl, rfl, by decide +kernel, rfl, by decide +kernel, by decide +kernel⟩
theorem d_is_book {j : Nat} {A : Amb} (B : Bt mg) {k_is_ascending : Nat} {S_is_ascending : FS A} (G_is_ascending : DFn P w K mg base A k_is_ascending "is_ascending" ["items"] S_is_ascending) (h_is_ascending : k_is_ascending ≤ j) {k_is_piece : Nat} {S_is_piece : FS A} (G_is_piece : DFn P w K mg base A k_is_piece "is_piece" ["stage", "value"] S_is_piece) (h_is_piece : k_is_piece ≤ j) {k_is_word : Nat} {S_is_word : FS A} (G_is_word : DFn P w K mg base A k_is_word "is_word" ["value"] S_is_word) (h_is_word : k_is_word ≤ j) (hr : Room j (Ar.deeper (PyProof.Rows.envOfC "is_book" (defScope (top 17)) s.heap.objs.size f cdv))) (Nt : Ent) :
    PSs (cxOf CX0 P w K mg base N_is_book "is_book" (defScope (top 17)) f cdv Ar outer s H E).nox (defBody (top 17)) (liftS A K Nt (t_is_book S_is_ascending S_is_piece S_is_word)) :=
  have nd := sc_is_book.nd
  (ss_cons (s_if (PW.pt (w_or (t_not (t_val (e_isi .tuple (vB 1) B.isinstance B.tuple bt_tuple))) (w_or1 (t_not (t_chain op_le op_le dr_cmpI dr_cmpI (e_bw e_int) (e_bw (e_callB call_len dn_len B.len bt_len (b_cons (vB 1) b_nil))) (e_bw e_int))))))
  (ss_one (s_ret e_bl))
  ss_nil)
  (ss_cons (s_if (t_not (t_val (e_callB (cr_all rfl) dn_all B.all bt_all (b_cons (e_bw (e_ofW (eC [("pair", 2)] nd (iA (vF 1)) (fun _ _ _ _ _ _ => (gN 2 nd)) (fun _ _ _ _ _ _ => ts_nil) (fun _ _ _ _ _ _ => (e_and (e_isi .tuple (vB 2) B.isinstance B.tuple bt_tuple) (e_and (e_cmp (op_eqU hr.units) dr_eqU (e_bw (e_callB call_len dn_len B.len bt_len (b_cons (vB 2) b_nil))) (e_bw e_int)) (pe_one (e_call G_is_word hr h_is_word (a_cons (e_ix ix_seq dr_ix (vB 2) (e_bw e_int)) a_nil))))))))) b_nil))))
  (ss_one (s_ret e_bl))
  ss_nil)
  (ss_one (s_ret (e_and (e_call G_is_ascending hr h_is_ascending (a_cons (e_ofW (eC [("pair", 2)] nd (iA (vF 1)) (fun _ _ _ _ _ _ => (gN 2 nd)) (fun _ _ _ _ _ _ => ts_nil) (fun _ _ _ _ _ _ => (e_ix ix_seq dr_ix (vB 2) (e_bw e_int))))) a_nil)) (pe_one (e_callB (cr_all rfl) dn_all B.all bt_all (b_cons (e_bw (e_ofW (eC [("pair", 2)] nd (iA (vF 1)) (fun _ _ _ _ _ _ => (gN 2 nd)) (fun _ _ _ _ _ _ => ts_nil) (fun _ _ _ _ _ _ => (e_call G_is_piece hr h_is_piece (a_cons (vF 0) (a_cons (e_ix ix_seq dr_ix (vB 2) (e_bw e_int)) a_nil))))))) b_nil))))))))
abbrev N_read_number : List Str := ["text", "sign"]
theorem sc_read_number : FnScope N_read_number ["text"] (defScope (top 20)) := ⟨rfl, rfl, rfl, by decide +kernel, rfl, by decide +kernel, by decide +kernel⟩
theorem d_read_number {j : Nat} {A : Amb} (B : Bt mg) (C_DIGITS : ∃ t, mg "DIGITS" = some (.str "0123456789" t)) {L : List Str} (ET : ExT K mg L) (iL_BadText : ("BadText" : Str) ∈ L) {C_BadText : Addr} (mC_BadText : mg "BadText" = some (.ref C_BadText)) (rX_BadText : RaisC K C_BadText) (hr : Room j (Ar.deeper (PyProof.Rows.envOfC "read_number" (defScope (top 20)) s.heap.objs.size f cdv))) (Nt : Ent) (W : DXW A) (tk : Takes (cxOf (L2.CX P w) P w K mg base N_read_number "read_number" (defScope (top 20)) f cdv Ar outer s H E) (liftX A K Nt mg L W)) (ps : PassesOwn (model P w) (cxOf (L2.CX P w) P w K mg base N_read_number "read_number" (defScope (top 20)) f cdv Ar outer s H E).A (cxOf (L2.CX P w) P w K mg base N_read_number "read_number" (defScope (top 20)) f cdv Ar outer s H E).env (cxOf (L2.CX P w) P w K mg base N_read_number "read_number" (defScope (top 20)) f cdv Ar outer s H E).xe) :
    PSs (cxOf (L2.CX P w) P w K mg base N_read_number "read_number" (defScope (top 20)) f cdv Ar outer s H E) (defBody (top 20)) (liftS A K Nt (t_read_number W)) :=
  have nd := sc_read_number.nd
  (ss_cons (s_if (PW.pt (w_or (t_not (t_chain op_le op_le dr_cmpI dr_cmpI (e_bw e_int) (e_bw (e_callB call_len dn_len B.len bt_len (b_cons (vB 0) b_nil))) (e_bw e_int))) (w_or (t_not (t_val (e_callB (cr_all rfl) dn_all B.all bt_all (b_cons (e_bw (e_ofW (eC [("sign", 1)] nd (iA (vF 0)) (fun _ _ _ _ _ _ => (gN 1 nd)) (fun _ _ _ _ _ _ => ts_nil) (fun _ _ _ _ _ _ => (e_cmp (op_inA hr.units65) dr_inG (vB 1) (e_bw (gS C_DIGITS))))))) b_nil)))) (w_or1 (t_cmp (op_neU hr.units) dr_neU (e_bw (e_callTy call_str_int dn_str B.str bt_str (b_cons (e_bw (e_callTy call_int_str dn_intS B.int bt_int (b_cons (vB 0) b_nil))) b_nil))) (vB 0))))))
  (ss_one (s_raiseC rX_BadText iL_BadText mC_BadText tk (a_cons (vF 0) a_nil)))
  ss_nil)
  (ss_one (s_ret (e_callTy call_int_str dn_intS B.int bt_int (b_cons (vB 0) b_nil)))))
abbrev N_write_change : List Str := ["change", "place"]
theorem sc_write_change : FnScope N_write_change ["change"] (defScope (top 21)) := ⟨rfl, rfl, rfl, by decide +kernel, rfl, by decide +kernel, by decide +kernel⟩
theorem d_write_change {j : Nat} {A : Amb} (B : Bt mg) (hr : Room j (Ar.deeper (PyProof.Rows.envOfC "write_change" (defScope (top 21)) s.heap.objs.size f cdv))) (Nt : Ent) :
    PSs (cxOf CX0 P w K mg base N_write_change "write_change" (defScope (top 21)) f cdv Ar outer s H E).nox (defBody (top 21)) (liftS A K Nt (t_write_change)) :=
  have nd := sc_write_change.nd
  (ss_one (s_ret (e_ifExp (t_cmp op_gt dr_cmpI (e_bw (e_callB call_len dn_len B.len bt_len (b_cons (vB 0) b_nil))) (e_bw e_int)) (e_join (e_ofW (eC [("place", 1)] nd (iA (vF 0)) (fun _ _ _ _ _ _ => (gN 1 nd)) (fun _ _ _ _ _ _ => ts_nil) (fun _ _ _ _ _ _ => (e_callTy call_str_int dn_str B.str bt_str (b_cons (vB 1) b_nil)))))) e_str)))
abbrev N_write_piece : List Str := ["piece", "found", "k", "dot"]
theorem sc_write_piece : FnScope N_write_piece ["piece"] (defScope (top 22)) := ⟨rfl, rfl, rfl, by decide +kernel, rfl, by decide +kernel, by decide +kernel⟩
theorem d_write_piece {j : Nat} {A : Amb} (B : Bt mg) {k_write_change : Nat} {S_write_change : FS A} (G_write_change : DFn P w K mg base A k_write_change "write_change" ["change"] S_write_change) (h_write_change : k_write_change ≤ j) (hr : Room j (Ar.deeper (PyProof.Rows.envOfC "write_piece" (defScope (top 22)) s.heap.objs.size f cdv))) (Nt : Ent) :
    PSs (cxOf CX0 P w K mg base N_write_piece "write_piece" (defScope (top 22)) f cdv Ar outer s H E).nox (defBody (top 22)) (liftS A K Nt (t_write_piece S_write_change)) :=
  have nd := sc_write_piece.nd
  (ss_cons (sS 1 nd e_str)
  (ss_cons (s_for (i_rg1 B.range (a_cons (e_callB call_len dn_len B.len bt_len (b_cons (vB 0) b_nil)) a_nil)) (gN 2 nd)
  (ss_cons (sS 3 nd (e_and (e_cmp op_gt dr_cmpI (vB 2) (e_bw e_int)) (e_and (e_cmp op_gt dr_cmpI (e_bw (e_callB call_len dn_len B.len bt_len (b_cons (e_bw (e_ix ix_seq dr_ix (vB 0) (vB 2))) b_nil))) (e_bw e_int)) (pe_one (e_cmp op_gt dr_cmpI (e_bw (e_callB call_len dn_len B.len bt_len (b_cons (e_bw (e_ix ix_seq dr_ix (vB 0) (e_bw (e_op op_sub dr_sub (vB 2) (e_bw e_int))))) b_nil))) (e_bw e_int))))))
  (ss_one (s_aug iop_addU dr_addU nd (e_bw (e_op op_addA dr_add (e_bw (e_ifExp (t_val (vF 3)) e_str e_str)) (e_bw (e_call G_write_change hr h_write_change (a_cons (e_ix ix_seq dr_ix (vB 0) (vB 2)) a_nil)))))))) PassesOwn.never rfl)
  (ss_one (s_ret (vF 1)))))
abbrev N_items_of : List Str := ["text", "found", "sign", "item"]
theorem sc_items_of : FnScope N_items_of ["text"] (defScope (top 23)) := ⟨rfl, rfl, rfl, by decide +kernel, rfl, by decide +kernel, by decide +kernel⟩
theorem d_items_of {j : Nat} {A : Amb} (B : Bt mg) (C_DIGITS : ∃ t, mg "DIGITS" = some (.str "0123456789" t)) (hr : Room j (Ar.deeper (PyProof.Rows.envOfC "items_of" (defScope (top 23)) s.heap.objs.size f cdv))) (Nt : Ent) :
    PSs (cxOf CX0 P w K mg base N_items_of "items_of" (defScope (top 23)) f cdv Ar outer s H E).nox (defBody (top 23)) (liftS A K Nt (t_items_of)) :=
  have nd := sc_items_of.nd
  (ss_cons (sN 1 nd (n_lst (a_cons e_str a_nil)))
  (ss_cons (s_for (iA (vF 0)) (gN 2 nd)
  (ss_one (s_if (PW.pt (w_or (t_cmp (op_eqU hr.units) dr_eqU (vB 2) (e_bw e_str)) (w_or1 (PW.pt (w_and (t_cmp (op_eqU hr.units) dr_eqU (e_bw (e_ix ix_seq dr_ix (vB 1) (e_bw (e_un un_neg dr_neg (e_bw e_int))))) (e_bw e_str)) (w_and1 (t_cmp (op_inA hr.units65) dr_inG (vB 2) (e_bw (gS C_DIGITS)))))))))
  (ss_one (s_append (ps_expr (pe_bm PySem.F.plainAttrs_list PySem.F.slot_list_append PySem.F.type_list_append mt_append (vP 1) (pa_cons (vF 2) pa_nil)))))
  (ss_one (s_if (t_cmp (op_eqU hr.units) dr_eqU (vB 2) (e_bw e_str))
  (ss_one (s_append (ps_expr (pe_bm PySem.F.plainAttrs_list PySem.F.slot_list_append PySem.F.type_list_append mt_append (vP 1) (pa_cons e_str pa_nil)))))
  (ss_one (s_augix iop_addU dr_addU (vP 1) (e_bw (e_un un_neg dr_neg (e_bw e_int))) (vF 2))))))) PassesOwn.never rfl)
  (ss_one (s_frz (s_ret (e_ofW (eC [("item", 3)] nd (iA (vF 1)) (fun _ _ _ _ _ _ => (gN 3 nd)) (fun _ _ _ _ _ _ => (ts_one (t_cmp (op_neU hr.units) dr_neU (vB 3) (e_bw e_str)))) (fun _ _ _ _ _ _ => (vF 3)))))))))
abbrev N_read_piece : List Str := ["stage", "text", "changes", "item", "sign", "piece"]
theorem sc_read_piece : FnScope N_read_piece ["stage", "text"] (defScope (top 24)) := ⟨rfl, rfl, rfl, by decide +kernel, rfl, by decide +kernel, by decide +kernel⟩
theorem d_read_piece {j : Nat} {A : Amb} (B : Bt mg) (C_DIGITS : ∃ t, mg "DIGITS" = some (.str "0123456789" t)) {L : List Str} (ET : ExT K mg L) (iL_BadText : ("BadText" : Str) ∈ L) {C_BadText : Addr} (mC_BadText : mg "BadText" = some (.ref C_BadText)) (rX_BadText : RaisC K C_BadText) {k_items_of : Nat} {S_items_of : FS A} (G_items_of : DFn P w K mg base A k_items_of "items_of" ["text"] S_items_of) (h_items_of : k_items_of ≤ j) {k_is_piece : Nat} {S_is_piece : FS A} (G_is_piece : DFn P w K mg base A k_is_piece "is_piece" ["stage", "value"] S_is_piece) (h_is_piece : k_is_piece ≤ j) {k_write_piece : Nat} {S_write_piece : FS A} (G_write_piece : DFn P w K mg base A k_write_piece "write_piece" ["piece"] S_write_piece) (h_write_piece : k_write_piece ≤ j) (hr : Room j (Ar.deeper (PyProof.Rows.envOfC "read_piece" (defScope (top 24)) s.heap.objs.size f cdv))) (Nt : Ent) (W : DXW A) (tk : L2N.Takes (cxOf (L2N.CX P w) P w K mg base N_read_piece "read_piece" (defScope (top 24)) f cdv Ar outer s H E) (liftX A K Nt mg L W)) (ps : PassesOwn (model P w) (cxOf (L2N.CX P w) P w K mg base N_read_piece "read_piece" (defScope (top 24)) f cdv Ar outer s H E).A (cxOf (L2N.CX P w) P w K mg base N_read_piece "read_piece" (defScope (top 24)) f cdv Ar outer s H E).env (cxOf (L2N.CX P w) P w K mg base N_read_piece "read_piece" (defScope (top 24)) f cdv Ar outer s H E).xe) :
    PSs (cxOf (L2N.CX P w) P w K mg base N_read_piece "read_piece" (defScope (top 24)) f cdv Ar outer s H E) (defBody (top 24)) (liftS A K Nt (t_read_piece W S_items_of S_is_piece S_write_piece)) :=
  have nd := sc_read_piece.nd
  (ss_cons (sN 2 nd (n_lst a_nil))
  (ss_cons (s_for (iA (e_call G_items_of hr h_items_of (a_cons (vF 1) a_nil))) (gN 3 nd)
  (ss_cons (s_if (PW.pt (w_and (t_cmp (op_neU hr.units) dr_neU (vB 3) (e_bw e_str)) (w_and1 (t_not (t_val (e_callB (cr_all rfl) dn_all B.all bt_all (b_cons (e_bw (e_ofW (eC [("sign", 4)] nd (iA (vF 3)) (fun _ _ _ _ _ _ => (gN 4 nd)) (fun _ _ _ _ _ _ => ts_nil) (fun _ _ _ _ _ _ => (e_cmp (op_inA hr.units65) dr_inG (vB 4) (e_bw (gS C_DIGITS))))))) b_nil)))))))
  (ss_one (s_raiseN rX_BadText iL_BadText mC_BadText tk (a_cons (vF 1) a_nil)))
  ss_nil)
  (ss_one (s_append (ps_expr (pe_bm PySem.F.plainAttrs_list PySem.F.slot_list_append PySem.F.type_list_append mt_append (vP 2) (pa_cons (e_ifExp (t_cmp (op_eqU hr.units) dr_eqU (vB 3) (e_bw e_str)) (e_tup a_nil) (e_callTy call_tupleF dn_tuple B.tuple bt_tuple (b_cons (e_bw (e_ofW (eC [("sign", 4)] nd (iA (vF 3)) (fun _ _ _ _ _ _ => (gN 4 nd)) (fun _ _ _ _ _ _ => ts_nil) (fun _ _ _ _ _ _ => (e_callTy call_int_str dn_intS B.int bt_int (b_cons (vB 4) b_nil)))))) b_nil))) pa_nil)))))) ps rfl)
  (ss_cons (sS 5 nd (e_callTy call_tupleF dn_tuple B.tuple bt_tuple (b_cons (vB 2) b_nil)))
  (ss_cons (s_if (PW.pt (w_or (t_not (t_val (e_call G_is_piece hr h_is_piece (a_cons (vF 0) (a_cons (vF 5) a_nil))))) (w_or1 (t_cmp (op_neU hr.units) dr_neU (e_bw (e_call G_write_piece hr h_write_piece (a_cons (vF 5) a_nil))) (vB 1)))))
  (ss_one (s_raiseN rX_BadText iL_BadText mC_BadText tk (a_cons (vF 1) a_nil)))
  ss_nil)
  (ss_one (s_ret (vF 5)))))))
abbrev N_write_lead : List Str := ["pair"]
theorem sc_write_lead : FnScope N_write_lead ["pair"] (defScope (top 25)) := ⟨rfl, rfl, rfl, by decide +kernel, rfl, by decide +kernel, by decide +kernel⟩
theorem d_write_lead {j : Nat} {A : Amb} (B : Bt mg) {k_write_piece : Nat} {S_write_piece : FS A} (G_write_piece : DFn P w K mg base A k_write_piece "write_piece" ["piece"] S_write_piece) (h_write_piece : k_write_piece ≤ j) (hr : Room j (Ar.deeper (PyProof.Rows.envOfC "write_lead" (defScope (top 25)) s.heap.objs.size f cdv))) (Nt : Ent) :
    PSs (cxOf CX0 P w K mg base N_write_lead "write_lead" (defScope (top 25)) f cdv Ar outer s H E).nox (defBody (top 25)) (liftS A K Nt (t_write_lead S_write_piece)) :=
  have nd := sc_write_lead.nd
  (ss_one (s_ret (e_op op_addA dr_add (e_bw (e_op op_addA dr_add (e_bw (e_ix ix_seq dr_ix (vB 0) (e_bw e_int))) (e_bw e_str))) (e_bw (e_call G_write_piece hr h_write_piece (a_cons (e_ix ix_seq dr_ix (vB 0) (e_bw e_int)) a_nil))))))
abbrev N_write_book : List Str := ["book", "pair"]
theorem sc_write_book : FnScope N_write_book ["book"] (defScope (top 26)) := ⟨rfl, rfl, rfl, by decide +kernel, rfl, by decide +kernel, by decide +kernel⟩
theorem d_write_book {j : Nat} {A : Amb} (B : Bt mg) {k_write_lead : Nat} {S_write_lead : FS A} (G_write_lead : DFn P w K mg base A k_write_lead "write_lead" ["pair"] S_write_lead) (h_write_lead : k_write_lead ≤ j) (hr : Room j (Ar.deeper (PyProof.Rows.envOfC "write_book" (defScope (top 26)) s.heap.objs.size f cdv))) (Nt : Ent) :
    PSs (cxOf CX0 P w K mg base N_write_book "write_book" (defScope (top 26)) f cdv Ar outer s H E).nox (defBody (top 26)) (liftS A K Nt (t_write_book S_write_lead)) :=
  have nd := sc_write_book.nd
  (ss_one (s_ret (e_join (e_ofW (eC [("pair", 1)] nd (iA (vF 0)) (fun _ _ _ _ _ _ => (gN 1 nd)) (fun _ _ _ _ _ _ => ts_nil) (fun _ _ _ _ _ _ => (e_call G_write_lead hr h_write_lead (a_cons (vF 1) a_nil))))))))
abbrev N_read_book : List Str := ["stage", "text", "lines", "book", "k", "word", "_", "rest"]
theorem sc_read_book : FnScope N_read_book ["stage", "text"] (defScope (top 27)) := ⟨rfl, rfl, rfl, by decide +kernel, rfl, by decide +kernel, by decide +kernel⟩
theorem d_read_book {j : Nat} {A : Amb} (B : Bt mg) {L : List Str} (ET : ExT K mg L) (iL_BadText : ("BadText" : Str) ∈ L) {C_BadText : Addr} (mC_BadText : mg "BadText" = some (.ref C_BadText)) (iL_BadLine : ("BadLine" : Str) ∈ L) {C_BadLine : Addr} (mC_BadLine : mg "BadLine" = some (.ref C_BadLine)) (rX_BadText : RaisC K C_BadText) {k_is_book : Nat} {S_is_book : FS A} (G_is_book : DFn P w K mg base A k_is_book "is_book" ["stage", "value"] S_is_book) (h_is_book : k_is_book ≤ j) {k_read_piece : Nat} {S_read_piece : FX A} (G_read_piece : DFnXN P w K mg base A L k_read_piece "read_piece" ["stage", "text"] S_read_piece) (h_read_piece : k_read_piece ≤ j)
    (hr : Room j (Ar.deeper (PyProof.Rows.envOfC "read_book" (defScope (top 27)) s.heap.objs.size f cdv))) (Nt : Ent) (W : DLW A) (tk : Takes (cxOf (L2.CX P w) P w K mg base N_read_book "read_book" (defScope (top 27)) f cdv Ar outer s H E) (liftXL A K Nt C_BadLine W)) (ps : PassesOwn (model P w) (cxOf (L2.CX P w) P w K mg base N_read_book "read_book" (defScope (top 27)) f cdv Ar outer s H E).A (cxOf (L2.CX P w) P w K mg base N_read_book "read_book" (defScope (top 27)) f cdv Ar outer s H E).env (cxOf (L2.CX P w) P w K mg base N_read_book "read_book" (defScope (top 27)) f cdv Ar outer s H E).xe) (hpa : ∀ hd : Option Value, PassesOwnAt (model P w) ((cxOf (L2.CX P w) P w K mg base N_read_book "read_book" (defScope (top 27)) f cdv Ar outer s H E).A.mark hd) (cxOf (L2.CX P w) P w K mg base N_read_book "read_book" (defScope (top 27)) f cdv Ar outer s H E).A (cxOf (L2.CX P w) P w K mg base N_read_book "read_book" (defScope (top 27)) f cdv Ar outer s H E).env (cxOf (L2.CX P w) P w K mg base N_read_book "read_book" (defScope (top 27)) f cdv Ar outer s H E).xe)
    {fI cc cda : Addr} {fdI : FuncData} (BLC : BlC P K mg C_BadLine fI cc cda) (aI : PySem.W.findIn K (.ref C_BadLine) "__init__" = some (some (.ref fI))) (tI : PySem.W.typeIn K (.ref fI) = some (.type "function")) (FI : L2H.FnH P w K mg base (L2.CX P w) 1 fI fdI ["self", "line"] (spBl C_BadLine)) (bI : Binds K fdI ["self", "line"] []) (hj2 : 2 ≤ j) :
    PSs (cxOf (L2.CX P w) P w K mg base N_read_book "read_book" (defScope (top 27)) f cdv Ar outer s H E) (defBody (top 27)) (liftS A K Nt (t_read_book W S_is_book S_read_piece)) :=
  have nd := sc_read_book.nd
  (ss_cons (sS 2 nd (e_split (vF 1)))
  (ss_cons (sS 3 nd (e_tup a_nil))
  (ss_cons (s_for (i_rg1 B.range (a_cons (e_callB call_len dn_len B.len bt_len (b_cons (vB 2) b_nil)) a_nil)) (gN 4 nd)
  (ss_one (s_tryB ET iL_BadText mC_BadText rfl rfl hpa (by rfl) tk (fun Nt Wd1 pn xe tk1 ps1 => (ss_cons (s_part rfl nd (e_ix ix_seq dr_ix (vB 2) (vB 4)))
  (ss_cons (s_aug iop_catF dr_addT nd (e_bw (e_tup (a_cons (e_tup (a_cons (vF 5) (a_cons (e_callXN G_read_piece tk1 hr h_read_piece (a_cons (vF 0) (a_cons (vF 7) a_nil))) a_nil))) a_nil))))
  (ss_one (s_if (t_not (t_val (e_call G_is_book hr h_is_book (a_cons (vF 0) (a_cons (vF 3) a_nil)))))
  (ss_one (s_raiseN rX_BadText iL_BadText mC_BadText tk1 (a_cons (e_ix ix_seq dr_ix (vB 2) (vB 4)) a_nil)))
  ss_nil)))))
  (fun ea oe pn tkS hot => (ss_one (s_raiseL BLC aI tI FI (L2H.roomH_mark hr _) hj2 hot bI mC_BadLine tkS (vF 4)))))) ps rfl)
  (ss_one (s_ret (vF 3))))))
abbrev N_write_touch : List Str := ["touch", "found", "start", "k", "many"]
theorem sc_write_touch : FnScope N_write_touch ["touch"] (defScope (top 28)) := ⟨rfl, rfl, rfl, by decide +kernel, rfl, by decide +kernel, by decide +kernel⟩
theorem d_write_touch {j : Nat} {A : Amb} (B : Bt mg) (hr : Room j (Ar.deeper (PyProof.Rows.envOfC "write_touch" (defScope (top 28)) s.heap.objs.size f cdv))) (Nt : Ent) :
    PSs (cxOf CX0 P w K mg base N_write_touch "write_touch" (defScope (top 28)) f cdv Ar outer s H E).nox (defBody (top 28)) (liftS A K Nt (t_write_touch)) :=
  have nd := sc_write_touch.nd
  (ss_cons (sN 1 nd (n_lst a_nil))
  (ss_cons (sS 2 nd e_int)
  (ss_cons (s_for (i_rg2 B.range (a_cons e_int (a_cons (e_op op_addA dr_add (e_bw (e_callB call_len dn_len B.len bt_len (b_cons (vB 0) b_nil))) (e_bw e_int)) a_nil))) (gN 3 nd)
  (ss_one (s_if (PW.pt (w_or (t_cmp (op_eqU hr.units) dr_eqU (vB 3) (e_bw (e_callB call_len dn_len B.len bt_len (b_cons (vB 0) b_nil)))) (w_or1 (t_cmp (op_neU hr.units) dr_neU (e_bw (e_ix ix_seq dr_ix (vB 0) (vB 3))) (e_bw (e_ix ix_seq dr_ix (vB 0) (vB 2)))))))
  (ss_cons (sS 4 nd (e_op op_sub dr_sub (vB 3) (vB 2)))
  (ss_cons (s_append (ps_expr (pe_bm PySem.F.plainAttrs_list PySem.F.slot_list_append PySem.F.type_list_append mt_append (vP 1) (pa_cons (e_ifExp (t_cmp (op_eqU hr.units) dr_eqU (vB 4) (e_bw e_int)) (e_ix ix_seq dr_ix (vB 0) (vB 2)) (e_fmt2 (vF 4) (e_ix ix_seq dr_ix (vB 0) (vB 2)))) pa_nil))))
  (ss_one (sS 2 nd (vF 3)))))
  ss_nil)) PassesOwn.never rfl)
  (ss_one (s_frz (s_ret (e_join (vF 1))))))))
abbrev N_read_touch : List Str := ["text", "found", "item", "number", "sign", "word", "many", "touch"]
theorem sc_read_touch : FnScope N_read_touch ["text"] (defScope (top 29)) := ⟨rfl, rfl, rfl, by decide +kernel, rfl, by decide +kernel, by decide +kernel⟩
theorem d_read_touch {j : Nat} {A : Amb} (B : Bt mg) (C_MOST_LEADS : ∃ t, mg "MOST_LEADS" = some (.int 200 t)) {L : List Str} (ET : ExT K mg L) (iL_BadText : ("BadText" : Str) ∈ L) {C_BadText : Addr} (mC_BadText : mg "BadText" = some (.ref C_BadText)) (rX_BadText : RaisC K C_BadText) {k_read_number : Nat} {S_read_number : FX A} (G_read_number : DFnX P w K mg base A L k_read_number "read_number" ["text"] S_read_number) (h_read_number : k_read_number ≤ j) {k_is_word : Nat} {S_is_word : FS A} (G_is_word : DFn P w K mg base A k_is_word "is_word" ["value"] S_is_word) (h_is_word : k_is_word ≤ j) {k_write_touch : Nat} {S_write_touch : FS A} (G_write_touch : DFn P w K mg base A k_write_touch "write_touch" ["touch"] S_write_touch) (h_write_touch : k_write_touch ≤ j) (hr : Room j (Ar.deeper (PyProof.Rows.envOfC "read_touch" (defScope (top 29)) s.heap.objs.size f cdv))) (Nt : Ent) (W : DXW A) (tk : Takes (cxOf (L2.CX P w) P w K mg base N_read_touch "read_touch" (defScope (top 29)) f cdv Ar outer s H E) (liftX A K Nt mg L W)) (ps : PassesOwn (model P w) (cxOf (L2.CX P w) P w K mg base N_read_touch "read_touch" (defScope (top 29)) f cdv Ar outer s H E).A (cxOf (L2.CX P w) P w K mg base N_read_touch "read_touch" (defScope (top 29)) f cdv Ar outer s H E).env (cxOf (L2.CX P w) P w K mg base N_read_touch "read_touch" (defScope (top 29)) f cdv Ar outer s H E).xe) :
    PSs (cxOf (L2.CX P w) P w K mg base N_read_touch "read_touch" (defScope (top 29)) f cdv Ar outer s H E) (defBody (top 29)) (liftS A K Nt (t_read_touch W S_read_number S_is_word S_write_touch)) :=
  have nd := sc_read_touch.nd
  (ss_cons (sN 1 nd (n_lst a_nil))
  (ss_cons (s_for (iA (e_split (vF 0))) (gN 2 nd)
  (ss_cons (s_part rfl nd (vF 2))
  (ss_cons (s_if (t_cmp (op_eqU hr.units) dr_eqU (vB 4) (e_bw e_str))
  (ss_one (s_par (ps_par rfl nd (by rfl) (by rfl) (by decide) rfl rfl (a_cons e_str (a_cons (vF 2) a_nil)) (by rfl))))
  ss_nil)
  (ss_cons (s_if (t_not (t_val (e_call G_is_word hr h_is_word (a_cons (vF 5) a_nil))))
  (ss_one (s_raiseC rX_BadText iL_BadText mC_BadText tk (a_cons (vF 0) a_nil)))
  ss_nil)
  (ss_cons (sS 6 nd (e_callX G_read_number tk hr h_read_number (a_cons (vF 3) a_nil)))
  (ss_cons (s_if (t_cmp op_gt dr_cmpI (vB 6) (e_bw (gI C_MOST_LEADS)))
  (ss_one (s_raiseC rX_BadText iL_BadText mC_BadText tk (a_cons (vF 0) a_nil)))
  ss_nil)
  (ss_one (s_extend (ps_expr (pe_bm PySem.F.plainAttrs_list PySem.F.slot_list_extend PySem.F.type_list_extend mt_extend (vP 1) (pa_cons (e_bw (e_op op_mulU dr_mulU (e_bw (e_lst (a_cons (vF 5) a_nil))) (vB 6))) pa_nil)))))))))) ps rfl)
  (ss_cons (sS 7 nd (e_callTy call_tupleF dn_tuple B.tuple bt_tuple (b_cons (vB 1) b_nil)))
  (ss_cons (s_if (PW.pt (w_or (t_not (t_chain op_le op_le dr_cmpI dr_cmpI (e_bw e_int) (e_bw (e_callB call_len dn_len B.len bt_len (b_cons (vB 7) b_nil))) (e_bw (gI C_MOST_LEADS)))) (w_or1 (t_cmp (op_neU hr.units) dr_neU (e_bw (e_call G_write_touch hr h_write_touch (a_cons (vF 7) a_nil))) (vB 0)))))
  (ss_one (s_raiseC rX_BadText iL_BadText mC_BadText tk (a_cons (vF 0) a_nil)))
  ss_nil)
  (ss_one (s_ret (vF 7)))))))
abbrev N_L_same : List Str := ["actual", "due", "k"]
theorem sc_L_same : FnScope N_L_same ["actual", "due"] (defScope (top 31)) := ⟨rfl, rfl, rfl, by decide +kernel, rfl, by decide +kernel, by decide +kernel⟩
theorem d_L_same {j : Nat} {A : Amb} (B : Bt mg) {k_L_same : Nat} {S_L_same : FS A} (G_L_same : DFn P w K mg base A k_L_same "_law_same" ["actual", "due"] S_L_same) (h_L_same : k_L_same ≤ j) (hr : Room j (Ar.deeper (PyProof.Rows.envOfC "_law_same" (defScope (top 31)) s.heap.objs.size f cdv))) (Nt : Ent) :
    PSs (cxOf CX0 P w K mg base N_L_same "_law_same" (defScope (top 31)) f cdv Ar outer s H E).nox (defBody (top 31)) (liftS A K Nt (t_L_same S_L_same)) :=
  have nd := sc_L_same.nd
  (ss_cons (s_if (PW.pt (w_or (t_val (e_isi .tuple (vB 1) B.isinstance B.tuple bt_tuple)) (w_or1 (t_val (e_isi .list (vB 1) B.isinstance B.list bt_list)))))
  (ss_cons (s_if (PW.pt (w_or (t_cmp (op_neU hr.units) dr_neU (e_bw (e_isi .tuple (vB 1) B.isinstance B.tuple bt_tuple)) (e_bw (e_isi .tuple (vB 0) B.isinstance B.tuple bt_tuple))) (w_or (t_cmp (op_neU hr.units) dr_neU (e_bw (e_isi .list (vB 1) B.isinstance B.list bt_list)) (e_bw (e_isi .list (vB 0) B.isinstance B.list bt_list))) (w_or1 (t_cmp (op_neU hr.units) dr_neU (e_bw (e_callB call_len dn_len B.len bt_len (b_cons (vB 0) b_nil))) (e_bw (e_callB call_len dn_len B.len bt_len (b_cons (vB 1) b_nil))))))))
  (ss_one (s_ret e_bl))
  ss_nil)
  (ss_one (s_ret (e_cmp (op_eqU hr.units) dr_eqU (e_bw (e_callB call_len dn_len B.len bt_len (b_cons (e_bw (e_ofW (eC [("k", 2)] nd (i_rg1 B.range (a_cons (e_callB call_len dn_len B.len bt_len (b_cons (vB 1) b_nil)) a_nil)) (fun _ _ _ _ _ _ => (gN 2 nd)) (fun _ _ _ _ _ _ => (ts_one (t_not (t_val (e_call G_L_same hr h_L_same (a_cons (e_ix ix_seq dr_ix (vB 0) (vB 2)) (a_cons (e_ix ix_seq dr_ix (vB 1) (vB 2)) a_nil))))))) (fun _ _ _ _ _ _ => (vF 2))))) b_nil))) (e_bw e_int)))))
  ss_nil)
  (ss_cons (s_if (t_cmp op_isN dr_is (vB 1) (e_bw e_non))
  (ss_one (s_ret (e_cmp op_isN dr_is (vB 0) (e_bw e_non))))
  ss_nil)
  (ss_cons (s_if (PW.pt (w_or (t_val (e_isi .bool (vB 1) B.isinstance B.bool bt_bool)) (w_or1 (t_val (e_isi .bool (vB 0) B.isinstance B.bool bt_bool)))))
  (ss_one (s_ret (e_and (e_isi .bool (vB 1) B.isinstance B.bool bt_bool) (e_and (e_isi .bool (vB 0) B.isinstance B.bool bt_bool) (pe_one (e_cmp (op_eqU hr.units) dr_eqU (vB 0) (vB 1)))))))
  ss_nil)
  (ss_cons (s_if (t_val (e_isi .int (vB 1) B.isinstance B.int bt_int))
  (ss_one (s_ret (e_and (e_isi .int (vB 0) B.isinstance B.int bt_int) (pe_one (e_cmp (op_eqU hr.units) dr_eqU (vB 0) (vB 1))))))
  ss_nil)
  (ss_one (s_ret (e_and (e_isi .str (vB 0) B.isinstance B.str bt_str) (pe_one (e_cmp (op_eqU hr.units) dr_eqU (vB 0) (vB 1))))))))))
abbrev N_L_is_integer : List Str := ["actual"]
theorem sc_L_is_integer : FnScope N_L_is_integer ["actual"] (defScope (top 32)) := ⟨rfl, rfl, rfl, by decide +kernel, rfl, by decide +kernel, by decide +kernel⟩
theorem d_L_is_integer {j : Nat} {A : Amb} (B : Bt mg) (hr : Room j (Ar.deeper (PyProof.Rows.envOfC "_law_is_integer" (defScope (top 32)) s.heap.objs.size f cdv))) (Nt : Ent) :
    PSs (cxOf CX0 P w K mg base N_L_is_integer "_law_is_integer" (defScope (top 32)) f cdv Ar outer s H E).nox (defBody (top 32)) (liftS A K Nt (t_L_is_integer)) :=
  have nd := sc_L_is_integer.nd
  (ss_one (s_ret (e_and (e_isi .int (vB 0) B.isinstance B.int bt_int) (pe_one (e_not (e_isi .bool (vB 0) B.isinstance B.bool bt_bool))))))
abbrev N_L_spread : List Str := ["cell", "mixed", "total", "k"]
theorem sc_L_spread : FnScope N_L_spread ["cell"] (defScope (top 34)) := ⟨rfl, rfl, rfl, by decide +kernel, rfl, by decide +kernel, by decide +kernel⟩
theorem d_L_spread {j : Nat} {A : Amb} (B : Bt mg) (hr : Room j (Ar.deeper (PyProof.Rows.envOfC "_law_spread" (defScope (top 34)) s.heap.objs.size f cdv))) (Nt : Ent) :
    PSs (cxOf CX0 P w K mg base N_L_spread "_law_spread" (defScope (top 34)) f cdv Ar outer s H E).nox (defBody (top 34)) (liftS A K Nt (t_L_spread)) :=
  have nd := sc_L_spread.nd
  (ss_cons (sS 1 nd (e_op op_mod dr_mod (e_bw (e_callTy call_int1 dn_int B.int bt_int (b_cons (vB 0) b_nil))) (e_bw e_int)))
  (ss_cons (sS 2 nd e_int)
  (ss_cons (s_for (i_rg1 B.range (a_cons e_int a_nil)) (gN 3 nd)
  (ss_cons (sS 1 nd (e_op op_mod dr_mod (e_bw (e_callTy call_int1 dn_int B.int bt_int (b_cons (e_bw (e_op op_addA dr_add (e_bw (e_op op_addA dr_add (e_bw (e_op op_mulU dr_mulU (vB 1) (e_bw e_int))) (e_bw e_int))) (vB 3))) b_nil))) (e_bw e_int)))
  (ss_one (sS 2 nd (e_op op_addA dr_add (e_bw (e_op op_mulU dr_mulU (vB 2) (e_bw e_int))) (vB 1))))) PassesOwn.never rfl)
  (ss_one (s_ret (vF 2))))))
abbrev N_L_pick : List Str := ["pool", "items"]
theorem sc_L_pick : FnScope N_L_pick ["pool", "items"] (defScope (top 36)) := ⟨rfl, rfl, rfl, by decide +kernel, rfl, by decide +kernel, by decide +kernel⟩
theorem d_L_pick {j : Nat} {A : Amb} (B : Bt mg) {k_L_draw : Nat} {S_L_draw : FS A} (G_L_draw : DFn P w K mg base A k_L_draw "_law_draw" ["pool", "many"] S_L_draw) (h_L_draw : k_L_draw ≤ j) (hr : Room j (Ar.deeper (PyProof.Rows.envOfC "_law_pick" (defScope (top 36)) s.heap.objs.size f cdv))) (Nt : Ent) :
    PSs (cxOf CX0 P w K mg base N_L_pick "_law_pick" (defScope (top 36)) f cdv Ar outer s H E).nox (defBody (top 36)) (liftS A K Nt (t_L_pick S_L_draw)) :=
  have nd := sc_L_pick.nd
  (ss_one (s_ret (e_ix ix_seq dr_ix (vB 1) (e_bw (e_call G_L_draw hr h_L_draw (a_cons (vF 0) (a_cons (e_callB call_len dn_len B.len bt_len (b_cons (vB 1) b_nil)) a_nil)))))))
abbrev N_L_decimal : List Str := ["text", "sign"]
theorem sc_L_decimal : FnScope N_L_decimal ["text"] (defScope (top 37)) := ⟨rfl, rfl, rfl, by decide +kernel, rfl, by decide +kernel, by decide +kernel⟩
theorem d_L_decimal {j : Nat} {A : Amb} (B : Bt mg) (hr : Room j (Ar.deeper (PyProof.Rows.envOfC "_law_decimal" (defScope (top 37)) s.heap.objs.size f cdv))) (Nt : Ent) :
    PSs (cxOf CX0 P w K mg base N_L_decimal "_law_decimal" (defScope (top 37)) f cdv Ar outer s H E).nox (defBody (top 37)) (liftS A K Nt (t_L_decimal)) :=
  have nd := sc_L_decimal.nd
  (ss_cons (s_if (PW.pt (w_or (t_cmp (op_ltA hr.units65) dr_ltA (e_bw (e_callB call_len dn_len B.len bt_len (b_cons (vB 0) b_nil))) (e_bw e_int)) (w_or (t_cmp op_gt dr_cmpI (e_bw (e_callB call_len dn_len B.len bt_len (b_cons (vB 0) b_nil))) (e_bw e_int)) (w_or1 (t_cmp op_gt dr_cmpI (e_bw (e_callB call_len dn_len B.len bt_len (b_cons (e_bw (e_ofW (eC [("sign", 1)] nd (iA (vF 0)) (fun _ _ _ _ _ _ => (gN 1 nd)) (fun _ _ _ _ _ _ => (ts_one (t_cmp (op_notInA hr.units65) dr_inG (vB 1) (e_bw e_str)))) (fun _ _ _ _ _ _ => (vF 1))))) b_nil))) (e_bw e_int))))))
  (ss_one (s_ret e_non))
  ss_nil)
  (ss_one (s_ret (e_ifExp (PW.pt (w_and (t_cmp op_gt dr_cmpI (e_bw (e_callB call_len dn_len B.len bt_len (b_cons (vB 0) b_nil))) (e_bw e_int)) (w_and1 (t_cmp (op_eqU hr.units) dr_eqU (e_bw (e_ix ix_seq dr_ix (vB 0) (e_bw e_int))) (e_bw e_str))))) e_non (e_callTy call_int_str dn_intS B.int bt_int (b_cons (vB 0) b_nil))))))
abbrev N_L_spoilt : List Str := ["pool", "text", "signs", "at", "turn"]
theorem sc_L_spoilt : FnScope N_L_spoilt ["pool", "text", "signs"] (defScope (top 38)) := ⟨rfl, rfl, rfl, by decide +kernel, rfl, by decide +kernel, by decide +kernel⟩
theorem d_L_spoilt {j : Nat} {A : Amb} (B : Bt mg) {k_L_draw : Nat} {S_L_draw : FS A} (G_L_draw : DFn P w K mg base A k_L_draw "_law_draw" ["pool", "many"] S_L_draw) (h_L_draw : k_L_draw ≤ j) {k_L_pick : Nat} {S_L_pick : FS A} (G_L_pick : DFn P w K mg base A k_L_pick "_law_pick" ["pool", "items"] S_L_pick) (h_L_pick : k_L_pick ≤ j) (hr : Room j (Ar.deeper (PyProof.Rows.envOfC "_law_spoilt" (defScope (top 38)) s.heap.objs.size f cdv))) (Nt : Ent) :
    PSs (cxOf CX0 P w K mg base N_L_spoilt "_law_spoilt" (defScope (top 38)) f cdv Ar outer s H E).nox (defBody (top 38)) (liftS A K Nt (t_L_spoilt S_L_draw S_L_pick)) :=
  have nd := sc_L_spoilt.nd
  (ss_cons (sS 3 nd (e_call G_L_draw hr h_L_draw (a_cons (vF 0) (a_cons (e_op op_addA dr_add (e_bw (e_callB call_len dn_len B.len bt_len (b_cons (vB 1) b_nil))) (e_bw e_int)) a_nil))))
  (ss_cons (sS 4 nd (e_call G_L_draw hr h_L_draw (a_cons (vF 0) (a_cons e_int a_nil))))
  (ss_cons (s_if (t_cmp (op_eqU hr.units) dr_eqU (vB 4) (e_bw e_int))
  (ss_one (s_ret (e_op op_addA dr_add (e_bw (e_sl (vB 1) o_none (o_some (vB 3)))) (e_bw (e_sl (vB 1) (o_some (e_bw (e_op op_addA dr_add (vB 3) (e_bw e_int)))) o_none)))))
  ss_nil)
  (ss_cons (s_if (t_cmp (op_eqU hr.units) dr_eqU (vB 4) (e_bw e_int))
  (ss_one (s_ret (e_op op_addA dr_add (e_bw (e_op op_addA dr_add (e_bw (e_sl (vB 1) o_none (o_some (vB 3)))) (e_bw (e_call G_L_pick hr h_L_pick (a_cons (vF 0) (a_cons (vF 2) a_nil)))))) (e_bw (e_sl (vB 1) (o_some (e_bw (e_op op_addA dr_add (vB 3) (e_bw e_int)))) o_none)))))
  ss_nil)
  (ss_cons (s_if (t_cmp (op_eqU hr.units) dr_eqU (vB 4) (e_bw e_int))
  (ss_one (s_ret (e_op op_addA dr_add (e_bw (e_op op_addA dr_add (e_bw (e_sl (vB 1) o_none (o_some (vB 3)))) (e_bw (e_call G_L_pick hr h_L_pick (a_cons (vF 0) (a_cons (vF 2) a_nil)))))) (e_bw (e_sl (vB 1) (o_some (vB 3)) o_none)))))
  ss_nil)
  (ss_one (s_ret (e_op op_addA dr_add (vB 1) (e_bw (e_call G_L_pick hr h_L_pick (a_cons (vF 0) (a_cons (vF 2) a_nil))))))))))))
abbrev N_L_is_number : List Str := ["value", "top"]
theorem sc_L_is_number : FnScope N_L_is_number ["value", "top"] (defScope (top 39)) := ⟨rfl, rfl, rfl, by decide +kernel, rfl, by decide +kernel, by decide +kernel⟩
theorem d_L_is_number {j : Nat} {A : Amb} (B : Bt mg) {k_L_is_integer : Nat} {S_L_is_integer : FS A} (G_L_is_integer : DFn P w K mg base A k_L_is_integer "_law_is_integer" ["actual"] S_L_is_integer) (h_L_is_integer : k_L_is_integer ≤ j) (hr : Room j (Ar.deeper (PyProof.Rows.envOfC "_law_is_number" (defScope (top 39)) s.heap.objs.size f cdv))) (Nt : Ent) :
    PSs (cxOf CX0 P w K mg base N_L_is_number "_law_is_number" (defScope (top 39)) f cdv Ar outer s H E).nox (defBody (top 39)) (liftS A K Nt (t_L_is_number S_L_is_integer)) :=
  have nd := sc_L_is_number.nd
  (ss_one (s_ret (e_and (e_call G_L_is_integer hr h_L_is_integer (a_cons (vF 0) a_nil)) (e_and (e_cmp op_le dr_cmpI (e_bw e_int) (vB 0)) (pe_one (e_cmp op_le dr_cmpI (vB 0) (vB 1)))))))
abbrev N_L_is_word : List Str := ["value", "sign"]
theorem sc_L_is_word : FnScope N_L_is_word ["value"] (defScope (top 40)) := ⟨rfl, rfl, rfl, by decide +kernel, rfl, by decide +kernel, by decide +kernel⟩
theorem d_L_is_word {j : Nat} {A : Amb} (B : Bt mg) (hr : Room j (Ar.deeper (PyProof.Rows.envOfC "_law_is_word" (defScope (top 40)) s.heap.objs.size f cdv))) (Nt : Ent) :
    PSs (cxOf CX0 P w K mg base N_L_is_word "_law_is_word" (defScope (top 40)) f cdv Ar outer s H E).nox (defBody (top 40)) (liftS A K Nt (t_L_is_word)) :=
  have nd := sc_L_is_word.nd
  (ss_cons (s_if (PW.pt (w_or (t_not (t_val (e_isi .str (vB 0) B.isinstance B.str bt_str))) (w_or (t_cmp (op_ltA hr.units65) dr_ltA (e_bw (e_callB call_len dn_len B.len bt_len (b_cons (vB 0) b_nil))) (e_bw e_int)) (w_or1 (t_cmp op_gt dr_cmpI (e_bw (e_callB call_len dn_len B.len bt_len (b_cons (vB 0) b_nil))) (e_bw e_int))))))
  (ss_one (s_ret e_bl))
  ss_nil)
  (ss_one (s_ret (e_cmp (op_eqU hr.units) dr_eqU (e_bw (e_callB call_len dn_len B.len bt_len (b_cons (e_bw (e_ofW (eC [("sign", 1)] nd (iA (vF 0)) (fun _ _ _ _ _ _ => (gN 1 nd)) (fun _ _ _ _ _ _ => (ts_one (t_cmp (op_notInA hr.units65) dr_inG (vB 1) (e_bw e_str)))) (fun _ _ _ _ _ _ => (vF 1))))) b_nil))) (e_bw e_int)))))
abbrev N_L_spelled : List Str := ["number", "word", "left"]
theorem sc_L_spelled : FnScope N_L_spelled ["number"] (defScope (top 41)) := ⟨rfl, rfl, rfl, by decide +kernel, rfl, by decide +kernel, by decide +kernel⟩
theorem d_L_spelled {j : Nat} {A : Amb} (B : Bt mg) (hr : Room j (Ar.deeper (PyProof.Rows.envOfC "_law_spelled" (defScope (top 41)) s.heap.objs.size f cdv))) (Nt : Ent) :
    PSs (cxOf CX0 P w K mg base N_L_spelled "_law_spelled" (defScope (top 41)) f cdv Ar outer s H E).nox (defBody (top 41)) (liftS A K Nt (t_L_spelled)) :=
  have nd := sc_L_spelled.nd
  (ss_cons (sS 1 nd e_str)
  (ss_cons (sS 2 nd (vF 0))
  (ss_cons (s_while (t_cmp op_gt dr_cmpI (vB 2) (e_bw e_int))
  (ss_cons (sS 1 nd (e_op op_addA dr_add (e_bw (e_ix ix_seq dr_ix (e_bw e_str) (e_bw (e_op op_mod dr_mod (e_bw (e_callTy call_int1 dn_int B.int bt_int (b_cons (e_bw (e_op op_sub dr_sub (vB 2) (e_bw e_int))) b_nil))) (e_bw e_int))))) (vB 1)))
  (ss_one (sS 2 nd (e_op op_fdiv dr_div (e_bw (e_op op_sub dr_sub (vB 2) (e_bw e_int))) (e_bw e_int))))) PassesOwn.never)
  (ss_one (s_ret (vF 1))))))
abbrev N_L_chain_words : List Str := ["pool", "many", "taken", "k", "number"]
theorem sc_L_chain_words : FnScope N_L_chain_words ["pool", "many"] (defScope (top 42)) := ⟨rfl, rfl, rfl, by decide +kernel, rfl, by decide +kernel, by decide +kernel⟩
theorem d_L_chain_words {j : Nat} {A : Amb} (B : Bt mg) {k_L_spelled : Nat} {S_L_spelled : FS A} (G_L_spelled : DFn P w K mg base A k_L_spelled "_law_spelled" ["number"] S_L_spelled) (h_L_spelled : k_L_spelled ≤ j) {k_L_draw : Nat} {S_L_draw : FS A} (G_L_draw : DFn P w K mg base A k_L_draw "_law_draw" ["pool", "many"] S_L_draw) (h_L_draw : k_L_draw ≤ j) (hr : Room j (Ar.deeper (PyProof.Rows.envOfC "_law_chain_words" (defScope (top 42)) s.heap.objs.size f cdv))) (Nt : Ent) :
    PSs (cxOf CX0 P w K mg base N_L_chain_words "_law_chain_words" (defScope (top 42)) f cdv Ar outer s H E).nox (defBody (top 42)) (liftS A K Nt (t_L_chain_words S_L_spelled S_L_draw)) :=
  have nd := sc_L_chain_words.nd
  (ss_cons (sN 2 nd (n_lst a_nil))
  (ss_cons (s_for (i_rg1 B.range (a_cons (vF 1) a_nil)) (gN 3 nd)
  (ss_cons (sS 4 nd (e_op op_addA dr_add (e_bw e_int) (e_bw (e_call G_L_draw hr h_L_draw (a_cons (vF 0) (a_cons (e_ix ix_seq dr_ix (e_bw (e_tup (a_cons e_int (a_cons e_int (a_cons e_int (a_cons e_int a_nil)))))) (e_bw (e_call G_L_draw hr h_L_draw (a_cons (vF 0) (a_cons e_int a_nil))))) a_nil))))))
  (ss_cons (s_while (t_cmp (op_inA hr.units65) dr_inG (vB 4) (vB 2))
  (ss_one (sS 4 nd (e_op op_addA dr_add (vB 4) (e_bw e_int)))) PassesOwn.never)
  (ss_one (s_append (ps_expr (pe_bm PySem.F.plainAttrs_list PySem.F.slot_list_append PySem.F.type_list_append mt_append (vP 2) (pa_cons (vF 4) pa_nil))))))) PassesOwn.never rfl)
  (ss_one (s_frz (s_ret (e_ofW (eC [("number", 4)] nd (iA (vF 2)) (fun _ _ _ _ _ _ => (gN 4 nd)) (fun _ _ _ _ _ _ => ts_nil) (fun _ _ _ _ _ _ => (e_call G_L_spelled hr h_L_spelled (a_cons (vF 4) a_nil))))))))))
abbrev N_L_is_change : List Str := ["stage", "value", "place", "loose"]
theorem sc_L_is_change : FnScope N_L_is_change ["stage", "value"] (defScope (top 43)) := ⟨rfl, rfl, rfl, by decide +kernel, rfl, by decide +kernel, by decide +kernel⟩
theorem d_L_is_change {j : Nat} {A : Amb} (B : Bt mg) {k_L_is_number : Nat} {S_L_is_number : FS A} (G_L_is_number : DFn P w K mg base A k_L_is_number "_law_is_number" ["value", "top"] S_L_is_number) (h_L_is_number : k_L_is_number ≤ j) (hr : Room j (Ar.deeper (PyProof.Rows.envOfC "_law_is_change" (defScope (top 43)) s.heap.objs.size f cdv))) (Nt : Ent) :
    PSs (cxOf CX0 P w K mg base N_L_is_change "_law_is_change" (defScope (top 43)) f cdv Ar outer s H E).nox (defBody (top 43)) (liftS A K Nt (t_L_is_change S_L_is_number)) :=
  have nd := sc_L_is_change.nd
  (ss_cons (s_if (PW.pt (w_or (t_not (t_val (e_isi .tuple (vB 1) B.isinstance B.tuple bt_tuple))) (w_or1 (t_cmp op_gt dr_cmpI (e_bw (e_callB call_len dn_len B.len bt_len (b_cons (e_bw (e_ofW (eC [("place", 2)] nd (iA (vF 1)) (fun _ _ _ _ _ _ => (gN 2 nd)) (fun _ _ _ _ _ _ => (ts_one (PW.pt (w_or (t_not (t_val (e_call G_L_is_number hr h_L_is_number (a_cons (vF 2) (a_cons (vF 0) a_nil))))) (w_or1 (t_cmp (op_ltA hr.units65) dr_ltA (vB 2) (e_bw e_int))))))) (fun _ _ _ _ _ _ => (vF 2))))) b_nil))) (e_bw e_int)))))
  (ss_one (s_ret e_bl))
  ss_nil)
  (ss_cons (s_if (PW.pt (w_or (t_cmp (op_neU hr.units) dr_neU (e_bw (e_ofW (n_callTy call_list_of dw_list B.list bt_list (b_cons (vB 1) b_nil)))) (e_bw (e_ofW (n_sortedSet rfl hr.units (b_cons (vB 1) b_nil) B.sorted B.set)))) (w_or1 (t_cmp (op_eqU hr.units) dr_eqU (e_bw (e_callB call_len dn_len B.len bt_len (b_cons (vB 1) b_nil))) (vB 0)))))
  (ss_one (s_ret e_bl))
  ss_nil)
  (ss_cons (sS 3 nd e_int)
  (ss_cons (s_for (i_rg2 B.range (a_cons e_int (a_cons (e_op op_addA dr_add (vB 0) (e_bw e_int)) a_nil))) (gN 2 nd)
  (ss_one (s_if (PW.pt (w_or (t_cmp (op_inA hr.units65) dr_inG (vB 2) (vB 1)) (w_or1 (t_cmp op_gt dr_cmpI (vB 2) (vB 0)))))
  (ss_cons (s_if (t_cmp (op_eqU hr.units) dr_eqU (e_bw (e_op op_mod dr_mod (e_bw (e_callTy call_int1 dn_int B.int bt_int (b_cons (vB 3) b_nil))) (e_bw e_int))) (e_bw e_int))
  (ss_one (s_ret e_bl))
  ss_nil)
  (ss_one (sS 3 nd e_int)))
  (ss_one (sS 3 nd (e_op op_addA dr_add (vB 3) (e_bw e_int)))))) PassesOwn.never rfl)
  (ss_one (s_ret e_bl))))))
abbrev N_L_changes : List Str := ["stage", "found", "place", "row"]
theorem sc_L_changes : FnScope N_L_changes ["stage"] (defScope (top 44)) := ⟨rfl, rfl, rfl, by decide +kernel, rfl, by decide +kernel, by decide +kernel⟩
theorem d_L_changes {j : Nat} {A : Amb} (B : Bt mg) {k_L_is_change : Nat} {S_L_is_change : FS A} (G_L_is_change : DFn P w K mg base A k_L_is_change "_law_is_change" ["stage", "value"] S_L_is_change) (h_L_is_change : k_L_is_change ≤ j) (hr : Room j (Ar.deeper (PyProof.Rows.envOfC "_law_changes" (defScope (top 44)) s.heap.objs.size f cdv))) (Nt : Ent) :
    PSs (cxOf CX0 P w K mg base N_L_changes "_law_changes" (defScope (top 44)) f cdv Ar outer s H E).nox (defBody (top 44)) (liftS A K Nt (t_L_changes S_L_is_change)) :=
  have nd := sc_L_changes.nd
  (ss_cons (sS 1 nd (e_lst (a_cons (e_tup a_nil) a_nil)))
  (ss_cons (s_for (i_rg2 B.range (a_cons e_int (a_cons (e_op op_addA dr_add (vB 0) (e_bw e_int)) a_nil))) (gN 2 nd)
  (ss_one (sS 1 nd (e_op op_addA dr_add (vB 1) (e_bw (e_ofW (eC [("row", 3)] nd (iA (vF 1)) (fun _ _ _ _ _ _ => (gN 3 nd)) (fun _ _ _ _ _ _ => ts_nil) (fun _ _ _ _ _ _ => (e_op op_addA dr_add (vB 3) (e_bw (e_tup (a_cons (vF 2) a_nil))))))))))) PassesOwn.never rfl)
  (ss_one (s_ret (e_ofW (n_callB (cr_sortedD hr.units) dw_sorted B.sorted bt_sorted (b_cons (e_bw (e_ofW (eC [("row", 3)] nd (iA (vF 1)) (fun _ _ _ _ _ _ => (gN 3 nd)) (fun _ _ _ _ _ _ => (ts_one (t_val (e_call G_L_is_change hr h_L_is_change (a_cons (vF 0) (a_cons (vF 3) a_nil)))))) (fun _ _ _ _ _ _ => (vF 3))))) b_nil)))))))
abbrev N_L_piece : List Str := ["pool", "stage", "most", "changes", "turn", "body", "k", "hunt", "many"]
theorem sc_L_piece : FnScope N_L_piece ["pool", "stage", "most"] (defScope (top 45)) := ⟨rfl, rfl, rfl, by decide +kernel, rfl, by decide +kernel, by decide +kernel⟩
theorem d_L_piece {j : Nat} {A : Amb} (B : Bt mg) {k_L_changes : Nat} {S_L_changes : FS A} (G_L_changes : DFn P w K mg base A k_L_changes "_law_changes" ["stage"] S_L_changes) (h_L_changes : k_L_changes ≤ j) {k_L_draw : Nat} {S_L_draw : FS A} (G_L_draw : DFn P w K mg base A k_L_draw "_law_draw" ["pool", "many"] S_L_draw) (h_L_draw : k_L_draw ≤ j) {k_L_pick : Nat} {S_L_pick : FS A} (G_L_pick : DFn P w K mg base A k_L_pick "_law_pick" ["pool", "items"] S_L_pick) (h_L_pick : k_L_pick ≤ j) (hr : Room j (Ar.deeper (PyProof.Rows.envOfC "_law_piece" (defScope (top 45)) s.heap.objs.size f cdv))) (Nt : Ent) :
    PSs (cxOf CX0 P w K mg base N_L_piece "_law_piece" (defScope (top 45)) f cdv Ar outer s H E).nox (defBody (top 45)) (liftS A K Nt (t_L_piece S_L_changes S_L_draw S_L_pick)) :=
  have nd := sc_L_piece.nd
  (ss_cons (sS 3 nd (e_call G_L_changes hr h_L_changes (a_cons (vF 1) a_nil)))
  (ss_cons (sS 4 nd (e_call G_L_draw hr h_L_draw (a_cons (vF 0) (a_cons e_int a_nil))))
  (ss_cons (s_if (t_cmp (op_eqU hr.units) dr_eqU (vB 4) (e_bw e_int))
  (ss_cons (sCf 5 [("k", 6)] nd (i_rg1 B.range (a_cons (e_op op_addA dr_add (e_bw e_int) (e_bw (e_call G_L_draw hr h_L_draw (a_cons (vF 0) (a_cons (e_op op_fdiv dr_div (vB 2) (e_bw e_int)) a_nil))))) a_nil)) (fun _ _ _ _ _ _ => (gN 6 nd)) (fun _ _ _ _ _ _ => ts_nil) (fun _ _ _ _ _ _ => (e_call G_L_pick hr h_L_pick (a_cons (vF 0) (a_cons (vF 3) a_nil)))))
  (ss_one (s_ret (e_callTy call_tupleF dn_tuple B.tuple bt_tuple (b_cons (e_bw (e_sl (e_bw (e_op op_addA dr_add (e_bw (e_op op_addA dr_add (e_bw (e_op op_addA dr_add (vB 5) (e_bw (e_lst (a_cons (e_call G_L_pick hr h_L_pick (a_cons (vF 0) (a_cons (vF 3) a_nil))) a_nil))))) (e_bw (e_rev (vB 5))))) (e_bw (e_lst (a_cons (e_call G_L_pick hr h_L_pick (a_cons (vF 0) (a_cons (vF 3) a_nil))) a_nil))))) o_none (o_some (vB 2)))) b_nil)))))
  ss_nil)
  (ss_cons (s_if (t_cmp (op_eqU hr.units) dr_eqU (vB 4) (e_bw e_int))
  (ss_cons (sS 7 nd (e_ifExp (t_cmp (op_eqU hr.units) dr_eqU (e_bw (e_op op_mod dr_mod (e_bw (e_callTy call_int1 dn_int B.int bt_int (b_cons (vB 1) b_nil))) (e_bw e_int))) (e_bw e_int)) (e_lst (a_cons (e_tup (a_cons e_int a_nil)) (a_cons (e_tup (a_cons (vF 1) a_nil)) a_nil))) (e_lst (a_cons (e_tup a_nil) (a_cons (e_tup (a_cons e_int (a_cons (vF 1) a_nil))) a_nil)))))
  (ss_cons (sS 8 nd (e_op op_mulU dr_mulU (e_bw e_int) (vB 1)))
  (ss_one (s_ret (e_sl (e_bw (e_callTy call_tupleF dn_tuple B.tuple bt_tuple (b_cons (e_bw (e_op op_addA dr_add (e_bw (e_sl (e_bw (e_op op_mulU dr_mulU (vB 7) (vB 1))) o_none (o_some (e_bw (e_op op_sub dr_sub (vB 8) (e_bw e_int)))))) (e_bw (e_lst (a_cons (e_call G_L_pick hr h_L_pick (a_cons (vF 0) (a_cons (vF 3) a_nil))) a_nil))))) b_nil))) o_none (o_some (vB 2)))))))
  ss_nil)
  (ss_one (s_ret (e_callTy call_tupleF dn_tuple B.tuple bt_tuple (b_cons (e_bw (e_ofW (eC [("k", 6)] nd (i_rg1 B.range (a_cons (e_op op_addA dr_add (e_bw e_int) (e_bw (e_call G_L_draw hr h_L_draw (a_cons (vF 0) (a_cons (vF 2) a_nil))))) a_nil)) (fun _ _ _ _ _ _ => (gN 6 nd)) (fun _ _ _ _ _ _ => ts_nil) (fun _ _ _ _ _ _ => (e_call G_L_pick hr h_L_pick (a_cons (vF 0) (a_cons (vF 3) a_nil))))))) b_nil))))))))
abbrev N_L_stage : List Str := ["pool", "most"]
theorem sc_L_stage : FnScope N_L_stage ["pool", "most"] (defScope (top 46)) := ⟨rfl, rfl, rfl, by decide +kernel, rfl, by decide +kernel, by decide +kernel⟩
theorem d_L_stage {j : Nat} {A : Amb} (B : Bt mg) {k_L_draw : Nat} {S_L_draw : FS A} (G_L_draw : DFn P w K mg base A k_L_draw "_law_draw" ["pool", "many"] S_L_draw) (h_L_draw : k_L_draw ≤ j) (hr : Room j (Ar.deeper (PyProof.Rows.envOfC "_law_stage" (defScope (top 46)) s.heap.objs.size f cdv))) (Nt : Ent) :
    PSs (cxOf CX0 P w K mg base N_L_stage "_law_stage" (defScope (top 46)) f cdv Ar outer s H E).nox (defBody (top 46)) (liftS A K Nt (t_L_stage S_L_draw)) :=
  have nd := sc_L_stage.nd
  (ss_one (s_ret (e_op op_addA dr_add (e_bw e_int) (e_bw (e_call G_L_draw hr h_L_draw (a_cons (vF 0) (a_cons (e_op op_sub dr_sub (vB 1) (e_bw e_int)) a_nil)))))))
abbrev N_L_book : List Str := ["pool", "stage", "many", "most", "words", "plain", "found", "k", "turn", "piece"]
theorem sc_L_book : FnScope N_L_book ["pool", "stage", "many", "most"] (defScope (top 47)) := ⟨rfl, rfl, rfl, by decide +kernel, rfl, by decide +kernel, by decide +kernel⟩
theorem d_L_book {j : Nat} {A : Amb} (B : Bt mg) {k_L_piece : Nat} {S_L_piece : FS A} (G_L_piece : DFn P w K mg base A k_L_piece "_law_piece" ["pool", "stage", "most"] S_L_piece) (h_L_piece : k_L_piece ≤ j) {k_L_draw : Nat} {S_L_draw : FS A} (G_L_draw : DFn P w K mg base A k_L_draw "_law_draw" ["pool", "many"] S_L_draw) (h_L_draw : k_L_draw ≤ j) {k_L_chain_words : Nat} {S_L_chain_words : FS A} (G_L_chain_words : DFn P w K mg base A k_L_chain_words "_law_chain_words" ["pool", "many"] S_L_chain_words) (h_L_chain_words : k_L_chain_words ≤ j) {k_L_pick : Nat} {S_L_pick : FS A} (G_L_pick : DFn P w K mg base A k_L_pick "_law_pick" ["pool", "items"] S_L_pick) (h_L_pick : k_L_pick ≤ j) {k_L_changes : Nat} {S_L_changes : FS A} (G_L_changes : DFn P w K mg base A k_L_changes "_law_changes" ["stage"] S_L_changes) (h_L_changes : k_L_changes ≤ j) (hr : Room j (Ar.deeper (PyProof.Rows.envOfC "_law_book" (defScope (top 47)) s.heap.objs.size f cdv))) (Nt : Ent) :
    PSs (cxOf CX0 P w K mg base N_L_book "_law_book" (defScope (top 47)) f cdv Ar outer s H E).nox (defBody (top 47)) (liftS A K Nt (t_L_book S_L_piece S_L_draw S_L_chain_words S_L_pick S_L_changes)) :=
  have nd := sc_L_book.nd
  (ss_cons (sS 4 nd (e_ifExp (t_cmp (op_eqU hr.units) dr_eqU (e_bw (e_call G_L_draw hr h_L_draw (a_cons (vF 0) (a_cons e_int a_nil)))) (e_bw e_int)) (e_ofW (n_callB (cr_sortedD hr.units) dw_sorted B.sorted bt_sorted (b_cons (e_bw (e_call G_L_chain_words hr h_L_chain_words (a_cons (vF 0) (a_cons (vF 2) a_nil)))) b_nil))) (e_sl (e_bw (e_lst (a_cons e_str (a_cons e_str (a_cons e_str (a_cons e_str a_nil)))))) o_none (o_some (vB 2)))))
  (ss_cons (sS 5 nd (e_call G_L_piece hr h_L_piece (a_cons (vF 0) (a_cons (vF 1) (a_cons (vF 3) a_nil)))))
  (ss_cons (sN 6 nd (n_lst a_nil))
  (ss_cons (s_for (i_rg1 B.range (a_cons (vF 2) a_nil)) (gN 7 nd)
  (ss_cons (sS 8 nd (e_call G_L_draw hr h_L_draw (a_cons (vF 0) (a_cons e_int a_nil))))
  (ss_cons (sS 9 nd (vF 5))
  (ss_cons (s_if (PW.pt (w_and (t_cmp op_gt dr_cmpI (vB 7) (e_bw e_int)) (w_and1 (t_cmp (op_ltA hr.units65) dr_ltA (vB 8) (e_bw e_int)))))
  (ss_one (sS 9 nd (e_op op_addA dr_add (e_bw (e_sl (vB 5) o_none (o_some (e_bw (e_un un_neg dr_neg (e_bw e_int)))))) (e_bw (e_tup (a_cons (e_call G_L_pick hr h_L_pick (a_cons (vF 0) (a_cons (e_call G_L_changes hr h_L_changes (a_cons (vF 1) a_nil)) a_nil))) a_nil))))))
  ss_nil)
  (ss_cons (s_if (PW.pt (w_and (t_cmp op_gt dr_cmpI (vB 7) (e_bw e_int)) (w_and1 (t_cmp (op_eqU hr.units) dr_eqU (vB 8) (e_bw e_int)))))
  (ss_one (sS 9 nd (e_call G_L_piece hr h_L_piece (a_cons (vF 0) (a_cons (vF 1) (a_cons (vF 3) a_nil))))))
  ss_nil)
  (ss_one (s_append (ps_expr (pe_bm PySem.F.plainAttrs_list PySem.F.slot_list_append PySem.F.type_list_append mt_append (vP 6) (pa_cons (e_tup (a_cons (e_ix ix_seq dr_ix (vB 4) (vB 7)) (a_cons (vF 9) a_nil))) pa_nil))))))))) PassesOwn.never rfl)
  (ss_one (s_ret (e_callTy call_tupleF dn_tuple B.tuple bt_tuple (b_cons (vB 6) b_nil))))))))
abbrev N_L_touch : List Str := ["pool", "book", "most", "pair", "k"]
theorem sc_L_touch : FnScope N_L_touch ["pool", "book", "most"] (defScope (top 48)) := ⟨rfl, rfl, rfl, by decide +kernel, rfl, by decide +kernel, by decide +kernel⟩
theorem d_L_touch {j : Nat} {A : Amb} (B : Bt mg) {k_L_pick : Nat} {S_L_pick : FS A} (G_L_pick : DFn P w K mg base A k_L_pick "_law_pick" ["pool", "items"] S_L_pick) (h_L_pick : k_L_pick ≤ j) {k_L_draw : Nat} {S_L_draw : FS A} (G_L_draw : DFn P w K mg base A k_L_draw "_law_draw" ["pool", "many"] S_L_draw) (h_L_draw : k_L_draw ≤ j) (hr : Room j (Ar.deeper (PyProof.Rows.envOfC "_law_touch" (defScope (top 48)) s.heap.objs.size f cdv))) (Nt : Ent) :
    PSs (cxOf CX0 P w K mg base N_L_touch "_law_touch" (defScope (top 48)) f cdv Ar outer s H E).nox (defBody (top 48)) (liftS A K Nt (t_L_touch S_L_pick S_L_draw)) :=
  have nd := sc_L_touch.nd
  (ss_one (s_ret (e_callTy call_tupleF dn_tuple B.tuple bt_tuple (b_cons (e_bw (e_ofW (eC [("k", 4)] nd (i_rg1 B.range (a_cons (e_op op_addA dr_add (e_bw e_int) (e_bw (e_call G_L_draw hr h_L_draw (a_cons (vF 0) (a_cons (vF 2) a_nil))))) a_nil)) (fun _ _ _ _ _ _ => (gN 4 nd)) (fun _ _ _ _ _ _ => ts_nil) (fun _ _ _ _ _ _ => (e_call G_L_pick hr h_L_pick (a_cons (vF 0) (a_cons (e_ofW (eC [("pair", 3)] nd (iA (vF 1)) (fun _ _ _ _ _ _ => (gN 3 nd)) (fun _ _ _ _ _ _ => ts_nil) (fun _ _ _ _ _ _ => (e_ix ix_seq dr_ix (vB 3) (e_bw e_int))))) a_nil))))))) b_nil))))
abbrev N_L_piece_text : List Str := ["piece", "found", "k", "place"]
theorem sc_L_piece_text : FnScope N_L_piece_text ["piece"] (defScope (top 49)) := ⟨rfl, rfl, rfl, by decide +kernel, rfl, by decide +kernel, by decide +kernel⟩
theorem d_L_piece_text {j : Nat} {A : Amb} (B : Bt mg) (hr : Room j (Ar.deeper (PyProof.Rows.envOfC "_law_piece_text" (defScope (top 49)) s.heap.objs.size f cdv))) (Nt : Ent) :
    PSs (cxOf CX0 P w K mg base N_L_piece_text "_law_piece_text" (defScope (top 49)) f cdv Ar outer s H E).nox (defBody (top 49)) (liftS A K Nt (t_L_piece_text)) :=
  have nd := sc_L_piece_text.nd
  (ss_cons (sS 1 nd e_str)
  (ss_cons (s_for (i_rg1 B.range (a_cons (e_callB call_len dn_len B.len bt_len (b_cons (vB 0) b_nil)) a_nil)) (gN 2 nd)
  (ss_cons (s_if (PW.pt (w_and (t_cmp op_gt dr_cmpI (vB 2) (e_bw e_int)) (w_and (t_cmp op_gt dr_cmpI (e_bw (e_callB call_len dn_len B.len bt_len (b_cons (e_bw (e_ix ix_seq dr_ix (vB 0) (vB 2))) b_nil))) (e_bw e_int)) (w_and1 (t_cmp op_gt dr_cmpI (e_bw (e_callB call_len dn_len B.len bt_len (b_cons (e_bw (e_ix ix_seq dr_ix (vB 0) (e_bw (e_op op_sub dr_sub (vB 2) (e_bw e_int))))) b_nil))) (e_bw e_int))))))
  (ss_one (sS 1 nd (e_op op_addA dr_add (vB 1) (e_bw e_str))))
  ss_nil)
  (ss_one (sS 1 nd (e_op op_addA dr_add (vB 1) (e_bw (e_ifExp (t_cmp (op_eqU hr.units) dr_eqU (e_bw (e_callB call_len dn_len B.len bt_len (b_cons (e_bw (e_ix ix_seq dr_ix (vB 0) (vB 2))) b_nil))) (e_bw e_int)) e_str (e_join (e_ofW (eC [("place", 3)] nd (iA (e_ix ix_seq dr_ix (vB 0) (vB 2))) (fun _ _ _ _ _ _ => (gN 3 nd)) (fun _ _ _ _ _ _ => ts_nil) (fun _ _ _ _ _ _ => (e_callTy call_str_int dn_str B.str bt_str (b_cons (vB 3) b_nil)))))))))))) PassesOwn.never rfl)
  (ss_one (s_ret (vF 1)))))
abbrev N_L_piece_from : List Str := ["stage", "text", "changes", "part", "digits", "sign", "piece", "change"]
theorem sc_L_piece_from : FnScope N_L_piece_from ["stage", "text"] (defScope (top 50)) := ⟨rfl, rfl, rfl, by decide +kernel, rfl, by decide +kernel, by decide +kernel⟩
theorem d_L_piece_from {j : Nat} {A : Amb} (B : Bt mg) {k_L_piece_text : Nat} {S_L_piece_text : FS A} (G_L_piece_text : DFn P w K mg base A k_L_piece_text "_law_piece_text" ["piece"] S_L_piece_text) (h_L_piece_text : k_L_piece_text ≤ j) {k_L_is_change : Nat} {S_L_is_change : FS A} (G_L_is_change : DFn P w K mg base A k_L_is_change "_law_is_change" ["stage", "value"] S_L_is_change) (h_L_is_change : k_L_is_change ≤ j) (hr : Room j (Ar.deeper (PyProof.Rows.envOfC "_law_piece_from" (defScope (top 50)) s.heap.objs.size f cdv))) (Nt : Ent) :
    PSs (cxOf CX0 P w K mg base N_L_piece_from "_law_piece_from" (defScope (top 50)) f cdv Ar outer s H E).nox (defBody (top 50)) (liftS A K Nt (t_L_piece_from S_L_piece_text S_L_is_change)) :=
  have nd := sc_L_piece_from.nd
  (ss_setFor 2 nd (n_lst a_nil) (iT (et_split (et_repl (vF 1)))) (gN 3 nd)
  (ss_one (s_if (t_cmp (op_eqU hr.units) dr_eqU (vB 3) (e_bw e_str))
  (ss_one (s_append (ps_expr (pe_bm PySem.F.plainAttrs_list PySem.F.slot_list_append PySem.F.type_list_append mt_append (vP 2) (pa_cons (e_tup a_nil) pa_nil)))))
  (ss_one (s_if (t_cmp (op_neU hr.units) dr_neU (vB 3) (e_bw e_str))
  (ss_cons (sCf 4 [("sign", 5)] nd (iA (vF 3)) (fun _ _ _ _ _ _ => (gN 5 nd)) (fun _ _ _ _ _ _ => (ts_one (t_cmp (op_inA hr.units65) dr_inG (vB 5) (e_bw e_str)))) (fun _ _ _ _ _ _ => (vF 5)))
  (ss_cons (s_if (t_cmp (op_ltA hr.units65) dr_ltA (e_bw (e_callB call_len dn_len B.len bt_len (b_cons (vB 4) b_nil))) (e_bw (e_callB call_len dn_len B.len bt_len (b_cons (vB 3) b_nil))))
  (ss_one (s_ret e_non))
  ss_nil)
  (ss_one (s_append (ps_expr (pe_bm PySem.F.plainAttrs_list PySem.F.slot_list_append PySem.F.type_list_append mt_append (vP 2) (pa_cons (e_callTy call_tupleF dn_tuple B.tuple bt_tuple (b_cons (e_bw (e_ofW (eC [("sign", 5)] nd (iA (vF 4)) (fun _ _ _ _ _ _ => (gN 5 nd)) (fun _ _ _ _ _ _ => ts_nil) (fun _ _ _ _ _ _ => (e_callTy call_int_str dn_intS B.int bt_int (b_cons (vB 5) b_nil)))))) b_nil)) pa_nil)))))))
  ss_nil))))
  (ss_cons (sS 6 nd (e_callTy call_tupleF dn_tuple B.tuple bt_tuple (b_cons (vB 2) b_nil)))
  (ss_cons (s_if (PW.pt (w_or (t_cmp (op_eqU hr.units) dr_eqU (e_bw (e_callB call_len dn_len B.len bt_len (b_cons (vB 6) b_nil))) (e_bw e_int)) (w_or (t_cmp op_gt dr_cmpI (e_bw (e_callB call_len dn_len B.len bt_len (b_cons (vB 6) b_nil))) (e_bw e_int)) (w_or1 (t_cmp op_gt dr_cmpI (e_bw (e_callB call_len dn_len B.len bt_len (b_cons (e_bw (e_ofW (eC [("change", 7)] nd (iA (vF 6)) (fun _ _ _ _ _ _ => (gN 7 nd)) (fun _ _ _ _ _ _ => (ts_one (t_not (t_val (e_call G_L_is_change hr h_L_is_change (a_cons (vF 0) (a_cons (vF 7) a_nil))))))) (fun _ _ _ _ _ _ => (vF 7))))) b_nil))) (e_bw e_int))))))
  (ss_one (s_ret e_non))
  ss_nil)
  (ss_one (s_ret (e_ifExp (t_cmp (op_eqU hr.units) dr_eqU (e_bw (e_call G_L_piece_text hr h_L_piece_text (a_cons (vF 6) a_nil))) (vB 1)) (vF 6) e_non))))) PassesOwn.never rfl)
abbrev N_L_touch_text : List Str := ["touch", "found", "left", "many"]
theorem sc_L_touch_text : FnScope N_L_touch_text ["touch"] (defScope (top 51)) := ⟨rfl, rfl, rfl, by decide +kernel, rfl, by decide +kernel, by decide +kernel⟩
theorem d_L_touch_text {j : Nat} {A : Amb} (B : Bt mg) (hr : Room j (Ar.deeper (PyProof.Rows.envOfC "_law_touch_text" (defScope (top 51)) s.heap.objs.size f cdv))) (Nt : Ent) :
    PSs (cxOf CX0 P w K mg base N_L_touch_text "_law_touch_text" (defScope (top 51)) f cdv Ar outer s H E).nox (defBody (top 51)) (liftS A K Nt (t_L_touch_text)) :=
  have nd := sc_L_touch_text.nd
  (ss_cons (sN 1 nd (n_lst a_nil))
  (ss_cons (sS 2 nd (e_ofW (n_callTy call_list_of dw_list B.list bt_list (b_cons (vB 0) b_nil))))
  (ss_cons (s_while (t_cmp op_gt dr_cmpI (e_bw (e_callB call_len dn_len B.len bt_len (b_cons (vB 2) b_nil))) (e_bw e_int))
  (ss_cons (sS 3 nd e_int)
  (ss_cons (s_while (PW.pt (w_and (t_cmp (op_ltA hr.units65) dr_ltA (vB 3) (e_bw (e_callB call_len dn_len B.len bt_len (b_cons (vB 2) b_nil)))) (w_and1 (t_cmp (op_eqU hr.units) dr_eqU (e_bw (e_ix ix_seq dr_ix (vB 2) (vB 3))) (e_bw (e_ix ix_seq dr_ix (vB 2) (e_bw e_int)))))))
  (ss_one (sS 3 nd (e_op op_addA dr_add (vB 3) (e_bw e_int)))) PassesOwn.never)
  (ss_cons (s_append (ps_expr (pe_bm PySem.F.plainAttrs_list PySem.F.slot_list_append PySem.F.type_list_append mt_append (vP 1) (pa_cons (e_ifExp (t_cmp (op_eqU hr.units) dr_eqU (vB 3) (e_bw e_int)) (e_ix ix_seq dr_ix (vB 2) (e_bw e_int)) (e_op op_addA dr_add (e_bw (e_op op_addA dr_add (e_bw (e_callTy call_str_int dn_str B.str bt_str (b_cons (vB 3) b_nil))) (e_bw e_str))) (e_bw (e_ix ix_seq dr_ix (vB 2) (e_bw e_int))))) pa_nil))))
  (ss_one (sS 2 nd (e_sl (vB 2) (o_some (vB 3)) o_none)))))) PassesOwn.never)
  (ss_one (s_frz (s_ret (e_join (vF 1))))))))
abbrev N_L_touch_from : List Str := ["text", "found", "item", "many", "word", "at", "touch"]
theorem sc_L_touch_from : FnScope N_L_touch_from ["text"] (defScope (top 52)) := ⟨rfl, rfl, rfl, by decide +kernel, rfl, by decide +kernel, by decide +kernel⟩
theorem d_L_touch_from {j : Nat} {A : Amb} (B : Bt mg) {k_L_decimal : Nat} {S_L_decimal : FS A} (G_L_decimal : DFn P w K mg base A k_L_decimal "_law_decimal" ["text"] S_L_decimal) (h_L_decimal : k_L_decimal ≤ j) {k_L_is_word : Nat} {S_L_is_word : FS A} (G_L_is_word : DFn P w K mg base A k_L_is_word "_law_is_word" ["value"] S_L_is_word) (h_L_is_word : k_L_is_word ≤ j) {k_L_touch_text : Nat} {S_L_touch_text : FS A} (G_L_touch_text : DFn P w K mg base A k_L_touch_text "_law_touch_text" ["touch"] S_L_touch_text) (h_L_touch_text : k_L_touch_text ≤ j) (hr : Room j (Ar.deeper (PyProof.Rows.envOfC "_law_touch_from" (defScope (top 52)) s.heap.objs.size f cdv))) (Nt : Ent) :
    PSs (cxOf CX0 P w K mg base N_L_touch_from "_law_touch_from" (defScope (top 52)) f cdv Ar outer s H E).nox (defBody (top 52)) (liftS A K Nt (t_L_touch_from S_L_decimal S_L_is_word S_L_touch_text)) :=
  have nd := sc_L_touch_from.nd
  (ss_cons (sS 1 nd (e_lst a_nil))
  (ss_cons (s_for (iA (e_split (vF 0))) (gN 2 nd)
  (ss_cons (sS 3 nd e_int)
  (ss_cons (sS 4 nd (vF 2))
  (ss_cons (s_if (t_cmp (op_inA hr.units65) dr_inG (e_bw e_str) (vB 2))
  (ss_cons (sS 5 nd (e_sidx (vF 2)))
  (ss_cons (sS 3 nd (e_call G_L_decimal hr h_L_decimal (a_cons (e_sl (vB 2) o_none (o_some (vB 5))) a_nil)))
  (ss_one (sS 4 nd (e_sl (vB 2) (o_some (e_bw (e_op op_addA dr_add (vB 5) (e_bw e_int)))) o_none)))))
  ss_nil)
  (ss_cons (s_if (PW.pt (w_or (t_cmp op_isN dr_is (vB 3) (e_bw e_non)) (w_or (t_cmp op_gt dr_cmpI (vB 3) (e_bw e_int)) (w_or1 (t_not (t_val (e_call G_L_is_word hr h_L_is_word (a_cons (vF 4) a_nil))))))))
  (ss_one (s_ret e_non))
  ss_nil)
  (ss_one (sS 1 nd (e_op op_addA dr_add (vB 1) (e_bw (e_op op_mulU dr_mulU (e_bw (e_lst (a_cons (vF 4) a_nil))) (vB 3)))))))))) PassesOwn.never rfl)
  (ss_cons (sS 6 nd (e_callTy call_tupleF dn_tuple B.tuple bt_tuple (b_cons (vB 1) b_nil)))
  (ss_one (s_ret (e_ifExp (PW.pt (w_and (t_cmp op_gt dr_cmpI (e_bw (e_callB call_len dn_len B.len bt_len (b_cons (vB 6) b_nil))) (e_bw e_int)) (w_and (t_cmp op_le dr_cmpI (e_bw (e_callB call_len dn_len B.len bt_len (b_cons (vB 6) b_nil))) (e_bw e_int)) (w_and1 (t_cmp (op_eqU hr.units) dr_eqU (e_bw (e_call G_L_touch_text hr h_L_touch_text (a_cons (vF 6) a_nil))) (vB 0)))))) (vF 6) e_non))))))
abbrev N_L_read_book : List Str := ["stage", "text", "e"]
theorem sc_L_read_book : FnScope N_L_read_book ["stage", "text"] (defScope (top 53)) := ⟨rfl, rfl, rfl, by decide +kernel, rfl, by decide +kernel, by decide +kernel⟩
theorem d_L_read_book {j : Nat} {A : Amb} (B : Bt mg) {L : List Str} (ET : ExT K mg L) (zV : mg "ValueError" = none) (iL_BadLine : ("BadLine" : Str) ∈ L) {C_BadLine : Addr} (mC_BadLine : mg "BadLine" = some (.ref C_BadLine)) (iL_BellError : ("BellError" : Str) ∈ L) {C_BellError : Addr} (mC_BellError : mg "BellError" = some (.ref C_BellError)) (iL_BadText : ("BadText" : Str) ∈ L) {C_BadText : Addr} (mC_BadText : mg "BadText" = some (.ref C_BadText)) {k_read_book : Nat} {S_read_book : FL A} (G_read_book : DFnL P w K mg base A C_BadLine k_read_book "read_book" ["stage", "text"] S_read_book) (h_read_book : k_read_book ≤ j)
    (hr : Room j (Ar.deeper (PyProof.Rows.envOfC "_law_read_book" (defScope (top 53)) s.heap.objs.size f cdv))) (Nt : Ent) {fI cc cda : Addr} (BLC : BlC P K mg C_BadLine fI cc cda) (ic : PySem.W.isClsIn K C_BadLine = true) :
    PSs (cxOf CX0 P w K mg base N_L_read_book "_law_read_book" (defScope (top 53)) f cdv Ar outer s H E).nox (defBody (top 53)) (liftS A K Nt (t_L_read_book S_read_book)) := by
  have nd := sc_L_read_book.nd
  have T : ExcC K C_BadLine := by
    obtain ⟨D, h1, h2, _⟩ := ET.adr _ iL_BadLine
    rw [mC_BadLine] at h1
    cases h1
    exact h2
  have ex1 := (ET.mat _ iL_BadLine _ iL_BadLine _ _ mC_BadLine mC_BadLine).1
  have k1 := (ET.mat _ iL_BadLine _ iL_BellError _ _ mC_BadLine mC_BellError).2
  have k2 := ET.vle _ iL_BadLine _ mC_BadLine
  have k3 := (ET.mat _ iL_BadLine _ iL_BadText _ _ mC_BadLine mC_BadText).2
  rw [show subE "BadLine" "BadLine" = true by decide +kernel] at ex1
  rw [show subE "BadLine" "BellError" = true by decide +kernel] at k1
  rw [show subE "BadLine" "BadText" = false by decide +kernel] at k3
  exact (ss_one (s_tryL (i := 2) mC_BadLine ex1 rfl rfl nd rfl rfl (by rfl) (fun Nt Wd1 pn xe tk1 ps1 => (ss_one (s_ret (e_tup (a_cons e_str (a_cons (e_callL G_read_book tk1 hr h_read_book (a_cons (vF 0) (a_cons (vF 1) a_nil))) a_nil))))))
    (fun k ea dd oe Nt pn eN nN hz hf => (ss_one (s_ret (e_ifExp (PW.pt (w_and (t_val (e_isL T ic hz hf eN nN mC_BellError k1 B.isinstance (vP 2))) (w_and (t_val (e_isLV T ic hz hf eN nN zV k2 B.isinstance (vP 2))) (w_and1 (t_not (t_val (e_isL T ic hz hf eN nN mC_BadText k3 B.isinstance (vP 2)))))))) (e_tup (a_cons e_str (a_cons (e_line ⟨T.hg, T.hk, T.hs, T.hd⟩ BLC.nol hz hf eN nN (vP 2)) a_nil))) (e_tup (a_cons e_str a_nil))))))))
abbrev N_L_read_touch : List Str := ["text", "e"]
theorem sc_L_read_touch : FnScope N_L_read_touch ["text"] (defScope (top 54)) := ⟨rfl, rfl, rfl, by decide +kernel, rfl, by decide +kernel, by decide +kernel⟩
theorem d_L_read_touch {j : Nat} {A : Amb} (B : Bt mg) {L : List Str} (ET : ExT K mg L) (zV : mg "ValueError" = none) (iL_BadText : ("BadText" : Str) ∈ L) {C_BadText : Addr} (mC_BadText : mg "BadText" = some (.ref C_BadText)) (iL_BellError : ("BellError" : Str) ∈ L) {C_BellError : Addr} (mC_BellError : mg "BellError" = some (.ref C_BellError)) (iL_BadLine : ("BadLine" : Str) ∈ L) {C_BadLine : Addr} (mC_BadLine : mg "BadLine" = some (.ref C_BadLine)) {k_read_touch : Nat} {S_read_touch : FX A} (G_read_touch : DFnX P w K mg base A L k_read_touch "read_touch" ["text"] S_read_touch) (h_read_touch : k_read_touch ≤ j) (hr : Room j (Ar.deeper (PyProof.Rows.envOfC "_law_read_touch" (defScope (top 54)) s.heap.objs.size f cdv))) (Nt : Ent) :
    PSs (cxOf CX0 P w K mg base N_L_read_touch "_law_read_touch" (defScope (top 54)) f cdv Ar outer s H E).nox (defBody (top 54)) (liftS A K Nt (t_L_read_touch S_read_touch)) :=
  have nd := sc_L_read_touch.nd
  (ss_one (s_try (i := 1) ET iL_BadText mC_BadText rfl rfl nd rfl rfl (by rfl) takesF (fun Nt Wd1 pn xe tk1 ps1 => (ss_one (s_ret (e_tup (a_cons e_str (a_cons (e_callX G_read_touch tk1 hr h_read_touch (a_cons (vF 0) a_nil)) a_nil))))))
  (fun er ea oe CD pn he hd hz hf => (ss_one (s_ret (e_ifExp (PW.pt (w_and (t_val (e_isE ET he hd hz hf iL_BellError mC_BellError B.isinstance (vP 1))) (w_and (t_val (e_isV ET he hd hz hf zV B.isinstance (vP 1))) (w_and1 (t_not (t_val (e_isE ET he hd hz hf iL_BadLine mC_BadLine B.isinstance (vP 1)))))))) e_str e_str))))))
abbrev N_L_due_book : List Str := ["stage", "lines", "book", "k", "word", "sign", "rest", "piece"]
theorem sc_L_due_book : FnScope N_L_due_book ["stage", "lines"] (defScope (top 55)) := ⟨rfl, rfl, rfl, by decide +kernel, rfl, by decide +kernel, by decide +kernel⟩
theorem d_L_due_book {j : Nat} {A : Amb} (B : Bt mg) {k_L_piece_from : Nat} {S_L_piece_from : FS A} (G_L_piece_from : DFn P w K mg base A k_L_piece_from "_law_piece_from" ["stage", "text"] S_L_piece_from) (h_L_piece_from : k_L_piece_from ≤ j) {k_L_is_word : Nat} {S_L_is_word : FS A} (G_L_is_word : DFn P w K mg base A k_L_is_word "_law_is_word" ["value"] S_L_is_word) (h_L_is_word : k_L_is_word ≤ j) (hr : Room j (Ar.deeper (PyProof.Rows.envOfC "_law_due_book" (defScope (top 55)) s.heap.objs.size f cdv))) (Nt : Ent) :
    PSs (cxOf CX0 P w K mg base N_L_due_book "_law_due_book" (defScope (top 55)) f cdv Ar outer s H E).nox (defBody (top 55)) (liftS A K Nt (t_L_due_book S_L_piece_from S_L_is_word)) :=
  have nd := sc_L_due_book.nd
  (ss_cons (sS 2 nd (e_tup a_nil))
  (ss_cons (s_for (i_rg1 B.range (a_cons (e_callB call_len dn_len B.len bt_len (b_cons (vB 1) b_nil)) a_nil)) (gN 3 nd)
  (ss_cons (s_part rfl nd (e_ix ix_seq dr_ix (vB 1) (vB 3)))
  (ss_cons (sS 7 nd (e_call G_L_piece_from hr h_L_piece_from (a_cons (vF 0) (a_cons (vF 6) a_nil))))
  (ss_cons (s_if (PW.pt (w_or (t_not (t_val (e_call G_L_is_word hr h_L_is_word (a_cons (vF 4) a_nil)))) (w_or (t_cmp op_isN dr_is (vB 7) (e_bw e_non)) (w_or (t_cmp op_gt dr_cmpI (vB 3) (e_bw e_int)) (w_or1 (PW.pt (w_and (t_cmp op_gt dr_cmpI (vB 3) (e_bw e_int)) (w_and1 (t_cmp op_leS dr_leS (vB 4) (e_bw (e_ix ix_seq dr_ix (e_bw (e_ix ix_seq dr_ix (vB 2) (e_bw (e_un un_neg dr_neg (e_bw e_int))))) (e_bw e_int))))))))))))
  (ss_one (s_ret (e_tup (a_cons e_str (a_cons (vF 3) a_nil)))))
  ss_nil)
  (ss_one (sS 2 nd (e_op op_addA dr_add (vB 2) (e_bw (e_tup (a_cons (e_tup (a_cons (vF 4) (a_cons (vF 7) a_nil))) a_nil))))))))) PassesOwn.never rfl)
  (ss_one (s_ret (e_tup (a_cons e_str (a_cons (vF 2) a_nil)))))))
abbrev N_law : List Str := ["script", "pool", "stage", "book", "lines", "pair", "odd", "tried", "k", "at", "rows", "touch", "text", "one", "due"]
theorem sc_law : FnScope N_law ["script"] (defScope (top 56)) := ⟨rfl, rfl, rfl, by decide +kernel, rfl, by decide +kernel, by decide +kernel⟩
def law0 : Stmt := (defBody (top 56)).head!
def lawR : List Stmt := (defBody (top 56)).tail
theorem d_law0 {j : Nat} {g : Addr} {gd : FuncData} (G : FnOk P w K mg base CX0 1 g gd ["script"] (spPool K)) (mG : mg "_law_pool" = some (.ref g)) (kG : PySem.W.keepIn K (.ref g) = true) (bG : Binds K gd ["script"] []) (hj : 1 ≤ j) (hr : Room j (callerA.deeper (PyProof.Rows.envOfC "law" (defScope (top 56)) s.heap.objs.size f cdv))) :
    PS (cxOf CX0 P w K mg base N_law "law" (defScope (top 56)) f cdv callerA outer s H E).nox law0 (tAsg (tCall (spPool K) [] (fun _ _ _ => False) (tCons (tVar 0) tNil)) (gName 1)) :=
  ps_set (i := 1) sc_law.nd rfl (by first | exact Or.inl rfl | exact Or.inr rfl) (pe_call G (hr.mono hj) rfl mG kG bG .nil pass0 (pa_cons (pv 0) pa_nil))
theorem d_law {j : Nat} {A : Amb} (B : Bt mg) {k_L_stage : Nat} {S_L_stage : FS A} (G_L_stage : DFn P w K mg base A k_L_stage "_law_stage" ["pool", "most"] S_L_stage) (h_L_stage : k_L_stage ≤ j) {k_L_book : Nat} {S_L_book : FS A} (G_L_book : DFn P w K mg base A k_L_book "_law_book" ["pool", "stage", "many", "most"] S_L_book) (h_L_book : k_L_book ≤ j) {k_L_touch : Nat} {S_L_touch : FS A} (G_L_touch : DFn P w K mg base A k_L_touch "_law_touch" ["pool", "book", "most"] S_L_touch) (h_L_touch : k_L_touch ≤ j) {k_L_touch_text : Nat} {S_L_touch_text : FS A} (G_L_touch_text : DFn P w K mg base A k_L_touch_text "_law_touch_text" ["touch"] S_L_touch_text) (h_L_touch_text : k_L_touch_text ≤ j) {k_L_same : Nat} {S_L_same : FS A} (G_L_same : DFn P w K mg base A k_L_same "_law_same" ["actual", "due"] S_L_same) (h_L_same : k_L_same ≤ j) {k_L_draw : Nat} {S_L_draw : FS A} (G_L_draw : DFn P w K mg base A k_L_draw "_law_draw" ["pool", "many"] S_L_draw) (h_L_draw : k_L_draw ≤ j) {k_L_touch_from : Nat} {S_L_touch_from : FS A} (G_L_touch_from : DFn P w K mg base A k_L_touch_from "_law_touch_from" ["text"] S_L_touch_from) (h_L_touch_from : k_L_touch_from ≤ j) {k_L_piece_text : Nat} {S_L_piece_text : FS A} (G_L_piece_text : DFn P w K mg base A k_L_piece_text "_law_piece_text" ["piece"] S_L_piece_text) (h_L_piece_text : k_L_piece_text ≤ j) {k_write_book : Nat} {S_write_book : FS A} (G_write_book : DFn P w K mg base A k_write_book "write_book" ["book"] S_write_book) (h_write_book : k_write_book ≤ j) {k_write_touch : Nat} {S_write_touch : FS A} (G_write_touch : DFn P w K mg base A k_write_touch "write_touch" ["touch"] S_write_touch) (h_write_touch : k_write_touch ≤ j) {k_L_spoilt : Nat} {S_L_spoilt : FS A} (G_L_spoilt : DFn P w K mg base A k_L_spoilt "_law_spoilt" ["pool", "text", "signs"] S_L_spoilt) (h_L_spoilt : k_L_spoilt ≤ j) {k_L_read_book : Nat} {S_L_read_book : FS A} (G_L_read_book : DFn P w K mg base A k_L_read_book "_law_read_book" ["stage", "text"] S_L_read_book) (h_L_read_book : k_L_read_book ≤ j) {k_L_due_book : Nat} {S_L_due_book : FS A} (G_L_due_book : DFn P w K mg base A k_L_due_book "_law_due_book" ["stage", "lines"] S_L_due_book) (h_L_due_book : k_L_due_book ≤ j) {k_L_read_touch : Nat} {S_L_read_touch : FS A} (G_L_read_touch : DFn P w K mg base A k_L_read_touch "_law_read_touch" ["text"] S_L_read_touch) (h_L_read_touch : k_L_read_touch ≤ j) {k_L_pick : Nat} {S_L_pick : FS A} (G_L_pick : DFn P w K mg base A k_L_pick "_law_pick" ["pool", "items"] S_L_pick) (h_L_pick : k_L_pick ≤ j) (hr : Room j (callerA.deeper (PyProof.Rows.envOfC "law" (defScope (top 56)) s.heap.objs.size f cdv))) (Nt : Ent) :
    PSs (cxOf CX0 P w K mg base N_law "law" (defScope (top 56)) f cdv callerA outer s H E).nox lawR (liftS A K Nt (t_law_k21 S_L_stage S_L_book S_L_touch S_L_touch_text S_L_same S_L_draw S_L_touch_from S_L_piece_text S_write_book S_write_touch S_L_spoilt S_L_read_book S_L_due_book S_L_read_touch S_L_pick)) :=
  have nd := sc_law.nd
  have hg : (cxOf CX0 P w K mg base N_law "law" (defScope (top 56)) f cdv callerA outer s H E).nox.A.guards = some [] := rfl
  (ss_cons (sS 2 nd (e_call G_L_stage hr h_L_stage (a_cons (vF 1) (a_cons e_int a_nil))))
  (ss_cons (sS 3 nd (e_call G_L_book hr h_L_book (a_cons (vF 1) (a_cons (vF 2) (a_cons (e_op op_addA dr_add (e_bw e_int) (e_bw (e_call G_L_draw hr h_L_draw (a_cons (vF 1) (a_cons e_int a_nil))))) (a_cons e_int a_nil))))))
  (ss_cons (sCf 4 [("pair", 5)] nd (iA (vF 3)) (fun _ _ _ _ _ _ => (gN 5 nd)) (fun _ _ _ _ _ _ => ts_nil) (fun _ _ _ _ _ _ => (e_op op_addA dr_add (e_bw (e_op op_addA dr_add (e_bw (e_ix ix_seq dr_ix (vB 5) (e_bw e_int))) (e_bw e_str))) (e_bw (e_call G_L_piece_text hr h_L_piece_text (a_cons (e_ix ix_seq dr_ix (vB 5) (e_bw e_int)) a_nil))))))
  (ss_cons (s_if (t_not (t_val (e_call G_L_same hr h_L_same (a_cons (e_call G_write_book hr h_write_book (a_cons (vF 3) a_nil)) (a_cons (e_join (vF 4)) a_nil)))))
  (ss_one (s_ret e_bl))
  ss_nil)
  (ss_cons (sS 6 nd (e_lst (a_cons e_str (a_cons e_str (a_cons e_str (a_cons e_str (a_cons e_str (a_cons e_str (a_cons e_str (a_cons e_str (a_cons e_str a_nil)))))))))))
  (ss_cons (sN 7 nd (n_lst (a_cons (vF 4) (a_cons (e_rev (vB 4)) (a_cons (e_op op_addA dr_add (vB 4) (e_bw (e_sl (vB 4) (o_some (e_bw (e_un un_neg dr_neg (e_bw e_int)))) o_none))) (a_cons (e_lst (a_cons e_str a_nil)) (a_cons (e_op op_addA dr_add (vB 4) (e_bw (e_lst (a_cons e_str a_nil)))) (a_cons (e_lst (a_cons e_str (a_cons e_str (a_cons e_str (a_cons e_str (a_cons e_str a_nil)))))) a_nil))))))))
  (ss_cons (s_for (i_rg1 B.range (a_cons e_int a_nil)) (gN 8 nd)
  (ss_cons (sS 9 nd (e_call G_L_draw hr h_L_draw (a_cons (vF 1) (a_cons (e_op op_addA dr_add (e_bw (e_callB call_len dn_len B.len bt_len (b_cons (vB 4) b_nil))) (e_bw e_int)) a_nil))))
  (ss_cons (s_append (ps_expr (pe_bm PySem.F.plainAttrs_list PySem.F.slot_list_append PySem.F.type_list_append mt_append (vP 7) (pa_cons (e_op op_addA dr_add (e_bw (e_op op_addA dr_add (e_bw (e_sl (vB 4) o_none (o_some (vB 9)))) (e_bw (e_lst (a_cons (e_call G_L_pick hr h_L_pick (a_cons (vF 1) (a_cons (vF 6) a_nil))) a_nil))))) (e_bw (e_sl (vB 4) (o_some (vB 9)) o_none))) pa_nil))))
  (ss_cons (sS 9 nd (e_call G_L_draw hr h_L_draw (a_cons (vF 1) (a_cons (e_callB call_len dn_len B.len bt_len (b_cons (vB 4) b_nil)) a_nil))))
  (ss_one (sN 7 nd (n_op op_cat dw_cat (vB 7) (e_bw (e_lst (a_cons (e_op op_addA dr_add (e_bw (e_sl (vB 4) o_none (o_some (vB 9)))) (e_bw (e_sl (vB 4) (o_some (e_bw (e_op op_addA dr_add (vB 9) (e_bw e_int)))) o_none))) (a_cons (e_op op_addA dr_add (e_bw (e_op op_addA dr_add (e_bw (e_sl (vB 4) o_none (o_some (vB 9)))) (e_bw (e_lst (a_cons (e_call G_L_spoilt hr h_L_spoilt (a_cons (vF 1) (a_cons (e_ix ix_seq dr_ix (vB 4) (vB 9)) (a_cons e_str a_nil)))) a_nil))))) (e_bw (e_sl (vB 4) (o_some (e_bw (e_op op_addA dr_add (vB 9) (e_bw e_int)))) o_none))) a_nil)))))))))) PassesOwn.never rfl)
  (ss_cons (s_frz (s_for (iA (vF 7)) (gN 10 nd)
  (ss_cons (sS 10 nd (e_ifExp (t_cmp op_gt dr_cmpI (e_bw (e_callB call_len dn_len B.len bt_len (b_cons (vB 10) b_nil))) (e_bw e_int)) (vF 10) (e_lst (a_cons e_str a_nil))))
  (ss_one (s_if (t_not (t_val (e_call G_L_same hr h_L_same (a_cons (e_call G_L_read_book hr h_L_read_book (a_cons (vF 2) (a_cons (e_join (vF 10)) a_nil))) (a_cons (e_call G_L_due_book hr h_L_due_book (a_cons (vF 2) (a_cons (vF 10) a_nil))) a_nil)))))
  (ss_one (s_ret e_bl))
  ss_nil))) PassesOwn.never rfl))
  (ss_cons (sS 11 nd (e_call G_L_touch hr h_L_touch (a_cons (vF 1) (a_cons (vF 3) (a_cons (e_ix ix_seq dr_ix (e_bw (e_tup (a_cons e_int (a_cons e_int a_nil)))) (e_bw (e_call G_L_draw hr h_L_draw (a_cons (vF 1) (a_cons e_int a_nil))))) a_nil)))))
  (ss_cons (s_if (t_cmp (op_eqU hr.units) dr_eqU (e_bw (e_call G_L_draw hr h_L_draw (a_cons (vF 1) (a_cons e_int a_nil)))) (e_bw e_int))
  (ss_one (sS 11 nd (e_sl (e_bw (e_op op_addA dr_add (e_bw (e_op op_mulU dr_mulU (e_bw (e_sl (vB 11) o_none (o_some (e_bw e_int)))) (e_bw (e_op op_addA dr_add (e_bw e_int) (e_bw (e_call G_L_draw hr h_L_draw (a_cons (vF 1) (a_cons e_int a_nil)))))))) (vB 11))) o_none (o_some (e_bw e_int)))))
  ss_nil)
  (ss_cons (sS 12 nd (e_call G_L_touch_text hr h_L_touch_text (a_cons (vF 11) a_nil)))
  (ss_cons (s_if (t_not (t_val (e_call G_L_same hr h_L_same (a_cons (e_call G_write_touch hr h_write_touch (a_cons (vF 11) a_nil)) (a_cons (vF 12) a_nil)))))
  (ss_one (s_ret e_bl))
  ss_nil)
  (ss_cons (sN 7 nd (n_lst (a_cons (vF 12) (a_cons e_str (a_cons e_str (a_cons e_str (a_cons e_str (a_cons e_str (a_cons e_str (a_cons e_str (a_cons e_str (a_cons e_str (a_cons e_str (a_cons e_str (a_cons e_str (a_cons e_str (a_cons e_str (a_cons e_str (a_cons e_str (a_cons e_str a_nil))))))))))))))))))))
  (ss_cons (sN 7 nd (n_op op_cat dw_cat (vB 7) (e_bw (e_lst (a_cons e_str (a_cons e_str (a_cons e_str (a_cons (e_op op_addA dr_add (e_bw (e_op op_addA dr_add (vB 12) (e_bw e_str))) (vB 12)) a_nil))))))))
  (ss_cons (s_for (iA (e_op op_addA dr_add (vB 7) (e_bw (e_ofW (eC [("k", 8)] nd (i_rg1 B.range (a_cons e_int a_nil)) (fun _ _ _ _ _ _ => (gN 8 nd)) (fun _ _ _ _ _ _ => ts_nil) (fun _ _ _ _ _ _ => (e_call G_L_spoilt hr h_L_spoilt (a_cons (vF 1) (a_cons (vF 12) (a_cons e_str a_nil)))))))))) (gN 13 nd)
  (ss_cons (sS 14 nd (e_call G_L_touch_from hr h_L_touch_from (a_cons (vF 13) a_nil)))
  (ss_one (s_if (t_not (t_val (e_call G_L_same hr h_L_same (a_cons (e_call G_L_read_touch hr h_L_read_touch (a_cons (vF 13) a_nil)) (a_cons (e_ifExp (t_cmp op_isN dr_is (vB 14) (e_bw e_non)) e_str (e_tup (a_cons e_str (a_cons (vF 14) a_nil)))) a_nil)))))
  (ss_one (s_ret e_bl))
  ss_nil))) PassesOwn.never rfl)
  (ss_one (s_ret e_bl)))))))))))))))))
end
theorem sc_pool : FnScope Npool ["script"] (defScope (top 33)) := ⟨rfl, rfl, rfl, by decide +kernel, rfl, by decide +kernel, by decide +kernel⟩
theorem sc_draw : FnScope Ndraw ["pool", "many"] (defScope (top 35)) := ⟨rfl, rfl, rfl, by decide +kernel, rfl, by decide +kernel, by decide +kernel⟩
section
variable {P : Program} {w : World} {K : PySem.W.Frag} {mg : Str → Option Value} {base : Heap} {f : Addr} {cdv : Value} {Ar : Around} {outer : List PySem.Env} {s : Shared} {H : Hp} {E : XK}
theorem d_pool (B : Bt mg) : PSs (cxOf CX0 P w K mg base Npool "_law_pool" (defScope (top 33)) f cdv Ar outer s H E).nox (defBody (top 33)) (rdPool K) :=
  pss_cons (ps_set (i := 1) sc_pool.nd rfl (Or.inl rfl) pe_int) (pss_cons (ps_for (PassesOwn.never) rfl (pi_list (pe_slice sl_list (pv 0) po_none (po_some pe_int))) (pg_name (i := 2) sc_pool.nd rfl (Or.inl rfl))
    (pss_one (ps_set (i := 1) sc_pool.nd rfl (Or.inl rfl) (pe_op op_mod (pe_callTy call_int1 rfl B.int bt_int (pa_cons (pe_op op_add (pe_op op_mul (pv 1) pe_int) (pv 2)) pa_nil)) pe_int))))
    (pss_one (ps_ret (pe_lst (pa_cons (pe_callTy call_list_of rfl B.list bt_list (pa_cons (pv 0) pa_nil)) (pa_cons pe_int (pa_cons pe_int (pa_cons pe_int (pa_cons (pv 1) pa_nil)))))))))
theorem d_draw (B : Bt mg) {g : Addr} {gd : FuncData} {k : Nat} {sp : Sp} (G : FnOk P w K mg base CX0 k g gd ["cell"] sp) (mG : mg "_law_spread" = some (.ref g)) (kG : PySem.W.keepIn K (.ref g) = true) (bG : Binds K gd ["cell"] []) (hr : Room k (Ar.deeper (PyProof.Rows.envOfC "_law_draw" (defScope (top 35)) s.heap.objs.size f cdv))) :
    PSs (cxOf CX0 P w K mg base Ndraw "_law_draw" (defScope (top 35)) f cdv Ar outer s H E).nox (defBody (top 35)) (rdDraw K sp fun _ _ _ => False) :=
  have ix : PlainIx (.Constant (.int 0) 0 ⟨0, 0, 0, 0⟩) := fun _ _ => rfl
  pss_cons (ps_if (pw_and (pt_cmpR op_le (pe_ix ix_list (pv 0) pe_int fun _ _ => rfl) pe_int (nomark _)) (pw_and1 (pt_cmpR op_lt (pe_ix ix_list (pv 0) pe_int fun _ _ => rfl) (pe_callB call_len_seq (by rfl) B.len bt_len (pa_cons (pe_ix ix_list (pv 0) pe_int fun _ _ => rfl) pa_nil)) rfl))).pt
      (pss_cons (ps_set (i := 2) sc_draw.nd rfl (Or.inl rfl) (pe_ix ix_list (pe_ix ix_list (pv 0) pe_int fun _ _ => rfl) (pe_ix ix_list (pv 0) pe_int fun _ _ => rfl) fun _ _ => rfl))
      (pss_cons (ps_asg (pe_op op_add (pe_ix ix_list (pv 0) pe_int fun _ _ => rfl) pe_int) (pg_sub (pv 0) pe_int set_list))
      (pss_cons (ps_asg (pv 2) (pg_sub (pv 0) pe_int set_list))
      (pss_one (ps_if (pt_cmpR op_lt (pv 2) pe_int (nomark _)) (pss_one (ps_asg (pe_call G hr rfl mG kG bG .nil pass0 (pa_cons (pv 2) pa_nil)) (pg_sub (pv 0) pe_int set_list))) pss_nil))))) pss_nil)
    (pss_cons (ps_asg (pe_op op_add (pe_ix ix_list (pv 0) pe_int fun _ _ => rfl) pe_int) (pg_sub (pv 0) pe_int set_list))
    (pss_cons (ps_if (pt_cmpR op_le (pe_ix ix_list (pv 0) pe_int fun _ _ => rfl) pe_int (nomark _))
      (pss_cons (ps_set (i := 3) sc_draw.nd rfl (Or.inl rfl) (pe_op op_mod (pe_callTy call_int1 rfl B.int bt_int (pa_cons (pe_op op_add (pe_op op_add (pe_op op_mul (pe_ix ix_list (pv 0) pe_int fun _ _ => rfl) pe_int) (pe_op op_mul (pe_ix ix_list (pv 0) pe_int fun _ _ => rfl) pe_int)) pe_int) pa_nil)) pe_int))
      (pss_cons (ps_set (i := 3) sc_draw.nd rfl (Or.inl rfl) (pe_op op_mod (pe_callTy call_int1 rfl B.int bt_int (pa_cons (pe_op op_add (pe_op op_mul (pv 3) pe_int) (pe_ix ix_list (pv 0) pe_int fun _ _ => rfl)) pa_nil)) pe_int))
      (pss_one (ps_ret (pe_op op_mod (pe_op op_fdiv (pv 3) pe_int) (pv 1)))))) pss_nil)
    (pss_cons (ps_set (i := 4) sc_draw.nd rfl (Or.inl rfl) (pe_op op_mod (pe_callTy call_int1 rfl B.int bt_int (pa_cons (pe_ix ix_list (pv 0) pe_int fun _ _ => rfl) pa_nil)) (pv 1)))
    (pss_cons (ps_asg (pe_op op_fdivW (pe_ix ix_list (pv 0) pe_int fun _ _ => rfl) (pv 1)) (pg_sub (pv 0) pe_int set_list))
    (pss_one (ps_ret (pv 4)))))))
end
theorem et_mk {K : PySem.W.Frag} {mg : Str → Option Value} {C_BellError C_BadText C_BadLine : Addr} (hn_x : PySem.W.specialIn K (.builtin "object.__class__") "__get__" = some (some (.builtin "getset_descriptor.__get__"))) (ht_x : PySem.W.takesIn K (.builtin "object.__class__") = some true)
    (mC_BellError : mg "BellError" = some (.ref C_BellError)) (xA_BellError : ExA K C_BellError)
    (mC_BadText : mg "BadText" = some (.ref C_BadText)) (xA_BadText : ExA K C_BadText)
    (mC_BadLine : mg "BadLine" = some (.ref C_BadLine)) (xA_BadLine : ExA K C_BadLine)
    (xs_BellError_BellError : PySem.W.subIn K (.ref C_BellError) (.ref C_BellError) = some true)
    (xs_BellError_BadText : PySem.W.subIn K (.ref C_BellError) (.ref C_BadText) = some false)
    (xs_BellError_BadLine : PySem.W.subIn K (.ref C_BellError) (.ref C_BadLine) = some false)
    (xs_BadText_BellError : PySem.W.subIn K (.ref C_BadText) (.ref C_BellError) = some true)
    (xs_BadText_BadText : PySem.W.subIn K (.ref C_BadText) (.ref C_BadText) = some true)
    (xs_BadText_BadLine : PySem.W.subIn K (.ref C_BadText) (.ref C_BadLine) = some false)
    (xs_BadLine_BellError : PySem.W.subIn K (.ref C_BadLine) (.ref C_BellError) = some true)
    (xs_BadLine_BadText : PySem.W.subIn K (.ref C_BadLine) (.ref C_BadText) = some false)
    (xs_BadLine_BadLine : PySem.W.subIn K (.ref C_BadLine) (.ref C_BadLine) = some true) : ExT K mg ["BellError", "BadText", "BadLine"] := by
  refine ⟨fun n hn => ?_, fun n hn m hm C D h1 h2 => ?_, fun n hn C h1 => ?_⟩
  · simp only [List.mem_cons, List.not_mem_nil, or_false] at hn
    rcases hn with rfl | rfl | rfl
    · exact ⟨_, mC_BellError, xA_BellError.exc hn_x ht_x, xA_BellError.kp⟩
    · exact ⟨_, mC_BadText, xA_BadText.exc hn_x ht_x, xA_BadText.kp⟩
    · exact ⟨_, mC_BadLine, xA_BadLine.exc hn_x ht_x, xA_BadLine.kp⟩
  · simp only [List.mem_cons, List.not_mem_nil, or_false] at hn hm
    rcases hn with rfl | rfl | rfl
    · rcases hm with rfl | rfl | rfl
      · exact exPr mC_BellError mC_BellError h1 h2 xA_BellError xs_BellError_BellError (by decide +kernel)
      · exact exPr mC_BellError mC_BadText h1 h2 xA_BadText xs_BellError_BadText (by decide +kernel)
      · exact exPr mC_BellError mC_BadLine h1 h2 xA_BadLine xs_BellError_BadLine (by decide +kernel)
    · rcases hm with rfl | rfl | rfl
      · exact exPr mC_BadText mC_BellError h1 h2 xA_BellError xs_BadText_BellError (by decide +kernel)
      · exact exPr mC_BadText mC_BadText h1 h2 xA_BadText xs_BadText_BadText (by decide +kernel)
      · exact exPr mC_BadText mC_BadLine h1 h2 xA_BadLine xs_BadText_BadLine (by decide +kernel)
    · rcases hm with rfl | rfl | rfl
      · exact exPr mC_BadLine mC_BellError h1 h2 xA_BellError xs_BadLine_BellError (by decide +kernel)
      · exact exPr mC_BadLine mC_BadText h1 h2 xA_BadText xs_BadLine_BadText (by decide +kernel)
      · exact exPr mC_BadLine mC_BadLine h1 h2 xA_BadLine xs_BadLine_BadLine (by decide +kernel)
  · simp only [List.mem_cons, List.not_mem_nil, or_false] at hn
    rcases hn with rfl | rfl | rfl
    · exact exVe mC_BellError h1 xA_BellError.ve
    · exact exVe mC_BadText h1 xA_BadText.ve
    · exact exVe mC_BadLine h1 xA_BadLine.ve
theorem all_mk {l : PySem.W.OpenLaw} {w : World} {K : PySem.W.Frag} {h : Heap} {mg : Str → Option Value} {fa f2 f3 f4 f5 f11 f14 f17 f20 f21 f22 f23 f24 f25 f26 f27 f28 f29 f31 f32 f33 f34 f35 f36 f37 f38 f39 f40 f41 f42 f43 f44 f45 f46 f47 f48 f49 f50 f51 f52 f53 f54 f55 f56 : Addr} (X : K.In h) (G : h.Ns mainGlobals mg) (hfa : mg "law" = some (.ref fa))
    {od2 an2 od3 an3 od4 an4 od5 an5 od11 an11 od14 an14 od17 an17 od20 an20 od21 an21 od22 an22 od23 an23 od24 an24 od25 an25 od26 an26 od27 an27 od28 an28 od29 an29 od31 an31 od32 an32 od33 an33 od34 an34 od35 an35 od36 an36 od37 an37 od38 an38 od39 an39 od40 an40 od41 an41 od42 an42 od43 an43 od44 an44 od45 an45 od46 an46 od47 an47 od48 an48 od49 an49 od50 an50 od51 an51 od52 an52 od53 an53 od54 an54 od55 an55 od56 an56 : Option Addr} {sl2 sl3 sl4 sl5 sl11 sl14 sl17 sl20 sl21 sl22 sl23 sl24 sl25 sl26 sl27 sl28 sl29 sl31 sl32 sl33 sl34 sl35 sl36 sl37 sl38 sl39 sl40 sl41 sl42 sl43 sl44 sl45 sl46 sl47 sl48 sl49 sl50 sl51 sl52 sl53 sl54 sl55 sl56 : Array (Option Value)} {oc2 kV2 dc2 pm2 cd2 ct2 oc3 kV3 dc3 pm3 cd3 ct3 oc4 kV4 dc4 pm4 cd4 ct4 oc5 kV5 dc5 pm5 cd5 ct5 oc11 kV11 dc11 pm11 cd11 ct11 oc14 kV14 dc14 pm14 cd14 ct14 oc17 kV17 dc17 pm17 cd17 ct17 oc20 kV20 dc20 pm20 cd20 ct20 oc21 kV21 dc21 pm21 cd21 ct21 oc22 kV22 dc22 pm22 cd22 ct22 oc23 kV23 dc23 pm23 cd23 ct23 oc24 kV24 dc24 pm24 cd24 ct24 oc25 kV25 dc25 pm25 cd25 ct25 oc26 kV26 dc26 pm26 cd26 ct26 oc27 kV27 dc27 pm27 cd27 ct27 oc28 kV28 dc28 pm28 cd28 ct28 oc29 kV29 dc29 pm29 cd29 ct29 oc31 kV31 dc31 pm31 cd31 ct31 oc32 kV32 dc32 pm32 cd32 ct32 oc33 kV33 dc33 pm33 cd33 ct33 oc34 kV34 dc34 pm34 cd34 ct34 oc35 kV35 dc35 pm35 cd35 ct35 oc36 kV36 dc36 pm36 cd36 ct36 oc37 kV37 dc37 pm37 cd37 ct37 oc38 kV38 dc38 pm38 cd38 ct38 oc39 kV39 dc39 pm39 cd39 ct39 oc40 kV40 dc40 pm40 cd40 ct40 oc41 kV41 dc41 pm41 cd41 ct41 oc42 kV42 dc42 pm42 cd42 ct42 oc43 kV43 dc43 pm43 cd43 ct43 oc44 kV44 dc44 pm44 cd44 ct44 oc45 kV45 dc45 pm45 cd45 ct45 oc46 kV46 dc46 pm46 cd46 ct46 oc47 kV47 dc47 pm47 cd47 ct47 oc48 kV48 dc48 pm48 cd48 ct48 oc49 kV49 dc49 pm49 cd49 ct49 oc50 kV50 dc50 pm50 cd50 ct50 oc51 kV51 dc51 pm51 cd51 ct51 oc52 kV52 dc52 pm52 cd52 ct52 oc53 kV53 dc53 pm53 cd53 ct53 oc54 kV54 dc54 pm54 cd54 ct54 oc55 kV55 dc55 pm55 cd55 ct55 oc56 kV56 dc56 pm56 cd56 ct56 : Value}
    (a2 : PySem.W.nsIn K mainGlobals "is_whole" = some (some (.ref f2))) (l2 : K.lookup f2 = some ⟨oc2, od2, .func (PySem.W.fnOf "is_whole" "is_whole" (defArgs (top 2)) (defBody (top 2)) (defScope (top 2)) .none kV2 dc2 pm2 an2 cd2 ct2), sl2⟩) (c2 : PySem.W.codeIn K cd2 "is_whole" = true) (k2 : PySem.W.keepIn K (.ref f2) = true)
    (a3 : PySem.W.nsIn K mainGlobals "is_from" = some (some (.ref f3))) (l3 : K.lookup f3 = some ⟨oc3, od3, .func (PySem.W.fnOf "is_from" "is_from" (defArgs (top 3)) (defBody (top 3)) (defScope (top 3)) .none kV3 dc3 pm3 an3 cd3 ct3), sl3⟩) (c3 : PySem.W.codeIn K cd3 "is_from" = true) (k3 : PySem.W.keepIn K (.ref f3) = true)
    (a4 : PySem.W.nsIn K mainGlobals "is_word" = some (some (.ref f4))) (l4 : K.lookup f4 = some ⟨oc4, od4, .func (PySem.W.fnOf "is_word" "is_word" (defArgs (top 4)) (defBody (top 4)) (defScope (top 4)) .none kV4 dc4 pm4 an4 cd4 ct4), sl4⟩) (c4 : PySem.W.codeIn K cd4 "is_word" = true) (k4 : PySem.W.keepIn K (.ref f4) = true)
    (a5 : PySem.W.nsIn K mainGlobals "is_ascending" = some (some (.ref f5))) (l5 : K.lookup f5 = some ⟨oc5, od5, .func (PySem.W.fnOf "is_ascending" "is_ascending" (defArgs (top 5)) (defBody (top 5)) (defScope (top 5)) .none kV5 dc5 pm5 an5 cd5 ct5), sl5⟩) (c5 : PySem.W.codeIn K cd5 "is_ascending" = true) (k5 : PySem.W.keepIn K (.ref f5) = true)
    (a11 : PySem.W.nsIn K mainGlobals "is_change" = some (some (.ref f11))) (l11 : K.lookup f11 = some ⟨oc11, od11, .func (PySem.W.fnOf "is_change" "is_change" (defArgs (top 11)) (defBody (top 11)) (defScope (top 11)) .none kV11 dc11 pm11 an11 cd11 ct11), sl11⟩) (c11 : PySem.W.codeIn K cd11 "is_change" = true) (k11 : PySem.W.keepIn K (.ref f11) = true)
    (a14 : PySem.W.nsIn K mainGlobals "is_piece" = some (some (.ref f14))) (l14 : K.lookup f14 = some ⟨oc14, od14, .func (PySem.W.fnOf "is_piece" "is_piece" (defArgs (top 14)) (defBody (top 14)) (defScope (top 14)) .none kV14 dc14 pm14 an14 cd14 ct14), sl14⟩) (c14 : PySem.W.codeIn K cd14 "is_piece" = true) (k14 : PySem.W.keepIn K (.ref f14) = true)
    (a17 : PySem.W.nsIn K mainGlobals "is_book" = some (some (.ref f17))) (l17 : K.lookup f17 = some ⟨oc17, od17, .func (PySem.W.fnOf "is_book" "is_book" (defArgs (top 17)) (defBody (top 17)) (defScope (top 17)) .none kV17 dc17 pm17 an17 cd17 ct17), sl17⟩) (c17 : PySem.W.codeIn K cd17 "is_book" = true) (k17 : PySem.W.keepIn K (.ref f17) = true)
    (a20 : PySem.W.nsIn K mainGlobals "read_number" = some (some (.ref f20))) (l20 : K.lookup f20 = some ⟨oc20, od20, .func (PySem.W.fnOf "read_number" "read_number" (defArgs (top 20)) (defBody (top 20)) (defScope (top 20)) .none kV20 dc20 pm20 an20 cd20 ct20), sl20⟩) (c20 : PySem.W.codeIn K cd20 "read_number" = true) (k20 : PySem.W.keepIn K (.ref f20) = true)
    (a21 : PySem.W.nsIn K mainGlobals "write_change" = some (some (.ref f21))) (l21 : K.lookup f21 = some ⟨oc21, od21, .func (PySem.W.fnOf "write_change" "write_change" (defArgs (top 21)) (defBody (top 21)) (defScope (top 21)) .none kV21 dc21 pm21 an21 cd21 ct21), sl21⟩) (c21 : PySem.W.codeIn K cd21 "write_change" = true) (k21 : PySem.W.keepIn K (.ref f21) = true)
    (a22 : PySem.W.nsIn K mainGlobals "write_piece" = some (some (.ref f22))) (l22 : K.lookup f22 = some ⟨oc22, od22, .func (PySem.W.fnOf "write_piece" "write_piece" (defArgs (top 22)) (defBody (top 22)) (defScope (top 22)) .none kV22 dc22 pm22 an22 cd22 ct22), sl22⟩) (c22 : PySem.W.codeIn K cd22 "write_piece" = true) (k22 : PySem.W.keepIn K (.ref f22) = true)
    (a23 : PySem.W.nsIn K mainGlobals "items_of" = some (some (.ref f23))) (l23 : K.lookup f23 = some ⟨oc23, od23, .func (PySem.W.fnOf "items_of" "items_of" (defArgs (top 23)) (defBody (top 23)) (defScope (top 23)) .none kV23 dc23 pm23 an23 cd23 ct23), sl23⟩) (c23 : PySem.W.codeIn K cd23 "items_of" = true) (k23 : PySem.W.keepIn K (.ref f23) = true)
    (a24 : PySem.W.nsIn K mainGlobals "read_piece" = some (some (.ref f24))) (l24 : K.lookup f24 = some ⟨oc24, od24, .func (PySem.W.fnOf "read_piece" "read_piece" (defArgs (top 24)) (defBody (top 24)) (defScope (top 24)) .none kV24 dc24 pm24 an24 cd24 ct24), sl24⟩) (c24 : PySem.W.codeIn K cd24 "read_piece" = true) (k24 : PySem.W.keepIn K (.ref f24) = true)
    (a25 : PySem.W.nsIn K mainGlobals "write_lead" = some (some (.ref f25))) (l25 : K.lookup f25 = some ⟨oc25, od25, .func (PySem.W.fnOf "write_lead" "write_lead" (defArgs (top 25)) (defBody (top 25)) (defScope (top 25)) .none kV25 dc25 pm25 an25 cd25 ct25), sl25⟩) (c25 : PySem.W.codeIn K cd25 "write_lead" = true) (k25 : PySem.W.keepIn K (.ref f25) = true)
    (a26 : PySem.W.nsIn K mainGlobals "write_book" = some (some (.ref f26))) (l26 : K.lookup f26 = some ⟨oc26, od26, .func (PySem.W.fnOf "write_book" "write_book" (defArgs (top 26)) (defBody (top 26)) (defScope (top 26)) .none kV26 dc26 pm26 an26 cd26 ct26), sl26⟩) (c26 : PySem.W.codeIn K cd26 "write_book" = true) (k26 : PySem.W.keepIn K (.ref f26) = true)
    (a27 : PySem.W.nsIn K mainGlobals "read_book" = some (some (.ref f27))) (l27 : K.lookup f27 = some ⟨oc27, od27, .func (PySem.W.fnOf "read_book" "read_book" (defArgs (top 27)) (defBody (top 27)) (defScope (top 27)) .none kV27 dc27 pm27 an27 cd27 ct27), sl27⟩) (c27 : PySem.W.codeIn K cd27 "read_book" = true) (k27 : PySem.W.keepIn K (.ref f27) = true)
    (a28 : PySem.W.nsIn K mainGlobals "write_touch" = some (some (.ref f28))) (l28 : K.lookup f28 = some ⟨oc28, od28, .func (PySem.W.fnOf "write_touch" "write_touch" (defArgs (top 28)) (defBody (top 28)) (defScope (top 28)) .none kV28 dc28 pm28 an28 cd28 ct28), sl28⟩) (c28 : PySem.W.codeIn K cd28 "write_touch" = true) (k28 : PySem.W.keepIn K (.ref f28) = true)
    (a29 : PySem.W.nsIn K mainGlobals "read_touch" = some (some (.ref f29))) (l29 : K.lookup f29 = some ⟨oc29, od29, .func (PySem.W.fnOf "read_touch" "read_touch" (defArgs (top 29)) (defBody (top 29)) (defScope (top 29)) .none kV29 dc29 pm29 an29 cd29 ct29), sl29⟩) (c29 : PySem.W.codeIn K cd29 "read_touch" = true) (k29 : PySem.W.keepIn K (.ref f29) = true)
    (a31 : PySem.W.nsIn K mainGlobals "_law_same" = some (some (.ref f31))) (l31 : K.lookup f31 = some ⟨oc31, od31, .func (PySem.W.fnOf "_law_same" "_law_same" (defArgs (top 31)) (defBody (top 31)) (defScope (top 31)) .none kV31 dc31 pm31 an31 cd31 ct31), sl31⟩) (c31 : PySem.W.codeIn K cd31 "_law_same" = true) (k31 : PySem.W.keepIn K (.ref f31) = true)
    (a32 : PySem.W.nsIn K mainGlobals "_law_is_integer" = some (some (.ref f32))) (l32 : K.lookup f32 = some ⟨oc32, od32, .func (PySem.W.fnOf "_law_is_integer" "_law_is_integer" (defArgs (top 32)) (defBody (top 32)) (defScope (top 32)) .none kV32 dc32 pm32 an32 cd32 ct32), sl32⟩) (c32 : PySem.W.codeIn K cd32 "_law_is_integer" = true) (k32 : PySem.W.keepIn K (.ref f32) = true)
    (a33 : PySem.W.nsIn K mainGlobals "_law_pool" = some (some (.ref f33))) (l33 : K.lookup f33 = some ⟨oc33, od33, .func (PySem.W.fnOf "_law_pool" "_law_pool" (defArgs (top 33)) (defBody (top 33)) (defScope (top 33)) .none kV33 dc33 pm33 an33 cd33 ct33), sl33⟩) (c33 : PySem.W.codeIn K cd33 "_law_pool" = true) (k33 : PySem.W.keepIn K (.ref f33) = true)
    (a34 : PySem.W.nsIn K mainGlobals "_law_spread" = some (some (.ref f34))) (l34 : K.lookup f34 = some ⟨oc34, od34, .func (PySem.W.fnOf "_law_spread" "_law_spread" (defArgs (top 34)) (defBody (top 34)) (defScope (top 34)) .none kV34 dc34 pm34 an34 cd34 ct34), sl34⟩) (c34 : PySem.W.codeIn K cd34 "_law_spread" = true) (k34 : PySem.W.keepIn K (.ref f34) = true)
    (a35 : PySem.W.nsIn K mainGlobals "_law_draw" = some (some (.ref f35))) (l35 : K.lookup f35 = some ⟨oc35, od35, .func (PySem.W.fnOf "_law_draw" "_law_draw" (defArgs (top 35)) (defBody (top 35)) (defScope (top 35)) .none kV35 dc35 pm35 an35 cd35 ct35), sl35⟩) (c35 : PySem.W.codeIn K cd35 "_law_draw" = true) (k35 : PySem.W.keepIn K (.ref f35) = true)
    (a36 : PySem.W.nsIn K mainGlobals "_law_pick" = some (some (.ref f36))) (l36 : K.lookup f36 = some ⟨oc36, od36, .func (PySem.W.fnOf "_law_pick" "_law_pick" (defArgs (top 36)) (defBody (top 36)) (defScope (top 36)) .none kV36 dc36 pm36 an36 cd36 ct36), sl36⟩) (c36 : PySem.W.codeIn K cd36 "_law_pick" = true) (k36 : PySem.W.keepIn K (.ref f36) = true)
    (a37 : PySem.W.nsIn K mainGlobals "_law_decimal" = some (some (.ref f37))) (l37 : K.lookup f37 = some ⟨oc37, od37, .func (PySem.W.fnOf "_law_decimal" "_law_decimal" (defArgs (top 37)) (defBody (top 37)) (defScope (top 37)) .none kV37 dc37 pm37 an37 cd37 ct37), sl37⟩) (c37 : PySem.W.codeIn K cd37 "_law_decimal" = true) (k37 : PySem.W.keepIn K (.ref f37) = true)
    (a38 : PySem.W.nsIn K mainGlobals "_law_spoilt" = some (some (.ref f38))) (l38 : K.lookup f38 = some ⟨oc38, od38, .func (PySem.W.fnOf "_law_spoilt" "_law_spoilt" (defArgs (top 38)) (defBody (top 38)) (defScope (top 38)) .none kV38 dc38 pm38 an38 cd38 ct38), sl38⟩) (c38 : PySem.W.codeIn K cd38 "_law_spoilt" = true) (k38 : PySem.W.keepIn K (.ref f38) = true)
    (a39 : PySem.W.nsIn K mainGlobals "_law_is_number" = some (some (.ref f39))) (l39 : K.lookup f39 = some ⟨oc39, od39, .func (PySem.W.fnOf "_law_is_number" "_law_is_number" (defArgs (top 39)) (defBody (top 39)) (defScope (top 39)) .none kV39 dc39 pm39 an39 cd39 ct39), sl39⟩) (c39 : PySem.W.codeIn K cd39 "_law_is_number" = true) (k39 : PySem.W.keepIn K (.ref f39) = true)
    (a40 : PySem.W.nsIn K mainGlobals "_law_is_word" = some (some (.ref f40))) (l40 : K.lookup f40 = some ⟨oc40, od40, .func (PySem.W.fnOf "_law_is_word" "_law_is_word" (defArgs (top 40)) (defBody (top 40)) (defScope (top 40)) .none kV40 dc40 pm40 an40 cd40 ct40), sl40⟩) (c40 : PySem.W.codeIn K cd40 "_law_is_word" = true) (k40 : PySem.W.keepIn K (.ref f40) = true)
    (a41 : PySem.W.nsIn K mainGlobals "_law_spelled" = some (some (.ref f41))) (l41 : K.lookup f41 = some ⟨oc41, od41, .func (PySem.W.fnOf "_law_spelled" "_law_spelled" (defArgs (top 41)) (defBody (top 41)) (defScope (top 41)) .none kV41 dc41 pm41 an41 cd41 ct41), sl41⟩) (c41 : PySem.W.codeIn K cd41 "_law_spelled" = true) (k41 : PySem.W.keepIn K (.ref f41) = true)
    (a42 : PySem.W.nsIn K mainGlobals "_law_chain_words" = some (some (.ref f42))) (l42 : K.lookup f42 = some ⟨oc42, od42, .func (PySem.W.fnOf "_law_chain_words" "_law_chain_words" (defArgs (top 42)) (defBody (top 42)) (defScope (top 42)) .none kV42 dc42 pm42 an42 cd42 ct42), sl42⟩) (c42 : PySem.W.codeIn K cd42 "_law_chain_words" = true) (k42 : PySem.W.keepIn K (.ref f42) = true)
    (a43 : PySem.W.nsIn K mainGlobals "_law_is_change" = some (some (.ref f43))) (l43 : K.lookup f43 = some ⟨oc43, od43, .func (PySem.W.fnOf "_law_is_change" "_law_is_change" (defArgs (top 43)) (defBody (top 43)) (defScope (top 43)) .none kV43 dc43 pm43 an43 cd43 ct43), sl43⟩) (c43 : PySem.W.codeIn K cd43 "_law_is_change" = true) (k43 : PySem.W.keepIn K (.ref f43) = true)
    (a44 : PySem.W.nsIn K mainGlobals "_law_changes" = some (some (.ref f44))) (l44 : K.lookup f44 = some ⟨oc44, od44, .func (PySem.W.fnOf "_law_changes" "_law_changes" (defArgs (top 44)) (defBody (top 44)) (defScope (top 44)) .none kV44 dc44 pm44 an44 cd44 ct44), sl44⟩) (c44 : PySem.W.codeIn K cd44 "_law_changes" = true) (k44 : PySem.W.keepIn K (.ref f44) = true)
    (a45 : PySem.W.nsIn K mainGlobals "_law_piece" = some (some (.ref f45))) (l45 : K.lookup f45 = some ⟨oc45, od45, .func (PySem.W.fnOf "_law_piece" "_law_piece" (defArgs (top 45)) (defBody (top 45)) (defScope (top 45)) .none kV45 dc45 pm45 an45 cd45 ct45), sl45⟩) (c45 : PySem.W.codeIn K cd45 "_law_piece" = true) (k45 : PySem.W.keepIn K (.ref f45) = true)
    (a46 : PySem.W.nsIn K mainGlobals "_law_stage" = some (some (.ref f46))) (l46 : K.lookup f46 = some ⟨oc46, od46, .func (PySem.W.fnOf "_law_stage" "_law_stage" (defArgs (top 46)) (defBody (top 46)) (defScope (top 46)) .none kV46 dc46 pm46 an46 cd46 ct46), sl46⟩) (c46 : PySem.W.codeIn K cd46 "_law_stage" = true) (k46 : PySem.W.keepIn K (.ref f46) = true)
    (a47 : PySem.W.nsIn K mainGlobals "_law_book" = some (some (.ref f47))) (l47 : K.lookup f47 = some ⟨oc47, od47, .func (PySem.W.fnOf "_law_book" "_law_book" (defArgs (top 47)) (defBody (top 47)) (defScope (top 47)) .none kV47 dc47 pm47 an47 cd47 ct47), sl47⟩) (c47 : PySem.W.codeIn K cd47 "_law_book" = true) (k47 : PySem.W.keepIn K (.ref f47) = true)
    (a48 : PySem.W.nsIn K mainGlobals "_law_touch" = some (some (.ref f48))) (l48 : K.lookup f48 = some ⟨oc48, od48, .func (PySem.W.fnOf "_law_touch" "_law_touch" (defArgs (top 48)) (defBody (top 48)) (defScope (top 48)) .none kV48 dc48 pm48 an48 cd48 ct48), sl48⟩) (c48 : PySem.W.codeIn K cd48 "_law_touch" = true) (k48 : PySem.W.keepIn K (.ref f48) = true)
    (a49 : PySem.W.nsIn K mainGlobals "_law_piece_text" = some (some (.ref f49))) (l49 : K.lookup f49 = some ⟨oc49, od49, .func (PySem.W.fnOf "_law_piece_text" "_law_piece_text" (defArgs (top 49)) (defBody (top 49)) (defScope (top 49)) .none kV49 dc49 pm49 an49 cd49 ct49), sl49⟩) (c49 : PySem.W.codeIn K cd49 "_law_piece_text" = true) (k49 : PySem.W.keepIn K (.ref f49) = true)
    (a50 : PySem.W.nsIn K mainGlobals "_law_piece_from" = some (some (.ref f50))) (l50 : K.lookup f50 = some ⟨oc50, od50, .func (PySem.W.fnOf "_law_piece_from" "_law_piece_from" (defArgs (top 50)) (defBody (top 50)) (defScope (top 50)) .none kV50 dc50 pm50 an50 cd50 ct50), sl50⟩) (c50 : PySem.W.codeIn K cd50 "_law_piece_from" = true) (k50 : PySem.W.keepIn K (.ref f50) = true)
    (a51 : PySem.W.nsIn K mainGlobals "_law_touch_text" = some (some (.ref f51))) (l51 : K.lookup f51 = some ⟨oc51, od51, .func (PySem.W.fnOf "_law_touch_text" "_law_touch_text" (defArgs (top 51)) (defBody (top 51)) (defScope (top 51)) .none kV51 dc51 pm51 an51 cd51 ct51), sl51⟩) (c51 : PySem.W.codeIn K cd51 "_law_touch_text" = true) (k51 : PySem.W.keepIn K (.ref f51) = true)
    (a52 : PySem.W.nsIn K mainGlobals "_law_touch_from" = some (some (.ref f52))) (l52 : K.lookup f52 = some ⟨oc52, od52, .func (PySem.W.fnOf "_law_touch_from" "_law_touch_from" (defArgs (top 52)) (defBody (top 52)) (defScope (top 52)) .none kV52 dc52 pm52 an52 cd52 ct52), sl52⟩) (c52 : PySem.W.codeIn K cd52 "_law_touch_from" = true) (k52 : PySem.W.keepIn K (.ref f52) = true)
    (a53 : PySem.W.nsIn K mainGlobals "_law_read_book" = some (some (.ref f53))) (l53 : K.lookup f53 = some ⟨oc53, od53, .func (PySem.W.fnOf "_law_read_book" "_law_read_book" (defArgs (top 53)) (defBody (top 53)) (defScope (top 53)) .none kV53 dc53 pm53 an53 cd53 ct53), sl53⟩) (c53 : PySem.W.codeIn K cd53 "_law_read_book" = true) (k53 : PySem.W.keepIn K (.ref f53) = true)
    (a54 : PySem.W.nsIn K mainGlobals "_law_read_touch" = some (some (.ref f54))) (l54 : K.lookup f54 = some ⟨oc54, od54, .func (PySem.W.fnOf "_law_read_touch" "_law_read_touch" (defArgs (top 54)) (defBody (top 54)) (defScope (top 54)) .none kV54 dc54 pm54 an54 cd54 ct54), sl54⟩) (c54 : PySem.W.codeIn K cd54 "_law_read_touch" = true) (k54 : PySem.W.keepIn K (.ref f54) = true)
    (a55 : PySem.W.nsIn K mainGlobals "_law_due_book" = some (some (.ref f55))) (l55 : K.lookup f55 = some ⟨oc55, od55, .func (PySem.W.fnOf "_law_due_book" "_law_due_book" (defArgs (top 55)) (defBody (top 55)) (defScope (top 55)) .none kV55 dc55 pm55 an55 cd55 ct55), sl55⟩) (c55 : PySem.W.codeIn K cd55 "_law_due_book" = true) (k55 : PySem.W.keepIn K (.ref f55) = true)
    (a56 : PySem.W.nsIn K mainGlobals "law" = some (some (.ref f56))) (l56 : K.lookup f56 = some ⟨oc56, od56, .func (PySem.W.fnOf "law" "law" (defArgs (top 56)) (defBody (top 56)) (defScope (top 56)) .none kV56 dc56 pm56 an56 cd56 ct56), sl56⟩) (c56 : PySem.W.codeIn K cd56 "law" = true) (k56 : PySem.W.keepIn K (.ref f56) = true)
    {C_BellError C_BadText C_BadLine : Addr} (hn_x : PySem.W.specialIn K (.builtin "object.__class__") "__get__" = some (some (.builtin "getset_descriptor.__get__"))) (ht_x : PySem.W.takesIn K (.builtin "object.__class__") = some true) (z_V : PySem.W.nsIn K mainGlobals "ValueError" = some none)
    (ax_BellError : PySem.W.nsIn K mainGlobals "BellError" = some (some (.ref C_BellError))) (xhg_BellError : PySem.W.findIn K (.ref C_BellError) "__getattribute__" = some (some (.builtin "BaseException.__getattribute__"))) (xhk_BellError : PySem.W.findIn K (.ref C_BellError) "__getattr__" = some none) (xhs_BellError : PySem.W.subIn K (.ref C_BellError) (.type "BaseException") = some true) (xhd_BellError : PySem.W.hasDictIn K C_BellError = true) (xha_BellError : PySem.W.findIn K (.ref C_BellError) "__class__" = some (some (.builtin "object.__class__"))) (xhm_BellError : PySem.W.mroIn K C_BellError (.type "object") = some true) (xkp_BellError : PySem.W.keepIn K (.ref C_BellError) = true) (xty_BellError : PySem.W.typeIn K (.ref C_BellError) = some (.type "type")) (xic_BellError : PySem.W.isClsIn K C_BellError = true) (xsv_BellError : PySem.W.subIn K (.ref C_BellError) (.type "ValueError") = some true)
    (xs_BellError_BellError : PySem.W.subIn K (.ref C_BellError) (.ref C_BellError) = some true)
    (xs_BellError_BadText : PySem.W.subIn K (.ref C_BellError) (.ref C_BadText) = some false)
    (xs_BellError_BadLine : PySem.W.subIn K (.ref C_BellError) (.ref C_BadLine) = some false)
    (ax_BadText : PySem.W.nsIn K mainGlobals "BadText" = some (some (.ref C_BadText))) (xhg_BadText : PySem.W.findIn K (.ref C_BadText) "__getattribute__" = some (some (.builtin "BaseException.__getattribute__"))) (xhk_BadText : PySem.W.findIn K (.ref C_BadText) "__getattr__" = some none) (xhs_BadText : PySem.W.subIn K (.ref C_BadText) (.type "BaseException") = some true) (xhd_BadText : PySem.W.hasDictIn K C_BadText = true) (xha_BadText : PySem.W.findIn K (.ref C_BadText) "__class__" = some (some (.builtin "object.__class__"))) (xhm_BadText : PySem.W.mroIn K C_BadText (.type "object") = some true) (xkp_BadText : PySem.W.keepIn K (.ref C_BadText) = true) (xty_BadText : PySem.W.typeIn K (.ref C_BadText) = some (.type "type")) (xic_BadText : PySem.W.isClsIn K C_BadText = true) (xsv_BadText : PySem.W.subIn K (.ref C_BadText) (.type "ValueError") = some true)
    (xs_BadText_BellError : PySem.W.subIn K (.ref C_BadText) (.ref C_BellError) = some true)
    (xs_BadText_BadText : PySem.W.subIn K (.ref C_BadText) (.ref C_BadText) = some true)
    (xs_BadText_BadLine : PySem.W.subIn K (.ref C_BadText) (.ref C_BadLine) = some false)
    (ax_BadLine : PySem.W.nsIn K mainGlobals "BadLine" = some (some (.ref C_BadLine))) (xhg_BadLine : PySem.W.findIn K (.ref C_BadLine) "__getattribute__" = some (some (.builtin "BaseException.__getattribute__"))) (xhk_BadLine : PySem.W.findIn K (.ref C_BadLine) "__getattr__" = some none) (xhs_BadLine : PySem.W.subIn K (.ref C_BadLine) (.type "BaseException") = some true) (xhd_BadLine : PySem.W.hasDictIn K C_BadLine = true) (xha_BadLine : PySem.W.findIn K (.ref C_BadLine) "__class__" = some (some (.builtin "object.__class__"))) (xhm_BadLine : PySem.W.mroIn K C_BadLine (.type "object") = some true) (xkp_BadLine : PySem.W.keepIn K (.ref C_BadLine) = true) (xty_BadLine : PySem.W.typeIn K (.ref C_BadLine) = some (.type "type")) (xic_BadLine : PySem.W.isClsIn K C_BadLine = true) (xsv_BadLine : PySem.W.subIn K (.ref C_BadLine) (.type "ValueError") = some true)
    (xs_BadLine_BellError : PySem.W.subIn K (.ref C_BadLine) (.ref C_BellError) = some true)
    (xs_BadLine_BadText : PySem.W.subIn K (.ref C_BadLine) (.ref C_BadText) = some false)
    (xs_BadLine_BadLine : PySem.W.subIn K (.ref C_BadLine) (.ref C_BadLine) = some true)
    (xc_BadText : PySem.W.excIn K C_BadText [Value.type "ValueError", .type "Exception", .type "BaseException", .type "object"] "ValueError.__new__" = true)
    {t_LETTERS : Tok} (g_LETTERS : PySem.W.nsIn K mainGlobals "LETTERS" = some (some (.str "abcdefghijklmnopqrstuvwxyz" t_LETTERS)))
    {t_MOST_CHANGES : Tok} (g_MOST_CHANGES : PySem.W.nsIn K mainGlobals "MOST_CHANGES" = some (some (.int 5040 t_MOST_CHANGES)))
    {t_MOST_LEADS : Tok} (g_MOST_LEADS : PySem.W.nsIn K mainGlobals "MOST_LEADS" = some (some (.int 200 t_MOST_LEADS)))
    {t_DIGITS : Tok} (g_DIGITS : PySem.W.nsIn K mainGlobals "DIGITS" = some (some (.str "0123456789" t_DIGITS)))
    {fI cc cda ndB : Addr} {odI anI cdd cld ddB : Option Addr} {slI ccs csl : Array (Option Value)} {ocI kVI dcI pmI ctI ccl cl : Value} {nmB qnB : Str} {bsB bmB : List Value} {snB : List Str} {sbB : List Value} {abB : Bool} {coB : Option Bool} {s0B s1B s2B s3B s5B : Option Value} {vsI : Array Value} {flI : Str} {tfI : Tok}
    (aI : PySem.W.findIn K (.ref C_BadLine) "__init__" = some (some (.ref fI))) (tI : PySem.W.typeIn K (.ref fI) = some (.type "function")) (lI : K.lookup fI = some ⟨ocI, odI, .func (PySem.W.ksFn "__init__" "BadLine.__init__" (defArgs (inClass (top 9) 0)) (defBody (inClass (top 9) 0)) (defScope (inClass (top 9) 0)) .none kVI dcI pmI anI (.ref cda) ctI cc), slI⟩) (cI : PySem.W.codeIn K (.ref cda) "BadLine.__init__" = true)
    (lcB : K.lookup C_BadLine = some (excClassObj nmB qnB C_BadLine ndB bsB bmB true snB sbB abB coB ddB s0B s1B s2B s3B s5B "ValueError.__new__")) (rvB : PySem.HandSPX.refsVE bmB = true) (saB : PySem.W.findIn K (.ref C_BadLine) "__setattr__" = some (some (.builtin "object.__setattr__")))
    (spB : PySem.W.ks_superIn K C_BadLine C_BadLine "__init__" = some (some (.builtin "ValueError.__init__"))) (mrB : PySem.W.mroIn K C_BadLine (.ref C_BadLine) = some true) (stB : PySem.W.nsIn K cStatics "thirdparty.any" = some none) (zsB : PySem.W.nsIn K mainGlobals "super" = some none) (nlB : PySem.W.findIn K (.ref C_BadLine) "line" = some none)
    (ccB : K.lookup cc = some ⟨cl, cld, .cell (some (.ref C_BadLine)), csl⟩) (cdB : K.lookup cda = some ⟨ccl, cdd, .fields vsI, ccs⟩) (v2B : vsI[2]? = some (.str flI tfI)) (flB : ((l.prog.main.file : Str) == flI) = true) (tpB : (l.prog.main.scope.names.lookup ("super" : Str)).isSome = false)
    (z_len : PySem.W.nsIn K mainGlobals "len" = some none)
    (z_range : PySem.W.nsIn K mainGlobals "range" = some none)
    (z_tuple : PySem.W.nsIn K mainGlobals "tuple" = some none)
    (z_list : PySem.W.nsIn K mainGlobals "list" = some none)
    (z_int : PySem.W.nsIn K mainGlobals "int" = some none)
    (z_bool : PySem.W.nsIn K mainGlobals "bool" = some none)
    (z_str : PySem.W.nsIn K mainGlobals "str" = some none)
    (z_dict : PySem.W.nsIn K mainGlobals "dict" = some none)
    (z_set : PySem.W.nsIn K mainGlobals "set" = some none)
    (z_sorted : PySem.W.nsIn K mainGlobals "sorted" = some none)
    (z_isinstance : PySem.W.nsIn K mainGlobals "isinstance" = some none)
    (z_all : PySem.W.nsIn K mainGlobals "all" = some none)
    (z_any : PySem.W.nsIn K mainGlobals "any" = some none)
    (z_abs : PySem.W.nsIn K mainGlobals "abs" = some none)
    (z_max : PySem.W.nsIn K mainGlobals "max" = some none)
    (z_min : PySem.W.nsIn K mainGlobals "min" = some none)
    (z_sum : PySem.W.nsIn K mainGlobals "sum" = some none)
    (z_repr : PySem.W.nsIn K mainGlobals "repr" = some none)
    (z_zip : PySem.W.nsIn K mainGlobals "zip" = some none)
    (z_type : PySem.W.nsIn K mainGlobals "type" = some none) :
    ∃ fd : FuncData, (∀ (s : Shared) (v : Value), BindsTo s fd ⟨[v], []⟩ [("script", v)]) ∧ ∀ base : Heap, K.In base → base.Ns mainGlobals mg → RunAt l.prog w K mg base callerA fa fd ["script"] (spLaw K) := by
  have e := hfa.symm.trans (PySem.W.mg_of X G a56)
  cases e
  have B : Bt mg := ⟨PySem.W.mg_none_of X G z_len, PySem.W.mg_none_of X G z_range, PySem.W.mg_none_of X G z_tuple, PySem.W.mg_none_of X G z_list, PySem.W.mg_none_of X G z_int, PySem.W.mg_none_of X G z_bool, PySem.W.mg_none_of X G z_str, PySem.W.mg_none_of X G z_dict, PySem.W.mg_none_of X G z_set, PySem.W.mg_none_of X G z_sorted, PySem.W.mg_none_of X G z_isinstance, PySem.W.mg_none_of X G z_all, PySem.W.mg_none_of X G z_any, PySem.W.mg_none_of X G z_abs, PySem.W.mg_none_of X G z_max, PySem.W.mg_none_of X G z_min, PySem.W.mg_none_of X G z_sum, PySem.W.mg_none_of X G z_repr, PySem.W.mg_none_of X G z_zip, PySem.W.mg_none_of X G z_type⟩
  have C_LETTERS : ∃ t, mg "LETTERS" = some (.str "abcdefghijklmnopqrstuvwxyz" t) := ⟨_, PySem.W.mg_of X G g_LETTERS⟩
  have C_MOST_CHANGES : ∃ t, mg "MOST_CHANGES" = some (.int 5040 t) := ⟨_, PySem.W.mg_of X G g_MOST_CHANGES⟩
  have C_MOST_LEADS : ∃ t, mg "MOST_LEADS" = some (.int 200 t) := ⟨_, PySem.W.mg_of X G g_MOST_LEADS⟩
  have C_DIGITS : ∃ t, mg "DIGITS" = some (.str "0123456789" t) := ⟨_, PySem.W.mg_of X G g_DIGITS⟩
  have F2 := fun_mk (st := (top 2)) l2 c2 k2
  have b2 := F2.binds (ps := ["value"]) fun _ _ _ _ _ _ us hl => match us, hl with | [_], _ => rfl
  have m2 := PySem.W.mg_of X G a2
  have F3 := fun_mk (st := (top 3)) l3 c3 k3
  have b3 := F3.binds (ps := ["value", "low", "high"]) fun _ _ _ _ _ _ us hl => match us, hl with | [_, _, _], _ => rfl
  have m3 := PySem.W.mg_of X G a3
  have F4 := fun_mk (st := (top 4)) l4 c4 k4
  have b4 := F4.binds (ps := ["value"]) fun _ _ _ _ _ _ us hl => match us, hl with | [_], _ => rfl
  have m4 := PySem.W.mg_of X G a4
  have F5 := fun_mk (st := (top 5)) l5 c5 k5
  have b5 := F5.binds (ps := ["items"]) fun _ _ _ _ _ _ us hl => match us, hl with | [_], _ => rfl
  have m5 := PySem.W.mg_of X G a5
  have F11 := fun_mk (st := (top 11)) l11 c11 k11
  have b11 := F11.binds (ps := ["stage", "value"]) fun _ _ _ _ _ _ us hl => match us, hl with | [_, _], _ => rfl
  have m11 := PySem.W.mg_of X G a11
  have F14 := fun_mk (st := (top 14)) l14 c14 k14
  have b14 := F14.binds (ps := ["stage", "value"]) fun _ _ _ _ _ _ us hl => match us, hl with | [_, _], _ => rfl
  have m14 := PySem.W.mg_of X G a14
  have F17 := fun_mk (st := (top 17)) l17 c17 k17
  have b17 := F17.binds (ps := ["stage", "value"]) fun _ _ _ _ _ _ us hl => match us, hl with | [_, _], _ => rfl
  have m17 := PySem.W.mg_of X G a17
  have F20 := fun_mk (st := (top 20)) l20 c20 k20
  have b20 := F20.binds (ps := ["text"]) fun _ _ _ _ _ _ us hl => match us, hl with | [_], _ => rfl
  have m20 := PySem.W.mg_of X G a20
  have F21 := fun_mk (st := (top 21)) l21 c21 k21
  have b21 := F21.binds (ps := ["change"]) fun _ _ _ _ _ _ us hl => match us, hl with | [_], _ => rfl
  have m21 := PySem.W.mg_of X G a21
  have F22 := fun_mk (st := (top 22)) l22 c22 k22
  have b22 := F22.binds (ps := ["piece"]) fun _ _ _ _ _ _ us hl => match us, hl with | [_], _ => rfl
  have m22 := PySem.W.mg_of X G a22
  have F23 := fun_mk (st := (top 23)) l23 c23 k23
  have b23 := F23.binds (ps := ["text"]) fun _ _ _ _ _ _ us hl => match us, hl with | [_], _ => rfl
  have m23 := PySem.W.mg_of X G a23
  have F24 := fun_mk (st := (top 24)) l24 c24 k24
  have b24 := F24.binds (ps := ["stage", "text"]) fun _ _ _ _ _ _ us hl => match us, hl with | [_, _], _ => rfl
  have m24 := PySem.W.mg_of X G a24
  have F25 := fun_mk (st := (top 25)) l25 c25 k25
  have b25 := F25.binds (ps := ["pair"]) fun _ _ _ _ _ _ us hl => match us, hl with | [_], _ => rfl
  have m25 := PySem.W.mg_of X G a25
  have F26 := fun_mk (st := (top 26)) l26 c26 k26
  have b26 := F26.binds (ps := ["book"]) fun _ _ _ _ _ _ us hl => match us, hl with | [_], _ => rfl
  have m26 := PySem.W.mg_of X G a26
  have F27 := fun_mk (st := (top 27)) l27 c27 k27
  have b27 := F27.binds (ps := ["stage", "text"]) fun _ _ _ _ _ _ us hl => match us, hl with | [_, _], _ => rfl
  have m27 := PySem.W.mg_of X G a27
  have F28 := fun_mk (st := (top 28)) l28 c28 k28
  have b28 := F28.binds (ps := ["touch"]) fun _ _ _ _ _ _ us hl => match us, hl with | [_], _ => rfl
  have m28 := PySem.W.mg_of X G a28
  have F29 := fun_mk (st := (top 29)) l29 c29 k29
  have b29 := F29.binds (ps := ["text"]) fun _ _ _ _ _ _ us hl => match us, hl with | [_], _ => rfl
  have m29 := PySem.W.mg_of X G a29
  have F31 := fun_mk (st := (top 31)) l31 c31 k31
  have b31 := F31.binds (ps := ["actual", "due"]) fun _ _ _ _ _ _ us hl => match us, hl with | [_, _], _ => rfl
  have m31 := PySem.W.mg_of X G a31
  have F32 := fun_mk (st := (top 32)) l32 c32 k32
  have b32 := F32.binds (ps := ["actual"]) fun _ _ _ _ _ _ us hl => match us, hl with | [_], _ => rfl
  have m32 := PySem.W.mg_of X G a32
  have F33 := fun_mk (st := (top 33)) l33 c33 k33
  have b33 := F33.binds (ps := ["script"]) fun _ _ _ _ _ _ us hl => match us, hl with | [_], _ => rfl
  have m33 := PySem.W.mg_of X G a33
  have F34 := fun_mk (st := (top 34)) l34 c34 k34
  have b34 := F34.binds (ps := ["cell"]) fun _ _ _ _ _ _ us hl => match us, hl with | [_], _ => rfl
  have m34 := PySem.W.mg_of X G a34
  have F35 := fun_mk (st := (top 35)) l35 c35 k35
  have b35 := F35.binds (ps := ["pool", "many"]) fun _ _ _ _ _ _ us hl => match us, hl with | [_, _], _ => rfl
  have m35 := PySem.W.mg_of X G a35
  have F36 := fun_mk (st := (top 36)) l36 c36 k36
  have b36 := F36.binds (ps := ["pool", "items"]) fun _ _ _ _ _ _ us hl => match us, hl with | [_, _], _ => rfl
  have m36 := PySem.W.mg_of X G a36
  have F37 := fun_mk (st := (top 37)) l37 c37 k37
  have b37 := F37.binds (ps := ["text"]) fun _ _ _ _ _ _ us hl => match us, hl with | [_], _ => rfl
  have m37 := PySem.W.mg_of X G a37
  have F38 := fun_mk (st := (top 38)) l38 c38 k38
  have b38 := F38.binds (ps := ["pool", "text", "signs"]) fun _ _ _ _ _ _ us hl => match us, hl with | [_, _, _], _ => rfl
  have m38 := PySem.W.mg_of X G a38
  have F39 := fun_mk (st := (top 39)) l39 c39 k39
  have b39 := F39.binds (ps := ["value", "top"]) fun _ _ _ _ _ _ us hl => match us, hl with | [_, _], _ => rfl
  have m39 := PySem.W.mg_of X G a39
  have F40 := fun_mk (st := (top 40)) l40 c40 k40
  have b40 := F40.binds (ps := ["value"]) fun _ _ _ _ _ _ us hl => match us, hl with | [_], _ => rfl
  have m40 := PySem.W.mg_of X G a40
  have F41 := fun_mk (st := (top 41)) l41 c41 k41
  have b41 := F41.binds (ps := ["number"]) fun _ _ _ _ _ _ us hl => match us, hl with | [_], _ => rfl
  have m41 := PySem.W.mg_of X G a41
  have F42 := fun_mk (st := (top 42)) l42 c42 k42
  have b42 := F42.binds (ps := ["pool", "many"]) fun _ _ _ _ _ _ us hl => match us, hl with | [_, _], _ => rfl
  have m42 := PySem.W.mg_of X G a42
  have F43 := fun_mk (st := (top 43)) l43 c43 k43
  have b43 := F43.binds (ps := ["stage", "value"]) fun _ _ _ _ _ _ us hl => match us, hl with | [_, _], _ => rfl
  have m43 := PySem.W.mg_of X G a43
  have F44 := fun_mk (st := (top 44)) l44 c44 k44
  have b44 := F44.binds (ps := ["stage"]) fun _ _ _ _ _ _ us hl => match us, hl with | [_], _ => rfl
  have m44 := PySem.W.mg_of X G a44
  have F45 := fun_mk (st := (top 45)) l45 c45 k45
  have b45 := F45.binds (ps := ["pool", "stage", "most"]) fun _ _ _ _ _ _ us hl => match us, hl with | [_, _, _], _ => rfl
  have m45 := PySem.W.mg_of X G a45
  have F46 := fun_mk (st := (top 46)) l46 c46 k46
  have b46 := F46.binds (ps := ["pool", "most"]) fun _ _ _ _ _ _ us hl => match us, hl with | [_, _], _ => rfl
  have m46 := PySem.W.mg_of X G a46
  have F47 := fun_mk (st := (top 47)) l47 c47 k47
  have b47 := F47.binds (ps := ["pool", "stage", "many", "most"]) fun _ _ _ _ _ _ us hl => match us, hl with | [_, _, _, _], _ => rfl
  have m47 := PySem.W.mg_of X G a47
  have F48 := fun_mk (st := (top 48)) l48 c48 k48
  have b48 := F48.binds (ps := ["pool", "book", "most"]) fun _ _ _ _ _ _ us hl => match us, hl with | [_, _, _], _ => rfl
  have m48 := PySem.W.mg_of X G a48
  have F49 := fun_mk (st := (top 49)) l49 c49 k49
  have b49 := F49.binds (ps := ["piece"]) fun _ _ _ _ _ _ us hl => match us, hl with | [_], _ => rfl
  have m49 := PySem.W.mg_of X G a49
  have F50 := fun_mk (st := (top 50)) l50 c50 k50
  have b50 := F50.binds (ps := ["stage", "text"]) fun _ _ _ _ _ _ us hl => match us, hl with | [_, _], _ => rfl
  have m50 := PySem.W.mg_of X G a50
  have F51 := fun_mk (st := (top 51)) l51 c51 k51
  have b51 := F51.binds (ps := ["touch"]) fun _ _ _ _ _ _ us hl => match us, hl with | [_], _ => rfl
  have m51 := PySem.W.mg_of X G a51
  have F52 := fun_mk (st := (top 52)) l52 c52 k52
  have b52 := F52.binds (ps := ["text"]) fun _ _ _ _ _ _ us hl => match us, hl with | [_], _ => rfl
  have m52 := PySem.W.mg_of X G a52
  have F53 := fun_mk (st := (top 53)) l53 c53 k53
  have b53 := F53.binds (ps := ["stage", "text"]) fun _ _ _ _ _ _ us hl => match us, hl with | [_, _], _ => rfl
  have m53 := PySem.W.mg_of X G a53
  have F54 := fun_mk (st := (top 54)) l54 c54 k54
  have b54 := F54.binds (ps := ["text"]) fun _ _ _ _ _ _ us hl => match us, hl with | [_], _ => rfl
  have m54 := PySem.W.mg_of X G a54
  have F55 := fun_mk (st := (top 55)) l55 c55 k55
  have b55 := F55.binds (ps := ["stage", "lines"]) fun _ _ _ _ _ _ us hl => match us, hl with | [_, _], _ => rfl
  have m55 := PySem.W.mg_of X G a55
  have F56 := fun_mk (st := (top 56)) l56 c56 k56
  have m56 := PySem.W.mg_of X G a56
  have zV := PySem.W.mg_none_of X G z_V
  have mC_BellError := PySem.W.mg_of X G ax_BellError
  have xA_BellError : ExA K C_BellError := ⟨xhg_BellError, xhk_BellError, xhs_BellError, xhd_BellError, xha_BellError, xhm_BellError, xkp_BellError, xty_BellError, xic_BellError, xsv_BellError, xs_BellError_BellError⟩
  have iL_BellError : ("BellError" : Str) ∈ (["BellError", "BadText", "BadLine"] : List Str) := by simp
  have mC_BadText := PySem.W.mg_of X G ax_BadText
  have xA_BadText : ExA K C_BadText := ⟨xhg_BadText, xhk_BadText, xhs_BadText, xhd_BadText, xha_BadText, xhm_BadText, xkp_BadText, xty_BadText, xic_BadText, xsv_BadText, xs_BadText_BadText⟩
  have iL_BadText : ("BadText" : Str) ∈ (["BellError", "BadText", "BadLine"] : List Str) := by simp
  have mC_BadLine := PySem.W.mg_of X G ax_BadLine
  have xA_BadLine : ExA K C_BadLine := ⟨xhg_BadLine, xhk_BadLine, xhs_BadLine, xhd_BadLine, xha_BadLine, xhm_BadLine, xkp_BadLine, xty_BadLine, xic_BadLine, xsv_BadLine, xs_BadLine_BadLine⟩
  have iL_BadLine : ("BadLine" : Str) ∈ (["BellError", "BadText", "BadLine"] : List Str) := by simp
  have rX_BadText : RaisC K C_BadText := ⟨xc_BadText, xkp_BadText, xhs_BadText, xty_BadText⟩
  have BLC : BlC l.prog K mg C_BadLine fI cc cda := ⟨⟨⟨_, _, _, _, _, _, _, _, _, _, _, _, _, _, _, lcB, rvB⟩, saB, xhs_BadLine, xty_BadLine, xkp_BadLine⟩, spB, xsv_BadLine, mrB, stB, PySem.W.mg_none_of X G zsB, nlB, ⟨_, _, _, ccB⟩, ⟨_, _, _, _, _, _, cdB, v2B, flB⟩, tpB⟩
  have bI : Binds K (PySem.W.ksFn "__init__" "BadLine.__init__" (defArgs (inClass (top 9) 0)) (defBody (inClass (top 9) 0)) (defScope (inClass (top 9) 0)) .none kVI dcI pmI anI (.ref cda) ctI cc) ["self", "line"] [] := .all fun us hl => match us, hl with | [_, _], _ => rfl
  have ET := et_mk hn_x ht_x mC_BellError xA_BellError mC_BadText xA_BadText mC_BadLine xA_BadLine xs_BellError_BellError xs_BellError_BadText xs_BellError_BadLine xs_BadText_BellError xs_BadText_BadText xs_BadText_BadLine xs_BadLine_BellError xs_BadLine_BadText xs_BadLine_BadLine
  refine ⟨PySem.W.fnOf "law" "law" (defArgs (top 56)) (defBody (top 56)) (defScope (top 56)) .none kV56 dc56 pm56 an56 cd56 ct56, fun s v => .of_eq rfl, fun base _ _ => ?_⟩
  have Gp := pool_fn (P := l.prog) (w := w) (mg := mg) (base := base) F33 sc_pool (fun cdv Ar outer s H E => d_pool B)
  have Gs : DFn l.prog w K mg base amb0 1 "_law_spread" ["cell"] S_spread := .mk' F34 m34 b34 sc_L_spread (fun xs s P h => len_spread h) (fun cdv Ar outer s H E hr Nt => d_L_spread B hr Nt) fun ds s Q h => p_L_spread h
  obtain ⟨gs, gsd, gm, gk, gb, gF⟩ := Gs.fn
  have G_L_draw : ∀ a : Addr, DFn l.prog w K mg base (poolA a) 2 "_law_draw" ["pool", "many"] (S_draw a) := fun a => draw_fn (g := gs) (gd := gsd) F35 m35 b35 sc_draw fun cdv Ar outer s H E hr => d_draw B gF gm gk gb hr
  have G_is_whole : ∀ a : Addr, DFn l.prog w K mg base (poolA a) 1 "is_whole" ["value"] (S_is_whole) := fun a => .mk' F2 m2 b2 sc_is_whole (fun xs s P h => len_is_whole h) (fun cdv Ar outer s H E hr Nt => d_is_whole B  hr Nt) fun ds s Q h => p_is_whole h
  have G_is_from : ∀ a : Addr, DFn l.prog w K mg base (poolA a) 2 "is_from" ["value", "low", "high"] (S_is_from) := fun a => .mk' F3 m3 b3 sc_is_from (fun xs s P h => len_is_from h) (fun cdv Ar outer s H E hr Nt => d_is_from B (G_is_whole a) (by show 1 ≤ 1; omega) hr Nt) fun ds s Q h => p_is_from h
  have G_is_word : ∀ a : Addr, DFn l.prog w K mg base (poolA a) 1 "is_word" ["value"] (S_is_word) := fun a => .mk' F4 m4 b4 sc_is_word (fun xs s P h => len_is_word h) (fun cdv Ar outer s H E hr Nt => d_is_word B C_LETTERS  hr Nt) fun ds s Q h => p_is_word h
  have G_is_ascending : ∀ a : Addr, DFn l.prog w K mg base (poolA a) 1 "is_ascending" ["items"] (S_is_ascending) := fun a => .mk' F5 m5 b5 sc_is_ascending (fun xs s P h => len_is_ascending h) (fun cdv Ar outer s H E hr Nt => d_is_ascending B  hr Nt) fun ds s Q h => p_is_ascending h
  have G_is_change : ∀ a : Addr, DFn l.prog w K mg base (poolA a) 3 "is_change" ["stage", "value"] (S_is_change) := fun a => .mk' F11 m11 b11 sc_is_change (fun xs s P h => len_is_change h) (fun cdv Ar outer s H E hr Nt => d_is_change B (G_is_ascending a) (by show 1 ≤ 2; omega) (G_is_from a) (by show 2 ≤ 2; omega) hr Nt) fun ds s Q h => p_is_change h
  have G_is_piece : ∀ a : Addr, DFn l.prog w K mg base (poolA a) 4 "is_piece" ["stage", "value"] (S_is_piece) := fun a => .mk' F14 m14 b14 sc_is_piece (fun xs s P h => len_is_piece h) (fun cdv Ar outer s H E hr Nt => d_is_piece B C_MOST_CHANGES (G_is_change a) (by show 3 ≤ 3; omega) hr Nt) fun ds s Q h => p_is_piece h
  have G_is_book : ∀ a : Addr, DFn l.prog w K mg base (poolA a) 5 "is_book" ["stage", "value"] (S_is_book) := fun a => .mk' F17 m17 b17 sc_is_book (fun xs s P h => len_is_book h) (fun cdv Ar outer s H E hr Nt => d_is_book B (G_is_ascending a) (by show 1 ≤ 4; omega) (G_is_piece a) (by show 4 ≤ 4; omega) (G_is_word a) (by show 1 ≤ 4; omega) hr Nt) fun ds s Q h => p_is_book h
  have G_read_number : ∀ a : Addr, DFnX l.prog w K mg base (poolA a) ["BellError", "BadText", "BadLine"] 1 "read_number" ["text"] (S_read_number) := fun a => .mk' F20 m20 b20 sc_read_number (fun xs s P R h => len_read_number h) (fun cdv Ar outer s H E hr Nt W tk ps => d_read_number B C_DIGITS ET iL_BadText mC_BadText rX_BadText  hr Nt W tk ps) fun ds s Q R h => p_read_number h
  have G_write_change : ∀ a : Addr, DFn l.prog w K mg base (poolA a) 1 "write_change" ["change"] (S_write_change) := fun a => .mk' F21 m21 b21 sc_write_change (fun xs s P h => len_write_change h) (fun cdv Ar outer s H E hr Nt => d_write_change B  hr Nt) fun ds s Q h => p_write_change h
  have G_write_piece : ∀ a : Addr, DFn l.prog w K mg base (poolA a) 2 "write_piece" ["piece"] (S_write_piece) := fun a => .mk' F22 m22 b22 sc_write_piece (fun xs s P h => len_write_piece h) (fun cdv Ar outer s H E hr Nt => d_write_piece B (G_write_change a) (by show 1 ≤ 1; omega) hr Nt) fun ds s Q h => p_write_piece h
  have G_items_of : ∀ a : Addr, DFn l.prog w K mg base (poolA a) 1 "items_of" ["text"] (S_items_of) := fun a => .mk' F23 m23 b23 sc_items_of (fun xs s P h => len_items_of h) (fun cdv Ar outer s H E hr Nt => d_items_of B C_DIGITS  hr Nt) fun ds s Q h => p_items_of h
  have G_read_piece : ∀ a : Addr, DFnXN l.prog w K mg base (poolA a) ["BellError", "BadText", "BadLine"] 5 "read_piece" ["stage", "text"] (S_read_piece) := fun a => .mk' F24 m24 b24 sc_read_piece (fun xs s P R h => len_read_piece h) (fun cdv Ar outer s H E hr Nt W tk ps => d_read_piece B C_DIGITS ET iL_BadText mC_BadText rX_BadText (G_items_of a) (by show 1 ≤ 4; omega) (G_is_piece a) (by show 4 ≤ 4; omega) (G_write_piece a) (by show 2 ≤ 4; omega) hr Nt W tk ps) fun ds s Q R h => p_read_piece h
  have G_write_lead : ∀ a : Addr, DFn l.prog w K mg base (poolA a) 3 "write_lead" ["pair"] (S_write_lead) := fun a => .mk' F25 m25 b25 sc_write_lead (fun xs s P h => len_write_lead h) (fun cdv Ar outer s H E hr Nt => d_write_lead B (G_write_piece a) (by show 2 ≤ 2; omega) hr Nt) fun ds s Q h => p_write_lead h
  have G_write_book : ∀ a : Addr, DFn l.prog w K mg base (poolA a) 4 "write_book" ["book"] (S_write_book) := fun a => .mk' F26 m26 b26 sc_write_book (fun xs s P h => len_write_book h) (fun cdv Ar outer s H E hr Nt => d_write_book B (G_write_lead a) (by show 3 ≤ 3; omega) hr Nt) fun ds s Q h => p_write_book h
  have G_read_book : ∀ a : Addr, DFnL l.prog w K mg base (poolA a) C_BadLine 6 "read_book" ["stage", "text"] (S_read_book) := fun a => .mk' F27 m27 b27 sc_read_book (fun xs s P R h => len_read_book h) (fun cdv Ar outer s H E hr Nt W tk ps hpa => d_read_book B ET iL_BadText mC_BadText iL_BadLine mC_BadLine rX_BadText (G_is_book a) (by show 5 ≤ 5; omega) (G_read_piece a) (by show 5 ≤ 5; omega) hr Nt W tk ps hpa BLC aI tI (bl_fn BLC lI cI ⟨_, rfl, rfl⟩) bI (by show 2 ≤ 5; omega)) fun ds s Q R h => p_read_book h
  have G_write_touch : ∀ a : Addr, DFn l.prog w K mg base (poolA a) 1 "write_touch" ["touch"] (S_write_touch) := fun a => .mk' F28 m28 b28 sc_write_touch (fun xs s P h => len_write_touch h) (fun cdv Ar outer s H E hr Nt => d_write_touch B  hr Nt) fun ds s Q h => p_write_touch h
  have G_read_touch : ∀ a : Addr, DFnX l.prog w K mg base (poolA a) ["BellError", "BadText", "BadLine"] 2 "read_touch" ["text"] (S_read_touch) := fun a => .mk' F29 m29 b29 sc_read_touch (fun xs s P R h => len_read_touch h) (fun cdv Ar outer s H E hr Nt W tk ps => d_read_touch B C_MOST_LEADS ET iL_BadText mC_BadText rX_BadText (G_read_number a) (by show 1 ≤ 1; omega) (G_is_word a) (by show 1 ≤ 1; omega) (G_write_touch a) (by show 1 ≤ 1; omega) hr Nt W tk ps) fun ds s Q R h => p_read_touch h
  have R_L_same : ∀ (a : Addr) (n : Nat), DFn l.prog w K mg base (poolA a) (0 + n) "_law_same" ["actual", "due"] (S_same n) := fun a n => by
    induction n with
    | zero => exact (DFn.zero F31 m31 b31 fun ds s Q h => no_L_same h).mono (Nat.zero_le _)
    | succ n ih => exact .mk' F31 m31 b31 sc_L_same (fun xs s P h => len_L_same h) (fun cdv Ar outer s H E hr Nt => d_L_same B ih (Nat.le_refl _) hr Nt) fun ds s Q h => p_L_same h
  have G_L_same := fun a : Addr => R_L_same a 10
  have G_L_is_integer : ∀ a : Addr, DFn l.prog w K mg base (poolA a) 1 "_law_is_integer" ["actual"] (S_is_whole) := fun a => .mk' F32 m32 b32 sc_L_is_integer (fun xs s P h => len_L_is_integer h) (fun cdv Ar outer s H E hr Nt => d_L_is_integer B  hr Nt) fun ds s Q h => p_L_is_integer h
  have G_L_pick : ∀ a : Addr, DFn l.prog w K mg base (poolA a) 3 "_law_pick" ["pool", "items"] (S_L_pick a) := fun a => .mk' F36 m36 b36 sc_L_pick (fun xs s P h => len_L_pick h) (fun cdv Ar outer s H E hr Nt => d_L_pick B (G_L_draw a) (by show 2 ≤ 2; omega) hr Nt) fun ds s Q h => p_L_pick h
  have G_L_decimal : ∀ a : Addr, DFn l.prog w K mg base (poolA a) 1 "_law_decimal" ["text"] (S_L_decimal) := fun a => .mk' F37 m37 b37 sc_L_decimal (fun xs s P h => len_L_decimal h) (fun cdv Ar outer s H E hr Nt => d_L_decimal B  hr Nt) fun ds s Q h => p_L_decimal h
  have G_L_spoilt : ∀ a : Addr, DFn l.prog w K mg base (poolA a) 4 "_law_spoilt" ["pool", "text", "signs"] (S_L_spoilt2 a) := fun a => .mk' F38 m38 b38 sc_L_spoilt (fun xs s P h => len_L_spoilt2 h) (fun cdv Ar outer s H E hr Nt => d_L_spoilt B (G_L_draw a) (by show 2 ≤ 3; omega) (G_L_pick a) (by show 3 ≤ 3; omega) hr Nt) fun ds s Q h => p_L_spoilt2 h
  have G_L_is_number : ∀ a : Addr, DFn l.prog w K mg base (poolA a) 2 "_law_is_number" ["value", "top"] (S_L_is_number) := fun a => .mk' F39 m39 b39 sc_L_is_number (fun xs s P h => len_L_is_number h) (fun cdv Ar outer s H E hr Nt => d_L_is_number B (G_L_is_integer a) (by show 1 ≤ 1; omega) hr Nt) fun ds s Q h => p_L_is_number h
  have G_L_is_word : ∀ a : Addr, DFn l.prog w K mg base (poolA a) 1 "_law_is_word" ["value"] (S_is_word) := fun a => .mk' F40 m40 b40 sc_L_is_word (fun xs s P h => len_L_is_word h) (fun cdv Ar outer s H E hr Nt => d_L_is_word B  hr Nt) fun ds s Q h => p_L_is_word h
  have G_L_spelled : ∀ a : Addr, DFn l.prog w K mg base (poolA a) 1 "_law_spelled" ["number"] (S_L_spelled3) := fun a => .mk' F41 m41 b41 sc_L_spelled (fun xs s P h => len_L_spelled3 h) (fun cdv Ar outer s H E hr Nt => d_L_spelled B  hr Nt) fun ds s Q h => p_L_spelled3 h
  have G_L_chain_words : ∀ a : Addr, DFn l.prog w K mg base (poolA a) 3 "_law_chain_words" ["pool", "many"] (S_L_chain_words4 a) := fun a => .mk' F42 m42 b42 sc_L_chain_words (fun xs s P h => len_L_chain_words4 h) (fun cdv Ar outer s H E hr Nt => d_L_chain_words B (G_L_spelled a) (by show 1 ≤ 2; omega) (G_L_draw a) (by show 2 ≤ 2; omega) hr Nt) fun ds s Q h => p_L_chain_words4 h
  have G_L_is_change : ∀ a : Addr, DFn l.prog w K mg base (poolA a) 3 "_law_is_change" ["stage", "value"] (S_L_is_change) := fun a => .mk' F43 m43 b43 sc_L_is_change (fun xs s P h => len_L_is_change h) (fun cdv Ar outer s H E hr Nt => d_L_is_change B (G_L_is_number a) (by show 2 ≤ 2; omega) hr Nt) fun ds s Q h => p_L_is_change h
  have G_L_changes : ∀ a : Addr, DFn l.prog w K mg base (poolA a) 4 "_law_changes" ["stage"] (S_changes_of) := fun a => .mk' F44 m44 b44 sc_L_changes (fun xs s P h => len_L_changes h) (fun cdv Ar outer s H E hr Nt => d_L_changes B (G_L_is_change a) (by show 3 ≤ 3; omega) hr Nt) fun ds s Q h => p_L_changes h
  have G_L_piece : ∀ a : Addr, DFn l.prog w K mg base (poolA a) 5 "_law_piece" ["pool", "stage", "most"] (S_L_piece a) := fun a => .mk' F45 m45 b45 sc_L_piece (fun xs s P h => len_L_piece h) (fun cdv Ar outer s H E hr Nt => d_L_piece B (G_L_changes a) (by show 4 ≤ 4; omega) (G_L_draw a) (by show 2 ≤ 4; omega) (G_L_pick a) (by show 3 ≤ 4; omega) hr Nt) fun ds s Q h => p_L_piece h
  have G_L_stage : ∀ a : Addr, DFn l.prog w K mg base (poolA a) 3 "_law_stage" ["pool", "most"] (S_stage a) := fun a => .mk' F46 m46 b46 sc_L_stage (fun xs s P h => len_L_stage h) (fun cdv Ar outer s H E hr Nt => d_L_stage B (G_L_draw a) (by show 2 ≤ 2; omega) hr Nt) fun ds s Q h => p_L_stage h
  have G_L_book : ∀ a : Addr, DFn l.prog w K mg base (poolA a) 6 "_law_book" ["pool", "stage", "many", "most"] (S_L_book4 a) := fun a => .mk' F47 m47 b47 sc_L_book (fun xs s P h => len_L_book4 h) (fun cdv Ar outer s H E hr Nt => d_L_book B (G_L_piece a) (by show 5 ≤ 5; omega) (G_L_draw a) (by show 2 ≤ 5; omega) (G_L_chain_words a) (by show 3 ≤ 5; omega) (G_L_pick a) (by show 3 ≤ 5; omega) (G_L_changes a) (by show 4 ≤ 5; omega) hr Nt) fun ds s Q h => p_L_book4 h
  have G_L_touch : ∀ a : Addr, DFn l.prog w K mg base (poolA a) 4 "_law_touch" ["pool", "book", "most"] (S_L_touch a) := fun a => .mk' F48 m48 b48 sc_L_touch (fun xs s P h => len_L_touch h) (fun cdv Ar outer s H E hr Nt => d_L_touch B (G_L_pick a) (by show 3 ≤ 3; omega) (G_L_draw a) (by show 2 ≤ 3; omega) hr Nt) fun ds s Q h => p_L_touch h
  have G_L_piece_text : ∀ a : Addr, DFn l.prog w K mg base (poolA a) 1 "_law_piece_text" ["piece"] (S_write_piece) := fun a => .mk' F49 m49 b49 sc_L_piece_text (fun xs s P h => len_L_piece_text h) (fun cdv Ar outer s H E hr Nt => d_L_piece_text B  hr Nt) fun ds s Q h => p_L_piece_text h
  have G_L_piece_from : ∀ a : Addr, DFn l.prog w K mg base (poolA a) 4 "_law_piece_from" ["stage", "text"] (S_L_piece_from) := fun a => .mk' F50 m50 b50 sc_L_piece_from (fun xs s P h => len_L_piece_from h) (fun cdv Ar outer s H E hr Nt => d_L_piece_from B (G_L_piece_text a) (by show 1 ≤ 3; omega) (G_L_is_change a) (by show 3 ≤ 3; omega) hr Nt) fun ds s Q h => p_L_piece_from h
  have G_L_touch_text : ∀ a : Addr, DFn l.prog w K mg base (poolA a) 1 "_law_touch_text" ["touch"] (S_write_touch) := fun a => .mk' F51 m51 b51 sc_L_touch_text (fun xs s P h => len_L_touch_text h) (fun cdv Ar outer s H E hr Nt => d_L_touch_text B  hr Nt) fun ds s Q h => p_L_touch_text h
  have G_L_touch_from : ∀ a : Addr, DFn l.prog w K mg base (poolA a) 2 "_law_touch_from" ["text"] (S_L_touch_from) := fun a => .mk' F52 m52 b52 sc_L_touch_from (fun xs s P h => len_L_touch_from h) (fun cdv Ar outer s H E hr Nt => d_L_touch_from B (G_L_decimal a) (by show 1 ≤ 1; omega) (G_L_is_word a) (by show 1 ≤ 1; omega) (G_L_touch_text a) (by show 1 ≤ 1; omega) hr Nt) fun ds s Q h => p_L_touch_from h
  have G_L_read_book : ∀ a : Addr, DFn l.prog w K mg base (poolA a) 7 "_law_read_book" ["stage", "text"] (S_L_read_book) := fun a => .mk' F53 m53 b53 sc_L_read_book (fun xs s P h => len_L_read_book h) (fun cdv Ar outer s H E hr Nt => d_L_read_book B ET zV iL_BadLine mC_BadLine iL_BellError mC_BellError iL_BadText mC_BadText (G_read_book a) (by show 6 ≤ 6; omega) hr Nt BLC xic_BadLine) fun ds s Q h => p_L_read_book h
  have G_L_read_touch : ∀ a : Addr, DFn l.prog w K mg base (poolA a) 3 "_law_read_touch" ["text"] (S_L_read_touch) := fun a => .mk' F54 m54 b54 sc_L_read_touch (fun xs s P h => len_L_read_touch h) (fun cdv Ar outer s H E hr Nt => d_L_read_touch B ET zV iL_BadText mC_BadText iL_BellError mC_BellError iL_BadLine mC_BadLine (G_read_touch a) (by show 2 ≤ 2; omega) hr Nt) fun ds s Q h => p_L_read_touch h
  have G_L_due_book : ∀ a : Addr, DFn l.prog w K mg base (poolA a) 5 "_law_due_book" ["stage", "lines"] (S_L_due_book) := fun a => .mk' F55 m55 b55 sc_L_due_book (fun xs s P h => len_L_due_book h) (fun cdv Ar outer s H E hr Nt => d_L_due_book B (G_L_piece_from a) (by show 4 ≤ 4; omega) (G_L_is_word a) (by show 1 ≤ 4; omega) hr Nt) fun ds s Q h => p_L_due_book h
  exact law_at (k := 10) (s0 := law0) (rest := lawR) (tb := fun a => _) F56 sc_law ⟨rfl, by decide, by decide⟩ ⟨13, rfl⟩ rfl (fun cdv outer s H E hr => d_law0 Gp m33 k33 b33 (by show 1 ≤ 10; omega) hr) (fun a Nt cdv outer s H E hr => d_law B (G_L_stage a) (by show 3 ≤ 10; omega) (G_L_book a) (by show 6 ≤ 10; omega) (G_L_touch a) (by show 4 ≤ 10; omega) (G_L_touch_text a) (by show 1 ≤ 10; omega) (G_L_same a) (by show 10 ≤ 10; omega) (G_L_draw a) (by show 2 ≤ 10; omega) (G_L_touch_from a) (by show 2 ≤ 10; omega) (G_L_piece_text a) (by show 1 ≤ 10; omega) (G_write_book a) (by show 4 ≤ 10; omega) (G_write_touch a) (by show 1 ≤ 10; omega) (G_L_spoilt a) (by show 4 ≤ 10; omega) (G_L_read_book a) (by show 7 ≤ 10; omega) (G_L_due_book a) (by show 5 ≤ 10; omega) (G_L_read_touch a) (by show 3 ≤ 10; omega) (G_L_pick a) (by show 3 ≤ 10; omega) hr Nt) fun a => p_law_k21 a KnS.no
theorem walk {l : PySem.W.OpenLaw} {q : Program} {loose : List Str} {XP : (Str → Option Value) → Heap → Prop} {YP : World → Heap → Prop} {d : DefRec} {K : Params → PySem.W.Frag} (hn : l.most = some 63) (hdf : d.params.defaults = [])
    (hY : ∀ (w : World) (h : Heap), YP w h → (K w.params).In h)
    (F : ∀ (w : World) (mg : Str → Option Value) (fa : Addr) (h : Heap), (K w.params).In h → h.Ns mainGlobals mg → mg d.name = some (.ref fa) →
      ∃ fd : FuncData, (∀ (s : Shared) (u : Value), BindsTo s fd ⟨[u], []⟩ [("script", u)]) ∧ ∀ base : Heap, (K w.params).In base → base.Ns mainGlobals mg → RunAt l.prog w (K w.params) mg base callerA fa fd ["script"] (spLaw (K w.params))) :
    PySem.W.WalkO q loose XP YP l.row.toRowW d [] (fun f vs => PySem.call f vs) :=
  walk_at (n := 63) (x := "script") (sp := spLaw) hn (by decide) hdf hY F fun _ H a ns hl _ hS => ⟨a, ns, rfl, hS, hl, fun _ => rfl⟩
end Dl
open PySem PySem.W PyProof.Rows
set_option maxRecDepth 100000 in
set_option maxHeartbeats 0 in
theorem PySem.Challenge.cw_bellstrue_k21_texts_of_books_and_touches_holds : PySem.Challenge.rw_bellstrue_k21_texts_of_books_and_touches.Holds := by
  w_on; o_law; k_headL; (case hw => w_witness2)
  k_fill
  refine Dl.walk (l := PySem.Challenge.rw_bellstrue_k21_texts_of_books_and_touches) rfl rfl (fun w h Y => PySem.W.kIn_of Y) ?F
  case F =>
    intro w mg fa h KX G hmg
    refine' Dl.all_mk KX G hmg  ?a2 ?l2 ?c2 ?k2 ?a3 ?l3 ?c3 ?k3 ?a4 ?l4 ?c4 ?k4 ?a5 ?l5 ?c5 ?k5 ?a11 ?l11 ?c11 ?k11 ?a14 ?l14 ?c14 ?k14 ?a17 ?l17 ?c17 ?k17 ?a20 ?l20 ?c20 ?k20 ?a21 ?l21 ?c21 ?k21 ?a22 ?l22 ?c22 ?k22 ?a23 ?l23 ?c23 ?k23 ?a24 ?l24 ?c24 ?k24 ?a25 ?l25 ?c25 ?k25 ?a26 ?l26 ?c26 ?k26 ?a27 ?l27 ?c27 ?k27 ?a28 ?l28 ?c28 ?k28 ?a29 ?l29 ?c29 ?k29 ?a31 ?l31 ?c31 ?k31 ?a32 ?l32 ?c32 ?k32 ?a33 ?l33 ?c33 ?k33 ?a34 ?l34 ?c34 ?k34 ?a35 ?l35 ?c35 ?k35 ?a36 ?l36 ?c36 ?k36 ?a37 ?l37 ?c37 ?k37 ?a38 ?l38 ?c38 ?k38 ?a39 ?l39 ?c39 ?k39 ?a40 ?l40 ?c40 ?k40 ?a41 ?l41 ?c41 ?k41 ?a42 ?l42 ?c42 ?k42 ?a43 ?l43 ?c43 ?k43 ?a44 ?l44 ?c44 ?k44 ?a45 ?l45 ?c45 ?k45 ?a46 ?l46 ?c46 ?k46 ?a47 ?l47 ?c47 ?k47 ?a48 ?l48 ?c48 ?k48 ?a49 ?l49 ?c49 ?k49 ?a50 ?l50 ?c50 ?k50 ?a51 ?l51 ?c51 ?k51 ?a52 ?l52 ?c52 ?k52 ?a53 ?l53 ?c53 ?k53 ?a54 ?l54 ?c54 ?k54 ?a55 ?l55 ?c55 ?k55 ?a56 ?l56 ?c56 ?k56 ?hn_x ?ht_x ?z_V ?ax_BellError ?xhg_BellError ?xhk_BellError ?xhs_BellError ?xhd_BellError ?xha_BellError ?xhm_BellError ?xkp_BellError ?xty_BellError ?xic_BellError ?xsv_BellError ?xs_BellError_BellError ?xs_BellError_BadText ?xs_BellError_BadLine ?ax_BadText ?xhg_BadText ?xhk_BadText ?xhs_BadText ?xhd_BadText ?xha_BadText ?xhm_BadText ?xkp_BadText ?xty_BadText ?xic_BadText ?xsv_BadText ?xs_BadText_BellError ?xs_BadText_BadText ?xs_BadText_BadLine ?ax_BadLine ?xhg_BadLine ?xhk_BadLine ?xhs_BadLine ?xhd_BadLine ?xha_BadLine ?xhm_BadLine ?xkp_BadLine ?xty_BadLine ?xic_BadLine ?xsv_BadLine ?xs_BadLine_BellError ?xs_BadLine_BadText ?xs_BadLine_BadLine ?xc_BadText ?g_LETTERS ?g_MOST_CHANGES ?g_MOST_LEADS ?g_DIGITS   ?aI ?tI ?lI ?cI ?lcB ?rvB ?saB ?spB ?mrB ?stB ?zsB ?nlB ?ccB ?cdB ?v2B ?flB ?tpB ?z_len ?z_range ?z_tuple ?z_list ?z_int ?z_bool ?z_str ?z_dict ?z_set ?z_sorted ?z_isinstance ?z_all ?z_any ?z_abs ?z_max ?z_min ?z_sum ?z_repr ?z_zip ?z_type
    (case a2 => k_is); (case l2 => k_is); (case c2 => k_is); (case k2 => k_is)
    (case a3 => k_is); (case l3 => k_is); (case c3 => k_is); (case k3 => k_is)
    (case a4 => k_is); (case l4 => k_is); (case c4 => k_is); (case k4 => k_is)
    (case a5 => k_is); (case l5 => k_is); (case c5 => k_is); (case k5 => k_is)
    (case a11 => k_is); (case l11 => k_is); (case c11 => k_is); (case k11 => k_is)
    (case a14 => k_is); (case l14 => k_is); (case c14 => k_is); (case k14 => k_is)
    (case a17 => k_is); (case l17 => k_is); (case c17 => k_is); (case k17 => k_is)
    (case a20 => k_is); (case l20 => k_is); (case c20 => k_is); (case k20 => k_is)
    (case a21 => k_is); (case l21 => k_is); (case c21 => k_is); (case k21 => k_is)
    (case a22 => k_is); (case l22 => k_is); (case c22 => k_is); (case k22 => k_is)
    (case a23 => k_is); (case l23 => k_is); (case c23 => k_is); (case k23 => k_is)
    (case a24 => k_is); (case l24 => k_is); (case c24 => k_is); (case k24 => k_is)
    (case a25 => k_is); (case l25 => k_is); (case c25 => k_is); (case k25 => k_is)
    (case a26 => k_is); (case l26 => k_is); (case c26 => k_is); (case k26 => k_is)
    (case a27 => k_is); (case l27 => k_is); (case c27 => k_is); (case k27 => k_is)
    (case a28 => k_is); (case l28 => k_is); (case c28 => k_is); (case k28 => k_is)
    (case a29 => k_is); (case l29 => k_is); (case c29 => k_is); (case k29 => k_is)
    (case a31 => k_is); (case l31 => k_is); (case c31 => k_is); (case k31 => k_is)
    (case a32 => k_is); (case l32 => k_is); (case c32 => k_is); (case k32 => k_is)
    (case a33 => k_is); (case l33 => k_is); (case c33 => k_is); (case k33 => k_is)
    (case a34 => k_is); (case l34 => k_is); (case c34 => k_is); (case k34 => k_is)
    (case a35 => k_is); (case l35 => k_is); (case c35 => k_is); (case k35 => k_is)
    (case a36 => k_is); (case l36 => k_is); (case c36 => k_is); (case k36 => k_is)
    (case a37 => k_is); (case l37 => k_is); (case c37 => k_is); (case k37 => k_is)
    (case a38 => k_is); (case l38 => k_is); (case c38 => k_is); (case k38 => k_is)
    (case a39 => k_is); (case l39 => k_is); (case c39 => k_is); (case k39 => k_is)
    (case a40 => k_is); (case l40 => k_is); (case c40 => k_is); (case k40 => k_is)
    (case a41 => k_is); (case l41 => k_is); (case c41 => k_is); (case k41 => k_is)
    (case a42 => k_is); (case l42 => k_is); (case c42 => k_is); (case k42 => k_is)
    (case a43 => k_is); (case l43 => k_is); (case c43 => k_is); (case k43 => k_is)
    (case a44 => k_is); (case l44 => k_is); (case c44 => k_is); (case k44 => k_is)
    (case a45 => k_is); (case l45 => k_is); (case c45 => k_is); (case k45 => k_is)
    (case a46 => k_is); (case l46 => k_is); (case c46 => k_is); (case k46 => k_is)
    (case a47 => k_is); (case l47 => k_is); (case c47 => k_is); (case k47 => k_is)
    (case a48 => k_is); (case l48 => k_is); (case c48 => k_is); (case k48 => k_is)
    (case a49 => k_is); (case l49 => k_is); (case c49 => k_is); (case k49 => k_is)
    (case a50 => k_is); (case l50 => k_is); (case c50 => k_is); (case k50 => k_is)
    (case a51 => k_is); (case l51 => k_is); (case c51 => k_is); (case k51 => k_is)
    (case a52 => k_is); (case l52 => k_is); (case c52 => k_is); (case k52 => k_is)
    (case a53 => k_is); (case l53 => k_is); (case c53 => k_is); (case k53 => k_is)
    (case a54 => k_is); (case l54 => k_is); (case c54 => k_is); (case k54 => k_is)
    (case a55 => k_is); (case l55 => k_is); (case c55 => k_is); (case k55 => k_is)
    (case a56 => k_is); (case l56 => k_is); (case c56 => k_is); (case k56 => k_is)
    (case hn_x => k_is); (case ht_x => k_is); (case z_V => k_is)
    (case ax_BellError => k_is); (case ax_BadText => k_is); (case ax_BadLine => k_is)
    (case xhg_BellError => k_is); (case xhk_BellError => k_is); (case xhs_BellError => k_is); (case xhd_BellError => k_is); (case xha_BellError => k_is); (case xhm_BellError => k_is); (case xkp_BellError => k_is); (case xty_BellError => k_is); (case xic_BellError => k_is); (case xsv_BellError => k_is); (case xs_BellError_BellError => first | rfl | k_is); (case xs_BellError_BadText => first | rfl | k_is); (case xs_BellError_BadLine => first | rfl | k_is)
    (case xhg_BadText => k_is); (case xhk_BadText => k_is); (case xhs_BadText => k_is); (case xhd_BadText => k_is); (case xha_BadText => k_is); (case xhm_BadText => k_is); (case xkp_BadText => k_is); (case xty_BadText => k_is); (case xic_BadText => k_is); (case xsv_BadText => k_is); (case xs_BadText_BellError => first | rfl | k_is); (case xs_BadText_BadText => first | rfl | k_is); (case xs_BadText_BadLine => first | rfl | k_is)
    (case xhg_BadLine => k_is); (case xhk_BadLine => k_is); (case xhs_BadLine => k_is); (case xhd_BadLine => k_is); (case xha_BadLine => k_is); (case xhm_BadLine => k_is); (case xkp_BadLine => k_is); (case xty_BadLine => k_is); (case xic_BadLine => k_is); (case xsv_BadLine => k_is); (case xs_BadLine_BellError => first | rfl | k_is); (case xs_BadLine_BadText => first | rfl | k_is); (case xs_BadLine_BadLine => first | rfl | k_is)
    (case xc_BadText => first | k_exc | k_is)
    (case g_LETTERS => k_is)
    (case g_MOST_CHANGES => k_is)
    (case g_MOST_LEADS => k_is)
    (case g_DIGITS => k_is)
    (case aI => k_is); (case tI => k_is); (case lI => k_is); (case cI => k_is); (case lcB => k_is); (case rvB => rfl); (case saB => k_is); (case spB => first | kernel_rfl | rfl); (case mrB => k_is); (case stB => k_is); (case zsB => k_is); (case nlB => k_is); (case ccB => k_is); (case cdB => k_is); (case v2B => rfl); (case flB => rfl); (case tpB => rfl)
    (case z_len => k_is)
    (case z_range => k_is)
    (case z_tuple => k_is)
    (case z_list => k_is)
    (case z_int => k_is)
    (case z_bool => k_is)
    (case z_str => k_is)
    (case z_dict => k_is)
    (case z_set => k_is)
    (case z_sorted => k_is)
    (case z_isinstance => k_is)
    (case z_all => k_is)
    (case z_any => k_is)
    (case z_abs => k_is)
    (case z_max => k_is)
    (case z_min => k_is)
    (case z_sum => k_is)
    (case z_repr => k_is)
    (case z_zip => k_is)
    (case z_type => k_is)
