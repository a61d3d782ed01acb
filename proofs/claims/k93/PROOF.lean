import PyProof.Rows.All
import Wide.All
import OpenK.AllK
import Wide.FinOn
import HandS.ForMost
import HandS.Deep
import HandS.TupAny
import HandS.TupMul
import HandS.Conv
import HandS.Zip
import HandS.Flow
import HandS.Wide
import KE.KeyNested
import HandS.TupLen
import PyProof.Rows.InDataRows
import HandS.Style
import HandS.SetFor
import KE.GoesEnum
import KE.GoesMore
import HandS.Iter
import HandS.IsInst
import KE.KTupSum
import HandS.WordsDict
import HandS.Strs
import HandS.SortInts
import HandS.SetBool
import KE.KIndexOf
import PySem.Challenge.RW_cellproof_k93_whole_growths_of_growths
set_option Elab.async false
set_option linter.all false
set_option maxRecDepth 100000
set_option maxHeartbeats 4000000
namespace MP
open PySem PySem.Spec PyProof.Rows L2
/-! ### exact tuples: each tuple made at run time is tracked as a frozen object without a dict of its own -/
def tpO (us : Array Value) : Obj := { cls := .type "tuple", data := .seq us }
/-- no tuple is plain here -/
def plV : List V → Bool := fun _ => false
def xT (us : Array Value) (vs : List V) : HO := if plV vs = true then .tup vs else .frz (tpO us) (.tup vs)
theorem xT_pl {us : Array Value} {vs : List V} (h : plV vs = true) : xT us vs = .tup vs := if_pos h
theorem xT_ex {us : Array Value} {vs : List V} (h : plV vs = false) : xT us vs = .frz (tpO us) (.tup vs) := if_neg (by rw [h]; decide)
theorem objX {P : Program} {w : World} {H : Hp} {h : Heap} {us : List Value} {xs : List V} (hz : xs.length ≤ sizeLine) (r : Vals xs us) :
    ObjOk P w H (h.push (tpO us.toArray)) h.objs.size (xT us.toArray xs) := by
  by_cases c : plV xs = true
  · rw [xT_pl c]
    exact ⟨hz, us, r, _, Heap.get?_push_size h rfl, rfl, _, rfl⟩
  · rw [xT_ex (by simpa using c)]
    exact ⟨Heap.get?_push_size h rfl, hz, us, r, _, Heap.get?_push_size h rfl, rfl, _, rfl⟩
theorem okX {P : Program} {w : World} {H : Hp} {h : Heap} {a : Addr} {us : Array Value} {xs : List V} (hT : h.get? a = some (tpO us)) (hz : xs.length ≤ sizeLine) (r : Vals xs us.toList) : ObjOk P w H h a (xT us xs) := by
  by_cases c : plV xs = true
  · rw [xT_pl c]
    exact ⟨hz, us.toList, r, _, hT, rfl, _, rfl⟩
  · rw [xT_ex (by simpa using c)]
    exact ⟨hT, hz, us.toList, r, _, hT, rfl, _, rfl⟩
theorem laidX {X : Cx} {pins : List (Addr × Obj)} {σ : L2.St} {H : Hp} {s : Shared} {t' : Nat} {us : List Value} {xs : List V} (I : L2.Inv X pins σ H s) (hz : xs.length ≤ sizeLine) (r : Vals xs us) :
    L2.Inv X pins σ (upd H s.heap.objs.size (xT us.toArray xs)) { s with heap := s.heap.push (tpO us.toArray), toks := t' } :=
  I.laid (t' := t') (o := xT us.toArray xs) (fun b ob q => Heap.get?_push_of_some _ q) (Nat.le_refl _) (objX hz r)
theorem sqX {K : PySem.W.Frag} {H : Hp} {a : Addr} {us : Array Value} {xs : List V} (h : H a = some (xT us xs)) : SqT K H a xs := by
  by_cases c : plV xs = true
  · rw [xT_pl c] at h
    exact .inl (.inl h)
  · rw [xT_ex (by simpa using c)] at h
    exact .inl (.inr ⟨_, h⟩)
/-- a tuple written at the top -/
def KT (K : PySem.W.Frag) (a : Addr) (vs : List V) : Prop := ∃ o its n, List.lookup a K = some o ∧ o.cls = .type "tuple" ∧ o.dict = none ∧ o.data = .seq its n ∧ its.size ≤ sizeLine ∧ Vals vs its.toList
/-- a tuple, made or written -/
def TupIn (K : PySem.W.Frag) (I : Hp) (a : Addr) (vs : List V) : Prop := (∃ us, I a = some (xT us vs)) ∨ (plV vs = false ∧ KT K a vs)
theorem KT.sq {K : PySem.W.Frag} {H : Hp} {a : Addr} {vs : List V} (h : KT K a vs) : SqT K H a vs := by
  obtain ⟨o, its, n, h1, h2, _, h4, h5, h6⟩ := h
  exact .inr ⟨o, its, n, h1, h2, h4, h5, h6⟩
theorem TupIn.mono {K : PySem.W.Frag} {I I' : Hp} {a : Addr} {vs : List V} (e : Same I I') (h : TupIn K I a vs) : TupIn K I' a vs := h.elim (fun ⟨us, h⟩ => .inl ⟨us, e _ _ h⟩) .inr
theorem TupIn.sq {K : PySem.W.Frag} {I : Hp} {a : Addr} {vs : List V} (h : TupIn K I a vs) : SqT K I a vs := h.elim (fun ⟨_, h⟩ => sqX h) fun h => KT.sq h.2
theorem TupIn.new {K : PySem.W.Frag} {H : Hp} {a : Addr} {us : Array Value} {vs : List V} : TupIn K (upd H a (xT us vs)) a vs := .inl ⟨us, by simp [upd]⟩
/-- what is asked of the place of a new tuple -/
abbrev NewT (H : Hp) (Q : VK) (xs : List V) : Prop := ∀ (p : Addr) (us : Array Value), H p = none → Q (.ref p) (upd H p (xT us xs))
theorem epX {X : Cx} {pins : List (Addr × Obj)} {σ : L2.St} {H : Hp} {s : Shared} {t' : Nat} {us : List Value} {xs : List V} {Q : VK} (I : L2.Inv X pins σ H s) (hz : xs.length ≤ sizeLine) (r : Vals xs us) (q : NewT H Q xs) :
    EP X pins σ Q (.ref s.heap.objs.size) { s with heap := s.heap.push (tpO us.toArray), toks := t' } :=
  ⟨.ref s.heap.objs.size, _, laidX I hz r, rfl, q _ _ (I.hok.fresh (Nat.le_refl _))⟩
def tTupX (t : TA) : TE := fun σ H Q => t σ H fun xs H1 => xs.length ≤ sizeLine ∧ NewT H1 Q xs
theorem pe_tupX {X : Cx} {es : List Expr} {t : TA} {pos : Pos} {x1 : Nat} (h : PA X es t) : PE X (.Tuple es x1 pos) (tTupX t) where
  run := fun pins s σ H Q I hq => by
    refine wpAny_Tuple_spliced (thn (h.run pos pins s σ H _ I hq) ?_)
    rintro us s1 ⟨xs, H1, I1, r, z, q⟩
    refine ⟨by rw [← r.length]; exact z, ?_⟩
    exact epX (t' := s1.toks) I1 z r q
theorem call_tuple_ofX {X : Cx} : CallR X (.type "tuple") fun xs H Q => ∃ p ys, xs = [V.ref p] ∧ ((SqL X.K H p ys ∧ NewT H Q ys) ∨ SqT X.K H p ys ∧ Q (V.ref p) H) := by
  rintro pins s σ H xs us Q I r ⟨p, ys, rfl, h⟩
  obtain ⟨u, rfl, rx⟩ := vals1 r
  cases rx
  rcases h with ⟨hq, q⟩ | ⟨hq, q⟩
  · obtain ⟨its, r', pl, hz⟩ := I.list hq
    have hlen := r'.length
    refine call_tuple_list pl.isList (fun h' kp => ?_) (by rw [List.size_toArray, ← hlen]; exact hz)
    have I1 : L2.Inv X pins σ H { s with heap := h' } := I.kept kp
    exact epX (s := { s with heap := h' }) (t' := s.toks) I1 hz r' q
  · obtain ⟨its, r', pl, hz⟩ := I.tuple hq
    exact call_tuple_same pl ⟨.ref p, H, I, rfl, q⟩
def rSlX (K : PySem.W.Frag) : V → Option Int → Option Int → Hp → VK → Prop := fun x lo hi H Q => ∃ a xs, x = V.ref a ∧ SqT K H a xs ∧
  (HT.sIx xs.length 0 lo = 0 ∧ HT.sIx xs.length xs.length hi = xs.length → Q (V.ref a) H) ∧ (¬(HT.sIx xs.length 0 lo = 0 ∧ HT.sIx xs.length xs.length hi = xs.length) → NewT H Q (cutV xs lo hi))
theorem sl_tupX {X : Cx} : SlR X (rSlX X.K) := by
  rintro pins s σ H x v vl vu lo hi sl Q I rx hs pl pu ⟨a, xs, rfl, hx, q1, q2⟩
  by_cases hw : HT.sIx xs.length 0 lo = 0 ∧ HT.sIx xs.length xs.length hi = xs.length
  · exact sl_tupA pins s σ H _ v vl vu lo hi sl Q I rx hs pl pu ⟨a, xs, rfl, hx, q1, fun hn => absurd hw hn⟩
  · cases rx
    obtain ⟨its, r, ht, hz⟩ := I.tuple hx
    have hlen : its.toArray.size = xs.length := by rw [List.size_toArray, r.length]
    refine ⟨"tuple", "tuple.__getitem__", slot_tuple_getitem.lookup, ht.typeIs, HT.getItem_tuple_cut ht hs pl pu (by rw [hlen]; exact hw) ?_ (by rw [hlen]; exact hz)⟩
    rw [hlen]
    exact epX (t' := s.toks) (xs := cutV xs lo hi) I (Nat.le_trans (cutV_length xs lo hi) hz) (Vals.take _ (Vals.drop _ r)) (q2 hw)
def rCatX (K : PySem.W.Frag) : R2 := fun x y H Q => ∃ a b xs ys, x = V.ref a ∧ y = V.ref b ∧ SqT K H a xs ∧ SqT K H b ys ∧ xs.length + ys.length ≤ sizeLine ∧
  (xs = [] → Q (V.ref b) H) ∧ (xs ≠ [] → ys = [] → Q (V.ref a) H) ∧ (xs ≠ [] → ys ≠ [] → NewT H Q (xs ++ ys))
theorem op_catX {X : Cx} : OpR X (binaryOp .Add) (rCatX X.K) := by
  rintro pins s σ H x y v u Q I rx ry ⟨a, b, xs, ys, rfl, rfl, ha, hb, hz, q0, q1, q2⟩
  by_cases hx : xs = []
  · exact op_catA pins s σ H _ _ v u Q I rx ry ⟨a, b, xs, ys, rfl, rfl, ha, hb, hz, q0, q1, fun h => absurd hx h⟩
  · by_cases hy : ys = []
    · exact op_catA pins s σ H _ _ v u Q I rx ry ⟨a, b, xs, ys, rfl, rfl, ha, hb, hz, q0, q1, fun _ h => absurd hy h⟩
    · cases rx
      cases ry
      obtain ⟨its, r1, p1, z1⟩ := I.tuple ha
      obtain ⟨its2, r2, p2, z2⟩ := I.tuple hb
      refine HT.cat_tup p1 p2 (fun z => hx ((Vals.nil_iff r1).mp z)) (fun z => absurd ((Vals.nil_iff r2).mp z) hy) (fun z => ?_) (by rw [← r1.length, ← r2.length]; exact hz)
      exact epX (t' := s.toks) I (by rw [List.length_append]; exact hz) (r1.append r2) (q2 hx hy)
def tTupRgX (te : L2.St → Hp → (Int → Int → Hp → Prop) → Prop) : TE := fun σ H Q => te σ H fun a b H1 => RgOk a b ∧ NewT H1 Q (rgV a b)
theorem pe_tupRgX {X : Cx} {e : Expr} {te : L2.St → Hp → (Int → Int → Hp → Prop) → Prop} {p pos : Pos} (hc : X.calm = true) (hg : Gl X (Str.ofString "tuple")) (hm : X.mg (Str.ofString "tuple") = none) (he : PRg X e te)
    (na : starEach [e] X.env = (false, eval e X.env) :: starEach [] X.env := by rfl) : PE X (.Call (.Name (Str.ofString "tuple") p) [e] [] pos) (tTupRgX te) where
  run := fun pins s σ H Q I h => by
    refine Call_ (ld_blt I hg hm boot_tuple (callWith_type1 (args_cons (thn (he pins s σ H _ I h) ?_) na) na rfl) (of_decide_eq_true rfl) (of_decide_eq_true rfl)) rfl
    rintro x s1 ⟨r, a, b, t, u, v, H1, rfl, hr, I1, ok, q⟩
    refine args_nil ?_
    obtain ⟨b1, b2, b3, b4, b5⟩ := ok
    refine call_tuple_range (I1.ok.hd hc) hr (small_one b1 b2 b3 b4) (rangeSize_nat a b) b5 fun h' tk acc hk hi => ?_
    have I2 : L2.Inv X pins σ H1 { s1 with heap := h', toks := tk } := I1.kept hk
    have hv := vals_rg hi
    have := epX (s := { s1 with heap := h', toks := tk }) (t' := tk) I2 (by rw [rgV_length, sizeLine_eq]; exact b5) hv q
    rw [Array.toArray_toList] at this
    exact this
end MP
set_option Elab.async false
set_option linter.all false
set_option maxRecDepth 100000
set_option maxHeartbeats 4000000
namespace MP
open PySem PySem.Spec PyProof.Rows L2
/-! ### dicts whose keys are nested tuples of ints -/
mutual
def noT : NestedKey → Bool
  | .num _ => true
  | .tup ks => noTs ks
  | _ => false
def noTs : List NestedKey → Bool
  | [] => true
  | k :: ks => noT k && noTs ks
end
mutual
def hash0 : NestedKey → Int
  | .num i => hashInt i
  | .tup ks => reduceHash (Builtin.Tuple.tupleHashOf (hash0s ks))
  | _ => 0
def hash0s : List NestedKey → List Int
  | [] => []
  | k :: ks => hash0 k :: hash0s ks
end
mutual
theorem hash0_eq (w : World) : ∀ k : NestedKey, noT k = true → k.hash w = hash0 k
  | .num i, _ => by simp only [NestedKey.hash, hash0]
  | .tup ks, h => by
    simp only [NestedKey.hash, hash0]
    rw [hash0s_eq w ks (by simpa only [noT] using h)]
  | .none, h => by simp [noT] at h
  | .text x, h => by simp [noT] at h
theorem hash0s_eq (w : World) : ∀ ks : List NestedKey, noTs ks = true → NestedKey.hashes w ks = hash0s ks
  | [], _ => by simp only [NestedKey.hashes, hash0s]
  | k :: ks, h => by
    simp only [noTs, Bool.and_eq_true] at h
    simp only [NestedKey.hashes, hash0s, hash0_eq w k h.1, hash0s_eq w ks h.2]
end
def okN (k : NestedKey) : Bool := noT k && decide (k.depth ≤ 8)
/-! what a value is, as a key -/
mutual
inductive NkV (K : PySem.W.Frag) (H : Hp) : NestedKey → V → Prop
  | int (i : Int) : NkV K H (.num i) (.int i)
  | tup {a : Addr} {vs : List V} {ks : List NestedKey} : SqT K H a vs → NkL K H ks vs → NkV K H (.tup ks) (.ref a)
inductive NkL (K : PySem.W.Frag) (H : Hp) : List NestedKey → List V → Prop
  | nil : NkL K H [] []
  | cons {k : NestedKey} {v : V} {ks : List NestedKey} {vs : List V} : NkV K H k v → NkL K H ks vs → NkL K H (k :: ks) (v :: vs)
end
section
variable {X : Cx} {pins : List (Addr × Obj)} {σ : L2.St} {H : Hp} {s : Shared}
mutual
theorem NkV.is (I : L2.Inv X pins σ H s) : ∀ {k : NestedKey} {v : V} {u : Value}, NkV X.K H k v → RelV v u → NestedIs s.heap k u
  | _, _, _, .int i, r => by
    obtain ⟨t, rfl⟩ := r
    exact .int i t
  | _, _, _, .tup hs hl, r => by
    cases r
    obtain ⟨its, rv, ⟨o, ho, hc, n, hd⟩, _⟩ := I.tuple hs
    exact .tup ho hc hd (NkL.is I hl (by simpa using rv))
theorem NkL.is (I : L2.Inv X pins σ H s) : ∀ {ks : List NestedKey} {vs : List V} {us : List Value}, NkL X.K H ks vs → Vals vs us → NestedAll s.heap ks us
  | _, _, _, .nil, r => by
    cases r
    exact .nil
  | _, _, _, .cons h t, r => by
    cases r with
    | cons r1 r2 => exact .cons (NkV.is I h r1) (NkL.is I t r2)
end
end
section
variable {K : PySem.W.Frag} {H H' : Hp}
mutual
theorem NkV.mono (e : ∀ {a xs}, SqT K H a xs → SqT K H' a xs) : ∀ {k : NestedKey} {v : V}, NkV K H k v → NkV K H' k v
  | _, _, .int i => .int i
  | _, _, .tup hs hl => .tup (e hs) (NkL.mono e hl)
theorem NkL.mono (e : ∀ {a xs}, SqT K H a xs → SqT K H' a xs) : ∀ {ks : List NestedKey} {vs : List V}, NkL K H ks vs → NkL K H' ks vs
  | _, _, .nil => .nil
  | _, _, .cons h t => .cons (NkV.mono e h) (NkL.mono e t)
end
end
abbrev NE := NestedKey × Addr × V
def kvN (L : List NE) : List (NestedKey × V) := L.map fun p => (p.1, p.2.2)
def entN (x : NestedKey × Addr × Value) : DictEntry := ⟨hash0 x.1, .ref x.2.1, x.2.2⟩
abbrev NP : List NE → List (NestedKey × Addr × Value) → Prop := Paired fun p q => p.1 = q.1 ∧ p.2.1 = q.2.1 ∧ RelV p.2.2 q.2.2
def NdP (a : Addr) (L : List NE) (h : Heap) : Prop := (a == sysModules) = false ∧ L.length ≤ sizeLine ∧ ∃ xs, NP L xs ∧ ∃ o es ep, h.get? a = some o ∧ o.ExactDict ∧ o.data = .dict es ep ∧ es.toList = xs.map entN ∧ (xs.map (·.1)).Nodup
/-- the dict at a -/
def NdO (a : Addr) (L : List NE) : HO := .ext (NdP a L)
/-- its keys, in the heap -/
def NK (K : PySem.W.Frag) (H : Hp) (L : List NE) : Prop := ∀ p ∈ L, okN p.1 = true ∧ NkV K H p.1 (.ref p.2.1)
theorem NK.mono {K : PySem.W.Frag} {H H' : Hp} {L : List NE} (e : ∀ {a xs}, SqT K H a xs → SqT K H' a xs) (h : NK K H L) : NK K H' L := fun p hp => ⟨(h p hp).1, (h p hp).2.mono e⟩
theorem NP.length {L : List NE} {xs : List (NestedKey × Addr × Value)} (h : NP L xs) : L.length = xs.length := Paired.length h
theorem NP.val {L : List NE} {xs : List (NestedKey × Addr × Value)} (h : NP L xs) (k : NestedKey) : RelO (valV (kvN L) k) ((atKey xs k).map (·.2)) := by
  induction h with
  | nil => exact True.intro
  | @cons p q ps qs hh t ih =>
    obtain ⟨h1, h0, h2⟩ := hh
    by_cases e : p.1 = k
    · have e' : q.1 = k := h1.symm.trans e
      have b : atKey (q :: qs) k = some q.2 := by simp [atKey, List.find?_cons, e']
      rw [show kvN (p :: ps) = (p.1, p.2.2) :: kvN ps from rfl, valV_pos e, b]
      exact h2
    · have e' : ¬ q.1 = k := fun z => e (h1.trans z)
      have b : atKey (q :: qs) k = atKey qs k := by simp [atKey, List.find?_cons, e']
      rw [show kvN (p :: ps) = (p.1, p.2.2) :: kvN ps from rfl, valV_neg e, b]
      exact ih
def putN (L : List NE) (k : NestedKey) (b : Addr) (v : V) : List NE :=
  if ((kvN L).any fun p => decide (p.1 = k)) = true then L.map (fun p => if p.1 = k then (p.1, p.2.1, v) else p) else L ++ [(k, b, v)]
theorem kvN_put (L : List NE) (k : NestedKey) (b : Addr) (v : V) : kvN (putN L k b v) = putK (kvN L) k v := by
  unfold putN putK
  split
  · unfold kvN
    rw [List.map_map, List.map_map]
    refine List.map_congr_left fun p _ => ?_
    simp only [Function.comp_apply]
    split <;> rfl
  · unfold kvN
    rw [List.map_append]
    rfl
theorem NP.put {L : List NE} {xs : List (NestedKey × Addr × Value)} (r : NP L xs) (k : NestedKey) {b : Addr} {y : V} {u : Value} (ry : RelV y u) : NP (putN L k b y) (storedH xs k b u) := by
  have e : ((kvN L).any fun kv => decide (kv.1 = k)) = (atKey xs k).isSome := by
    rw [valV_any, (r.val k).isSome_eq, Option.isSome_map]
  unfold putN storedH
  rw [e]
  by_cases q : (atKey xs k).isSome = true
  · rw [if_pos q, if_pos q]
    clear e q
    induction r with
    | nil => exact .nil
    | @cons p q ps qs h t ih =>
      rw [List.map_cons, List.map_cons]
      refine .cons ?_ ih
      obtain ⟨h1, h2, h3⟩ := h
      unfold putAt
      by_cases e : p.1 = k
      · rw [if_pos e, if_pos (h1.symm.trans e)]
        exact ⟨h1, h2, ry⟩
      · rw [if_neg e, if_neg (fun z => e (h1.trans z))]
        exact ⟨h1, h2, h3⟩
  · rw [if_neg q, if_neg q]
    exact Paired.snoc r ⟨rfl, rfl, ry⟩
theorem NK.put {K : PySem.W.Frag} {H : Hp} {L : List NE} (h : NK K H L) {k : NestedKey} {b : Addr} (ok : okN k = true) (hk : NkV K H k (.ref b)) (v : V) : NK K H (putN L k b v) := by
  unfold putN
  split
  · intro p hp
    obtain ⟨q, hq, rfl⟩ := List.mem_map.1 hp
    split
    · exact h q hq
    · exact h q hq
  · intro p hp
    rcases List.mem_append.1 hp with hp | hp
    · exact h p hp
    · rw [List.mem_singleton.1 hp]
      exact ⟨ok, hk⟩
theorem putN_len (L : List NE) (k : NestedKey) (b : Addr) (v : V) : (putN L k b v).length ≤ L.length + 1 := by
  unfold putN
  split
  · rw [List.length_map]
    omega
  · rw [List.length_append]
    exact Nat.le_refl _
theorem ndO_ok {P : Program} {w : World} {H : Hp} {h : Heap} {a : Addr} {L : List NE} (x : NdP a L h) : ObjOk P w H h a (NdO a L) := by
  have ⟨_, _, xs, r, o, es, ep, ho, _⟩ := x
  refine ⟨x, ⟨o, ho⟩, fun h1 h2 p k => ?_⟩
  obtain ⟨a1, a2, xs, r, o, es, ep, ho, q⟩ := p
  exact ⟨a1, a2, xs, r, o, es, ep, k _ ho, q⟩
theorem ent_map {w : World} {P : Program} : ∀ {xs : List (NestedKey × Addr × Value)}, (∀ x ∈ xs, noT x.1 = true) → xs.map (entryOfKey (nestedKind P w)) = xs.map entN
  | [], _ => rfl
  | x :: xs, h => by
    rw [List.map_cons, List.map_cons, ent_map fun y hy => h y (List.mem_cons_of_mem _ hy)]
    congr 1
    unfold entryOfKey entN
    show DictEntry.mk (x.1.hash w) _ _ = _
    rw [hash0_eq w x.1 (h x List.mem_cons_self)]
section
variable {X : Cx} {pins : List (Addr × Obj)} {σ : L2.St} {H : Hp} {s : Shared} {a : Addr} {y v : V} {u r : Value} {o : Option V} {L : List NE} {A : Around} {E : Value → Shared → Prop}
theorem keysN (nk : NK X.K H L) (I : L2.Inv X pins σ H s) : ∀ {M : List NE} {xs : List (NestedKey × Addr × Value)}, (∀ p ∈ M, p ∈ L) → NP M xs → ∀ x ∈ xs, noT x.1 = true ∧ (nestedKind X.prog X.w).is s.heap x.1 x.2.1 := by
  intro M xs hM r
  induction r with
  | nil => intro x hx; cases hx
  | @cons p q ps qs hq t ih =>
    intro x hx
    rcases List.mem_cons.mp hx with e | hx
    · subst e
      obtain ⟨h1, h2⟩ := nk p (hM p List.mem_cons_self)
      unfold okN at h1
      rw [Bool.and_eq_true] at h1
      rw [← hq.1, ← hq.2.1]
      exact ⟨h1.1, NkV.is I h2 rfl, of_decide_eq_true h1.2⟩
    · exact ih (fun p hp => hM p (List.mem_cons_of_mem _ hp)) x hx
theorem nd_of (I : L2.Inv X pins σ H s) (e : H a = some (NdO a L)) (nk : NK X.K H L) : (a == sysModules) = false ∧ L.length ≤ sizeLine ∧ ∃ xs, NP L xs ∧ s.heap.DictOfH (nestedKind X.prog X.w) a xs := by
  obtain ⟨z1, z2, xs, rel, ob, es, ep, h1, h2, h3, h4, h5⟩ : NdP a L s.heap := (I.hok _ _ e).1
  have ks := keysN nk I (fun p hp => hp) rel
  refine ⟨z1, z2, xs, rel, ob, es, ep, h1, h2, h3, ?_, fun x hx => (ks x hx).2, h5⟩
  rw [ent_map fun x hx => (ks x hx).1]
  exact h4
/-- what the dict at a holds at y -/
def NGet (K : PySem.W.Frag) (H : Hp) (a : Addr) (y : V) (o : Option V) : Prop := ∃ L k b, H a = some (NdO a L) ∧ NK K H L ∧ okN k = true ∧ y = .ref b ∧ NkV K H k (.ref b) ∧ o = valV (kvN L) k
def NPut (K : PySem.W.Frag) (H : Hp) (a : Addr) (y v : V) (H' : Hp) : Prop := ∃ L k b, H a = some (NdO a L) ∧ NK K H L ∧ okN k = true ∧ y = .ref b ∧ NkV K H k (.ref b) ∧ L.length < sizeLine ∧ H' = upd H a (NdO a (putN L k b v))
theorem roomN (hu : A.units + 64 < cLine) {P : Program} {w : World} : (nestedKind P w).room A.in1 := by
  show A.in1.units + 8 < cLine
  have : A.in1.units ≤ A.units + 1 := by simp [Around.in1, Around.units]
  omega
theorem isNk {k : NestedKey} {b : Addr} (I : L2.Inv X pins σ H s) (ok : okN k = true) (hk : NkV X.K H k (.ref b)) : (nestedKind X.prog X.w).is s.heap k b := by
  unfold okN at ok
  rw [Bool.and_eq_true] at ok
  exact ⟨NkV.is I hk rfl, of_decide_eq_true ok.2⟩
theorem n_getItem {Q : Value → Shared → Prop} (hu : A.units + 64 < cLine) (I : L2.Inv X pins σ H s) (g : NGet X.K H a y (some v)) (ry : RelV y u) (h : ∀ w' s', L2.Inv X pins σ H s' → RelV v w' → Q w' s') :
    wpAny (model X.prog X.w) A (getItem (.ref a) u) Q E s := by
  obtain ⟨L, k, b, e, nk, ok, rfl, hk, l⟩ := g
  cases ry
  obtain ⟨_, _, xs, rel, dd⟩ := nd_of I e nk
  obtain ⟨w', hw, rw'⟩ := RelO.some_of (v := v) (o := (atKey xs k).map (·.2)) (by rw [l]; exact rel.val k)
  obtain ⟨p, hp, hp2⟩ := Option.map_eq_some_iff.mp hw
  refine wpAny_getItem_heap (roomN hu) (isNk I ok hk) dd hp ?_
  rw [hp2]
  exact h w' _ (I.tok _) rw'
theorem n_in {Q : Value → Shared → Prop} (hu : A.units + 64 < cLine) (I : L2.Inv X pins σ H s) (g : NGet X.K H a y o) (ry : RelV y u) (h : ∀ s', L2.Inv X pins σ H s' → Q (.bool o.isSome) s') :
    wpAny (model X.prog X.w) A (compareOp .In u (.ref a)) Q E s := by
  obtain ⟨L, k, b, e, nk, ok, rfl, hk, l⟩ := g
  cases ry
  obtain ⟨hd, _, xs, rel, dd⟩ := nd_of I e nk
  refine wpAny_in_heap (roomN hu) (isNk I ok hk) hd dd ?_
  have q := (rel.val k).isSome_eq
  rw [Option.isSome_map] at q
  rw [← q, ← l]
  exact h _ (I.tok _)
theorem n_notIn {Q : Value → Shared → Prop} (hu : A.units + 64 < cLine) (I : L2.Inv X pins σ H s) (g : NGet X.K H a y o) (ry : RelV y u) (h : ∀ s', L2.Inv X pins σ H s' → Q (.bool (!o.isSome)) s') :
    wpAny (model X.prog X.w) A (compareOp .NotIn u (.ref a)) Q E s := by
  obtain ⟨L, k, b, e, nk, ok, rfl, hk, l⟩ := g
  cases ry
  obtain ⟨hd, _, xs, rel, dd⟩ := nd_of I e nk
  refine wpAny_notIn_heap (roomN hu) (isNk I ok hk) hd dd ?_
  have q := (rel.val k).isSome_eq
  rw [Option.isSome_map] at q
  rw [← q, ← l]
  exact h _ (I.tok _)
theorem n_setItem {H' : Hp} {Q : Unit → Shared → Prop} (hu : A.units + 64 < cLine) (I : L2.Inv X pins σ H s) (g : NPut X.K H a y v H') (ry : RelV y u) (rv : RelV v r) (h : ∀ s', L2.Inv X pins σ H' s' → Q () s') :
    wpAny (model X.prog X.w) A (setItem (.ref a) u r) Q E s := by
  obtain ⟨L, k, b, e, nk, ok, rfl, hk, l, rfl⟩ := g
  cases ry
  obtain ⟨hd, z, xs, rel, dd⟩ := nd_of I e nk
  have hz : xs.length ≤ sizeLine := by rw [← rel.length]; exact z
  refine wpAny_setItem_heap (hsz := hz) (roomN hu) (isNk I ok hk) dd fun h' dd' hs => h _ ?_
  obtain ⟨q, es, ep, hq, h2, h3, h4, h6, h5⟩ := dd'
  have rel' := rel.put k (b := b) rv
  have nk' := nk.put ok hk v
  have ks : ∀ x ∈ storedH xs k b r, noT x.1 = true := by
    have k1 := keysN nk I (fun p hp => hp) rel
    have ok' := ok
    unfold okN at ok'
    rw [Bool.and_eq_true] at ok'
    intro x hx
    unfold storedH at hx
    split at hx
    · obtain ⟨x', hx', rfl⟩ := List.mem_map.1 hx
      unfold putAt
      split
      · exact (k1 x' hx').1
      · exact (k1 x' hx').1
    · rcases List.mem_append.1 hx with hx | hx
      · exact (k1 x hx).1
      · rw [List.mem_singleton.1 hx]
        exact ok'.1
  rw [ent_map ks] at h4
  have hl := putN_len L k b v
  exact d_write I (by rw [e]; exact True.intro) hs ⟨q, hq⟩ (ndO_ok ⟨hd, by omega, _, rel', q, es, ep, hq, h2, h3, h4, h5⟩)
theorem n_typeIs (I : L2.Inv X pins σ H s) (g : NGet X.K H a y o) : s.TypeIs (.ref a) "dict" := by
  obtain ⟨L, k, b, e, nk, _⟩ := g
  obtain ⟨_, _, xs, _, dd⟩ := nd_of I e nk
  exact dd.typeIs
end
/-! rules -/
def DGetU (K : PySem.W.Frag) (H : Hp) (a : Addr) (y : V) (o : Option V) : Prop := DGet H a y o ∨ NGet K H a y o
def DPutU (K : PySem.W.Frag) (H : Hp) (a : Addr) (y v : V) (H' : Hp) : Prop := DPut H a y v H' ∨ NPut K H a y v H'
def tDGetU (K : PySem.W.Frag) (td ty : TE) : TE := fun σ H Q => td σ H fun x H1 => ty σ H1 fun y H2 => ∃ a v, x = .ref a ∧ DGetU K H2 a y (some v) ∧ Q v H2
def tDInU (K : PySem.W.Frag) (ty td : TE) : TE := fun σ H Q => ty σ H fun y H1 => td σ H1 fun x H2 => ∃ a o, x = .ref a ∧ DGetU K H2 a y o ∧ Q (.bl o.isSome) H2
def tDNotInU (K : PySem.W.Frag) (ty td : TE) : TE := fun σ H Q => ty σ H fun y H1 => td σ H1 fun x H2 => ∃ a o, x = .ref a ∧ DGetU K H2 a y o ∧ Q (.bl (!o.isSome)) H2
def sDPutU (K : PySem.W.Frag) (td ty tv : TE) : TS := fun D σ H => tv σ H fun v H1 => td σ H1 fun x H2 => ty σ H2 fun y H3 => ∃ a H4, x = .ref a ∧ DPutU K H3 a y v H4 ∧ D.nx σ H4
section
variable {X : Cx} {o i e value : Expr} {pos pos' tpos : Pos} {td ty tv : TE}
theorem pe_dgetU (hu : X.A.units + 64 < cLine) (ho : PE X o td) (hi : PE X i ty) (hs : NoSl i) : PE X (.Subscript o i pos) (tDGetU X.K td ty) := by
  refine ⟨fun pins s σ H Q I h => ?_⟩
  refine subD_of PySem.F.slot_dict_getitem.lookup hs (thn (ho.run pins s σ H _ I h) fun u s1 ⟨x, H1, I1, rx, q1⟩ => thn (hi.run pins s1 σ H1 _ I1 q1) fun iv s2 ⟨y, H2, I2, ry, a, v, ex, g, q2⟩ => ?_)
  subst ex
  obtain rfl : u = Value.ref a := rx
  rcases g with g | g
  · exact ⟨dict_typeIs I2 g, d_getItem (by omega) I2 g ry fun w' s3 I3 rw' => ⟨v, H2, I3, rw', q2⟩⟩
  · exact ⟨n_typeIs I2 g, n_getItem hu I2 g ry fun w' s3 I3 rw' => ⟨v, H2, I3, rw', q2⟩⟩
theorem pc_dinU (hu : X.A.units + 64 < cLine) (hi : PE X i ty) (ho : PE X o td) : PC X .In i o (tDInU X.K ty td) := by
  refine ⟨fun pins s σ H Q I h => ?_⟩
  refine thn (hi.run pins s σ H _ I h) fun iv s1 ⟨y, H1, I1, ry, q1⟩ => thn (ho.run pins s1 σ H1 _ I1 q1) fun u s2 ⟨x, H2, I2, rx, a, ov, ex, g, q2⟩ => ?_
  subst ex
  obtain rfl : u = Value.ref a := rx
  rcases g with g | g
  · exact d_in (by omega) I2 g ry fun s3 I3 => ⟨.bl ov.isSome, H2, I3, rfl, q2⟩
  · exact n_in hu I2 g ry fun s3 I3 => ⟨.bl ov.isSome, H2, I3, rfl, q2⟩
theorem pc_dnotinU (hu : X.A.units + 64 < cLine) (hi : PE X i ty) (ho : PE X o td) : PC X .NotIn i o (tDNotInU X.K ty td) := by
  refine ⟨fun pins s σ H Q I h => ?_⟩
  refine thn (hi.run pins s σ H _ I h) fun iv s1 ⟨y, H1, I1, ry, q1⟩ => thn (ho.run pins s1 σ H1 _ I1 q1) fun u s2 ⟨x, H2, I2, rx, a, ov, ex, g, q2⟩ => ?_
  subst ex
  obtain rfl : u = Value.ref a := rx
  rcases g with g | g
  · exact d_notIn (by omega) I2 g ry fun s3 I3 => ⟨.bl (!ov.isSome), H2, I3, rfl, q2⟩
  · exact n_notIn hu I2 g ry fun s3 I3 => ⟨.bl (!ov.isSome), H2, I3, rfl, q2⟩
theorem ps_dputU (hu : X.A.units + 64 < cLine) (ho : PE X o td) (hi : PE X i ty) (hv : PE X value tv) (hs : swapsWith value (some (.Subscript o i pos')) pos.line X.env = pure false) :
    PS X (.Assign [.Subscript o i pos'] value pos) (sDPutU X.K td ty tv) := by
  refine ⟨fun pins s σ H D I h => ?_⟩
  refine wpAny_Assign_Subscript (thn (hv.run pins s σ H _ I h) fun r s1 ⟨v, H1, I1, rv, q1⟩ => thn (ho.run pins s1 σ H1 _ I1 q1) fun u s2 ⟨x, H2, I2, rx, q2⟩ => thn (hi.run pins s2 σ H2 _ I2 q2) fun iv s3 ⟨y, H3, I3, ry, a, H4, ex, g, q3⟩ => ?_) hs
  subst ex
  obtain rfl : u = Value.ref a := rx
  rcases g with g | g
  · exact d_setItem (by omega) I3 g ry rv fun s4 I4 => ⟨σ, H4, I4, q3⟩
  · exact n_setItem hu I3 g ry rv fun s4 I4 => ⟨σ, H4, I4, q3⟩
def tDNewN : TE := fun _ H Q => ∀ p, H p = none → Q (.ref p) (upd H p (NdO p []))
theorem pe_dnewN : PE X (.Dict [] [] pos) tDNewN := ⟨fun pins s σ H Q I h =>
  wpAny_Dict_empty ⟨.ref s.heap.objs.size, _, I.laid (a := s.heap.objs.size) (o := NdO s.heap.objs.size []) (t' := s.toks) (fun _ _ q => Heap.get?_push_of_some _ q) (Nat.le_refl _)
    (ndO_ok ⟨beq_eq_false_iff_ne.mpr (Ne.symm (Nat.ne_of_lt I.big)), Nat.zero_le _, [], .nil, _, #[], 0, Heap.get?_push_size _ rfl, ⟨rfl, rfl, rfl⟩, rfl, rfl, List.nodup_nil⟩), rfl, h _ (I.hok.fresh (Nat.le_refl _))⟩⟩
def rLenU (K : PySem.W.Frag) : List V → Hp → VK → Prop := fun xs H Q => ∃ (p : Addr), xs = [.ref p] ∧ ((∃ kvs, Rd H p (.dK kvs) ∧ Q (.int kvs.length) H) ∨ ∃ L, H p = some (NdO p L) ∧ NK K H L ∧ Q (.int L.length) H)
theorem call_lenU : CallR X (.builtin "len") (rLenU X.K) := by
  intro pins s σ H xs us Q I r h
  obtain ⟨p, rfl, h | ⟨L, e, nk, q⟩⟩ := h
  · obtain ⟨kvs, hp, q⟩ := h
    rw [Vals.ref1 r]
    exact d_len I hp fun t s' I' => ⟨.int kvs.length, H, I', ⟨_, rfl⟩, q⟩
  · rw [Vals.ref1 r]
    obtain ⟨hd, z, xs, rel, dd⟩ := nd_of I e nk
    refine call_len_dictH hd dd (by rw [← rel.length]; rw [sizeLine_eq] at z; omega) ⟨.int xs.length, H, I.tok _, ⟨_, rfl⟩, ?_⟩
    rw [← rel.length]
    exact q
end
end MP
set_option Elab.async false
set_option linter.all false
set_option maxRecDepth 100000
set_option maxHeartbeats 4000000
namespace MP
open PySem PySem.Spec PyProof.Rows L2

/-! ### data trees -/
inductive D where
  | non
  | bl (b : Bool)
  | int (i : Int)
  | str (x : Str)
  | tup (xs : List D)
  | lst (xs : List D)
  | dct (t : Bool) (kvs : List (D × D))
  | obj (c : Nat) (fs : List D)
  | scr (xs : List D)
  | ktp (xs : List D)
instance : Inhabited D := ⟨.non⟩

abbrev ClM := Nat → Option (Addr × List Str)
def keyD : Key → D
  | .inl i => .int i
  | .inr x => .str x

mutual
/-- a key as data -/
def nkE : NestedKey → D
  | .none => .non
  | .num i => .int i
  | .text x => .str x
  | .tup ks => .tup (nkEs ks)
def nkEs : List NestedKey → List D
  | [] => []
  | k :: ks => nkE k :: nkEs ks
end
mutual
inductive Rp (K : PySem.W.Frag) (cl : ClM) (I : Hp) : V → D → Prop
  | non : Rp K cl I .non .non
  | bl (b : Bool) : Rp K cl I (.bl b) (.bl b)
  | int (i : Int) : Rp K cl I (.int i) (.int i)
  | str (x : Str) : Rp K cl I (.str x) (.str x)
  | tup {a : Addr} {vs : List V} {ds : List D} : TupIn K I a vs → RpA K cl I vs ds → Rp K cl I (.ref a) (.tup ds)
  | lst {a : Addr} {vs : List V} {ds : List D} : I a = some (.lst vs) → RpA K cl I vs ds → Rp K cl I (.ref a) (.lst ds)
  | scr {a : Addr} {vs : List V} {ds : List D} : SqL K I a vs → RpA K cl I vs ds → Rp K cl I (.ref a) (.scr ds)
  | ktp {a : Addr} {vs : List V} {ds : List D} : KT K a vs → RpA K cl I vs ds → Rp K cl I (.ref a) (.ktp ds)
  | dK {a : Addr} {kvs : List (Key × V)} {ks ds : List D} : Rd I a (.dK kvs) → ks = kvs.map (fun p => keyD p.1) → RpA K cl I (kvs.map (·.2)) ds → Rp K cl I (.ref a) (.dct false (ks.zip ds))
  | dT {a : Addr} {L : List NE} {ks ds : List D} : I a = some (NdO a L) → NK K I L → ks = (kvN L).map (fun p => nkE p.1) → RpA K cl I ((kvN L).map (·.2)) ds → Rp K cl I (.ref a) (.dct true (ks.zip ds))
  | obj {a C dx : Addr} {c : Nat} {ns : List Str} {vs : List V} {ds : List D} : cl c = some (C, ns) → I a = some (.ins C dx ((ns.take vs.length).zip vs)) → vs.length ≤ ns.length → RpA K cl I vs ds → Rp K cl I (.ref a) (.obj c ds)
inductive RpA (K : PySem.W.Frag) (cl : ClM) (I : Hp) : List V → List D → Prop
  | nil : RpA K cl I [] []
  | cons {v : V} {vs : List V} {d : D} {ds : List D} : Rp K cl I v d → RpA K cl I vs ds → RpA K cl I (v :: vs) (d :: ds)
end

def plD : List D → Bool := fun _ => false
theorem plD_V {K : PySem.W.Frag} {cl : ClM} {I : Hp} {vs : List V} {ds : List D} (r : RpA K cl I vs ds) (h : ¬ plD ds = true) : plV vs = false := rfl
theorem plD_T {K : PySem.W.Frag} {cl : ClM} {I : Hp} {vs : List V} {ds : List D} (r : RpA K cl I vs ds) (h : plD ds = true) : plV vs = true := h
theorem TupIn.pl {K : PySem.W.Frag} {I : Hp} {a : Addr} {vs : List V} (h : TupIn K I a vs) (p : plV vs = true) : I a = some (.tup vs) := by
  rcases h with ⟨us, h⟩ | ⟨h, _⟩
  · rw [xT_pl p] at h
    exact h
  · rw [p] at h
    cases h
theorem same_rd {H H' : Hp} {a : Addr} {u : HO} (e : Same H H') (h : Rd H a u) : Rd H' a u := by
  rcases h with h | ⟨o, h⟩
  · exact .inl (e _ _ h)
  · exact .inr ⟨o, e _ _ h⟩
theorem same_t {K : PySem.W.Frag} {H H' : Hp} {a : Addr} {xs : List V} (e : Same H H') (h : SqT K H a xs) : SqT K H' a xs := by
  rcases h with h | h
  · exact .inl (same_rd e h)
  · exact .inr h
section
variable {K : PySem.W.Frag} {cl : ClM} {I I' : Hp}
mutual
theorem Rp.mono (e : Same I I') : ∀ {v : V} {d : D}, Rp K cl I v d → Rp K cl I' v d
  | _, _, .non => .non
  | _, _, .bl b => .bl b
  | _, _, .int i => .int i
  | _, _, .str x => .str x
  | _, _, .tup h r => .tup (h.mono e) (RpA.mono e r)
  | _, _, .lst h r => .lst (e _ _ h) (RpA.mono e r)
  | _, _, .scr h r => .scr (e.seq h) (RpA.mono e r)
  | _, _, .ktp h r => .ktp h (RpA.mono e r)
  | _, _, .dK h k r => .dK (same_rd e h) k (RpA.mono e r)
  | _, _, .dT h nk k r => .dT (e _ _ h) (nk.mono (same_t e)) k (RpA.mono e r)
  | _, _, .obj c h l r => .obj c (e _ _ h) l (RpA.mono e r)
theorem RpA.mono (e : Same I I') : ∀ {vs : List V} {ds : List D}, RpA K cl I vs ds → RpA K cl I' vs ds
  | _, _, .nil => .nil
  | _, _, .cons h t => .cons (Rp.mono e h) (RpA.mono e t)
end
theorem RpA.length : ∀ {vs : List V} {ds : List D}, RpA K cl I vs ds → vs.length = ds.length
  | _, _, .nil => rfl
  | _, _, .cons _ t => by rw [List.length_cons, List.length_cons, RpA.length t]
theorem RpA.get : ∀ {vs : List V} {ds : List D} {i : Nat} {d : D}, RpA K cl I vs ds → ds[i]? = some d → ∃ v, vs[i]? = some v ∧ Rp K cl I v d
  | _, _, _, _, .nil, e => by simp at e
  | _, _, 0, _, .cons h _, e => by
    simp at e
    subst e
    exact ⟨_, rfl, h⟩
  | _, _, i + 1, d, .cons _ t, e => by
    obtain ⟨v, h1, h2⟩ := RpA.get (i := i) (d := d) t (by simpa using e)
    exact ⟨v, by simpa using h1, h2⟩
theorem RpA.getV : ∀ {vs : List V} {ds : List D} {i : Nat} {v : V}, RpA K cl I vs ds → vs[i]? = some v → ∃ d, ds[i]? = some d ∧ Rp K cl I v d
  | _, _, _, _, .nil, e => by simp at e
  | _, _, 0, _, .cons h _, e => by
    simp at e
    subst e
    exact ⟨_, rfl, h⟩
  | _, _, i + 1, v, .cons _ t, e => by
    obtain ⟨d, h1, h2⟩ := RpA.getV (i := i) (v := v) t (by simpa using e)
    exact ⟨d, by simpa using h1, h2⟩
theorem RpA.append : ∀ {vs ws : List V} {ds es : List D}, RpA K cl I vs ds → RpA K cl I ws es → RpA K cl I (vs ++ ws) (ds ++ es)
  | _, _, _, _, .nil, s => s
  | _, _, _, _, .cons r t, s => .cons r (RpA.append t s)
theorem RpA.take : ∀ {vs : List V} {ds : List D} (n : Nat), RpA K cl I vs ds → RpA K cl I (vs.take n) (ds.take n)
  | _, _, 0, _ => by
    rw [List.take_zero, List.take_zero]
    exact .nil
  | _, _, _ + 1, .nil => .nil
  | _, _, n + 1, .cons r t => .cons r (RpA.take n t)
theorem RpA.drop : ∀ {vs : List V} {ds : List D} (n : Nat), RpA K cl I vs ds → RpA K cl I (vs.drop n) (ds.drop n)
  | _, _, 0, r => r
  | _, _, _ + 1, .nil => .nil
  | _, _, n + 1, .cons _ t => RpA.drop n t
theorem RpA.set {v : V} {d : D} (r : Rp K cl I v d) : ∀ {vs : List V} {ds : List D} (i : Nat), RpA K cl I vs ds → RpA K cl I (vs.set i v) (ds.set i d)
  | _, _, _, .nil => .nil
  | _, _, 0, .cons _ t => .cons r t
  | _, _, i + 1, .cons q t => .cons q (RpA.set r i t)
theorem RpA.eraseIdx : ∀ {vs : List V} {ds : List D} (i : Nat), RpA K cl I vs ds → RpA K cl I (vs.eraseIdx i) (ds.eraseIdx i)
  | _, _, _, .nil => .nil
  | _, _, 0, .cons _ t => t
  | _, _, i + 1, .cons q t => .cons q (RpA.eraseIdx i t)
theorem RpA.reverse {vs : List V} {ds : List D} (h : RpA K cl I vs ds) : RpA K cl I vs.reverse ds.reverse := by
  induction vs generalizing ds with
  | nil =>
    cases h
    exact .nil
  | cons v vs ih =>
    cases h with
    | cons r t =>
      rw [List.reverse_cons, List.reverse_cons]
      exact (ih t).append (.cons r .nil)
theorem RpA.rep {vs : List V} {ds : List D} (h : RpA K cl I vs ds) : ∀ k : Nat, RpA K cl I (List.replicate k vs).flatten (List.replicate k ds).flatten
  | 0 => .nil
  | k + 1 => by
    rw [List.replicate_succ, List.replicate_succ, List.flatten_cons, List.flatten_cons]
    exact h.append (RpA.rep h k)
theorem RpA.ints : ∀ {vs : List V} {ns : List Int}, RpA K cl I vs (ns.map D.int) → vs = ns.map V.int
  | _, [], .nil => rfl
  | _, n :: ns, .cons h t => by
    cases h
    rw [RpA.ints t]
    rfl
theorem RpA.ofInts : ∀ (ns : List Int), RpA K cl I (ns.map V.int) (ns.map D.int)
  | [] => .nil
  | n :: ns => .cons (.int n) (RpA.ofInts ns)
end

/-! ### slots, environments -/
inductive SO where
  | lst (xs : List D)
  | dct (t : Bool) (kvs : List (D × D))
  | ins (c : Nat) (fs : List D)
inductive Slot where
  | none
  | val (d : D)
  | own (o : SO)
instance : Inhabited Slot := ⟨.none⟩
abbrev MEnv := List Slot
def so2d : SO → D
  | .lst xs => .lst xs
  | .dct t kvs => .dct t kvs
  | .ins c fs => .obj c fs

inductive SoOk (K : PySem.W.Frag) (cl : ClM) (I : Hp) (p : Addr) : HO → SO → Prop
  | lst {vs : List V} {ds : List D} : RpA K cl I vs ds → SoOk K cl I p (.lst vs) (.lst ds)
  | dK {kvs : List (Key × V)} {ks ds : List D} : ks = kvs.map (fun p => keyD p.1) → RpA K cl I (kvs.map (·.2)) ds → SoOk K cl I p (.dK kvs) (.dct false (ks.zip ds))
  | dT {L : List NE} {ks ds : List D} : NK K I L → ks = (kvN L).map (fun p => nkE p.1) → RpA K cl I ((kvN L).map (·.2)) ds → SoOk K cl I p (NdO p L) (.dct true (ks.zip ds))
  | ins {C dx : Addr} {c : Nat} {ns : List Str} {vs : List V} {ds : List D} : cl c = some (C, ns) → vs.length ≤ ns.length → RpA K cl I vs ds → SoOk K cl I p (.ins C dx ((ns.take vs.length).zip vs)) (.ins c ds)
section
variable {K : PySem.W.Frag} {cl : ClM} {I I' H H' : Hp} {p : Addr} {ho : HO} {o : SO}
theorem SoOk.mono (e : Same I I') (h : SoOk K cl I p ho o) : SoOk K cl I' p ho o := by
  cases h with
  | lst r => exact .lst (r.mono e)
  | dK k r => exact .dK k (r.mono e)
  | dT nk k r => exact .dT (nk.mono (same_t e)) k (r.mono e)
  | ins c l r => exact .ins c l (r.mono e)
theorem same_new (h : I p = none) : Same I (upd I p ho) := fun b o e => by
  rw [upd_ne (ne_of_none e h)]
  exact e
theorem SoOk.frz (h : SoOk K cl I p ho o) (hp : I p = none) : Rp K cl (upd I p ho) (.ref p) (so2d o) := by
  have e : Same I (upd I p ho) := same_new hp
  cases h with
  | lst r => exact .lst upd_same (r.mono e)
  | dK k r => exact .dK (.inl upd_same) k (r.mono e)
  | dT nk k r => exact .dT upd_same (nk.mono (same_t e)) k (r.mono e)
  | ins c l r => exact .obj c upd_same l (r.mono e)

def SlotOk (K : PySem.W.Frag) (cl : ClM) (I H : Hp) (ov : Option V) : Slot → Prop
  | .none => True
  | .val d => ∃ v, ov = some v ∧ Rp K cl I v d
  | .own o => ∃ p ho, ov = some (.ref p) ∧ I p = none ∧ H p = some ho ∧ SoOk K cl I p ho o
structure Gd (K : PySem.W.Frag) (cl : ClM) (I H : Hp) (σ : L2.St) (env : MEnv) : Prop where
  ex : Same I H
  len : σ.length = env.length
  ok : ∀ (i : Nat) (s : Slot) (ov : Option V), env[i]? = some s → σ[i]? = some ov → SlotOk K cl I H ov s
  inj : ∀ (i j : Nat) (p : Addr) (o o' : SO), env[i]? = some (.own o) → env[j]? = some (.own o') → σ[i]? = some (some (.ref p)) → σ[j]? = some (some (.ref p)) → i = j
/-- the addresses that an environment owns -/
def Fp (σ : L2.St) (env : MEnv) (p : Addr) : Prop := ∃ (i : Nat) (o : SO), env[i]? = some (.own o) ∧ σ[i]? = some (some (.ref p))
structure Tr (F : Addr → Prop) (I H : Hp) (F' : Addr → Prop) (I' H' : Hp) : Prop where
  ext : Same I I'
  frame : ∀ p o, H p = some o → ¬ F p → H' p = some o
  nofr : ∀ p, H p ≠ none → ¬ F p → I p = none → I' p = none
  fp : ∀ p, F' p → F p ∨ H p = none
  dom : ∀ p, H p ≠ none → H' p ≠ none
theorem Tr.refl {F : Addr → Prop} : Tr F I H F I H := ⟨Same.refl _, fun _ _ e _ => e, fun _ _ _ e => e, fun _ h => .inl h, fun _ h => h⟩
theorem Tr.trans {F F1 F2 : Addr → Prop} {I1 H1 I2 H2 : Hp} (a : Tr F I H F1 I1 H1) (b : Tr F1 I1 H1 F2 I2 H2) : Tr F I H F2 I2 H2 := by
  have nf : ∀ p, H p ≠ none → ¬ F p → ¬ F1 p := fun p hp hf h1 => (a.fp p h1).elim hf hp
  refine ⟨a.ext.trans b.ext, fun p o e hf => ?_, fun p hp hf e => ?_, fun p h2 => ?_, fun p hp => b.dom p (a.dom p hp)⟩
  · exact b.frame p o (a.frame p o e hf) (nf p (by rw [e]; exact fun z => nomatch z) hf)
  · exact b.nofr p (a.dom p hp) (nf p hp hf) (a.nofr p hp hf e)
  · rcases b.fp p h2 with h | h
    · exact a.fp p h
    · refine .inr ?_
      cases q : H p with
      | none => rfl
      | some o => exact absurd h (a.dom p (by rw [q]; exact fun z => nomatch z))
/-- F' may be weakened to any smaller one -/
theorem Tr.less {F F1 F2 : Addr → Prop} {I1 H1 : Hp} (a : Tr F I H F1 I1 H1) (h : ∀ p, F2 p → F1 p) : Tr F I H F2 I1 H1 := ⟨a.ext, a.frame, a.nofr, fun p q => a.fp p (h p q), a.dom⟩
theorem Tr.more {F F0 F1 : Addr → Prop} {I1 H1 : Hp} (a : Tr F I H F1 I1 H1) (h : ∀ p, F p → F0 p) : Tr F0 I H F1 I1 H1 :=
  ⟨a.ext, fun p o e n => a.frame p o e fun z => n (h p z), fun p e n => a.nofr p e fun z => n (h p z), fun p q => (a.fp p q).imp_left (h p), a.dom⟩

/-- only new objects -/
structure Al (I H I' H' : Hp) : Prop where
  ext : Same I I'
  exH : Same H H'
  ex : Same I' H'
  nofr : ∀ p, H p ≠ none → I p = none → I' p = none
theorem Al.refl (e : Same I H) : Al I H I H := ⟨Same.refl _, Same.refl _, e, fun _ _ h => h⟩
theorem Al.trans {I1 H1 I2 H2 : Hp} (a : Al I H I1 H1) (b : Al I1 H1 I2 H2) : Al I H I2 H2 := by
  refine ⟨a.ext.trans b.ext, a.exH.trans b.exH, b.ex, fun p hp hi => b.nofr p ?_ (a.nofr p hp hi)⟩
  cases q : H p with
  | none => exact absurd q hp
  | some o =>
    rw [a.exH p o q]
    exact fun z => nomatch z
theorem Al.new (e : Same I H) (hp : H p = none) : Al I H (upd I p ho) (upd H p ho) := by
  have hi : I p = none := e.free hp
  refine ⟨same_new hi, same_new hp, fun b o q => ?_, fun b hb hi' => ?_⟩
  · by_cases h : b = p
    · subst h
      rw [upd_same] at q ⊢
      exact q
    · rw [upd_ne h] at q ⊢
      exact e b o q
  · have h : b ≠ p := fun z => by
      subst z
      exact hb hp
    rw [upd_ne h]
    exact hi'
/-- a new object that is not frozen -/
theorem Al.newH (e : Same I H) (hp : H p = none) : Al I H I (upd H p ho) :=
  ⟨Same.refl _, same_new hp, e.trans (same_new hp), fun _ _ h => h⟩
theorem Al.tr {F : Addr → Prop} (a : Al I H I' H') : Tr F I H F I' H' :=
  ⟨a.ext, fun p o e _ => a.exH p o e, fun p hp _ e => a.nofr p hp e, fun _ h => .inl h, fun p hp => by
    cases q : H p with
    | none => exact absurd q hp
    | some o =>
      rw [a.exH p o q]
      exact fun z => nomatch z⟩
theorem SlotOk.al {ov : Option V} {s : Slot} (a : Al I H I' H') (h : SlotOk K cl I H ov s) : SlotOk K cl I' H' ov s := by
  cases s with
  | none => trivial
  | val d =>
    obtain ⟨v, e, r⟩ := h
    exact ⟨v, e, r.mono a.ext⟩
  | own o =>
    obtain ⟨p, ho, e, ip, hp, r⟩ := h
    exact ⟨p, ho, e, a.nofr p (by rw [hp]; exact fun z => nomatch z) ip, a.exH p _ hp, r.mono a.ext⟩
theorem Gd.al {σ : L2.St} {env : MEnv} (g : Gd K cl I H σ env) (a : Al I H I' H') : Gd K cl I' H' σ env :=
  ⟨a.ex, g.len, fun i s ov h1 h2 => (g.ok i s ov h1 h2).al a, g.inj⟩
end

/-! ### results of expressions: a tree, or what a slot owns -/
inductive Rv where
  | d (d : D)
  | sl (i : Nat)
def RvOk (K : PySem.W.Frag) (cl : ClM) (I : Hp) (σ : L2.St) (v : V) : Rv → Prop
  | .d d => Rp K cl I v d
  | .sl i => σ[i]? = some (some v)
def vw (env : MEnv) : Rv → Option D
  | .d d => some d
  | .sl i => match env[i]? with
    | some (.val d) => some d
    | some (.own o) => some (so2d o)
    | _ => none
def esc (env : MEnv) : Rv → Option (D × MEnv)
  | .d d => some (d, env)
  | .sl i => match env[i]? with
    | some (.val d) => some (d, env)
    | some (.own o) => some (so2d o, env.set i (.val (so2d o)))
    | _ => none
/-- a value that may be read as d: frozen, or owned by a slot -/
def Vw (K : PySem.W.Frag) (cl : ClM) (I H : Hp) (v : V) (d : D) : Prop := Rp K cl I v d ∨ ∃ p ho o, v = .ref p ∧ I p = none ∧ H p = some ho ∧ SoOk K cl I p ho o ∧ d = so2d o
section
variable {K : PySem.W.Frag} {cl : ClM} {I I' H H' : Hp} {σ : L2.St} {env env' : MEnv} {v : V} {r : Rv} {d : D}
theorem RvOk.mono (e : Same I I') (h : RvOk K cl I σ v r) : RvOk K cl I' σ v r := by
  cases r with
  | d d => exact Rp.mono e h
  | sl i => exact h
theorem vw_ok (g : Gd K cl I H σ env) (h : RvOk K cl I σ v r) (e : vw env r = some d) : Vw K cl I H v d := by
  cases r with
  | d d' =>
    cases Option.some.inj e
    exact .inl h
  | sl i =>
    have h' : σ[i]? = some (some v) := h
    unfold vw at e
    cases q : env[i]? with
    | none => simp [q] at e
    | some s =>
      have ok := g.ok i s _ q h'
      cases s with
      | none => simp [q] at e
      | val d' =>
        simp [q] at e
        subst e
        obtain ⟨v', e1, r1⟩ := ok
        cases e1
        exact .inl r1
      | own o =>
        simp [q] at e
        subst e
        obtain ⟨p, ho, e1, ip, hp, r1⟩ := ok
        cases e1
        exact .inr ⟨p, ho, o, rfl, ip, hp, r1, rfl⟩
theorem Gd.setVal {i : Nat} {v : V} {d : D} (g : Gd K cl I H σ env) (h : Rp K cl I v d) : Gd K cl I H (σ.set i (some v)) (env.set i (.val d)) := by
  refine ⟨g.ex, by rw [List.length_set, List.length_set]; exact g.len, fun j s ov h1 h2 => ?_, fun j k p o o' h1 h2 h3 h4 => ?_⟩
  · by_cases e : i = j
    · subst e
      rw [List.getElem?_set] at h1 h2
      simp only [if_true] at h1 h2
      by_cases hl : i < env.length
      · rw [if_pos hl] at h1
        rw [if_pos (by rw [g.len]; exact hl)] at h2
        cases h1
        cases h2
        exact ⟨v, rfl, h⟩
      · rw [if_neg hl] at h1
        cases h1
    · rw [List.getElem?_set_ne e] at h1 h2
      exact g.ok j s ov h1 h2
  · have n1 : i ≠ j := fun e => by
      subst e
      rw [List.getElem?_set] at h1
      simp only [if_true] at h1
      split at h1 <;> cases h1
    have n2 : i ≠ k := fun e => by
      subst e
      rw [List.getElem?_set] at h2
      simp only [if_true] at h2
      split at h2 <;> cases h2
    rw [List.getElem?_set_ne n1] at h1 h3
    rw [List.getElem?_set_ne n2] at h2 h4
    exact g.inj j k p o o' h1 h2 h3 h4
theorem Fp.setVal {i : Nat} {v : V} {d : D} {p : Addr} (h : Fp (σ.set i (some v)) (env.set i (.val d)) p) : Fp σ env p := by
  obtain ⟨j, o, h1, h2⟩ := h
  have n1 : i ≠ j := fun e => by
    subst e
    rw [List.getElem?_set] at h1
    simp only [if_true] at h1
    split at h1 <;> cases h1
  rw [List.getElem?_set_ne n1] at h1 h2
  exact ⟨j, o, h1, h2⟩
theorem set_self {α : Type} : ∀ (l : List α) (i : Nat) (x : α), l[i]? = some x → l.set i x = l
  | [], _, _, h => by simp at h
  | a :: l, 0, x, h => by
    simp at h
    subst h
    rfl
  | a :: l, i + 1, x, h => by
    rw [List.set_cons_succ, set_self l i x (by simpa using h)]
/-- a result leaves its slot -/
theorem esc_ok (g : Gd K cl I H σ env) (h : RvOk K cl I σ v r) (e : esc env r = some (d, env')) : ∃ I', Gd K cl I' H σ env' ∧ Tr (Fp σ env) I H (Fp σ env') I' H ∧ Rp K cl I' v d := by
  cases r with
  | d d' =>
    cases Option.some.inj e
    exact ⟨I, g, Tr.refl, h⟩
  | sl i =>
    have h' : σ[i]? = some (some v) := h
    unfold esc at e
    cases q : env[i]? with
    | none => simp [q] at e
    | some s =>
      have ok := g.ok i s _ q h'
      cases s with
      | none => simp [q] at e
      | val d' =>
        simp [q] at e
        obtain ⟨rfl, rfl⟩ := e
        obtain ⟨v', e1, r1⟩ := ok
        cases e1
        exact ⟨I, g, Tr.refl, r1⟩
      | own o =>
        simp [q] at e
        obtain ⟨rfl, rfl⟩ := e
        obtain ⟨p, ho, e1, ip, hp, r1⟩ := ok
        cases e1
        have e0 : Same I (upd I p ho) := same_new ip
        have rr : Rp K cl (upd I p ho) (.ref p) (so2d o) := r1.frz ip
        have hil : i < env.length := (List.getElem?_eq_some_iff.mp q).1
        have fpi : Fp σ env p := ⟨i, o, q, h'⟩
        have own2 : ∀ j o', (env.set i (.val (so2d o)))[j]? = some (.own o') → i ≠ j ∧ env[j]? = some (.own o') := fun j o' hj => by
          have n : i ≠ j := fun z => by
            subst z
            rw [List.getElem?_set] at hj
            simp only [if_true] at hj
            split at hj <;> cases hj
          rw [List.getElem?_set_ne n] at hj
          exact ⟨n, hj⟩
        refine ⟨upd I p ho, ⟨fun b u hb => ?_, by rw [List.length_set]; exact g.len, fun j s ov h1 h2 => ?_, fun j k b o1 o2 h1 h2 h3 h4 => g.inj j k b o1 o2 (own2 j o1 h1).2 (own2 k o2 h2).2 h3 h4⟩, ⟨e0, fun _ _ e _ => e, fun b hb nf hi => ?_, fun b hb => ?_, fun _ h => h⟩, rr⟩
        · by_cases z : b = p
          · subst z
            rw [upd_same] at hb
            cases hb
            exact hp
          · rw [upd_ne z] at hb
            exact g.ex b u hb
        · by_cases z : i = j
          · subst z
            rw [List.getElem?_set] at h1
            simp only [if_true] at h1
            rw [if_pos hil] at h1
            cases h1
            rw [h'] at h2
            cases h2
            exact ⟨_, rfl, rr⟩
          · rw [List.getElem?_set_ne z] at h1
            have ok2 := g.ok j s ov h1 h2
            cases s with
            | none => trivial
            | val d2 =>
              obtain ⟨v2, e2, r2⟩ := ok2
              exact ⟨v2, e2, r2.mono e0⟩
            | own o2 =>
              obtain ⟨p2, ho2, e2, ip2, hp2, r2⟩ := ok2
              have np : p2 ≠ p := fun w => by
                subst w
                rw [e2] at h2
                exact z (g.inj i j p2 o o2 q h1 h' h2)
              exact ⟨p2, ho2, e2, by rw [upd_ne np]; exact ip2, hp2, r2.mono e0⟩
        · have np : b ≠ p := fun z => by
            subst z
            exact nf fpi
          rw [upd_ne np]
          exact hi
        · obtain ⟨j, o1, h1, h2⟩ := hb
          exact .inl ⟨j, o1, (own2 j o1 h1).2, h2⟩
end
end MP
set_option Elab.async false
set_option linter.all false
set_option maxRecDepth 100000
set_option maxHeartbeats 4000000
namespace MP
open PySem PySem.Spec PyProof.Rows L2

/-! ### helpers on heaps -/
section
variable {K : PySem.W.Frag} {cl : ClM} {I I' H H' : Hp} {σ : L2.St} {env env' : MEnv} {v : V} {d : D} {p : Addr} {ho ho' : HO} {o : SO}
theorem Gd.frz (g : Gd K cl I H σ env) (ip : I p = none) (hp : H p = some ho) (nf : ¬ Fp σ env p) : Gd K cl (upd I p ho) H σ env := by
  have e0 : Same I (upd I p ho) := same_new ip
  refine ⟨fun b u hb => ?_, g.len, fun j s ov h1 h2 => ?_, g.inj⟩
  · by_cases z : b = p
    · subst z
      rw [upd_same] at hb
      cases hb
      exact hp
    · rw [upd_ne z] at hb
      exact g.ex b u hb
  · have ok2 := g.ok j s ov h1 h2
    cases s with
    | none => trivial
    | val d2 =>
      obtain ⟨v2, e2, r2⟩ := ok2
      exact ⟨v2, e2, r2.mono e0⟩
    | own o2 =>
      obtain ⟨p2, ho2, e2, ip2, hp2, r2⟩ := ok2
      have np : p2 ≠ p := fun w => by
        subst w
        rw [e2] at h2
        exact nf ⟨j, o2, h1, h2⟩
      exact ⟨p2, ho2, e2, by rw [upd_ne np]; exact ip2, hp2, r2.mono e0⟩
/-- an object that is neither frozen nor owned changes -/
theorem Gd.updH (g : Gd K cl I H σ env) (ip : I p = none) (nf : ¬ Fp σ env p) : Gd K cl I (upd H p ho) σ env := by
  refine ⟨fun b u hb => ?_, g.len, fun j s ov h1 h2 => ?_, g.inj⟩
  · rw [upd_ne (ne_of_none hb ip)]
    exact g.ex b u hb
  · have ok2 := g.ok j s ov h1 h2
    cases s with
    | none => trivial
    | val d2 => exact ok2
    | own o2 =>
      obtain ⟨p2, ho2, e2, ip2, hp2, r2⟩ := ok2
      have np : p2 ≠ p := fun w => by
        subst w
        rw [e2] at h2
        exact nf ⟨j, o2, h1, h2⟩
      exact ⟨p2, ho2, e2, ip2, by rw [upd_ne np]; exact hp2, r2⟩
theorem Tr.updN {F F' : Addr → Prop} (t : Tr F I H F' I' H') (h : F p ∨ H p = none) : Tr F I H F' I' (upd H' p ho) := by
  refine ⟨t.ext, fun b u hb nf => ?_, t.nofr, t.fp, fun b hb => ?_⟩
  · have nb : b ≠ p := fun z => by
      subst z
      rcases h with h | h
      · exact nf h
      · rw [h] at hb
        cases hb
    rw [upd_ne nb]
    exact t.frame b u hb nf
  · by_cases z : b = p
    · subst z
      rw [upd_same]
      exact fun w => nomatch w
    · rw [upd_ne z]
      exact t.dom b hb
theorem Tr.frzN {F F' : Addr → Prop} (t : Tr F I H F' I' H') (h : F p ∨ H p = none) (ip : I' p = none) : Tr F I H F' (upd I' p ho) H' := by
  refine ⟨t.ext.trans (same_new ip), t.frame, fun b hb nf hi => ?_, t.fp, t.dom⟩
  have nb : b ≠ p := fun z => by
    subst z
    rcases h with h | h
    · exact nf h
    · exact hb h
  rw [upd_ne nb]
  exact t.nofr b hb nf hi
/-- what a step may touch, seen from its start -/
theorem Tr.back {F F1 : Addr → Prop} (t : Tr F I H F1 I' H') (h : F1 p ∨ H' p = none) : F p ∨ H p = none := by
  rcases h with h | h
  · exact t.fp p h
  · refine .inr ?_
    cases q : H p with
    | none => rfl
    | some u => exact absurd h (t.dom p (by rw [q]; exact fun z => nomatch z))
theorem Tr.notin {F F1 : Addr → Prop} (t : Tr F I H F1 I' H') (h : H p ≠ none) (n : ¬ F p) : ¬ F1 p := fun z => (t.fp p z).elim n h

/-! views -/
theorem Vw.lst {ds : List D} (e : Same I H) (h : Vw K cl I H v (.lst ds)) : ∃ a vs, v = .ref a ∧ H a = some (.lst vs) ∧ RpA K cl I vs ds := by
  rcases h with h | ⟨p, ho, o, rfl, ip, hp, r, ed⟩
  · cases h with
    | lst s r => exact ⟨_, _, rfl, e _ _ s, r⟩
  · cases r with
    | lst r =>
      cases ed
      exact ⟨p, _, rfl, hp, r⟩
    | dK k r => cases ed
    | dT nk k r => cases ed
    | ins c l r => cases ed
theorem Vw.tup {ds : List D} (e : Same I H) (h : Vw K cl I H v (.tup ds)) : ∃ a vs, v = .ref a ∧ SqT K H a vs ∧ RpA K cl I vs ds ∧ Rp K cl I v (.tup ds) := by
  rcases h with h | ⟨p, ho, o, rfl, ip, hp, r, ed⟩
  · have h' := h
    cases h with
    | tup s r => exact ⟨_, _, rfl, (s.mono e).sq, r, h'⟩
  · cases r with
    | lst r => cases ed
    | dK k r => cases ed
    | dT nk k r => cases ed
    | ins c l r => cases ed
theorem Vw.tupP {ds : List D} (e : Same I H) (h : Vw K cl I H v (.tup ds)) : ∃ a vs, v = .ref a ∧ TupIn K H a vs ∧ RpA K cl I vs ds ∧ Rp K cl I v (.tup ds) := by
  rcases h with h | ⟨p, ho, o, rfl, ip, hp, r, ed⟩
  · have h' := h
    cases h with
    | tup s r => exact ⟨_, _, rfl, s.mono e, r, h'⟩
  · cases r with
    | lst r => cases ed
    | dK k r => cases ed
    | dT nk k r => cases ed
    | ins c l r => cases ed
theorem Vw.rp (h : Vw K cl I H v d) (hd : ∀ o, d ≠ so2d o) : Rp K cl I v d := by
  rcases h with h | ⟨p, ho, o, rfl, ip, hp, r, ed⟩
  · exact h
  · exact absurd ed (hd o)
theorem so_int {i : Int} (o : SO) : D.int i ≠ so2d o := by cases o <;> exact fun z => nomatch z
theorem so_bl {i : Bool} (o : SO) : D.bl i ≠ so2d o := by cases o <;> exact fun z => nomatch z
theorem so_str {i : Str} (o : SO) : D.str i ≠ so2d o := by cases o <;> exact fun z => nomatch z
theorem so_non (o : SO) : D.non ≠ so2d o := by cases o <;> exact fun z => nomatch z
theorem Vw.int {i : Int} (h : Vw K cl I H v (.int i)) : v = .int i := by
  cases h.rp so_int
  rfl
theorem Vw.bl {i : Bool} (h : Vw K cl I H v (.bl i)) : v = .bl i := by
  cases h.rp so_bl
  rfl
theorem Vw.str {i : Str} (h : Vw K cl I H v (.str i)) : v = .str i := by
  cases h.rp so_str
  rfl
theorem Vw.non (h : Vw K cl I H v .non) : v = .non := by
  cases h.rp so_non
  rfl
theorem Vw.mono {I1 H1 : Hp} (e : Same I I1) (eH : ∀ q u, H q = some u → H1 q = some u) (n : ∀ q, H q ≠ none → I q = none → I1 q = none) (h : Vw K cl I H v d) : Vw K cl I1 H1 v d := by
  rcases h with h | ⟨p, ho, o, rfl, ip, hp, r, ed⟩
  · exact .inl (h.mono e)
  · exact .inr ⟨p, ho, o, rfl, n p (by rw [hp]; exact fun z => nomatch z) ip, eH _ _ hp, r.mono e, ed⟩
inductive VwA (K : PySem.W.Frag) (cl : ClM) (I H : Hp) : List V → List D → Prop
  | nil : VwA K cl I H [] []
  | cons {v : V} {vs : List V} {d : D} {ds : List D} : Vw K cl I H v d → VwA K cl I H vs ds → VwA K cl I H (v :: vs) (d :: ds)
end

/-! ### judgements -/
abbrev Xp := MEnv → Option (Rv × MEnv)
abbrev Xt := MEnv → Option (Bool × MEnv)
abbrev Xa := MEnv → Option (List Rv × MEnv)
abbrev Xf := MEnv → Option (SO × MEnv)
inductive RetV where
  | d (d : D)
  | o (o : SO)
inductive Fl where
  | nx | bk | ct
  | ret (r : RetV)
abbrev Xs := MEnv → Option (Fl × MEnv)
/-- a target of a for, an assignment: from a tree and the environment -/
abbrev Xg := D → MEnv → Option MEnv

def EvOk (K : PySem.W.Frag) (cl : ClM) (t : TE) (m : Xp) : Prop := ∀ (σ : L2.St) (H I : Hp) (env : MEnv) (r : Rv) (env' : MEnv) (Q : VK), Gd K cl I H σ env → m env = some (r, env') →
  (∀ v I' H', Gd K cl I' H' σ env' → Tr (Fp σ env) I H (Fp σ env') I' H' → RvOk K cl I' σ v r → Q v H') → t σ H Q
def ME (X : Cx) (cl : ClM) (e : Expr) (m : Xp) : Prop := ∃ t, PE X e t ∧ EvOk X.K cl t m
def TtOk (K : PySem.W.Frag) (cl : ClM) (t : TT) (m : Xt) : Prop := ∀ (σ : L2.St) (H I : Hp) (env : MEnv) (b : Bool) (env' : MEnv) (Q : Bool → Hp → Prop), Gd K cl I H σ env → m env = some (b, env') →
  (∀ I' H', Gd K cl I' H' σ env' → Tr (Fp σ env) I H (Fp σ env') I' H' → Q b H') → t σ H Q
def MT (X : Cx) (cl : ClM) (e : Expr) (m : Xt) : Prop := ∃ t, PT X e t ∧ TtOk X.K cl t m
inductive RvA (K : PySem.W.Frag) (cl : ClM) (I : Hp) (σ : L2.St) : List V → List Rv → Prop
  | nil : RvA K cl I σ [] []
  | cons {v : V} {vs : List V} {r : Rv} {rs : List Rv} : RvOk K cl I σ v r → RvA K cl I σ vs rs → RvA K cl I σ (v :: vs) (r :: rs)
theorem RvA.mono {K : PySem.W.Frag} {cl : ClM} {I I' : Hp} {σ : L2.St} (e : Same I I') : ∀ {vs : List V} {rs : List Rv}, RvA K cl I σ vs rs → RvA K cl I' σ vs rs
  | _, _, .nil => .nil
  | _, _, .cons h t => .cons (h.mono e) (RvA.mono e t)
def AgOk (K : PySem.W.Frag) (cl : ClM) (t : TA) (m : Xa) : Prop := ∀ (σ : L2.St) (H I : Hp) (env : MEnv) (rs : List Rv) (env' : MEnv) (Q : List V → Hp → Prop), Gd K cl I H σ env → m env = some (rs, env') →
  (∀ vs I' H', Gd K cl I' H' σ env' → Tr (Fp σ env) I H (Fp σ env') I' H' → RvA K cl I' σ vs rs → Q vs H') → t σ H Q
def MA (X : Cx) (cl : ClM) (es : List Expr) (m : Xa) : Prop := ∃ t, PA X es t ∧ AgOk X.K cl t m
def FrOk (K : PySem.W.Frag) (cl : ClM) (t : TE) (m : Xf) : Prop := ∀ (σ : L2.St) (H I : Hp) (env : MEnv) (o : SO) (env' : MEnv) (Q : VK), Gd K cl I H σ env → m env = some (o, env') →
  (∀ p ho I' H', Gd K cl I' H' σ env' → Tr (Fp σ env) I H (Fp σ env') I' H' → I' p = none → H' p = some ho → SoOk K cl I' p ho o → (Fp σ env p ∨ H p = none) → ¬ Fp σ env' p → Q (.ref p) H') → t σ H Q
/-- an expression that makes an object of its own -/
def MF (X : Cx) (cl : ClM) (e : Expr) (m : Xf) : Prop := ∃ t, PE X e t ∧ FrOk X.K cl t m
def RetOk (K : PySem.W.Frag) (cl : ClM) (F : Addr → Prop) (H : Hp) (F' : Addr → Prop) (I' H' : Hp) (v : V) : RetV → Prop
  | .d d => Rp K cl I' v d
  | .o o => ∃ p ho, v = .ref p ∧ I' p = none ∧ H' p = some ho ∧ SoOk K cl I' p ho o ∧ (F p ∨ H p = none) ∧ ¬ F' p
def FlOk (K : PySem.W.Frag) (cl : ClM) (F : Addr → Prop) (H : Hp) (Dn : Ends) (σ' : L2.St) (I' H' : Hp) (env' : MEnv) : Fl → Prop
  | .nx => Dn.nx σ' H'
  | .bk => Dn.bk σ' H'
  | .ct => Dn.ct σ' H'
  | .ret r => ∀ v, RetOk K cl F H (Fp σ' env') I' H' v r → Dn.rt v H'
def StOk (K : PySem.W.Frag) (cl : ClM) (R : Nat → Bool) (t : TS) (m : Xs) : Prop := ∀ (σ : L2.St) (H I : Hp) (env : MEnv) (fl : Fl) (env' : MEnv) (Dn : Ends), Gd K cl I H σ env → m env = some (fl, env') →
  (∀ σ' I' H', Gd K cl I' H' σ' env' → Tr (Fp σ env) I H (Fp σ' env') I' H' → (∀ i, R i = true → σ'[i]? = σ[i]?) → FlOk K cl (Fp σ env) H Dn σ' I' H' env' fl) → t Dn σ H
def MS (X : Cx) (cl : ClM) (R : Nat → Bool) (st : Stmt) (m : Xs) : Prop := ∃ t, PS X st t ∧ StOk X.K cl R t m
def MSs (X : Cx) (cl : ClM) (R : Nat → Bool) (sts : List Stmt) (m : Xs) : Prop := ∃ t, PSs X sts t ∧ StOk X.K cl R t m
def GtOk (K : PySem.W.Frag) (cl : ClM) (R : Nat → Bool) (g : TG) (m : Xg) : Prop := ∀ (σ : L2.St) (H I : Hp) (env : MEnv) (d : D) (env' : MEnv) (v : V) (Q : L2.St → Hp → Prop), Gd K cl I H σ env → Rp K cl I v d → m d env = some env' →
  (∀ σ' I' H', Gd K cl I' H' σ' env' → Tr (Fp σ env) I H (Fp σ' env') I' H' → (∀ i, R i = true → σ'[i]? = σ[i]?) → σ'.length = σ.length → Q σ' H') → g v σ H Q
def MG (X : Cx) (cl : ClM) (R : Nat → Bool) (tg : Expr) (m : Xg) : Prop := ∃ g, PG X tg g ∧ GtOk X.K cl R g m
def GtsOk (K : PySem.W.Frag) (cl : ClM) (R : Nat → Bool) (g : TGs) (m : List D → MEnv → Option MEnv) : Prop := ∀ (σ : L2.St) (H I : Hp) (env : MEnv) (ds : List D) (env' : MEnv) (vs : List V) (Q : L2.St → Hp → Prop), Gd K cl I H σ env → RpA K cl I vs ds → m ds env = some env' →
  (∀ σ' I' H', Gd K cl I' H' σ' env' → Tr (Fp σ env) I H (Fp σ' env') I' H' → (∀ i, R i = true → σ'[i]? = σ[i]?) → σ'.length = σ.length → Q σ' H') → g vs σ H Q
def MGs (X : Cx) (cl : ClM) (R : Nat → Bool) (tgs : List Expr) (m : List D → MEnv → Option MEnv) : Prop := ∃ g, PGs X tgs g ∧ GtsOk X.K cl R g m
/-- a walk gives the items ds -/
def ItOk (K : PySem.W.Frag) (cl : ClM) (I : Hp) (J : It) (ds : List D) : Prop := ∀ (i : Nat) (I1 H1 : Hp), Same I I1 → Same I1 H1 →
  (ds[i]? = none → J.stop i H1) ∧ ∀ d, ds[i]? = some d → J.go i H1 ∧ ∀ v H2, J.yld i H1 v H2 → ∃ I2, Al I1 H1 I2 H2 ∧ Rp K cl I2 v d
abbrev Xi := MEnv → Option (List D × MEnv)
def TiOk (K : PySem.W.Frag) (cl : ClM) (wi : TI) (m : Xi) : Prop := ∀ (σ : L2.St) (H I : Hp) (env : MEnv) (ds : List D) (env' : MEnv) (R : It → Hp → Prop), Gd K cl I H σ env → m env = some (ds, env') →
  (∀ J I' H', Gd K cl I' H' σ env' → Tr (Fp σ env) I H (Fp σ env') I' H' → ItOk K cl I' J ds → R J H') → wi σ H R
def MI (X : Cx) (cl : ClM) (tg iter : Expr) (m : Xi) : Prop := ∃ wi, PI X tg iter wi ∧ TiOk X.K cl wi m

section
variable {X : Cx} {cl : ClM} {R : Nat → Bool} {e a b c : Expr} {es : List Expr} {pos : Pos} {m m1 m2 : Xp}
/-! ### names, constants -/
def eVar (i : Nat) : Xp := fun env => match env[i]? with
  | some (.val d) => some (.d d, env)
  | some (.own _) => some (.sl i, env)
  | _ => none
theorem me_var {i : Nat} (h : PE X e (tVar i)) : ME X cl e (eVar i) := by
  refine ⟨_, h, fun σ H I env r env' Q g hm k => ?_⟩
  unfold eVar at hm
  cases q : env[i]? with
  | none => simp [q] at hm
  | some s =>
    have hi : i < σ.length := by
      rw [g.len]
      exact (List.getElem?_eq_some_iff.mp q).1
    obtain ⟨ov, hov⟩ : ∃ ov, σ[i]? = some ov := ⟨σ[i], List.getElem?_eq_getElem hi⟩
    have ok := g.ok i s ov q hov
    cases s with
    | none => simp [q] at hm
    | val d =>
      simp [q] at hm
      obtain ⟨rfl, rfl⟩ := hm
      obtain ⟨v, e1, r1⟩ := ok
      subst e1
      exact ⟨v, hov, k v I H g Tr.refl r1⟩
    | own o =>
      simp [q] at hm
      obtain ⟨rfl, rfl⟩ := hm
      obtain ⟨p, ho, e1, _⟩ := ok
      subst e1
      exact ⟨.ref p, hov, k _ I H g Tr.refl hov⟩
def eK (d : D) : Xp := fun env => some (.d d, env)
theorem me_k {v : V} {d : D} (h : PE X e (tC v)) (r : ∀ I, Rp X.K cl I v d) : ME X cl e (eK d) := by
  refine ⟨_, h, fun σ H I env r' env' Q g hm k => ?_⟩
  cases Option.some.inj hm
  exact k v I H g Tr.refl (r I)
theorem me_int {i : Int} {j} : ME X cl (.Constant (.int i) j pos) (eK (.int i)) := me_k pe_int fun _ => .int i
theorem me_bl {i : Bool} {j} : ME X cl (.Constant (.bool i) j pos) (eK (.bl i)) := me_k pe_bl fun _ => .bl i
theorem me_str {i : Str} {j} : ME X cl (.Constant (.str i) j pos) (eK (.str i)) := me_k pe_str fun _ => .str i
theorem me_non {j} : ME X cl (.Constant .none j pos) (eK .non) := me_k pe_non fun _ => .non
/-- stuck: no claim -/
def eNo : Xp := fun _ => none
theorem pe_false (e : Expr) : PE X e (fun _ _ _ => False) := ⟨fun _ _ _ _ _ _ h => h.elim⟩
theorem me_no : ME X cl e eNo := ⟨_, pe_false e, fun _ _ _ _ _ _ _ _ hm _ => nomatch hm⟩
def sNo : Xs := fun _ => none
theorem ms_no {st : Stmt} : MS X cl R st sNo := ⟨_, ps_never, fun _ _ _ _ _ _ _ _ hm _ => nomatch hm⟩
theorem mss_no {sts : List Stmt} : MSs X cl R sts sNo := ⟨_, pss_never, fun _ _ _ _ _ _ _ _ hm _ => nomatch hm⟩

/-! ### operators -/
def OpM (X : Cx) (cl : ClM) (f : Value → Value → Sem Value) (g : D → D → Option D) : Prop := ∃ r : R2, OpR X f r ∧
  ∀ (I H : Hp) (v w : V) (x y z : D) (Q : VK), Same I H → Vw X.K cl I H v x → Vw X.K cl I H w y → g x y = some z → (∀ u I' H', Al I H I' H' → Rp X.K cl I' u z → Q u H') → r v w H Q
def eBin (g : D → D → Option D) (m1 m2 : Xp) : Xp := fun env => match m1 env with
  | none => none
  | some (r1, e1) => match m2 e1 with
    | none => none
    | some (r2, e2) => match vw e2 r1, vw e2 r2 with
      | some x, some y => match g x y with
        | some z => some (.d z, e2)
        | none => none
      | _, _ => none
theorem ev_bin {r : R2} {ta tb : TE} {g : D → D → Option D} (h1 : EvOk X.K cl ta m1) (h2 : EvOk X.K cl tb m2)
    (hr : ∀ (I H : Hp) (v w : V) (x y z : D) (Q : VK), Same I H → Vw X.K cl I H v x → Vw X.K cl I H w y → g x y = some z → (∀ u I' H', Al I H I' H' → Rp X.K cl I' u z → Q u H') → r v w H Q) : EvOk X.K cl (tOp r ta tb) (eBin g m1 m2) := by
  intro σ H I env rr env' Q gd hm k
  unfold eBin at hm
  cases q1 : m1 env with
  | none => simp [q1] at hm
  | some p1 =>
    obtain ⟨r1, e1⟩ := p1
    simp only [q1] at hm
    cases q2 : m2 e1 with
    | none => simp [q2] at hm
    | some p2 =>
      obtain ⟨r2, e2⟩ := p2
      simp only [q2] at hm
      cases q3 : vw e2 r1 with
      | none => simp [q3] at hm
      | some x =>
        cases q4 : vw e2 r2 with
        | none => simp [q3, q4] at hm
        | some y =>
          simp only [q3, q4] at hm
          cases q5 : g x y with
          | none => simp [q5] at hm
          | some z =>
            simp only [q5, Option.some.injEq, Prod.mk.injEq] at hm
            obtain ⟨rfl, rfl⟩ := hm
            refine h1 σ H I env r1 e1 _ gd q1 fun v I1 H1 g1 t1 k1 => ?_
            refine h2 σ H1 I1 e1 r2 e2 _ g1 q2 fun w I2 H2 g2 t2 k2 => ?_
            exact hr I2 H2 v w x y z Q g2.ex (vw_ok g2 (k1.mono t2.ext) q3) (vw_ok g2 k2 q4) q5 fun u I3 H3 a r => k u I3 H3 (g2.al a) ((t1.trans t2).trans a.tr) r
theorem me_op {op : Operator} {g : D → D → Option D} (ho : OpM X cl (binaryOp op) g) (h1 : ME X cl a m1) (h2 : ME X cl b m2) : ME X cl (.BinOp a op b pos) (eBin g m1 m2) := by
  obtain ⟨r, hr, hw⟩ := ho
  obtain ⟨ta, pa, ea⟩ := h1
  obtain ⟨tb, pb, eb⟩ := h2
  exact ⟨_, pe_op hr pa pb, ev_bin ea eb hw⟩
theorem me_cmp {op : CmpOp} {g : D → D → Option D} (ho : OpM X cl (compareOp op) g) (h1 : ME X cl a m1) (h2 : ME X cl b m2) (hm : behindInMarks op b = false) : ME X cl (.Compare a [op] [b] pos) (eBin g m1 m2) := by
  obtain ⟨r, hr, hw⟩ := ho
  obtain ⟨ta, pa, ea⟩ := h1
  obtain ⟨tb, pb, eb⟩ := h2
  exact ⟨_, pe_cmpR hr pa pb hm, ev_bin ea eb hw⟩
/-- an expression whose value is a bool, as a test -/
def tOfB (m : Xp) : Xt := fun env => match m env with
  | some (.d (.bl b), e) => some (b, e)
  | _ => none
theorem tt_b {t : TE} (h : EvOk X.K cl t m) : TtOk X.K cl (tTest t) (tOfB m) := by
  intro σ H I env b env' Q g hm k
  unfold tOfB at hm
  cases q : m env with
  | none => simp [q] at hm
  | some p =>
    obtain ⟨r, e1⟩ := p
    cases r with
    | sl i => simp [q] at hm
    | d d =>
      cases d with
      | bl b' =>
        simp only [q, Option.some.injEq, Prod.mk.injEq] at hm
        obtain ⟨rfl, rfl⟩ := hm
        exact h σ H I env _ e1 _ g q fun v I1 H1 g1 t1 r1 => by
          have r1' : Rp X.K cl I1 v (.bl b') := r1
          cases r1'
          exact ⟨b', rfl, k I1 H1 g1 t1⟩
      | _ => simp [q] at hm
theorem mt_cmp {op : CmpOp} {g : D → D → Option D} (ho : OpM X cl (compareOp op) g) (h1 : ME X cl a m1) (h2 : ME X cl b m2) (hm : behindInMarks op b = false) : MT X cl (.Compare a [op] [b] pos) (tOfB (eBin g m1 m2)) := by
  obtain ⟨r, hr, hw⟩ := ho
  obtain ⟨ta, pa, ea⟩ := h1
  obtain ⟨tb, pb, eb⟩ := h2
  exact ⟨_, pt_cmpR hr pa pb hm, tt_b (ev_bin ea eb hw)⟩
/-- any expression with a bool as its value, as a test -/
theorem mt_val (h : ME X cl e m) (he : ∀ whole, isTrue e X.env whole = (do let v ← whole; standAt e.pos; holding [v] (truthy v))) : MT X cl e (tOfB m) := by
  obtain ⟨t, p, ev⟩ := h
  refine ⟨_, pt_val p he, ?_⟩
  exact tt_b ev
/-- truth of a value -/
def truD : D → Option Bool
  | .non => some false
  | .bl b => some b
  | .int i => some (i != 0)
  | .lst xs => some (!xs.isEmpty)
  | .tup xs => some (!xs.isEmpty)
  | _ => none
def tTru (m : Xp) : Xt := fun env => match m env with
  | none => none
  | some (r, e) => match vw e r with
    | none => none
    | some d => match truD d with
      | none => none
      | some b => some (b, e)
theorem RpA.isEmpty {K : PySem.W.Frag} {I : Hp} {vs : List V} {ds : List D} (h : RpA K cl I vs ds) : vs.isEmpty = ds.isEmpty := by
  cases h <;> rfl
theorem tru_ok' {K : PySem.W.Frag} {I H : Hp} {v : V} {d : D} {b : Bool} (e : Same I H) (h : Vw K cl I H v d) (q : truD d = some b) : TruV K v H b := by
  cases d with
  | non =>
    cases h.non
    exact (Option.some.inj q).symm
  | bl c =>
    cases h.bl
    exact (Option.some.inj q).symm
  | int i =>
    cases h.int
    exact (Option.some.inj q).symm
  | lst xs =>
    obtain ⟨a, vs, rfl, s, r⟩ := h.lst e
    exact .inl ⟨vs, SqL.of s, by rw [r.isEmpty]; exact (Option.some.inj q).symm⟩
  | tup xs =>
    obtain ⟨a, vs, rfl, s, r, _⟩ := h.tup e
    exact .inr (.inl ⟨vs, s, by rw [r.isEmpty]; exact (Option.some.inj q).symm⟩)
  | str _ => cases q
  | dct _ _ => cases q
  | obj _ _ => cases q
  | scr _ => cases q
  | ktp _ => cases q
theorem mt_truth (h : ME X cl e m) (he : ∀ whole, isTrue e X.env whole = (do let v ← whole; standAt e.pos; holding [v] (truthy v))) : MT X cl e (tTru m) := by
  obtain ⟨t, p, ev⟩ := h
  refine ⟨_, pt_truth p he, fun σ H I env b env' Q g hm k => ?_⟩
  unfold tTru at hm
  cases q : m env with
  | none => simp [q] at hm
  | some p =>
    obtain ⟨r, e1⟩ := p
    simp only [q] at hm
    cases q2 : vw e1 r with
    | none => simp [q2] at hm
    | some d =>
      simp only [q2] at hm
      cases q3 : truD d with
      | none => simp [q3] at hm
      | some b' =>
        simp only [q3, Option.some.injEq, Prod.mk.injEq] at hm
        obtain ⟨rfl, rfl⟩ := hm
        exact ev σ H I env r e1 _ g q fun v I1 H1 g1 t1 r1 => ⟨b', tru_ok' g1.ex (vw_ok g1 r1 q2) q3, k I1 H1 g1 t1⟩

/-! ### and, or, not -/
def MW (X : Cx) (cl : ClM) (e : Expr) (m : Xt) : Prop := ∃ t, PW X e t ∧ TtOk X.K cl t m
theorem MW.mt {m : Xt} (h : MW X cl e m) : MT X cl e m := by
  obtain ⟨t, p, k⟩ := h
  exact ⟨t, p.pt, k⟩
def tAn (m1 m2 : Xt) : Xt := fun env => match m1 env with
  | some (true, e1) => m2 e1
  | some (false, e1) => some (false, e1)
  | none => none
def tO (m1 m2 : Xt) : Xt := fun env => match m1 env with
  | some (true, e1) => some (true, e1)
  | some (false, e1) => m2 e1
  | none => none
def tNo (m1 : Xt) : Xt := fun env => match m1 env with
  | some (b, e1) => some (!b, e1)
  | none => none
variable {mt1 mt2 : Xt} {rest : List Expr}
theorem mw_and1 (h : MT X cl a mt1) : MW X cl (.BoolOp .And [a] pos) mt1 := by
  obtain ⟨t, p, k⟩ := h
  exact ⟨_, pw_and1 p, k⟩
theorem mw_or1 (h : MT X cl a mt1) : MW X cl (.BoolOp .Or [a] pos) mt1 := by
  obtain ⟨t, p, k⟩ := h
  exact ⟨_, pw_or1 p, k⟩
theorem tt_and {t u : TT} (h1 : TtOk X.K cl t mt1) (h2 : TtOk X.K cl u mt2) : TtOk X.K cl (L2.tAnd t u) (tAn mt1 mt2) := by
  intro σ H I env b' env' Q g hm k
  unfold tAn at hm
  cases q : mt1 env with
  | none => simp [q] at hm
  | some p =>
    obtain ⟨c, e1⟩ := p
    refine h1 σ H I env c e1 _ g q fun I1 H1 g1 t1 => ?_
    cases c with
    | true =>
      simp only [q] at hm
      show u σ H1 Q
      exact h2 σ H1 I1 e1 b' env' Q g1 hm fun I2 H2 g2 t2 => k I2 H2 g2 (t1.trans t2)
    | false =>
      simp only [q, Option.some.injEq, Prod.mk.injEq] at hm
      obtain ⟨rfl, rfl⟩ := hm
      exact k I1 H1 g1 t1
theorem tt_or {t u : TT} (h1 : TtOk X.K cl t mt1) (h2 : TtOk X.K cl u mt2) : TtOk X.K cl (L2.tOr t u) (tO mt1 mt2) := by
  intro σ H I env b' env' Q g hm k
  unfold tO at hm
  cases q : mt1 env with
  | none => simp [q] at hm
  | some p =>
    obtain ⟨c, e1⟩ := p
    refine h1 σ H I env c e1 _ g q fun I1 H1 g1 t1 => ?_
    cases c with
    | false =>
      simp only [q] at hm
      show u σ H1 Q
      exact h2 σ H1 I1 e1 b' env' Q g1 hm fun I2 H2 g2 t2 => k I2 H2 g2 (t1.trans t2)
    | true =>
      simp only [q, Option.some.injEq, Prod.mk.injEq] at hm
      obtain ⟨rfl, rfl⟩ := hm
      exact k I1 H1 g1 t1
theorem mw_and (h1 : MT X cl a mt1) (h2 : MW X cl (.BoolOp .And (b :: rest) pos) mt2) : MW X cl (.BoolOp .And (a :: b :: rest) pos) (tAn mt1 mt2) := by
  obtain ⟨t, p, k⟩ := h1
  obtain ⟨u, p2, k2⟩ := h2
  exact ⟨_, pw_and p p2, tt_and k k2⟩
theorem mw_or (h1 : MT X cl a mt1) (h2 : MW X cl (.BoolOp .Or (b :: rest) pos) mt2) : MW X cl (.BoolOp .Or (a :: b :: rest) pos) (tO mt1 mt2) := by
  obtain ⟨t, p, k⟩ := h1
  obtain ⟨u, p2, k2⟩ := h2
  exact ⟨_, pw_or p p2, tt_or k k2⟩
theorem mt_not (h1 : MT X cl a mt1) : MT X cl (.UnaryOp .Not a pos) (tNo mt1) := by
  obtain ⟨t, p, k⟩ := h1
  refine ⟨_, pt_not p, fun σ H I env b' env' Q g hm k' => ?_⟩
  unfold tNo at hm
  cases q : mt1 env with
  | none => simp [q] at hm
  | some p =>
    obtain ⟨c, e1⟩ := p
    simp only [q, Option.some.injEq, Prod.mk.injEq] at hm
    obtain ⟨rfl, rfl⟩ := hm
    exact k σ H I env c e1 _ g q fun I1 H1 g1 t1 => k' I1 H1 g1 t1
/-- a test as a value where both sides are bools -/
def eOfT (m : Xt) : Xp := fun env => match m env with
  | some (b, e) => some (.d (.bl b), e)
  | none => none
theorem me_not (h1 : ME X cl a m1) : ME X cl (.UnaryOp .Not a pos) (eOfT (tNo (tOfB m1))) := by
  obtain ⟨t, p, k⟩ := h1
  refine ⟨_, pe_not p, fun σ H I env r env' Q g hm k' => ?_⟩
  unfold eOfT tNo tOfB at hm
  cases q : m1 env with
  | none => simp [q] at hm
  | some p =>
    obtain ⟨r1, e1⟩ := p
    cases r1 with
    | sl i => simp [q] at hm
    | d d =>
      cases d with
      | bl c =>
        simp only [q, Option.some.injEq, Prod.mk.injEq] at hm
        obtain ⟨rfl, rfl⟩ := hm
        exact k σ H I env _ e1 _ g q fun v I1 H1 g1 t1 r1 => by
          have r1' : Rp X.K cl I1 v (.bl c) := r1
          cases r1'
          exact ⟨c, rfl, k' _ I1 H1 g1 t1 (.bl _)⟩
      | _ => simp [q] at hm
theorem me_one {op} (h : ME X cl a m1) : ME X cl (.BoolOp op [a] pos) m1 := by
  obtain ⟨t, p, k⟩ := h
  exact ⟨_, pe_one p, k⟩
def eAndV (m1 m2 : Xp) : Xp := fun env => match tOfB m1 env with
  | some (true, e1) => m2 e1
  | some (false, e1) => some (.d (.bl false), e1)
  | none => none
def eOrV (m1 m2 : Xp) : Xp := fun env => match tOfB m1 env with
  | some (true, e1) => some (.d (.bl true), e1)
  | some (false, e1) => m2 e1
  | none => none
theorem me_andV (h1 : ME X cl a m1) (h2 : ME X cl (.BoolOp .And (b :: rest) pos) m2) : ME X cl (.BoolOp .And (a :: b :: rest) pos) (eAndV m1 m2) := by
  obtain ⟨t, p, k⟩ := h1
  obtain ⟨u, p2, k2⟩ := h2
  refine ⟨_, pe_and p p2, fun σ H I env r env' Q g hm k' => ?_⟩
  unfold eAndV at hm
  cases q : tOfB m1 env with
  | none => simp [q] at hm
  | some p =>
    obtain ⟨c, e1⟩ := p
    have h3 := tt_b k σ H I env c e1 (fun c H1 => if c = true then u σ H1 Q else Q (.bl false) H1) g q fun I1 H1 g1 t1 => by
      cases c with
      | true =>
        simp only [q] at hm
        show u σ H1 Q
        exact k2 σ H1 I1 e1 r env' Q g1 hm fun v I2 H2 g2 t2 r2 => k' v I2 H2 g2 (t1.trans t2) r2
      | false =>
        simp only [q, Option.some.injEq, Prod.mk.injEq] at hm
        obtain ⟨rfl, rfl⟩ := hm
        exact k' _ I1 H1 g1 t1 (.bl false)
    exact h3
theorem me_orV (h1 : ME X cl a m1) (h2 : ME X cl (.BoolOp .Or (b :: rest) pos) m2) : ME X cl (.BoolOp .Or (a :: b :: rest) pos) (eOrV m1 m2) := by
  obtain ⟨t, p, k⟩ := h1
  obtain ⟨u, p2, k2⟩ := h2
  refine ⟨_, pe_or p p2, fun σ H I env r env' Q g hm k' => ?_⟩
  unfold eOrV at hm
  cases q : tOfB m1 env with
  | none => simp [q] at hm
  | some p =>
    obtain ⟨c, e1⟩ := p
    have h3 := tt_b k σ H I env c e1 (fun c H1 => if c = true then Q (.bl true) H1 else u σ H1 Q) g q fun I1 H1 g1 t1 => by
      cases c with
      | false =>
        simp only [q] at hm
        show u σ H1 Q
        exact k2 σ H1 I1 e1 r env' Q g1 hm fun v I2 H2 g2 t2 r2 => k' v I2 H2 g2 (t1.trans t2) r2
      | true =>
        simp only [q, Option.some.injEq, Prod.mk.injEq] at hm
        obtain ⟨rfl, rfl⟩ := hm
        exact k' _ I1 H1 g1 t1 (.bl true)
    exact h3
def eIf (t : Xt) (m1 m2 : Xp) : Xp := fun env => match t env with
  | some (true, e1) => m1 e1
  | some (false, e1) => m2 e1
  | none => none
theorem me_if (hc : MT X cl c mt1) (h1 : ME X cl a m1) (h2 : ME X cl b m2) : ME X cl (.IfExp c a b pos) (eIf mt1 m1 m2) := by
  obtain ⟨tc, pc, kc⟩ := hc
  obtain ⟨t, p, k⟩ := h1
  obtain ⟨u, p2, k2⟩ := h2
  refine ⟨_, pe_ifExp pc p p2, fun σ H I env r env' Q g hm k' => ?_⟩
  unfold eIf at hm
  cases q : mt1 env with
  | none => simp [q] at hm
  | some p =>
    obtain ⟨c, e1⟩ := p
    refine kc σ H I env c e1 _ g q fun I1 H1 g1 t1 => ?_
    cases c with
    | true =>
      simp only [q] at hm
      show t σ H1 Q
      exact k σ H1 I1 e1 r env' Q g1 hm fun v I2 H2 g2 t2 r2 => k' v I2 H2 g2 (t1.trans t2) r2
    | false =>
      simp only [q] at hm
      show u σ H1 Q
      exact k2 σ H1 I1 e1 r env' Q g1 hm fun v I2 H2 g2 t2 r2 => k' v I2 H2 g2 (t1.trans t2) r2
/-- a chain of two comparisons -/
def eChain (g g' : D → D → Option D) (m1 m2 m3 : Xp) : Xp := fun env => match m1 env with
  | none => none
  | some (r1, e1) => match m2 e1 with
    | none => none
    | some (r2, e2) => match vw e2 r1, vw e2 r2 with
      | some x, some y => match g x y with
        | some (.bl true) => match m3 e2 with
          | none => none
          | some (r3, e3) => match vw e3 r2, vw e3 r3 with
            | some y', some z => match g' y' z with
              | some w => some (.d w, e3)
              | none => none
            | _, _ => none
        | some (.bl false) => some (.d (.bl false), e2)
        | _ => none
      | _, _ => none
theorem ev_chain {r r' : R2} {ta tb tc : TE} {g g' : D → D → Option D} {m3 : Xp} (h1 : EvOk X.K cl ta m1) (h2 : EvOk X.K cl tb m2) (h3 : EvOk X.K cl tc m3)
    (hr : ∀ (I H : Hp) (v w : V) (x y z : D) (Q : VK), Same I H → Vw X.K cl I H v x → Vw X.K cl I H w y → g x y = some z → (∀ u I' H', Al I H I' H' → Rp X.K cl I' u z → Q u H') → r v w H Q)
    (hr' : ∀ (I H : Hp) (v w : V) (x y z : D) (Q : VK), Same I H → Vw X.K cl I H v x → Vw X.K cl I H w y → g' x y = some z → (∀ u I' H', Al I H I' H' → Rp X.K cl I' u z → Q u H') → r' v w H Q) : EvOk X.K cl (tChain r r' ta tb tc) (eChain g g' m1 m2 m3) := by
  intro σ H I env rr env' Q gd hm k
  unfold eChain at hm
  cases q1 : m1 env with
  | none => simp [q1] at hm
  | some p1 =>
    obtain ⟨r1, e1⟩ := p1
    simp only [q1] at hm
    cases q2 : m2 e1 with
    | none => simp [q2] at hm
    | some p2 =>
      obtain ⟨r2, e2⟩ := p2
      simp only [q2] at hm
      cases q3 : vw e2 r1 with
      | none => simp [q3] at hm
      | some x =>
        cases q4 : vw e2 r2 with
        | none => simp [q3, q4] at hm
        | some y =>
          simp only [q3, q4] at hm
          cases q5 : g x y with
          | none => simp [q5] at hm
          | some z =>
            cases z with
            | bl bb =>
              refine h1 σ H I env r1 e1 _ gd q1 fun v I1 H1 g1 t1 k1 => ?_
              refine h2 σ H1 I1 e1 r2 e2 _ g1 q2 fun w I2 H2 g2 t2 k2 => ?_
              refine hr I2 H2 v w x y _ _ g2.ex (vw_ok g2 (k1.mono t2.ext) q3) (vw_ok g2 k2 q4) q5 fun u I3 H3 a ru => ?_
              have ru' : Rp X.K cl I3 u (.bl bb) := ru
              cases ru'
              have g3 := g2.al a
              have t3 := (t1.trans t2).trans a.tr
              refine ⟨bb, rfl, ?_⟩
              cases bb with
              | false =>
                simp only [q5, Option.some.injEq, Prod.mk.injEq] at hm
                obtain ⟨rfl, rfl⟩ := hm
                exact k _ I3 H3 g3 t3 (.bl false)
              | true =>
                simp only [q5] at hm
                cases q6 : m3 e2 with
                | none => simp [q6] at hm
                | some p3 =>
                  obtain ⟨r3, e3⟩ := p3
                  simp only [q6] at hm
                  cases q7 : vw e3 r2 with
                  | none => simp [q7] at hm
                  | some y' =>
                    cases q8 : vw e3 r3 with
                    | none => simp [q7, q8] at hm
                    | some z' =>
                      simp only [q7, q8] at hm
                      cases q9 : g' y' z' with
                      | none => simp [q9] at hm
                      | some w' =>
                        simp only [q9, Option.some.injEq, Prod.mk.injEq] at hm
                        obtain ⟨rfl, rfl⟩ := hm
                        show tc σ H3 _
                        refine h3 σ H3 I3 e2 r3 e3 _ g3 q6 fun w2 I4 H4 g4 t4 k4 => ?_
                        exact hr' I4 H4 w w2 y' z' w' Q g4.ex (vw_ok g4 ((k2.mono a.ext).mono t4.ext) q7) (vw_ok g4 k4 q8) q9 fun u I5 H5 a5 r5 => k u I5 H5 (g4.al a5) ((t3.trans t4).trans a5.tr) r5
            | _ => simp [q5] at hm
theorem me_chain {op op' : CmpOp} {g g' : D → D → Option D} {m3 : Xp} (ho : OpM X cl (compareOp op) g) (ho' : OpM X cl (compareOp op') g') (h1 : ME X cl a m1) (h2 : ME X cl b m2) (h3 : ME X cl c m3)
    (hm : lastMarks [op, op'] [b, c] = false := by with_unfolding_all rfl) : ME X cl (.Compare a [op, op'] [b, c] pos) (eChain g g' m1 m2 m3) := by
  obtain ⟨r, hr, hw⟩ := ho
  obtain ⟨r', hr', hw'⟩ := ho'
  obtain ⟨ta, pa, ea⟩ := h1
  obtain ⟨tb, pb, eb⟩ := h2
  obtain ⟨tc, pc, ec⟩ := h3
  exact ⟨_, pe_chain hr hr' pa pb pc hm, ev_chain ea eb ec hw hw'⟩
theorem mt_chain {op op' : CmpOp} {g g' : D → D → Option D} {m3 : Xp} (ho : OpM X cl (compareOp op) g) (ho' : OpM X cl (compareOp op') g') (h1 : ME X cl a m1) (h2 : ME X cl b m2) (h3 : ME X cl c m3)
    (hm : lastMarks [op, op'] [b, c] = false := by with_unfolding_all rfl) : MT X cl (.Compare a [op, op'] [b, c] pos) (tOfB (eChain g g' m1 m2 m3)) := by
  obtain ⟨r, hr, hw⟩ := ho
  obtain ⟨r', hr', hw'⟩ := ho'
  obtain ⟨ta, pa, ea⟩ := h1
  obtain ⟨tb, pb, eb⟩ := h2
  obtain ⟨tc, pc, ec⟩ := h3
  exact ⟨_, pt_chain hr hr' pa pb pc hm, tt_b (ev_chain ea eb ec hw hw')⟩

/-! ### arguments -/
def aNil : Xa := fun env => some ([], env)
def aCons (m : Xp) (ms : Xa) : Xa := fun env => match m env with
  | none => none
  | some (r, e1) => match ms e1 with
    | none => none
    | some (rs, e2) => some (r :: rs, e2)
theorem ma_nil : MA X cl [] aNil := ⟨_, pa_nil, fun σ H I env rs env' Q g hm k => by
  cases Option.some.inj hm
  exact k [] I H g Tr.refl .nil⟩
theorem ma_cons {ms : Xa} (h1 : ME X cl e m) (h2 : MA X cl es ms) (hpa : ∀ t u, PE X e t → PA X es u → PA X (e :: es) (tCons t u)) : MA X cl (e :: es) (aCons m ms) := by
  obtain ⟨t, p, k⟩ := h1
  obtain ⟨u, p2, k2⟩ := h2
  refine ⟨_, hpa t u p p2, fun σ H I env rs env' Q g hm k' => ?_⟩
  unfold aCons at hm
  cases q1 : m env with
  | none => simp [q1] at hm
  | some p1 =>
    obtain ⟨r, e1⟩ := p1
    simp only [q1] at hm
    cases q2 : ms e1 with
    | none => simp [q2] at hm
    | some p2 =>
      obtain ⟨rs', e2⟩ := p2
      simp only [q2, Option.some.injEq, Prod.mk.injEq] at hm
      obtain ⟨rfl, rfl⟩ := hm
      refine k σ H I env r e1 _ g q1 fun v I1 H1 g1 t1 r1 => ?_
      exact k2 σ H1 I1 e1 rs' e2 _ g1 q2 fun vs I2 H2 g2 t2 r2 => k' (v :: vs) I2 H2 g2 (t1.trans t2) (.cons (r1.mono t2.ext) r2)
def vwL (env : MEnv) : List Rv → Option (List D)
  | [] => some []
  | r :: rs => match vw env r, vwL env rs with
    | some d, some ds => some (d :: ds)
    | _, _ => none
def escL (env : MEnv) : List Rv → Option (List D × MEnv)
  | [] => some ([], env)
  | r :: rs => match esc env r with
    | none => none
    | some (d, e1) => match escL e1 rs with
      | none => none
      | some (ds, e2) => some (d :: ds, e2)
theorem vwL_ok {K : PySem.W.Frag} {I H : Hp} {σ : L2.St} {env : MEnv} (g : Gd K cl I H σ env) : ∀ {vs : List V} {rs : List Rv} {ds : List D}, RvA K cl I σ vs rs → vwL env rs = some ds → VwA K cl I H vs ds
  | _, _, _, .nil, e => by
    cases Option.some.inj e
    exact .nil
  | _, _, ds, .cons (rs := rs) (r := r) h t, e => by
    unfold vwL at e
    cases q : vw env r with
    | none => simp [q] at e
    | some d =>
      cases q2 : vwL env rs with
      | none => simp [q, q2] at e
      | some ds' =>
        simp only [q, q2, Option.some.injEq] at e
        subst e
        exact .cons (vw_ok g h q) (vwL_ok g t q2)
theorem escL_ok {K : PySem.W.Frag} {σ : L2.St} {H : Hp} : ∀ {vs : List V} {rs : List Rv} {ds : List D} {I : Hp} {env env' : MEnv}, Gd K cl I H σ env → RvA K cl I σ vs rs → escL env rs = some (ds, env') →
    ∃ I', Gd K cl I' H σ env' ∧ Tr (Fp σ env) I H (Fp σ env') I' H ∧ RpA K cl I' vs ds
  | _, _, _, I, env, env', g, .nil, e => by
    cases Option.some.inj e
    exact ⟨I, g, Tr.refl, .nil⟩
  | _, _, ds, I, env, env', g, .cons (rs := rs) (r := r) h t, e => by
    unfold escL at e
    cases q : esc env r with
    | none => simp [q] at e
    | some p =>
      obtain ⟨d, e1⟩ := p
      simp only [q] at e
      cases q2 : escL e1 rs with
      | none => simp [q2] at e
      | some p2 =>
        obtain ⟨ds', e2⟩ := p2
        simp only [q2, Option.some.injEq, Prod.mk.injEq] at e
        obtain ⟨rfl, rfl⟩ := e
        obtain ⟨I1, g1, t1, r1⟩ := esc_ok g h q
        obtain ⟨I2, g2, t2, r2⟩ := escL_ok g1 (RvA.mono t1.ext t) q2
        exact ⟨I2, g2, t1.trans t2, .cons (r1.mono t2.ext) r2⟩
/-- tuples, lists -/
def eTup (ms : Xa) : Xp := fun env => match ms env with
  | none => none
  | some (rs, e1) => match escL e1 rs with
    | none => none
    | some (ds, e2) => some (.d (.tup ds), e2)
theorem RvA.length {K : PySem.W.Frag} {I : Hp} {σ : L2.St} : ∀ {vs : List V} {rs : List Rv}, RvA K cl I σ vs rs → vs.length = rs.length
  | _, _, .nil => rfl
  | _, _, .cons _ t => by rw [List.length_cons, List.length_cons, RvA.length t]
def aL : List Xp → Xa
  | [] => aNil
  | m :: ms => aCons m (aL ms)
theorem aL_len : ∀ {ms : List Xp} {env : MEnv} {rs : List Rv} {e1 : MEnv}, aL ms env = some (rs, e1) → rs.length = ms.length
  | [], env, rs, e1, h => by
    cases Option.some.inj h
    rfl
  | m :: ms, env, rs, e1, h => by
    have h' : aCons m (aL ms) env = some (rs, e1) := h
    unfold aCons at h'
    cases q1 : m env with
    | none => simp [q1] at h'
    | some p1 =>
      obtain ⟨r, e2⟩ := p1
      simp only [q1] at h'
      cases q2 : aL ms e2 with
      | none => simp [q2] at h'
      | some p2 =>
        obtain ⟨rs', e3⟩ := p2
        simp only [q2, Option.some.injEq, Prod.mk.injEq] at h'
        obtain ⟨rfl, rfl⟩ := h'
        rw [List.length_cons, List.length_cons, aL_len q2]
theorem mal_nil : MA X cl [] (aL []) := ma_nil
theorem mal_cons {ms : List Xp} (h1 : ME X cl e m) (h2 : MA X cl es (aL ms)) (hpa : ∀ t u, PE X e t → PA X es u → PA X (e :: es) (tCons t u)) : MA X cl (e :: es) (aL (m :: ms)) := ma_cons h1 h2 hpa
theorem me_tup {ms : List Xp} {k} (h : MA X cl es (aL ms)) (hl : ms.length ≤ 1000000 := by exact Nat.le_of_ble_eq_true rfl) : ME X cl (.Tuple es k pos) (eTup (aL ms)) := by
  have hlen : ∀ env rs e1, aL ms env = some (rs, e1) → rs.length ≤ 1000000 := fun env rs e1 q => by rw [aL_len q]; exact hl
  obtain ⟨t, p, kk⟩ := h
  refine ⟨_, pe_tupX p, fun σ H I env r env' Q g hm k' => ?_⟩
  unfold eTup at hm
  cases q1 : aL ms env with
  | none => simp [q1] at hm
  | some p1 =>
    obtain ⟨rs, e1⟩ := p1
    simp only [q1] at hm
    cases q2 : escL e1 rs with
    | none => simp [q2] at hm
    | some p2 =>
      obtain ⟨ds, e2⟩ := p2
      simp only [q2, Option.some.injEq, Prod.mk.injEq] at hm
      obtain ⟨rfl, rfl⟩ := hm
      refine kk σ H I env rs e1 _ g q1 fun vs I1 H1 g1 t1 r1 => ?_
      obtain ⟨I2, g2, t2, r2⟩ := escL_ok g1 r1 q2
      refine ⟨?_, fun a us ha => ?_⟩
      · rw [r1.length]
        exact Nat.le_trans (hlen _ _ _ q1) (by decide)
      · have al : Al I2 H1 (upd I2 a (xT us vs)) (upd H1 a (xT us vs)) := Al.new g2.ex ha
        exact k' _ _ _ (g2.al al) ((t1.trans t2).trans al.tr) (.tup .new (r2.mono al.ext))
def fLst (ms : Xa) : Xf := fun env => match ms env with
  | none => none
  | some (rs, e1) => match escL e1 rs with
    | none => none
    | some (ds, e2) => some (.lst ds, e2)
theorem mf_lst {ms : List Xp} (h : MA X cl es (aL ms)) (hl : ms.length ≤ 1000000 := by exact Nat.le_of_ble_eq_true rfl) : MF X cl (.List es pos) (fLst (aL ms)) := by
  have hlen : ∀ env rs e1, aL ms env = some (rs, e1) → rs.length ≤ 1000000 := fun env rs e1 q => by rw [aL_len q]; exact hl
  obtain ⟨t, p, kk⟩ := h
  refine ⟨_, pe_lst p, fun σ H I env r env' Q g hm k' => ?_⟩
  unfold fLst at hm
  cases q1 : aL ms env with
  | none => simp [q1] at hm
  | some p1 =>
    obtain ⟨rs, e1⟩ := p1
    simp only [q1] at hm
    cases q2 : escL e1 rs with
    | none => simp [q2] at hm
    | some p2 =>
      obtain ⟨ds, e2⟩ := p2
      simp only [q2, Option.some.injEq, Prod.mk.injEq] at hm
      obtain ⟨rfl, rfl⟩ := hm
      refine kk σ H I env rs e1 _ g q1 fun vs I1 H1 g1 t1 r1 => ?_
      obtain ⟨I2, g2, t2, r2⟩ := escL_ok g1 r1 q2
      refine ⟨?_, fun a ha => ?_⟩
      · rw [r1.length]
        exact Nat.le_trans (hlen _ _ _ q1) (by decide)
      · have al : Al I2 H1 I2 (upd H1 a (.lst vs)) := Al.newH g2.ex ha
        have t12 := t1.trans t2
        have ia : I2 a = none := g2.ex.free ha
        have nf : ¬ Fp σ e2 a := fun ⟨j, o, h1, h2⟩ => by
          obtain ⟨p3, ho3, e3, _, hp3, _⟩ := g2.ok j _ _ h1 h2
          cases e3
          rw [ha] at hp3
          cases hp3
        exact k' a _ _ _ (g2.al al) (t12.trans al.tr) ia upd_same (.lst r2) (t12.back (.inr ha)) nf
/-- a made object frozen at once -/
def eFrz (m : Xf) : Xp := fun env => match m env with
  | none => none
  | some (o, e1) => some (.d (so2d o), e1)
theorem ev_frz {K : PySem.W.Frag} {t : TE} {m : Xf} (kk : FrOk K cl t m) : EvOk K cl t (eFrz m) := by
  intro σ H I env r env' Q g hm k'
  unfold eFrz at hm
  cases q1 : m env with
  | none => simp [q1] at hm
  | some p1 =>
    obtain ⟨o, e1⟩ := p1
    simp only [q1, Option.some.injEq, Prod.mk.injEq] at hm
    obtain ⟨rfl, rfl⟩ := hm
    refine kk σ H I env o e1 _ g q1 fun a ho I1 H1 g1 t1 ia ha so fr nf => ?_
    exact k' _ (upd I1 a ho) H1 (g1.frz ia ha nf) (t1.frzN fr ia) (so.frz ia)
theorem me_frz {m : Xf} (h : MF X cl e m) : ME X cl e (eFrz m) := by
  obtain ⟨t, p, kk⟩ := h
  exact ⟨_, p, ev_frz kk⟩
end
end MP
set_option Elab.async false
set_option linter.all false
set_option maxRecDepth 100000
set_option maxHeartbeats 4000000
namespace MP
open PySem PySem.Spec PyProof.Rows L2

section
variable {X : Cx} {cl : ClM} {R : Nat → Bool} {e a b c tg : Expr} {es : List Expr} {pos : Pos} {m m1 m2 : Xp} {st : Stmt} {sts : List Stmt} {s1 s2 : Xs}
/-! ### blocks -/
theorem FlOk.back {K : PySem.W.Frag} {F F1 : Addr → Prop} {I H I1 H1 : Hp} (t : Tr F I H F1 I1 H1) {Dn : Ends} {σ' : L2.St} {I' H' : Hp} {env' : MEnv} {fl : Fl} (k : FlOk K cl F H Dn σ' I' H' env' fl) : FlOk K cl F1 H1 Dn σ' I' H' env' fl := by
  cases fl with
  | nx => exact k
  | bk => exact k
  | ct => exact k
  | ret r => exact fun v hv => k v (by
      cases r with
      | d d => exact hv
      | o o =>
        obtain ⟨p, ho, e, ip, hp, so, fr, nf⟩ := hv
        exact ⟨p, ho, e, ip, hp, so, t.back fr, nf⟩)
def sNext : Xs := fun env => some (.nx, env)
def sSeq (s1 s2 : Xs) : Xs := fun env => match s1 env with
  | some (.nx, e1) => s2 e1
  | r => r
theorem mss_nil : MSs X cl R [] sNext := ⟨_, pss_nil, fun σ H I env fl env' Dn g hm k => by
  cases Option.some.inj hm
  exact k σ I H g Tr.refl (fun _ _ => rfl)⟩
theorem mss_one (h : MS X cl R st s1) : MSs X cl R [st] s1 := by
  obtain ⟨t, p, k⟩ := h
  exact ⟨_, pss_one p, k⟩
theorem mss_cons (h : MS X cl R st s1) (h2 : MSs X cl R sts s2) : MSs X cl R (st :: sts) (sSeq s1 s2) := by
  obtain ⟨t, p, k⟩ := h
  obtain ⟨u, p2, k2⟩ := h2
  refine ⟨_, pss_cons p p2, fun σ H I env fl env' Dn g hm kk => ?_⟩
  unfold sSeq at hm
  cases q : s1 env with
  | none => simp [q] at hm
  | some pr =>
    obtain ⟨f1, e1⟩ := pr
    refine k σ H I env f1 e1 _ g q fun σ1 I1 H1 g1 t1 r1 => ?_
    cases f1 with
    | nx =>
      simp only [q] at hm
      show u Dn σ1 H1
      exact k2 σ1 H1 I1 e1 fl env' Dn g1 hm fun σ2 I2 H2 g2 t2 r2 => (kk σ2 I2 H2 g2 (t1.trans t2) fun i hi => (r2 i hi).trans (r1 i hi)).back t1
    | bk =>
      simp only [q, Option.some.injEq, Prod.mk.injEq] at hm
      obtain ⟨rfl, rfl⟩ := hm
      exact kk σ1 I1 H1 g1 t1 r1
    | ct =>
      simp only [q, Option.some.injEq, Prod.mk.injEq] at hm
      obtain ⟨rfl, rfl⟩ := hm
      exact kk σ1 I1 H1 g1 t1 r1
    | ret r =>
      simp only [q, Option.some.injEq, Prod.mk.injEq] at hm
      obtain ⟨rfl, rfl⟩ := hm
      exact kk σ1 I1 H1 g1 t1 r1
theorem ms_pass : MS X cl R (.Pass pos) sNext := ⟨_, ps_pass, fun σ H I env fl env' Dn g hm k => by
  cases Option.some.inj hm
  exact k σ I H g Tr.refl (fun _ _ => rfl)⟩
theorem ms_doc {x j pos'} : MS X cl R (.Expr (.Constant (.str x) j pos) pos') sNext := ⟨_, ps_doc, fun σ H I env fl env' Dn g hm k => by
  cases Option.some.inj hm
  exact k σ I H g Tr.refl (fun _ _ => rfl)⟩
def sBrk : Xs := fun env => some (.bk, env)
def sCnt : Xs := fun env => some (.ct, env)
theorem ms_break : MS X cl R (.Break pos) sBrk := ⟨_, ps_break, fun σ H I env fl env' Dn g hm k => by
  cases Option.some.inj hm
  exact k σ I H g Tr.refl (fun _ _ => rfl)⟩
theorem ms_continue : MS X cl R (.Continue pos) sCnt := ⟨_, ps_continue, fun σ H I env fl env' Dn g hm k => by
  cases Option.some.inj hm
  exact k σ I H g Tr.refl (fun _ _ => rfl)⟩
def sIf (t : Xt) (s1 s2 : Xs) : Xs := fun env => match t env with
  | some (true, e1) => s1 e1
  | some (false, e1) => s2 e1
  | none => none
theorem ms_if {t : Xt} {as bs : List Stmt} (hc : MT X cl c t) (ha : MSs X cl R as s1) (hb : MSs X cl R bs s2) : MS X cl R (.If c as bs pos) (sIf t s1 s2) := by
  obtain ⟨tc, pc, kc⟩ := hc
  obtain ⟨ta, pa, ka⟩ := ha
  obtain ⟨tb, pb, kb⟩ := hb
  refine ⟨_, ps_if pc pa pb, fun σ H I env fl env' Dn g hm kk => ?_⟩
  unfold sIf at hm
  cases q : t env with
  | none => simp [q] at hm
  | some pr =>
    obtain ⟨b1, e1⟩ := pr
    refine kc σ H I env b1 e1 _ g q fun I1 H1 g1 t1 => ?_
    cases b1 with
    | true =>
      simp only [q] at hm
      show ta Dn σ H1
      exact ka σ H1 I1 e1 fl env' Dn g1 hm fun σ2 I2 H2 g2 t2 r2 => (kk σ2 I2 H2 g2 (t1.trans t2) r2).back t1
    | false =>
      simp only [q] at hm
      show tb Dn σ H1
      exact kb σ H1 I1 e1 fl env' Dn g1 hm fun σ2 I2 H2 g2 t2 r2 => (kk σ2 I2 H2 g2 (t1.trans t2) r2).back t1
def sExp (m : Xp) : Xs := fun env => match m env with
  | some (_, e1) => some (.nx, e1)
  | none => none
theorem ms_exp (h : ME X cl e m) (hs : swapsWith e none pos.line X.env = pure false := by rfl) : MS X cl R (.Expr e pos) (sExp m) := by
  obtain ⟨t, p, k⟩ := h
  refine ⟨_, ps_expr p hs, fun σ H I env fl env' Dn g hm kk => ?_⟩
  unfold sExp at hm
  cases q : m env with
  | none => simp [q] at hm
  | some pr =>
    obtain ⟨r, e1⟩ := pr
    simp only [q, Option.some.injEq, Prod.mk.injEq] at hm
    obtain ⟨rfl, rfl⟩ := hm
    exact k σ H I env r e1 _ g q fun v I1 H1 g1 t1 r1 => kk σ I1 H1 g1 t1 (fun _ _ => rfl)
def sRet (m : Xp) : Xs := fun env => match m env with
  | none => none
  | some (r, e1) => match esc e1 r with
    | none => none
    | some (d, e2) => some (.ret (.d d), e2)
theorem ms_ret (h : ME X cl e m) : MS X cl R (.Return (some e) pos) (sRet m) := by
  obtain ⟨t, p, k⟩ := h
  refine ⟨_, ps_ret p, fun σ H I env fl env' Dn g hm kk => ?_⟩
  unfold sRet at hm
  cases q : m env with
  | none => simp [q] at hm
  | some pr =>
    obtain ⟨r, e1⟩ := pr
    simp only [q] at hm
    cases q2 : esc e1 r with
    | none => simp [q2] at hm
    | some p2 =>
      obtain ⟨d, e2⟩ := p2
      simp only [q2, Option.some.injEq, Prod.mk.injEq] at hm
      obtain ⟨rfl, rfl⟩ := hm
      refine k σ H I env r e1 _ g q fun v I1 H1 g1 t1 r1 => ?_
      obtain ⟨I2, g2, t2, r2⟩ := esc_ok g1 r1 q2
      exact kk σ I2 H1 g2 (t1.trans t2) (fun _ _ => rfl) v r2
def sRetN : Xs := fun env => some (.ret (.d .non), env)
theorem ms_retN : MS X cl R (.Return none pos) sRetN := ⟨_, ps_retN, fun σ H I env fl env' Dn g hm k => by
  cases Option.some.inj hm
  exact k σ I H g Tr.refl (fun _ _ => rfl) .non .non⟩
def sRetF (m : Xf) : Xs := fun env => match m env with
  | none => none
  | some (o, e1) => some (.ret (.o o), e1)
theorem ms_retF {m : Xf} (h : MF X cl e m) : MS X cl R (.Return (some e) pos) (sRetF m) := by
  obtain ⟨t, p, k⟩ := h
  refine ⟨_, ps_ret p, fun σ H I env fl env' Dn g hm kk => ?_⟩
  unfold sRetF at hm
  cases q : m env with
  | none => simp [q] at hm
  | some pr =>
    obtain ⟨o, e1⟩ := pr
    simp only [q, Option.some.injEq, Prod.mk.injEq] at hm
    obtain ⟨rfl, rfl⟩ := hm
    exact k σ H I env o e1 _ g q fun p ho I1 H1 g1 t1 ip hp so fr nf => kk σ I1 H1 g1 t1 (fun _ _ => rfl) (.ref p) ⟨p, ho, rfl, ip, hp, so, fr, nf⟩
/-- a slot's own object is handed back, the slot is emptied -/
def fMove (i : Nat) : Xf := fun env => match env[i]? with
  | some (.own o) => some (o, env.set i .none)
  | _ => none
theorem mf_move {i : Nat} (h : PE X e (tVar i)) : MF X cl e (fMove i) := by
  refine ⟨_, h, fun σ H I env o env' Q g hm k => ?_⟩
  unfold fMove at hm
  cases q : env[i]? with
  | none => simp [q] at hm
  | some s =>
    have hil : i < env.length := (List.getElem?_eq_some_iff.mp q).1
    have hi : i < σ.length := by
      rw [g.len]
      exact hil
    obtain ⟨ov, hov⟩ : ∃ ov, σ[i]? = some ov := ⟨σ[i], List.getElem?_eq_getElem hi⟩
    have ok := g.ok i s ov q hov
    cases s with
    | none => simp [q] at hm
    | val d => simp [q] at hm
    | own o' =>
      simp only [q, Option.some.injEq, Prod.mk.injEq] at hm
      obtain ⟨rfl, rfl⟩ := hm
      obtain ⟨p, ho, e1, ip, hp, so⟩ := ok
      subst e1
      have own2 : ∀ j o2, (env.set i Slot.none)[j]? = some (.own o2) → i ≠ j ∧ env[j]? = some (.own o2) := fun j o2 hj => by
        have n : i ≠ j := fun z => by
          subst z
          rw [List.getElem?_set] at hj
          simp only [if_true] at hj
          split at hj <;> cases hj
        rw [List.getElem?_set_ne n] at hj
        exact ⟨n, hj⟩
      refine ⟨.ref p, hov, k p ho I H ⟨g.ex, by rw [List.length_set]; exact g.len, fun j s ov h1 h2 => ?_, fun j k' b o1 o2 h1 h2 h3 h4 => g.inj j k' b o1 o2 (own2 j o1 h1).2 (own2 k' o2 h2).2 h3 h4⟩ (Tr.refl.less fun b hb => ?_) ip hp so (.inl ⟨i, _, q, hov⟩) fun hb => ?_⟩
      · by_cases z : i = j
        · subst z
          rw [List.getElem?_set] at h1
          simp only [if_true] at h1
          rw [if_pos hil] at h1
          cases h1
          trivial
        · rw [List.getElem?_set_ne z] at h1
          exact g.ok j s ov h1 h2
      · obtain ⟨j, o1, h1, h2⟩ := hb
        exact ⟨j, o1, (own2 j o1 h1).2, h2⟩
      · obtain ⟨j, o1, h1, h2⟩ := hb
        exact (own2 j o1 h1).1 (g.inj i j p _ _ q (own2 j o1 h1).2 hov h2)

/-! ### targets, assignments -/
def gNm (i : Nat) : Xg := fun d env => if i < env.length then some (env.set i (.val d)) else none
theorem gt_name {K : PySem.W.Frag} {i : Nat} (hR : R i = false) : GtOk K cl R (L2.gName i) (gNm i) := by
  intro σ H I env d env' v Q g r hm k
  unfold gNm at hm
  by_cases hl : i < env.length
  · rw [if_pos hl] at hm
    cases Option.some.inj hm
    refine k (σ.set i (some v)) I H (g.setVal r) (Tr.refl.less fun p h => h.setVal) (fun j hj => ?_) (by rw [List.length_set])
    rw [List.getElem?_set_ne]
    rintro rfl
    rw [hR] at hj
    cases hj
  · rw [if_neg hl] at hm
    cases hm
theorem mg_name {i : Nat} (h : PG X tg (L2.gName i)) (hR : R i = false) : MG X cl R tg (gNm i) := ⟨_, h, gt_name hR⟩
def gsNil : List D → MEnv → Option MEnv := fun ds env => match ds with
  | [] => some env
  | _ => none
def gsCons (g : Xg) (gs : List D → MEnv → Option MEnv) : List D → MEnv → Option MEnv := fun ds env => match ds with
  | d :: r => match g d env with
    | some e1 => gs r e1
    | none => none
  | [] => none
theorem mgs_nil : MGs X cl R [] gsNil := ⟨_, pgs_nil, fun σ H I env ds env' vs Q g r hm k => by
  cases r with
  | nil =>
    cases Option.some.inj hm
    exact ⟨rfl, k σ I H g Tr.refl (fun _ _ => rfl) rfl⟩
  | cons _ _ => cases hm⟩
theorem mgs_cons {g : Xg} {gs : List D → MEnv → Option MEnv} (h1 : MG X cl R e g) (h2 : MGs X cl R es gs) (hs : (assignEach (e :: es) X.env).map (·.2) = assign e X.env :: (assignEach es X.env).map (·.2) := by rfl) : MGs X cl R (e :: es) (gsCons g gs) := by
  obtain ⟨t, p, k⟩ := h1
  obtain ⟨u, p2, k2⟩ := h2
  refine ⟨_, pgs_cons p p2 hs, fun σ H I env ds env' vs Q gd r hm kk => ?_⟩
  cases r with
  | nil => cases hm
  | cons r1 r2 =>
    rename_i v vs d ds
    have hm' : (match g d env with
      | some e1 => gs ds e1
      | none => none) = some env' := hm
    cases q : g d env with
    | none => simp [q] at hm'
    | some e1 =>
      simp only [q] at hm'
      refine ⟨v, vs, rfl, k σ H I env d e1 v _ gd r1 q fun σ1 I1 H1 g1 t1 rr1 ll1 => ?_⟩
      exact k2 σ1 H1 I1 e1 ds env' vs Q g1 (r2.mono t1.ext) hm' fun σ2 I2 H2 g2 t2 rr2 ll2 => kk σ2 I2 H2 g2 (t1.trans t2) (fun i hi => (rr2 i hi).trans (rr1 i hi)) (ll2.trans ll1)
def gTp (n : Nat) (gs : List D → MEnv → Option MEnv) : Xg := fun d env => match d with
  | .tup ds => if ds.length = n then gs ds env else none
  | .ktp ds => if ds.length = n then gs ds env else none
  | _ => none
theorem mg_tup {k n : Nat} {gs : List D → MEnv → Option MEnv} (hc : X.calm = true) (h : MGs X cl R es gs) (hn : (assignEach es X.env).length = n := by rfl) (hst : (assignEach es X.env).findIdx? (·.1) = none := by rfl) : MG X cl R (.Tuple es k pos) (gTp n gs) := by
  obtain ⟨t, p, kk⟩ := h
  refine ⟨_, pg_tup hc p hn hst, fun σ H I env d env' v Q gd r hm k' => ?_⟩
  unfold gTp at hm
  cases d with
  | tup ds =>
    by_cases hl : ds.length = n
    · simp only [hl, if_true] at hm
      cases r with
      | tup s r =>
        rename_i a vs
        exact ⟨a, vs, rfl, (s.mono gd.ex).sq, by rw [r.length]; exact hl, kk σ H I env ds env' vs Q gd r hm k'⟩
    · simp only [hl, if_false] at hm
      cases hm
  | ktp ds =>
    by_cases hl : ds.length = n
    · simp only [hl, if_true] at hm
      cases r with
      | ktp s r =>
        rename_i a vs
        exact ⟨a, vs, rfl, KT.sq s, by rw [r.length]; exact hl, kk σ H I env ds env' vs Q gd r hm k'⟩
    · simp only [hl, if_false] at hm
      cases hm
  | _ => cases hm
def sAsg (m : Xp) (g : Xg) : Xs := fun env => match m env with
  | none => none
  | some (r, e1) => match esc e1 r with
    | none => none
    | some (d, e2) => match g d e2 with
      | none => none
      | some e3 => some (.nx, e3)
theorem st_asg {K : PySem.W.Frag} {te : TE} {tgt : TG} {g : Xg} (k : EvOk K cl te m) (k2 : GtOk K cl R tgt g) : StOk K cl R (L2.tAsg te tgt) (sAsg m g) := by
  intro σ H I env fl env' Dn gd hm kk
  unfold sAsg at hm
  cases q : m env with
  | none => simp [q] at hm
  | some pr =>
    obtain ⟨r, e1⟩ := pr
    simp only [q] at hm
    cases q2 : esc e1 r with
    | none => simp [q2] at hm
    | some p2 =>
      obtain ⟨d, e2⟩ := p2
      simp only [q2] at hm
      cases q3 : g d e2 with
      | none => simp [q3] at hm
      | some e3 =>
        simp only [q3, Option.some.injEq, Prod.mk.injEq] at hm
        obtain ⟨rfl, rfl⟩ := hm
        refine k σ H I env r e1 _ gd q fun v I1 H1 g1 t1 r1 => ?_
        obtain ⟨I2, g2, t2, r2⟩ := esc_ok g1 r1 q2
        exact k2 σ H1 I2 e2 d _ v _ g2 r2 q3 fun σ3 I3 H3 g3 t3 rr3 _ => kk σ3 I3 H3 g3 ((t1.trans t2).trans t3) rr3
theorem ms_asg {g : Xg} (h : ME X cl e m) (hg : MG X cl R tg g) (hp : ∀ te g, PE X e te → PG X tg g → PS X st (L2.tAsg te g)) : MS X cl R st (sAsg m g) := by
  obtain ⟨t, p, k⟩ := h
  obtain ⟨u, p2, k2⟩ := hg
  exact ⟨_, hp t u p p2, st_asg k k2⟩
/-- x = e, x in slot i: by the rule's own theorem -/
theorem ms_set {i : Nat} (h : ME X cl e m) (hp : ∀ te, PE X e te → PS X st (L2.tAsg te (L2.gName i))) (hR : R i = false) : MS X cl R st (sAsg m (gNm i)) := by
  obtain ⟨t, p, k⟩ := h
  exact ⟨_, hp t p, st_asg k (gt_name hR)⟩
def sOwn (m : Xf) (i : Nat) : Xs := fun env => match m env with
  | none => none
  | some (o, e1) => if i < e1.length then some (.nx, e1.set i (.own o)) else none
theorem Gd.setOwn {K : PySem.W.Frag} {I H : Hp} {σ : L2.St} {env : MEnv} {i : Nat} {p : Addr} {ho : HO} {o : SO} (g : Gd K cl I H σ env) (ip : I p = none) (hp : H p = some ho) (so : SoOk K cl I p ho o) (nf : ¬ Fp σ env p) :
    Gd K cl I H (σ.set i (some (.ref p))) (env.set i (.own o)) := by
  have back : ∀ j o2, (env.set i (.own o))[j]? = some (.own o2) → i ≠ j → env[j]? = some (.own o2) := fun j o2 hj n => by
    rw [List.getElem?_set_ne n] at hj
    exact hj
  refine ⟨g.ex, by rw [List.length_set, List.length_set]; exact g.len, fun j s ov h1 h2 => ?_, fun j k b o1 o2 h1 h2 h3 h4 => ?_⟩
  · by_cases e : i = j
    · subst e
      rw [List.getElem?_set] at h1 h2
      simp only [if_true] at h1 h2
      by_cases hl : i < env.length
      · rw [if_pos hl] at h1
        rw [if_pos (by rw [g.len]; exact hl)] at h2
        cases h1
        cases h2
        exact ⟨p, ho, rfl, ip, hp, so⟩
      · rw [if_neg hl] at h1
        cases h1
    · rw [List.getElem?_set_ne e] at h1 h2
      exact g.ok j s ov h1 h2
  · have atp : ∀ j, i = j → (σ.set i (some (V.ref p)))[j]? = some (some (.ref b)) → b = p := fun j z h => by
      subst z
      rw [List.getElem?_set] at h
      simp only [if_true] at h
      split at h
      · cases h
        rfl
      · cases h
    by_cases e1 : i = j
    · by_cases e2 : i = k
      · exact e1.symm.trans e2
      · have eb := atp j e1 h3
        subst eb
        rw [List.getElem?_set_ne e2] at h4
        exact absurd ⟨k, o2, back k o2 h2 e2, h4⟩ nf
    · by_cases e2 : i = k
      · have eb := atp k e2 h4
        subst eb
        rw [List.getElem?_set_ne e1] at h3
        exact absurd ⟨j, o1, back j o1 h1 e1, h3⟩ nf
      · rw [List.getElem?_set_ne e1] at h3
        rw [List.getElem?_set_ne e2] at h4
        exact g.inj j k b o1 o2 (back j o1 h1 e1) (back k o2 h2 e2) h3 h4
theorem Fp.setOwn {σ : L2.St} {env : MEnv} {i : Nat} {p b : Addr} {o : SO} (h : Fp (σ.set i (some (.ref p))) (env.set i (.own o)) b) : Fp σ env b ∨ b = p := by
  obtain ⟨j, o1, h1, h2⟩ := h
  by_cases e : i = j
  · subst e
    rw [List.getElem?_set] at h2
    simp only [if_true] at h2
    split at h2
    · cases h2
      exact .inr rfl
    · cases h2
  · rw [List.getElem?_set_ne e] at h1 h2
    exact .inl ⟨j, o1, h1, h2⟩
theorem st_own {K : PySem.W.Frag} {te : TE} {i : Nat} {m : Xf} (k : FrOk K cl te m) (hR : R i = false) : StOk K cl R (L2.tAsg te (L2.gName i)) (sOwn m i) := by
  intro σ H I env fl env' Dn g hm kk
  unfold sOwn at hm
  cases q : m env with
  | none => simp [q] at hm
  | some pr =>
    obtain ⟨o, e1⟩ := pr
    simp only [q] at hm
    by_cases hl : i < e1.length
    · rw [if_pos hl] at hm
      simp only [Option.some.injEq, Prod.mk.injEq] at hm
      obtain ⟨rfl, rfl⟩ := hm
      refine k σ H I env o e1 _ g q fun a ho I1 H1 g1 t1 ia ha so fr nf => ?_
      refine kk _ I1 H1 (g1.setOwn ia ha so nf) ⟨t1.ext, t1.frame, t1.nofr, fun b hb => ?_, t1.dom⟩ fun j hj => ?_
      · rcases Fp.setOwn hb with h | rfl
        · exact t1.fp b h
        · exact fr
      · show (σ.set i (some (.ref a)))[j]? = σ[j]?
        rw [List.getElem?_set_ne]
        rintro rfl
        rw [hR] at hj
        cases hj
    · rw [if_neg hl] at hm
      cases hm
theorem ms_setO {i : Nat} {m : Xf} (h : MF X cl e m) (hp : ∀ te, PE X e te → PS X st (L2.tAsg te (L2.gName i))) (hR : R i = false) : MS X cl R st (sOwn m i) := by
  obtain ⟨t, p, k⟩ := h
  exact ⟨_, hp t p, st_own k hR⟩

/-! ### while -/
def sWhile : Nat → Xt → Xs → Xs
  | 0, _, _ => fun _ => none
  | n + 1, t, s => fun env => match t env with
    | none => none
    | some (false, e1) => some (.nx, e1)
    | some (true, e1) => match s e1 with
      | none => none
      | some (.nx, e2) => sWhile n t s e2
      | some (.ct, e2) => sWhile n t s e2
      | some (.bk, e2) => some (.nx, e2)
      | some (.ret r, e2) => some (.ret r, e2)
theorem ms_while {t : Xt} {n : Nat} {body : List Stmt} (hp : PassesOwn (model X.prog X.w) X.A X.env X.xe) (hc : MT X cl c t) (hb : MSs X cl R body s1) : MS X cl R (.While c body [] pos) (sWhile n t s1) := by
  obtain ⟨tc, pc, kc⟩ := hc
  obtain ⟨tb, pb, kb⟩ := hb
  refine ⟨_, ps_while hp pc pb, fun σ H I env fl env' Dn g hm kk => ?_⟩
  refine ⟨fun j σ2 H2 => ∃ I2 env2, Gd X.K cl I2 H2 σ2 env2 ∧ Tr (Fp σ env) I H (Fp σ2 env2) I2 H2 ∧ (∀ i, R i = true → σ2[i]? = σ[i]?) ∧ sWhile j t s1 env2 = some (fl, env'), ⟨n, I, env, g, Tr.refl, fun _ _ => rfl, hm⟩, fun j σ2 H2 ⟨I2, env2, g2, t2, r2, hw⟩ => ?_⟩
  cases j with
  | zero => cases hw
  | succ j =>
    unfold sWhile at hw
    cases q : t env2 with
    | none => simp [q] at hw
    | some pr =>
      obtain ⟨b1, e1⟩ := pr
      refine kc σ2 H2 I2 env2 b1 e1 _ g2 q fun I3 H3 g3 t3 => ?_
      cases b1 with
      | false =>
        simp only [q, Option.some.injEq, Prod.mk.injEq] at hw
        obtain ⟨rfl, rfl⟩ := hw
        exact kk σ2 I3 H3 g3 (t2.trans t3) r2
      | true =>
        simp only [q] at hw
        have t23 := t2.trans t3
        refine ⟨fun σ4 H4 => ∃ I4 env4, Gd X.K cl I4 H4 σ4 env4 ∧ Tr (Fp σ env) I H (Fp σ4 env4) I4 H4 ∧ (∀ i, R i = true → σ4[i]? = σ[i]?) ∧ sWhile j t s1 env4 = some (fl, env'), fun σ4 H4 h4 => ⟨j, Nat.lt_succ_self j, h4⟩, ?_⟩
        cases q2 : s1 e1 with
        | none => simp [q2] at hw
        | some pr2 =>
          obtain ⟨f2, e2⟩ := pr2
          refine kb σ2 H3 I3 e1 f2 e2 _ g3 q2 fun σ5 I5 H5 g5 t5 r5 => ?_
          have r25 : ∀ i, R i = true → σ5[i]? = σ[i]? := fun i hi => (r5 i hi).trans (r2 i hi)
          cases f2 with
          | nx =>
            simp only [q2] at hw
            exact ⟨I5, e2, g5, t23.trans t5, r25, hw⟩
          | ct =>
            simp only [q2] at hw
            exact ⟨I5, e2, g5, t23.trans t5, r25, hw⟩
          | bk =>
            simp only [q2, Option.some.injEq, Prod.mk.injEq] at hw
            obtain ⟨rfl, rfl⟩ := hw
            exact kk σ5 I5 H5 g5 (t23.trans t5) r25
          | ret r =>
            simp only [q2, Option.some.injEq, Prod.mk.injEq] at hw
            obtain ⟨rfl, rfl⟩ := hw
            exact (kk σ5 I5 H5 g5 (t23.trans t5) r25 : FlOk X.K cl (Fp σ env) H Dn σ5 I5 H5 e2 (.ret r)).back t23

/-! ### for -/
def sLoop (g : Xg) (s : Xs) : List D → Xs
  | [] => fun env => some (.nx, env)
  | d :: ds => fun env => match g d env with
    | none => none
    | some e1 => match s e1 with
      | none => none
      | some (.nx, e2) => sLoop g s ds e2
      | some (.ct, e2) => sLoop g s ds e2
      | some (.bk, e2) => some (.nx, e2)
      | some (.ret r, e2) => some (.ret r, e2)
def sFor (mi : Xi) (g : Xg) (s : Xs) : Xs := fun env => match mi env with
  | none => none
  | some (ds, e1) => sLoop g s ds e1
theorem ms_for {mi : Xi} {g : Xg} {iter : Expr} {body : List Stmt} (hp : PassesOwn (model X.prog X.w) X.A X.env X.xe) (hc : X.calm = true) (hi : MI X cl tg iter mi) (hg : MG X cl R tg g) (hb : MSs X cl R body s1)
    (hs : ∀ x, foldedSetIterable iter X.env x = pure x := by intro _; rfl) : MS X cl R (.For tg iter body [] pos) (sFor mi g s1) := by
  obtain ⟨wi, pi, ki⟩ := hi
  obtain ⟨tgt, pg, kg⟩ := hg
  obtain ⟨tb, pb, kb⟩ := hb
  refine ⟨_, ps_for hp hc pi pg pb hs, fun σ H I env fl env' Dn gd hm kk => ?_⟩
  unfold sFor at hm
  cases q : mi env with
  | none => simp [q] at hm
  | some pr =>
    obtain ⟨ds, e1⟩ := pr
    simp only [q] at hm
    refine ki σ H I env ds e1 _ gd q fun J I1 H1 g1 t1 it => ?_
    refine ⟨fun i j σ2 H2 => j = ds.length - i ∧ ∃ I2 env2, Gd X.K cl I2 H2 σ2 env2 ∧ Tr (Fp σ env) I H (Fp σ2 env2) I2 H2 ∧ Same I1 I2 ∧ (∀ i, R i = true → σ2[i]? = σ[i]?) ∧ sLoop g s1 (ds.drop i) env2 = some (fl, env'),
      ⟨ds.length, rfl, I1, e1, g1, t1, Same.refl _, fun _ _ => rfl, hm⟩, fun i j σ2 H2 ⟨hj, I2, env2, g2, t2, s12, r2, hw⟩ => ?_⟩
    obtain ⟨hstop, hgo⟩ := it i I2 H2 s12 g2.ex
    cases hd : ds[i]? with
    | none =>
      have hle : ds.length ≤ i := List.getElem?_eq_none_iff.mp hd
      rw [List.drop_eq_nil_of_le hle] at hw
      simp only [sLoop, Option.some.injEq, Prod.mk.injEq] at hw
      obtain ⟨rfl, rfl⟩ := hw
      exact .inl ⟨hstop hd, kk σ2 I2 H2 g2 t2 r2⟩
    | some d =>
      have hlt : i < ds.length := (List.getElem?_eq_some_iff.mp hd).1
      have edr : ds.drop i = d :: ds.drop (i + 1) := by
        rw [List.drop_eq_getElem_cons hlt]
        congr 1
        exact (List.getElem?_eq_some_iff.mp hd).2
      rw [edr] at hw
      obtain ⟨go, yld⟩ := hgo d hd
      refine .inr ⟨go, fun σ4 H4 => ∃ I4 env4, Gd X.K cl I4 H4 σ4 env4 ∧ Tr (Fp σ env) I H (Fp σ4 env4) I4 H4 ∧ Same I1 I4 ∧ (∀ i, R i = true → σ4[i]? = σ[i]?) ∧ sLoop g s1 (ds.drop (i + 1)) env4 = some (fl, env'), fun σ4 H4 h4 => ⟨ds.length - (i + 1), by omega, rfl, h4⟩, fun v H3 hy => ?_⟩
      obtain ⟨I3, al, rv⟩ := yld v H3 hy
      have g3 := g2.al al
      have t3 := t2.trans (al.tr (F := Fp σ2 env2))
      unfold sLoop at hw
      cases q3 : g d env2 with
      | none => simp [q3] at hw
      | some e3 =>
        simp only [q3] at hw
        refine kg σ2 H3 I3 env2 d e3 v _ g3 rv q3 fun σ4 I4 H4 g4 t4 r4 _ => ?_
        have t34 := t3.trans t4
        have s14 : Same I1 I4 := (s12.trans al.ext).trans t4.ext
        have r24 : ∀ i, R i = true → σ4[i]? = σ[i]? := fun i hi => (r4 i hi).trans (r2 i hi)
        cases q4 : s1 e3 with
        | none => simp [q4] at hw
        | some pr4 =>
          obtain ⟨f4, e4⟩ := pr4
          refine kb σ4 H4 I4 e3 f4 e4 _ g4 q4 fun σ5 I5 H5 g5 t5 r5 => ?_
          have r25 : ∀ i, R i = true → σ5[i]? = σ[i]? := fun i hi => (r5 i hi).trans (r24 i hi)
          cases f4 with
          | nx =>
            simp only [q4] at hw
            exact ⟨I5, e4, g5, t34.trans t5, s14.trans t5.ext, r25, hw⟩
          | ct =>
            simp only [q4] at hw
            exact ⟨I5, e4, g5, t34.trans t5, s14.trans t5.ext, r25, hw⟩
          | bk =>
            simp only [q4, Option.some.injEq, Prod.mk.injEq] at hw
            obtain ⟨rfl, rfl⟩ := hw
            exact kk σ5 I5 H5 g5 (t34.trans t5) r25
          | ret r =>
            simp only [q4, Option.some.injEq, Prod.mk.injEq] at hw
            obtain ⟨rfl, rfl⟩ := hw
            exact (kk σ5 I5 H5 g5 (t34.trans t5) r25 : FlOk X.K cl (Fp σ env) H Dn σ5 I5 H5 e4 (.ret r)).back t34

/-! ### what is walked -/
/-- a list or a tuple; a slot's own list is frozen -/
def iSeq (m : Xp) : Xi := fun env => match m env with
  | none => none
  | some (r, e1) => match esc e1 r with
    | some (.lst ds, e2) => some (ds, e2)
    | _ => none
def iTupl (m : Xp) : Xi := fun env => match m env with
  | none => none
  | some (r, e1) => match esc e1 r with
    | some (.tup ds, e2) => some (ds, e2)
    | _ => none
theorem itl_ok {K : PySem.W.Frag} {I : Hp} {a : Addr} {vs : List V} {ds : List D} (hs : SqL K I a vs) (hr : RpA K cl I vs ds) : ItOk K cl I (Itl K a) ds := by
  intro i I1 H1 s1 s2
  have hs1 : SqL K H1 a vs := (s1.trans s2).seq hs
  refine ⟨fun hn => ⟨vs, hs1, ?_⟩, fun d hd => ?_⟩
  · rw [hr.length]
    exact List.getElem?_eq_none_iff.mp hn
  · obtain ⟨v, hv, rv⟩ := hr.get hd
    refine ⟨⟨vs, v, hs1, hv⟩, fun x H2 ⟨e1, e2⟩ => ?_⟩
    subst e1
    have e3 := e2 vs hs1
    rw [hv] at e3
    cases e3
    exact ⟨I1, Al.refl s2, rv.mono s1⟩
theorem itt_ok {K : PySem.W.Frag} {I : Hp} {a : Addr} {vs : List V} {ds : List D} (hs : SqT K I a vs) (hr : RpA K cl I vs ds) : ItOk K cl I (Itt K a) ds := by
  intro i I1 H1 s1 s2
  have hs1 : SqT K H1 a vs := same_t (s1.trans s2) hs
  refine ⟨fun hn => ⟨vs, hs1, ?_⟩, fun d hd => ?_⟩
  · rw [hr.length]
    exact List.getElem?_eq_none_iff.mp hn
  · obtain ⟨v, hv, rv⟩ := hr.get hd
    refine ⟨⟨vs, v, hs1, hv⟩, fun x H2 ⟨e1, e2⟩ => ?_⟩
    subst e1
    have e3 := e2 vs hs1
    rw [hv] at e3
    cases e3
    exact ⟨I1, Al.refl s2, rv.mono s1⟩
theorem mi_list (h : ME X cl e m) : MI X cl tg e (iSeq m) := by
  obtain ⟨t, p, k⟩ := h
  refine ⟨_, pi_list p, fun σ H I env ds env' Rr g hm kk => ?_⟩
  unfold iSeq at hm
  cases q : m env with
  | none => simp [q] at hm
  | some pr =>
    obtain ⟨r, e1⟩ := pr
    simp only [q] at hm
    cases q2 : esc e1 r with
    | none => simp [q2] at hm
    | some p2 =>
      obtain ⟨d, e2⟩ := p2
      cases d with
      | lst ds' =>
        simp only [q2, Option.some.injEq, Prod.mk.injEq] at hm
        obtain ⟨rfl, rfl⟩ := hm
        refine k σ H I env r e1 _ g q fun v I1 H1 g1 t1 r1 => ?_
        obtain ⟨I2, g2, t2, r2⟩ := esc_ok g1 r1 q2
        cases r2 with
        | lst hs hr => exact ⟨_, rfl, ⟨_, SqL.of (g2.ex _ _ hs)⟩, kk _ I2 H1 g2 (t1.trans t2) (itl_ok (SqL.of hs) hr)⟩
      | _ => simp [q2] at hm
theorem mi_tuple (h : ME X cl e m) : MI X cl tg e (iTupl m) := by
  obtain ⟨t, p, k⟩ := h
  refine ⟨_, pi_tup p, fun σ H I env ds env' Rr g hm kk => ?_⟩
  unfold iTupl at hm
  cases q : m env with
  | none => simp [q] at hm
  | some pr =>
    obtain ⟨r, e1⟩ := pr
    simp only [q] at hm
    cases q2 : esc e1 r with
    | none => simp [q2] at hm
    | some p2 =>
      obtain ⟨d, e2⟩ := p2
      cases d with
      | tup ds' =>
        simp only [q2, Option.some.injEq, Prod.mk.injEq] at hm
        obtain ⟨rfl, rfl⟩ := hm
        refine k σ H I env r e1 _ g q fun v I1 H1 g1 t1 r1 => ?_
        obtain ⟨I2, g2, t2, r2⟩ := esc_ok g1 r1 q2
        cases r2 with
        | tup hs hr => exact ⟨_, rfl, ⟨_, (hs.mono g2.ex).sq⟩, kk _ I2 H1 g2 (t1.trans t2) (itt_ok (hs.sq) hr)⟩
      | _ => simp [q2] at hm
def rgD (lo : Int) (n : Nat) : List D := (List.range n).map fun (i : Nat) => D.int (lo + (i : Nat))
theorem rgD_get {lo : Int} {n i : Nat} : (rgD lo n)[i]? = if i < n then some (D.int (lo + (i : Nat))) else none := by
  unfold rgD
  rw [List.getElem?_map]
  by_cases h : i < n
  · rw [List.getElem?_range h, if_pos h]
    rfl
  · rw [if_neg h, List.getElem?_eq_none_iff.mpr (by rw [List.length_range]; omega)]
    rfl
theorem itr_ok {K : PySem.W.Frag} {I : Hp} {lo : Int} {n : Nat} : ItOk K cl I (Itr lo n) (rgD lo n) := by
  intro i I1 H1 s1 s2
  rw [rgD_get]
  by_cases h : i < n
  · rw [if_pos h]
    refine ⟨fun z => (nomatch z), fun d hd => ⟨h, fun v H2 ⟨e1, e2⟩ => ?_⟩⟩
    subst e1
    subst e2
    cases hd
    exact ⟨I1, Al.refl s2, .int _⟩
  · rw [if_neg h]
    exact ⟨fun _ => Nat.le_of_not_lt h, fun d hd => nomatch hd⟩
def okR : Int → Bool
  | .ofNat n => Nat.ble n 4611686018427387903
  | .negSucc n => Nat.ble n 4611686018427387903
theorem okR_ok {i : Int} (h : okR i = true) : -(2 ^ 62) ≤ i ∧ i < 2 ^ 62 := by
  cases i with
  | ofNat n =>
    have := Nat.le_of_ble_eq_true h
    rw [Int.ofNat_eq_natCast]
    omega
  | negSucc n =>
    have := Nat.le_of_ble_eq_true h
    rw [Int.negSucc_eq]
    omega
theorem okR_of {i : Int} (h : -(2 ^ 62) ≤ i ∧ i < 2 ^ 62) : okR i = true := by
  cases i with
  | ofNat n =>
    rw [Int.ofNat_eq_natCast] at h
    exact Nat.ble_eq_true_of_le (by omega)
  | negSucc n =>
    rw [Int.negSucc_eq] at h
    exact Nat.ble_eq_true_of_le (by omega)
def iR1 (ms : Xa) : Xi := fun env => match ms env with
  | some ([r], e1) => match vw e1 r with
    | some (.int j) => if okR j then some (rgD 0 j.toNat, e1) else none
    | _ => none
  | _ => none
def iR2 (ms : Xa) : Xi := fun env => match ms env with
  | some ([r, r'], e1) => match vw e1 r, vw e1 r' with
    | some (.int i), some (.int j) => if okR i && okR j then some (rgD i (j - i).toNat, e1) else none
    | _, _ => none
  | _ => none
theorem mi_r1 {ms : Xa} (h : MA X cl [a] ms) (hp : ∀ ta, PA X [a] ta → PI X tg e (iRng1 ta)) : MI X cl tg e (iR1 ms) := by
  obtain ⟨t, p, k⟩ := h
  refine ⟨_, hp t p, fun σ H I env ds env' Rr g hm kk => ?_⟩
  unfold iR1 at hm
  cases q : ms env with
  | none => simp [q] at hm
  | some pr =>
    obtain ⟨rs, e1⟩ := pr
    rcases rs with _ | ⟨r, _ | ⟨r', rs⟩⟩
    · simp [q] at hm
    · simp only [q] at hm
      cases q2 : vw e1 r with
      | none => simp [q2] at hm
      | some d =>
        cases d with
        | int j =>
          simp only [q2] at hm
          by_cases ok : okR j = true
          · rw [if_pos ok] at hm
            simp only [Option.some.injEq, Prod.mk.injEq] at hm
            obtain ⟨rfl, rfl⟩ := hm
            refine k σ H I env [r] e1 _ g q fun vs I1 H1 g1 t1 r1 => ?_
            cases r1 with
            | cons rv rn =>
              cases rn
              have ev := (vw_ok g1 rv q2).int
              subst ev
              exact ⟨j, rfl, (okR_ok ok).1, (okR_ok ok).2, kk _ I1 H1 g1 t1 itr_ok⟩
          · rw [if_neg ok] at hm
            cases hm
        | _ => simp [q2] at hm
    · simp [q] at hm
theorem mi_r2 {ms : Xa} (h : MA X cl [a, b] ms) (hp : ∀ ta, PA X [a, b] ta → PI X tg e (iRng2 ta)) : MI X cl tg e (iR2 ms) := by
  obtain ⟨t, p, k⟩ := h
  refine ⟨_, hp t p, fun σ H I env ds env' Rr g hm kk => ?_⟩
  unfold iR2 at hm
  cases q : ms env with
  | none => simp [q] at hm
  | some pr =>
    obtain ⟨rs, e1⟩ := pr
    rcases rs with _ | ⟨r, _ | ⟨r', _ | ⟨r2, rs⟩⟩⟩
    · simp [q] at hm
    · simp [q] at hm
    · simp only [q] at hm
      cases q2 : vw e1 r with
      | none => simp [q2] at hm
      | some d =>
        cases d with
        | int i =>
          cases q3 : vw e1 r' with
          | none => simp [q2, q3] at hm
          | some d' =>
            cases d' with
            | int j =>
              simp only [q2, q3] at hm
              by_cases ok : (okR i && okR j) = true
              · rw [if_pos ok] at hm
                simp only [Option.some.injEq, Prod.mk.injEq] at hm
                obtain ⟨rfl, rfl⟩ := hm
                rw [Bool.and_eq_true] at ok
                refine k σ H I env [r, r'] e1 _ g q fun vs I1 H1 g1 t1 r1 => ?_
                cases r1 with
                | cons rv rn =>
                  cases rn with
                  | cons rv2 rn2 =>
                    cases rn2
                    have ev := (vw_ok g1 rv q2).int
                    have ev2 := (vw_ok g1 rv2 q3).int
                    subst ev
                    subst ev2
                    exact ⟨i, j, rfl, ⟨(okR_ok ok.1).1, (okR_ok ok.1).2, (okR_ok ok.2).1, (okR_ok ok.2).2⟩, kk _ I1 H1 g1 t1 itr_ok⟩
              · rw [if_neg ok] at hm
                cases hm
            | _ => simp [q2, q3] at hm
        | _ => simp [q2] at hm
    · simp [q] at hm
end
end MP
set_option Elab.async false
set_option linter.all false
set_option maxRecDepth 100000
set_option maxHeartbeats 4000000
namespace MP
open PySem PySem.Spec PyProof.Rows L2

/-! ### wiping slots -/
def wipeE (env : MEnv) : List Nat → MEnv
  | [] => env
  | v :: vs => (wipeE env vs).set v .none
def restE (env0 env : MEnv) : List Nat → MEnv
  | [] => env
  | v :: vs => (restE env0 env vs).set v (env0.getD v .none)
theorem wipeE_len (env : MEnv) : ∀ vs, (wipeE env vs).length = env.length
  | [] => rfl
  | v :: vs => by
    unfold wipeE
    rw [List.length_set, wipeE_len env vs]
theorem restE_len (env0 env : MEnv) : ∀ vs, (restE env0 env vs).length = env.length
  | [] => rfl
  | v :: vs => by
    unfold restE
    rw [List.length_set, restE_len env0 env vs]
theorem wipeE_in {env : MEnv} {i : Nat} : ∀ {vs : List Nat}, i ∈ vs → ∀ s, (wipeE env vs)[i]? = some s → s = .none
  | v :: vs, h, s, e => by
    unfold wipeE at e
    by_cases z : v = i
    · subst z
      rw [List.getElem?_set] at e
      simp only [if_true] at e
      split at e
      · cases e
        rfl
      · cases e
    · rw [List.getElem?_set_ne z] at e
      rcases List.mem_cons.mp h with rfl | h
      · exact absurd rfl z
      · exact wipeE_in h s e
theorem wipeE_out {env : MEnv} {i : Nat} : ∀ {vs : List Nat}, i ∉ vs → (wipeE env vs)[i]? = env[i]?
  | [], _ => rfl
  | v :: vs, h => by
    unfold wipeE
    rw [List.getElem?_set_ne (fun z => h (by rw [z]; exact List.mem_cons_self)), wipeE_out fun z => h (List.mem_cons_of_mem _ z)]
theorem restE_in {env0 env : MEnv} {i : Nat} : ∀ {vs : List Nat}, i ∈ vs → ∀ s, (restE env0 env vs)[i]? = some s → s = env0.getD i .none
  | v :: vs, h, s, e => by
    unfold restE at e
    by_cases z : v = i
    · subst z
      rw [List.getElem?_set] at e
      simp only [if_true] at e
      split at e
      · cases e
        rfl
      · cases e
    · rw [List.getElem?_set_ne z] at e
      rcases List.mem_cons.mp h with rfl | h
      · exact absurd rfl z
      · exact restE_in h s e
theorem restE_out {env0 env : MEnv} {i : Nat} : ∀ {vs : List Nat}, i ∉ vs → (restE env0 env vs)[i]? = env[i]?
  | [], _ => rfl
  | v :: vs, h => by
    unfold restE
    rw [List.getElem?_set_ne (fun z => h (by rw [z]; exact List.mem_cons_self)), restE_out fun z => h (List.mem_cons_of_mem _ z)]
theorem wipe_out {σ : L2.St} {i : Nat} : ∀ {vs : List Nat}, i ∉ vs → (wipe σ vs)[i]? = σ[i]?
  | [], _ => rfl
  | v :: vs, h => by
    unfold wipe
    rw [List.getElem?_set_ne (fun z => h (by rw [z]; exact List.mem_cons_self)), wipe_out fun z => h (List.mem_cons_of_mem _ z)]
theorem wipe_in {σ : L2.St} {i : Nat} : ∀ {vs : List Nat}, i ∈ vs → (wipe σ vs)[i]? = (σ[i]?).map fun _ => none
  | v :: vs, h => by
    unfold wipe
    by_cases z : v = i
    · subst z
      rw [List.getElem?_set]
      simp only [if_true, wipe_length]
      by_cases hl : v < σ.length
      · rw [if_pos hl, List.getElem?_eq_getElem hl]
        rfl
      · rw [if_neg hl, List.getElem?_eq_none_iff.mpr (Nat.le_of_not_lt hl)]
        rfl
    · rw [List.getElem?_set_ne z]
      rcases List.mem_cons.mp h with rfl | h
      · exact absurd rfl z
      · exact wipe_in h
theorem wipe_eq {σ σ' : L2.St} {vs : List Nat} (hl : σ'.length = σ.length) (h : ∀ i, i ∉ vs → σ'[i]? = σ[i]?) : wipe σ' vs = wipe σ vs := by
  apply List.ext_getElem?
  intro i
  by_cases hi : i ∈ vs
  · rw [wipe_in hi, wipe_in hi]
    by_cases z : i < σ.length
    · rw [List.getElem?_eq_getElem z, List.getElem?_eq_getElem (by omega)]
      rfl
    · rw [List.getElem?_eq_none_iff.mpr (by omega), List.getElem?_eq_none_iff.mpr (by omega)]
  · rw [wipe_out hi, wipe_out hi, h i hi]
def notIn (vs : List Nat) (i : Nat) : Bool := !vs.contains i
theorem notIn_t {vs : List Nat} {i : Nat} (h : i ∉ vs) : notIn vs i = true := by
  unfold notIn
  cases q : vs.contains i with
  | false => rfl
  | true => exact absurd (List.contains_iff_mem.mp q) h
section
variable {K : PySem.W.Frag} {cl : ClM} {I I' H H' : Hp} {σ : L2.St} {env env' : MEnv} {vs : List Nat}
theorem Gd.wipe (g : Gd K cl I H σ env) : Gd K cl I H (wipe σ vs) (wipeE env vs) := by
  have up : ∀ (i : Nat) (o : SO), (wipeE env vs)[i]? = some (.own o) → i ∉ vs ∧ env[i]? = some (.own o) := fun i o h => by
    by_cases z : i ∈ vs
    · exact nomatch (wipeE_in z _ h)
    · exact ⟨z, by rw [← wipeE_out z]; exact h⟩
  refine ⟨g.ex, by rw [wipe_length, wipeE_len]; exact g.len, fun i s ov h1 h2 => ?_, fun i j p o o' h1 h2 h3 h4 => ?_⟩
  · by_cases z : i ∈ vs
    · rw [wipeE_in z s h1]
      trivial
    · rw [wipeE_out z] at h1
      rw [wipe_out z] at h2
      exact g.ok i s ov h1 h2
  · obtain ⟨n1, e1⟩ := up i o h1
    obtain ⟨n2, e2⟩ := up j o' h2
    rw [wipe_out n1] at h3
    rw [wipe_out n2] at h4
    exact g.inj i j p o o' e1 e2 h3 h4
theorem Fp.wipe {p : Addr} (h : Fp (wipe σ vs) (wipeE env vs) p) : Fp σ env p := by
  obtain ⟨i, o, h1, h2⟩ := h
  have z : i ∉ vs := fun z => nomatch (wipeE_in z _ h1)
  rw [wipeE_out z] at h1
  rw [wipe_out z] at h2
  exact ⟨i, o, h1, h2⟩
/-- no slot of vs owns anything -/
def okW (env : MEnv) : List Nat → Bool
  | [] => true
  | v :: vs => (match env[v]? with | some (.own _) => false | _ => true) && okW env vs
theorem okW_no : ∀ {vs : List Nat}, okW env vs = true → ∀ i ∈ vs, ∀ o, env[i]? ≠ some (.own o)
  | v :: vs, h, i, hi, o => fun e => by
    unfold okW at h
    rw [Bool.and_eq_true] at h
    rcases List.mem_cons.mp hi with rfl | hi
    · rw [e] at h
      exact absurd h.1 Bool.false_ne_true
    · exact okW_no h.2 i hi o e
theorem Fp.unwipe {p : Addr} (ok : okW env vs = true) (h : Fp σ env p) : Fp (L2.wipe σ vs) (wipeE env vs) p := by
  obtain ⟨i, o, h1, h2⟩ := h
  have z : i ∉ vs := fun z => okW_no ok i z o h1
  exact ⟨i, o, by rw [wipeE_out z]; exact h1, by rw [wipe_out z]; exact h2⟩
theorem Gd.rest {env0 : MEnv} {I0 H0 : Hp} (g0 : Gd K cl I0 H0 σ env0) (ok : okW env0 vs = true) (e : Same I0 I) (g : Gd K cl I H (L2.wipe σ vs) env) : Gd K cl I H σ (restE env0 env vs) := by
  have up : ∀ (i : Nat) (o : SO), (restE env0 env vs)[i]? = some (.own o) → i ∉ vs ∧ env[i]? = some (.own o) := fun i o h => by
    by_cases z : i ∈ vs
    · have q := restE_in z _ h
      exfalso
      rw [List.getD_eq_getElem?_getD] at q
      cases q2 : env0[i]? with
      | none => rw [q2] at q; exact nomatch q
      | some s =>
        rw [q2] at q
        have q' : Slot.own o = s := q
        subst q'
        exact okW_no ok i z o q2
    · exact ⟨z, by rw [← restE_out z]; exact h⟩
  have hl : σ.length = env.length := by
    have := g.len
    rw [wipe_length] at this
    exact this
  refine ⟨g.ex, by rw [restE_len]; exact hl, fun i s ov h1 h2 => ?_, fun i j p o o' h1 h2 h3 h4 => ?_⟩
  · by_cases z : i ∈ vs
    · have q := restE_in z _ h1
      rw [List.getD_eq_getElem?_getD] at q
      cases q2 : env0[i]? with
      | none =>
        rw [q2] at q
        subst q
        trivial
      | some s0 =>
        rw [q2] at q
        have q' : s = s0 := q
        subst q'
        have ok0 := g0.ok i s ov q2 h2
        cases s with
        | none => trivial
        | val d =>
          obtain ⟨v, e1, r1⟩ := ok0
          exact ⟨v, e1, r1.mono e⟩
        | own o => exact absurd q2 (okW_no ok i z o)
    · rw [restE_out z] at h1
      refine g.ok i s ov h1 ?_
      rw [wipe_out z]
      exact h2
  · obtain ⟨n1, e1⟩ := up i o h1
    obtain ⟨n2, e2⟩ := up j o' h2
    refine g.inj i j p o o' e1 e2 ?_ ?_
    · rw [wipe_out n1]
      exact h3
    · rw [wipe_out n2]
      exact h4
theorem Fp.rest {env0 : MEnv} {p : Addr} (ok : okW env0 vs = true) (h : Fp σ (restE env0 env vs) p) : Fp (L2.wipe σ vs) env p := by
  obtain ⟨i, o, h1, h2⟩ := h
  have z : i ∉ vs := fun z => by
    have q := restE_in z _ h1
    rw [List.getD_eq_getElem?_getD] at q
    cases q2 : env0[i]? with
    | none => rw [q2] at q; exact nomatch q
    | some s =>
      rw [q2] at q
      have q' : Slot.own o = s := q
      subst q'
      exact okW_no ok i z o q2
  rw [restE_out z] at h1
  exact ⟨i, o, h1, by rw [wipe_out z]; exact h2⟩
end

/-! ### comprehensions -/
def MTs (X : Cx) (cl : ClM) (ifs : List Expr) (m : Xt) : Prop := ∃ t, PTs X ifs t ∧ TtOk X.K cl t m
def tYs : Xt := fun env => some (true, env)
theorem mts_nil {X : Cx} {cl : ClM} : MTs X cl [] tYs := ⟨_, pts_nil, fun σ H I env b env' Q g hm k => by
  cases Option.some.inj hm
  exact k I H g Tr.refl⟩
theorem mts_one {X : Cx} {cl : ClM} {c : Expr} {m : Xt} (h : MT X cl c m) : MTs X cl [c] m := by
  obtain ⟨t, p, k⟩ := h
  exact ⟨_, pts_one p, k⟩
def cLoop (vs : List Nat) (g : Xg) (t : Xt) (m : Xp) : List D → List D → MEnv → Option (List D × MEnv)
  | [], acc, env => some (acc, env)
  | d :: ds, acc, env => match g d env with
    | none => none
    | some e1 => match t e1 with
      | none => none
      | some (false, e2) => cLoop vs g t m ds acc (wipeE e2 vs)
      | some (true, e2) => match m e2 with
        | none => none
        | some (r, e3) => match esc e3 r with
          | none => none
          | some (x, e4) => if acc.length < 16777216 then cLoop vs g t m ds (acc ++ [x]) (wipeE e4 vs) else none
def fComp (vs : List Nat) (mi : Xi) (g : Xg) (t : Xt) (m : Xp) : Xf := fun env => match mi env with
  | none => none
  | some (ds, e1) => if okW e1 vs then match cLoop vs g t m ds [] (wipeE e1 vs) with
    | none => none
    | some (xs, e2) => some (.lst xs, restE e1 e2 vs)
    else none
section
variable {X : Cx} {cl : ClM} {tg iter elt e : Expr} {ifs : List Expr} {scope : Scope} {vs : List Nat} {mi : Xi} {g : Xg} {mt : Xt} {m : Xp}
abbrev BlkAll (X : Cx) (scope : Scope) (P : Cx → Prop) : Prop := ∀ (s : Shared) (H : Hp) (C : Addr) (c2 : List (Str × Addr)) (fp : List Addr), P (X.blk s H scope (compEnvC scope c2 C X.env) fp)
theorem uni_g {R : Nat → Bool} (h : BlkAll X scope fun Y => MG Y cl R tg g) : ∃ t, BlkAll X scope (fun Y => PG Y tg t) ∧ GtOk X.K cl R t g := by
  refine ⟨fun v σ H Q => ∀ s H0 C c2 fp, (h s H0 C c2 fp).choose v σ H Q, fun s H0 C c2 fp => ⟨fun pins s1 σ H1 v u Q I rv q => (h s H0 C c2 fp).choose_spec.1.run pins s1 σ H1 v u Q I rv (q s H0 C c2 fp)⟩, fun σ H I env d env' v Q gd r hm k s H0 C c2 fp => ?_⟩
  exact (h s H0 C c2 fp).choose_spec.2 σ H I env d env' v Q gd r hm k
theorem uni_t (h : BlkAll X scope fun Y => MTs Y cl ifs mt) : ∃ t, BlkAll X scope (fun Y => PTs Y ifs t) ∧ TtOk X.K cl t mt := by
  refine ⟨fun σ H Q => ∀ s H0 C c2 fp, (h s H0 C c2 fp).choose σ H Q, fun s H0 C c2 fp => ⟨fun pins s1 σ H1 Q I q => (h s H0 C c2 fp).choose_spec.1.run pins s1 σ H1 Q I (q s H0 C c2 fp)⟩, fun σ H I env b env' Q gd hm k s H0 C c2 fp => ?_⟩
  exact (h s H0 C c2 fp).choose_spec.2 σ H I env b env' Q gd hm k
theorem uni_e (h : BlkAll X scope fun Y => ME Y cl elt m) : ∃ t, BlkAll X scope (fun Y => PE Y elt t) ∧ EvOk X.K cl t m := by
  refine ⟨fun σ H Q => ∀ s H0 C c2 fp, (h s H0 C c2 fp).choose σ H Q, fun s H0 C c2 fp => ⟨fun pins s1 σ H1 Q I q => (h s H0 C c2 fp).choose_spec.1.run pins s1 σ H1 Q I (q s H0 C c2 fp)⟩, fun σ H I env b env' Q gd hm k s H0 C c2 fp => ?_⟩
  exact (h s H0 C c2 fp).choose_spec.2 σ H I env b env' Q gd hm k
theorem uni_i (h : BlkAll X scope fun Y => MI Y cl tg iter mi) : ∃ t, BlkAll X scope (fun Y => PI Y tg iter t) ∧ TiOk X.K cl t mi := by
  refine ⟨fun σ H Q => ∀ s H0 C c2 fp, (h s H0 C c2 fp).choose σ H Q, fun s H0 C c2 fp => ⟨fun pins s1 σ H1 Q I q => (h s H0 C c2 fp).choose_spec.1.run pins s1 σ H1 Q I (q s H0 C c2 fp)⟩, fun σ H I env b env' Q gd hm k s H0 C c2 fp => ?_⟩
  exact (h s H0 C c2 fp).choose_spec.2 σ H I env b env' Q gd hm k
theorem nf_fresh {K : PySem.W.Frag} {I H : Hp} {σ : L2.St} {env : MEnv} {a : Addr} (g : Gd K cl I H σ env) (ha : H a = none) : ¬ Fp σ env a := fun ⟨j, o, h1, h2⟩ => by
  obtain ⟨p3, ho3, e3, _, hp3, _⟩ := g.ok j _ _ h1 h2
  cases e3
  rw [ha] at hp3
  cases hp3
theorem lc_fr (hi : MI X cl tg iter mi) (hg : BlkAll X scope fun Y => MG Y cl (notIn vs) tg g) (ht : BlkAll X scope fun Y => MTs Y cl ifs mt) (he : BlkAll X scope fun Y => ME Y cl elt m) :
    ∃ wi tgt tt te, PI X tg iter wi ∧ BlkAll X scope (fun Y => PG Y tg tgt) ∧ BlkAll X scope (fun Y => PTs Y ifs tt) ∧ BlkAll X scope (fun Y => PE Y elt te) ∧ FrOk X.K cl (tLc wi tgt tt te vs) (fComp vs mi g mt m) := by
  obtain ⟨wi, pi, ki⟩ := hi
  obtain ⟨tgt, pg, kg⟩ := uni_g hg
  obtain ⟨tt, pt, kt⟩ := uni_t ht
  obtain ⟨te, pe, ke⟩ := uni_e he
  refine ⟨wi, tgt, tt, te, pi, pg, pt, pe, fun σ H I env o env' Q gd hm k => ?_⟩
  unfold fComp at hm
  cases q : mi env with
  | none => simp [q] at hm
  | some pr =>
    obtain ⟨ds, e1⟩ := pr
    simp only [q] at hm
    by_cases ok : okW e1 vs = true
    · rw [if_pos ok] at hm
      cases q2 : cLoop vs g mt m ds [] (wipeE e1 vs) with
      | none => simp [q2] at hm
      | some pr2 =>
        obtain ⟨xs, e2⟩ := pr2
        simp only [q2, Option.some.injEq, Prod.mk.injEq] at hm
        obtain ⟨rfl, rfl⟩ := hm
        refine ki σ H I env ds e1 _ gd q fun J I1 H1 g1 t1 it => fun Da hD => ?_
        have nfD : ¬ Fp σ e1 Da := nf_fresh g1 hD
        have iD : I1 Da = none := g1.ex.free hD
        have al0 : Al I1 H1 I1 (upd H1 Da (.lst [])) := Al.newH g1.ex hD
        refine ⟨fun i j H2 => j = ds.length - i ∧ ∃ I2 env2 acc accV, Gd X.K cl I2 H2 (wipe σ vs) env2 ∧ Tr (Fp σ e1) I1 H1 (Fp (wipe σ vs) env2) I2 H2 ∧ I2 Da = none ∧ H2 Da = some (.lst accV) ∧ ¬ Fp (wipe σ vs) env2 Da ∧ RpA X.K cl I2 accV acc ∧
            cLoop vs g mt m (ds.drop i) acc env2 = some (xs, e2),
          ⟨ds.length, rfl, I1, wipeE e1 vs, [], [], (g1.al al0).wipe, ((al0.tr (F := Fp σ e1)).less fun p h => h.wipe), iD, upd_same, fun h => nfD h.wipe, .nil, q2⟩, fun i j H2 ⟨hj, I2, env2, acc, accV, g2, t2, i2, h2, nf2, ra, hw⟩ => ?_⟩
        obtain ⟨hstop, hgo⟩ := it i I2 H2 t2.ext g2.ex
        cases hd : ds[i]? with
        | none =>
          have hle : ds.length ≤ i := List.getElem?_eq_none_iff.mp hd
          rw [List.drop_eq_nil_of_le hle] at hw
          simp only [cLoop, Option.some.injEq, Prod.mk.injEq] at hw
          obtain ⟨rfl, rfl⟩ := hw
          refine .inl ⟨hstop hd, ?_⟩
          have g3 : Gd X.K cl I2 H2 σ (restE e1 env2 vs) := Gd.rest g1 ok t2.ext g2
          have t3 : Tr (Fp σ e1) I1 H1 (Fp σ (restE e1 env2 vs)) I2 H2 := t2.less fun p h => Fp.rest ok h
          exact k Da _ I2 H2 g3 (t1.trans t3) i2 h2 (.lst ra) (t1.back (.inr hD)) fun h => nf2 (Fp.rest ok h)
        | some d =>
          have hlt : i < ds.length := (List.getElem?_eq_some_iff.mp hd).1
          have edr : ds.drop i = d :: ds.drop (i + 1) := by
            rw [List.drop_eq_getElem_cons hlt]
            congr 1
            exact (List.getElem?_eq_some_iff.mp hd).2
          rw [edr] at hw
          obtain ⟨go, yld⟩ := hgo d hd
          refine .inr ⟨go, fun H4 => ∃ I4 env4 acc4 accV4, Gd X.K cl I4 H4 (wipe σ vs) env4 ∧ Tr (Fp σ e1) I1 H1 (Fp (wipe σ vs) env4) I4 H4 ∧ I4 Da = none ∧ H4 Da = some (.lst accV4) ∧ ¬ Fp (wipe σ vs) env4 Da ∧ RpA X.K cl I4 accV4 acc4 ∧
            cLoop vs g mt m (ds.drop (i + 1)) acc4 env4 = some (xs, e2), fun H4 h4 => ⟨ds.length - (i + 1), by omega, rfl, h4⟩, fun v H3 hy => ?_⟩
          obtain ⟨I3, al, rv⟩ := yld v H3 hy
          have g3 := g2.al al
          have t3 := t2.trans (al.tr (F := Fp (wipe σ vs) env2))
          have hDa2 : H2 Da ≠ none := by
            rw [h2]
            exact fun z => nomatch z
          have i3 : I3 Da = none := al.nofr Da hDa2 i2
          have h3 : H3 Da = some (.lst accV) := al.exH _ _ h2
          unfold cLoop at hw
          cases q3 : g d env2 with
          | none => simp [q3] at hw
          | some e3 =>
            simp only [q3] at hw
            refine kg (wipe σ vs) H3 I3 env2 d e3 v _ g3 rv q3 fun σ4 I4 H4 g4 t4 r4 l4 => ?_
            have ew : wipe σ4 vs = wipe σ vs := (wipe_eq l4 fun i hi => r4 i (notIn_t hi)).trans (wipe_eq (wipe_length _ _) fun i hi => wipe_out hi)
            refine ⟨ew, ?_⟩
            have t34 := t3.trans t4
            have hDa3 : H3 Da ≠ none := by
              rw [h3]
              exact fun z => nomatch z
            have i4 : I4 Da = none := t4.nofr Da hDa3 nf2 i3
            have h4 : H4 Da = some (.lst accV) := t4.frame _ _ h3 nf2
            have nf4 : ¬ Fp σ4 e3 Da := t4.notin hDa3 nf2
            cases q4 : mt e3 with
            | none => simp [q4] at hw
            | some pr4 =>
              obtain ⟨b4, e4⟩ := pr4
              refine kt σ4 H4 I4 e3 b4 e4 _ g4 q4 fun I5 H5 g5 t5 => ?_
              have hDa4 : H4 Da ≠ none := by
                rw [h4]
                exact fun z => nomatch z
              have i5 : I5 Da = none := t5.nofr Da hDa4 nf4 i4
              have h5 : H5 Da = some (.lst accV) := t5.frame _ _ h4 nf4
              have nf5 : ¬ Fp σ4 e4 Da := t5.notin hDa4 nf4
              have t45 := t34.trans t5
              cases b4 with
              | false =>
                simp only [q4] at hw
                show ∃ I4 env4 acc4 accV4, _
                refine ⟨I5, wipeE e4 vs, acc, accV, ?_, ?_, i5, h5, ?_, ra.mono ((al.ext.trans t4.ext).trans t5.ext), hw⟩
                · rw [← ew]
                  exact g5.wipe
                · rw [← ew]
                  exact t45.less fun p h => h.wipe
                · rw [← ew]
                  exact fun h => nf5 h.wipe
              | true =>
                simp only [q4] at hw
                show te σ4 H5 _
                cases q6 : m e4 with
                | none => simp [q6] at hw
                | some pr6 =>
                  obtain ⟨r6, e6⟩ := pr6
                  simp only [q6] at hw
                  cases q7 : esc e6 r6 with
                  | none => simp [q7] at hw
                  | some pr7 =>
                    obtain ⟨x, e7⟩ := pr7
                    simp only [q7] at hw
                    by_cases hsz : acc.length < 16777216
                    · rw [if_pos hsz] at hw
                      refine ke σ4 H5 I5 e4 r6 e6 _ g5 q6 fun y I6 H6 g6 t6 r6' => ?_
                      obtain ⟨I7, g7, t7, r7⟩ := esc_ok g6 r6' q7
                      have t67 := t6.trans t7
                      have hDa5 : H5 Da ≠ none := by
                        rw [h5]
                        exact fun z => nomatch z
                      have i7 : I7 Da = none := t67.nofr Da hDa5 nf5 i5
                      have h7 : H6 Da = some (.lst accV) := t67.frame _ _ h5 nf5
                      have nf7 : ¬ Fp σ4 e7 Da := t67.notin hDa5 nf5
                      have ra7 : RpA X.K cl I7 accV acc := ra.mono (((al.ext.trans t4.ext).trans t5.ext).trans t67.ext)
                      refine ⟨accV, h7, ?_, I7, wipeE e7 vs, acc ++ [x], accV ++ [y], ?_, ?_, i7, upd_same, ?_, ra7.append (.cons r7 .nil), hw⟩
                      · rw [ra7.length]
                        exact Nat.lt_of_lt_of_le hsz (by decide)
                      · rw [← ew]
                        exact (g7.updH i7 nf7).wipe
                      · rw [← ew]
                        exact ((t45.trans t67).updN (.inr hD)).less fun p h => h.wipe
                      · rw [← ew]
                        exact fun h => nf7 h.wipe
                    · rw [if_neg hsz] at hw
                      cases hw
    · rw [if_neg ok] at hm
      cases hm
theorem mf_lc (hi : MI X cl tg iter mi) (hg : BlkAll X scope fun Y => MG Y cl (notIn vs) tg g) (ht : BlkAll X scope fun Y => MTs Y cl ifs mt) (he : BlkAll X scope fun Y => ME Y cl elt m)
    (hp : ∀ wi tgt tt te, PI X tg iter wi → BlkAll X scope (fun Y => PG Y tg tgt) → BlkAll X scope (fun Y => PTs Y ifs tt) → BlkAll X scope (fun Y => PE Y elt te) → PE X e (tLc wi tgt tt te vs)) : MF X cl e (fComp vs mi g mt m) := by
  obtain ⟨wi, tgt, tt, te, pi, pg, pt, pe, fr⟩ := lc_fr hi hg ht he
  exact ⟨_, hp wi tgt tt te pi pg pt pe, fr⟩
/-- y = [..], y an own local -/
theorem ms_setOLc {R : Nat → Bool} {st : Stmt} {i : Nat} (hi : MI X cl tg iter mi) (hg : BlkAll X scope fun Y => MG Y cl (notIn vs) tg g) (ht : BlkAll X scope fun Y => MTs Y cl ifs mt) (he : BlkAll X scope fun Y => ME Y cl elt m)
    (hp : ∀ wi tgt tt te, PI X tg iter wi → BlkAll X scope (fun Y => PG Y tg tgt) → BlkAll X scope (fun Y => PTs Y ifs tt) → BlkAll X scope (fun Y => PE Y elt te) → PS X st (L2.tAsg (tLc wi tgt tt te vs) (L2.gName i))) (hR : R i = false) : MS X cl R st (sOwn (fComp vs mi g mt m) i) := by
  obtain ⟨wi, tgt, tt, te, pi, pg, pt, pe, fr⟩ := lc_fr hi hg ht he
  exact ⟨_, hp wi tgt tt te pi pg pt pe, st_own fr hR⟩
theorem ms_setLc {R : Nat → Bool} {st : Stmt} {i : Nat} (hi : MI X cl tg iter mi) (hg : BlkAll X scope fun Y => MG Y cl (notIn vs) tg g) (ht : BlkAll X scope fun Y => MTs Y cl ifs mt) (he : BlkAll X scope fun Y => ME Y cl elt m)
    (hp : ∀ wi tgt tt te, PI X tg iter wi → BlkAll X scope (fun Y => PG Y tg tgt) → BlkAll X scope (fun Y => PTs Y ifs tt) → BlkAll X scope (fun Y => PE Y elt te) → PS X st (L2.tAsg (tLc wi tgt tt te vs) (L2.gName i))) (hR : R i = false) : MS X cl R st (sAsg (eFrz (fComp vs mi g mt m)) (gNm i)) := by
  obtain ⟨wi, tgt, tt, te, pi, pg, pt, pe, fr⟩ := lc_fr hi hg ht he
  exact ⟨_, hp wi tgt tt te pi pg pt pe, st_asg (ev_frz fr) (gt_name hR)⟩
end
end MP
set_option Elab.async false
set_option linter.all false
set_option maxRecDepth 100000
set_option maxHeartbeats 4000000
namespace MP
open PySem PySem.Spec PyProof.Rows L2

/-! ### the promise of a def by its mirror -/
def outsOf : List Slot → MEnv → List Slot
  | [], _ => []
  | .own _ :: as, s :: e => s :: outsOf as e
  | .own _ :: as, [] => .none :: outsOf as []
  | .val d :: as, _ :: e => .val d :: outsOf as e
  | .val d :: as, [] => .val d :: outsOf as []
  | .none :: as, _ :: e => .none :: outsOf as e
  | .none :: as, [] => .none :: outsOf as []
theorem outsOf_len : ∀ (as : List Slot) (e : MEnv), (outsOf as e).length = as.length
  | [], _ => by simp [outsOf]
  | .own _ :: as, s :: e => by simp [outsOf, outsOf_len as e]
  | .own _ :: as, [] => by simp [outsOf, outsOf_len as []]
  | .val d :: as, _ :: e => by simp [outsOf, outsOf_len as e]
  | .val d :: as, [] => by simp [outsOf, outsOf_len as []]
  | .none :: as, _ :: e => by simp [outsOf, outsOf_len as e]
  | .none :: as, [] => by simp [outsOf, outsOf_len as []]
/-- what stands at a place -/
theorem outsOf_get : ∀ (as : List Slot) (e : MEnv) (i : Nat) (s : Slot), as.length ≤ e.length → (outsOf as e)[i]? = some s → (∃ o, as[i]? = some (.own o) ∧ e[i]? = some s) ∨ (as[i]? = some s ∧ ∀ o, s ≠ .own o)
  | [], _, i, s, _, h => by simp [outsOf] at h
  | .own o :: as, s0 :: e, 0, s, _, h => .inl ⟨o, rfl, by simpa [outsOf] using h⟩
  | .own o :: as, s0 :: e, i + 1, s, hl, h => by
    have := outsOf_get as e i s (by simpa using hl) (by simpa [outsOf] using h)
    simpa using this
  | .own o :: as, [], i, s, hl, h => by simp at hl
  | .val d :: as, s0 :: e, 0, s, _, h => .inr (by
      have e1 : Slot.val d = s := by simpa [outsOf] using h
      subst e1
      exact ⟨rfl, fun o z => nomatch z⟩)
  | .val d :: as, s0 :: e, i + 1, s, hl, h => by
    have := outsOf_get as e i s (by simpa using hl) (by simpa [outsOf] using h)
    simpa using this
  | .val d :: as, [], i, s, hl, h => by simp at hl
  | .none :: as, s0 :: e, 0, s, _, h => .inr (by
      have e1 : Slot.none = s := by simpa [outsOf] using h
      subst e1
      exact ⟨rfl, fun o z => nomatch z⟩)
  | .none :: as, s0 :: e, i + 1, s, hl, h => by
    have := outsOf_get as e i s (by simpa using hl) (by simpa [outsOf] using h)
    simpa using this
  | .none :: as, [], i, s, hl, h => by simp at hl
abbrev Fn := List Slot → Option (RetV × List Slot)
/-- a def's run: its body over its arguments and empty slots -/
def runD (n : Nat) (m : Xs) : Fn := fun args => match m (args ++ List.replicate (n - args.length) .none) with
  | some (.ret r, e) => if args.length ≤ e.length then some (r, outsOf args e) else none
  | some (.nx, e) => if args.length ≤ e.length then some (.d .non, outsOf args e) else none
  | _ => none
def spG (K : PySem.W.Frag) (cl : ClM) (np : Nat) (R : Nat → Bool) (f : Fn) : Sp := fun vs H Q _ => vs.length = np ∧ ∃ (I : Hp) (args : List Slot) (ret : RetV) (outs : List Slot), Gd K cl I H (vs.map some) args ∧ (∀ i o, args[i]? = some (.own o) → R i = true) ∧ f args = some (ret, outs) ∧
  ∀ v I' H', Gd K cl I' H' (vs.map some) outs → Tr (Fp (vs.map some) args) I H (Fp (vs.map some) outs) I' H' → RetOk K cl (Fp (vs.map some) args) H (Fp (vs.map some) outs) I' H' v ret → Q v H'

section
variable {P : Program} {w : World} {K : PySem.W.Frag} {mg : Str → Option Value} {base : Heap} {cl : ClM} {R : Nat → Bool}
theorem gd_start {I H : Hp} {vs : List V} {args : List Slot} {n : Nat} (g : Gd K cl I H (vs.map some) args) : Gd K cl I H (vs.map some ++ List.replicate n none) (args ++ List.replicate n .none) ∧
    ∀ p, Fp (vs.map some ++ List.replicate n none) (args ++ List.replicate n .none) p ↔ Fp (vs.map some) args p := by
  have hl : (vs.map some).length = args.length := g.len
  have up : ∀ (i : Nat) (o : SO), (args ++ List.replicate n Slot.none)[i]? = some (.own o) → args[i]? = some (.own o) ∧ i < args.length := fun i o h => by
    by_cases z : i < args.length
    · rw [List.getElem?_append_left z] at h
      exact ⟨h, z⟩
    · rw [List.getElem?_append_right (Nat.le_of_not_lt z), List.getElem?_replicate] at h
      split at h <;> cases h
  refine ⟨⟨g.ex, by rw [List.length_append, List.length_append, hl, List.length_replicate, List.length_replicate], fun i s ov h1 h2 => ?_, fun i j p o o' h1 h2 h3 h4 => ?_⟩, fun p => ⟨fun ⟨i, o, h1, h2⟩ => ?_, fun ⟨i, o, h1, h2⟩ => ?_⟩⟩
  · by_cases z : i < args.length
    · rw [List.getElem?_append_left z] at h1
      rw [List.getElem?_append_left (by rw [hl]; exact z)] at h2
      exact g.ok i s ov h1 h2
    · rw [List.getElem?_append_right (Nat.le_of_not_lt z), List.getElem?_replicate] at h1
      split at h1
      · cases h1
        trivial
      · cases h1
  · obtain ⟨e1, z1⟩ := up i o h1
    obtain ⟨e2, z2⟩ := up j o' h2
    rw [List.getElem?_append_left (by rw [hl]; exact z1)] at h3
    rw [List.getElem?_append_left (by rw [hl]; exact z2)] at h4
    exact g.inj i j p o o' e1 e2 h3 h4
  · obtain ⟨e1, z1⟩ := up i o h1
    rw [List.getElem?_append_left (by rw [hl]; exact z1)] at h2
    exact ⟨i, o, e1, h2⟩
  · have z : i < args.length := (List.getElem?_eq_some_iff.mp h1).1
    exact ⟨i, o, by rw [List.getElem?_append_left z]; exact h1, by rw [List.getElem?_append_left (by rw [hl]; exact z)]; exact h2⟩
theorem gd_outs {I H I' H' : Hp} {vs : List V} {args : List Slot} {n : Nat} {σ' : L2.St} {env' : MEnv} (g : Gd K cl I H (vs.map some) args) (hR : ∀ i o, args[i]? = some (.own o) → R i = true) (hle : args.length ≤ env'.length)
    (g' : Gd K cl I' H' σ' env') (e : Same I I') (r : ∀ i, R i = true → σ'[i]? = (vs.map some ++ List.replicate n none)[i]?) :
    Gd K cl I' H' (vs.map some) (outsOf args env') ∧ ∀ p, Fp (vs.map some) (outsOf args env') p → Fp σ' env' p := by
  have hl : (vs.map some).length = args.length := g.len
  have own : ∀ (i : Nat) (o : SO), (outsOf args env')[i]? = some (.own o) → (∃ o', args[i]? = some (.own o')) ∧ env'[i]? = some (.own o) ∧ σ'[i]? = (vs.map some)[i]? := fun i o h => by
    rcases outsOf_get args env' i _ hle h with ⟨o', h1, h2⟩ | ⟨h1, h2⟩
    · refine ⟨⟨o', h1⟩, h2, ?_⟩
      have z : i < args.length := (List.getElem?_eq_some_iff.mp h1).1
      rw [r i (hR i o' h1), List.getElem?_append_left (by rw [hl]; exact z)]
    · exact absurd rfl (h2 o)
  refine ⟨⟨g'.ex, by rw [outsOf_len]; exact hl, fun i s ov h1 h2 => ?_, fun i j p o o' h1 h2 h3 h4 => ?_⟩, fun p ⟨i, o, h1, h2⟩ => ?_⟩
  · rcases outsOf_get args env' i s hle h1 with ⟨o', h3, h4⟩ | ⟨h3, h4⟩
    · have z : i < args.length := (List.getElem?_eq_some_iff.mp h3).1
      refine g'.ok i s ov h4 ?_
      rw [r i (hR i o' h3), List.getElem?_append_left (by rw [hl]; exact z)]
      exact h2
    · have ok := g.ok i s ov h3 h2
      cases s with
      | none => trivial
      | val d =>
        obtain ⟨v, e1, r1⟩ := ok
        exact ⟨v, e1, r1.mono e⟩
      | own o => exact absurd rfl (h4 o)
  · obtain ⟨_, a1, a2⟩ := own i o h1
    obtain ⟨_, b1, b2⟩ := own j o' h2
    exact g'.inj i j p o o' a1 b1 (a2.trans h3) (b2.trans h4)
  · obtain ⟨_, a1, a2⟩ := own i o h1
    exact ⟨i, o, a1, a2.trans h2⟩
/-- THE RULE for a def -/
theorem fn_ok {x qual : Str} {st : Stmt} {f : Addr} {fd : FuncData} {N ps : List Str} {k : Nat} {m : Xs} (F : Fun K x qual st f fd) (S : FnScope N ps (defScope st))
    (hbody : ∀ (cdv : Value) (A : Around) (outer : List Env) (s : Shared) (H : Hp) (E : XK), Room k (A.deeper (envOfC qual (defScope st) s.heap.objs.size f cdv)) → MSs (cxOf CX0 P w K mg base N qual (defScope st) f cdv A outer s H E).nox cl R (defBody st) m) :
    FnOk P w K mg base CX0 (k + 1) f fd ps (spG K cl ps.length R (runD N.length m)) := by
  refine F.ok S (fun vs H Q E h => h.1) fun cdv A outer s H vs Q E hr h => ?_
  obtain ⟨hlen, I, args, ret, outs, g, hR, hf, kq⟩ := h
  obtain ⟨t, p, ok⟩ := hbody cdv A outer s H E hr
  refine ⟨t, p, ?_⟩
  have hl : vs.length = args.length := by
    have := g.len
    rw [List.length_map] at this
    exact this
  have est : L2.start N vs = vs.map some ++ List.replicate (N.length - args.length) none := by
    unfold L2.start
    rw [hl]
  rw [est]
  obtain ⟨g0, fp0⟩ := gd_start (n := N.length - args.length) g
  unfold runD at hf
  cases q : m (args ++ List.replicate (N.length - args.length) .none) with
  | none => simp [q] at hf
  | some pr =>
    obtain ⟨fl, e'⟩ := pr
    refine ok _ H I _ fl e' _ g0 q fun σ' I' H' g' t' r' => ?_
    have fin : ∀ (rv : RetV) (v : V), args.length ≤ e'.length → ret = rv → outs = outsOf args e' → RetOk K cl (Fp (vs.map some ++ List.replicate (N.length - args.length) none) (args ++ List.replicate (N.length - args.length) .none)) H (Fp σ' e') I' H' v rv → Q v H' := fun rv v hle er eo hv => by
      subst er
      subst eo
      obtain ⟨g2, fp2⟩ := gd_outs g hR hle g' t'.ext r'
      refine kq v I' H' g2 ((t'.more fun p h => (fp0 p).mp h).less fp2) ?_
      cases ret with
      | d d => exact hv
      | o o =>
        obtain ⟨a, ho, ea, ia, ha, so, fr, nf⟩ := hv
        exact ⟨a, ho, ea, ia, ha, so, fr.imp_left fun h => (fp0 a).mp h, fun h => nf (fp2 a h)⟩
    cases fl with
    | nx =>
      simp only [q] at hf
      by_cases hle : args.length ≤ e'.length
      · rw [if_pos hle] at hf
        simp only [Option.some.injEq, Prod.mk.injEq] at hf
        exact fin (.d .non) .non hle hf.1.symm hf.2.symm .non
      · rw [if_neg hle] at hf
        cases hf
    | bk => simp [q] at hf
    | ct => simp [q] at hf
    | ret r =>
      simp only [q] at hf
      by_cases hle : args.length ≤ e'.length
      · rw [if_pos hle] at hf
        simp only [Option.some.injEq, Prod.mk.injEq] at hf
        exact fun v hv => fin r v hle hf.1.symm hf.2.symm hv
      · rw [if_neg hle] at hf
        cases hf
end

/-! ### calls -/
section
variable {X : Cx} {cl : ClM} {e : Expr} {es : List Expr} {R : Nat → Bool} {f : Fn} {ms : Xa} {np : Nat}
theorem RpA.ofSlots {K : PySem.W.Frag} {I H : Hp} (ex : Same I H) : ∀ {vs : List V} {ds : List D}, RpA K cl I vs ds → Gd K cl I H (vs.map some) (ds.map Slot.val) ∧ ∀ p, ¬ Fp (vs.map some) (ds.map Slot.val) p := by
  intro vs ds r
  have nown : ∀ (i : Nat) (o : SO), (ds.map Slot.val)[i]? ≠ some (.own o) := fun i o h => by
    rw [List.getElem?_map] at h
    cases q : ds[i]? with
    | none => rw [q] at h; cases h
    | some d => rw [q] at h; cases h
  refine ⟨⟨ex, by rw [List.length_map, List.length_map, r.length], fun i s ov h1 h2 => ?_, fun i j p o o' h1 => absurd h1 (nown i o)⟩, fun p ⟨i, o, h1, _⟩ => nown i o h1⟩
  rw [List.getElem?_map] at h1 h2
  cases q : ds[i]? with
  | none => rw [q] at h1; cases h1
  | some d =>
    rw [q] at h1
    cases h1
    obtain ⟨v, hv, rv⟩ := r.get q
    rw [hv] at h2
    cases h2
    exact ⟨v, rfl, rv⟩
theorem Gd.tr0 {K : PySem.W.Frag} {I H I' H' : Hp} {σ : L2.St} {env : MEnv} {F F' : Addr → Prop} (g : Gd K cl I H σ env) (t : Tr F I H F' I' H') (hF : ∀ p, ¬ F p) (ex : Same I' H') : Gd K cl I' H' σ env :=
  g.al ⟨t.ext, fun p o h => t.frame p o h (hF p), ex, fun p hp hi => t.nofr p hp (hF p) hi⟩
/-- all arguments by value -/
def eCall (f : Fn) (ms : Xa) : Xp := fun env => match ms env with
  | none => none
  | some (rs, e1) => match escL e1 rs with
    | none => none
    | some (ds, e2) => match f (ds.map .val) with
      | some (.d d, _) => some (.d d, e2)
      | some (.o o, _) => some (.d (so2d o), e2)
      | none => none
def fCall (f : Fn) (ms : Xa) : Xf := fun env => match ms env with
  | none => none
  | some (rs, e1) => match escL e1 rs with
    | none => none
    | some (ds, e2) => match f (ds.map .val) with
      | some (.o o, _) => some (o, e2)
      | _ => none
theorem call_core {K : PySem.W.Frag} {t : TA} (kk : AgOk K cl t ms) {σ : L2.St} {H I : Hp} {env : MEnv} {Q : VK} (g : Gd K cl I H σ env) {rs : List Rv} {e1 e2 : MEnv} {ds : List D} {rv : RetV} {outs : List Slot}
    (q1 : ms env = some (rs, e1)) (hnp : rs.length = np) (q2 : escL e1 rs = some (ds, e2)) (q3 : f (ds.map .val) = some (rv, outs))
    (k' : ∀ v I' H', Gd K cl I' H' σ e2 → Tr (Fp σ env) I H (Fp σ e2) I' H' → RetOk K cl (Fp σ env) H (Fp σ e2) I' H' v rv → Q v H') : tCall (spG K cl np R f) [] E0 t σ H Q := by
  refine kk σ H I env rs e1 _ g q1 fun vs I1 H1 g1 t1 r1 => ?_
  obtain ⟨I2, g2, t2, r2⟩ := escL_ok g1 r1 q2
  obtain ⟨ga, fa⟩ := RpA.ofSlots g2.ex r2
  show spG K cl np R f (vs ++ []) H1 Q E0
  rw [List.append_nil]
  refine ⟨by rw [r1.length]; exact hnp, I2, ds.map .val, rv, outs, ga, fun i o h => ?_, q3, fun v I3 H3 g3 t3 rk => ?_⟩
  · exfalso
    rw [List.getElem?_map] at h
    cases q : ds[i]? with
    | none => rw [q] at h; cases h
    | some d => rw [q] at h; cases h
  · have g4 : Gd K cl I3 H3 σ e2 := g2.tr0 t3 fa g3.ex
    have t12 := t1.trans t2
    have t3' : Tr (Fp σ e2) I2 H1 (Fp σ e2) I3 H3 := (⟨t3.ext, fun p o h _ => t3.frame p o h (fa p), fun p hp _ hi => t3.nofr p hp (fa p) hi, fun p h => .inl h, t3.dom⟩)
    refine k' v I3 H3 g4 (t12.trans t3') ?_
    cases rv with
    | d d => exact rk
    | o o =>
      obtain ⟨a, ho, ea, ia, ha, so, fr, nf⟩ := rk
      have hn : H1 a = none := fr.resolve_left (fa a)
      refine ⟨a, ho, ea, ia, ha, so, t12.back (.inr hn), fun h => ?_⟩
      exact nf_fresh g2 hn h
theorem me_call (hm : MA X cl es ms) (hp : ∀ t, PA X es t → PE X e (tCall (spG X.K cl np R f) [] E0 t)) (hnp : ∀ env rs e1, ms env = some (rs, e1) → rs.length = np) : ME X cl e (eCall f ms) := by
  obtain ⟨t, p, kk⟩ := hm
  refine ⟨_, hp t p, fun σ H I env r env' Q g hme k' => ?_⟩
  unfold eCall at hme
  cases q1 : ms env with
  | none => simp [q1] at hme
  | some p1 =>
    obtain ⟨rs, e1⟩ := p1
    simp only [q1] at hme
    cases q2 : escL e1 rs with
    | none => simp [q2] at hme
    | some p2 =>
      obtain ⟨ds, e2⟩ := p2
      simp only [q2] at hme
      cases q3 : f (ds.map .val) with
      | none => simp [q3] at hme
      | some p3 =>
        obtain ⟨rv, outs⟩ := p3
        refine call_core kk g q1 (hnp _ _ _ q1) q2 q3 fun v I3 H3 g3 t3 rk => ?_
        cases rv with
        | d d =>
          simp only [q3, Option.some.injEq, Prod.mk.injEq] at hme
          obtain ⟨rfl, rfl⟩ := hme
          exact k' v I3 H3 g3 t3 rk
        | o o =>
          simp only [q3, Option.some.injEq, Prod.mk.injEq] at hme
          obtain ⟨rfl, rfl⟩ := hme
          obtain ⟨a, ho, ea, ia, ha, so, fr, nf⟩ := rk
          subst ea
          exact k' _ _ H3 (g3.frz ia ha nf) (t3.frzN fr ia) (so.frz ia)
theorem mf_call (hm : MA X cl es ms) (hp : ∀ t, PA X es t → PE X e (tCall (spG X.K cl np R f) [] E0 t)) (hnp : ∀ env rs e1, ms env = some (rs, e1) → rs.length = np) : MF X cl e (fCall f ms) := by
  obtain ⟨t, p, kk⟩ := hm
  refine ⟨_, hp t p, fun σ H I env r env' Q g hme k' => ?_⟩
  unfold fCall at hme
  cases q1 : ms env with
  | none => simp [q1] at hme
  | some p1 =>
    obtain ⟨rs, e1⟩ := p1
    simp only [q1] at hme
    cases q2 : escL e1 rs with
    | none => simp [q2] at hme
    | some p2 =>
      obtain ⟨ds, e2⟩ := p2
      simp only [q2] at hme
      cases q3 : f (ds.map .val) with
      | none => simp [q3] at hme
      | some p3 =>
        obtain ⟨rv, outs⟩ := p3
        refine call_core kk g q1 (hnp _ _ _ q1) q2 q3 fun v I3 H3 g3 t3 rk => ?_
        cases rv with
        | d d => simp [q3] at hme
        | o o =>
          simp only [q3, Option.some.injEq, Prod.mk.injEq] at hme
          obtain ⟨rfl, rfl⟩ := hme
          obtain ⟨a, ho, ea, ia, ha, so, fr, nf⟩ := rk
          subst ea
          exact k' a ho I3 H3 g3 t3 ia ha so fr nf
/-- the first argument a slot, handed over with what it owns -/
def cR (f : Fn) (ms : Xa) : MEnv → Option (RetV × MEnv) := fun env => match ms env with
  | some (.sl i :: rs, e1) => match escL e1 rs with
    | none => none
    | some (ds, e2) => match e2[i]? with
      | some (.own o) => match f (.own o :: ds.map .val) with
        | some (rv, s :: _) => some (rv, e2.set i s)
        | _ => none
      | _ => none
  | _ => none
def eCallR (f : Fn) (ms : Xa) : Xp := fun env => match cR f ms env with
  | some (.d d, e) => some (.d d, e)
  | some (.o o, e) => some (.d (so2d o), e)
  | none => none
def fCallR (f : Fn) (ms : Xa) : Xf := fun env => match cR f ms env with
  | some (.o o, e) => some (o, e)
  | _ => none
theorem Gd.setSlot {K : PySem.W.Frag} {I H I' H' : Hp} {σ : L2.St} {env : MEnv} {i : Nat} {p : Addr} {o : SO} {s : Slot} {F' : Addr → Prop} (g : Gd K cl I H σ env) (hi : env[i]? = some (.own o)) (hp : σ[i]? = some (some (.ref p)))
    (t : Tr (fun b => b = p) I H F' I' H') (ex : Same I' H') (hs : SlotOk K cl I' H' (some (.ref p)) s) : Gd K cl I' H' σ (env.set i s) ∧ (∀ b, Fp σ (env.set i s) b → Fp σ env b) := by
  have hil : i < env.length := (List.getElem?_eq_some_iff.mp hi).1
  have fpi : ∀ b, Fp σ (env.set i s) b → Fp σ env b := fun b ⟨j, o1, h1, h2⟩ => by
    by_cases z : i = j
    · subst z
      rw [hp] at h2
      cases h2
      exact ⟨i, o, hi, hp⟩
    · rw [List.getElem?_set_ne z] at h1
      exact ⟨j, o1, h1, h2⟩
  refine ⟨⟨ex, by rw [List.length_set]; exact g.len, fun j s' ov h1 h2 => ?_, fun j k b o1 o2 h1 h2 h3 h4 => ?_⟩, fpi⟩
  · by_cases z : i = j
    · subst z
      rw [List.getElem?_set] at h1
      simp only [if_true] at h1
      rw [if_pos hil] at h1
      cases h1
      rw [hp] at h2
      cases h2
      exact hs
    · rw [List.getElem?_set_ne z] at h1
      have ok := g.ok j s' ov h1 h2
      cases s' with
      | none => trivial
      | val d =>
        obtain ⟨v, e1, r1⟩ := ok
        exact ⟨v, e1, r1.mono t.ext⟩
      | own o1 =>
        obtain ⟨p1, ho1, e1, ip1, hp1, so1⟩ := ok
        have np : p1 ≠ p := fun w => by
          subst w
          rw [e1] at h2
          exact z (g.inj i j p1 o o1 hi h1 hp h2)
        exact ⟨p1, ho1, e1, t.nofr p1 (by rw [hp1]; exact fun z => nomatch z) np ip1, t.frame p1 _ hp1 np, so1.mono t.ext⟩
  · have to : ∀ (j : Nat) (o1 : SO), (env.set i s)[j]? = some (Slot.own o1) → ∃ o1', env[j]? = some (Slot.own o1') := fun j o1 h => by
      by_cases z : i = j
      · subst z
        exact ⟨o, hi⟩
      · rw [List.getElem?_set_ne z] at h
        exact ⟨o1, h⟩
    obtain ⟨o1', h1'⟩ := to j o1 h1
    obtain ⟨o2', h2'⟩ := to k o2 h2
    exact g.inj j k b o1' o2' h1' h2' h3 h4
theorem escL_len : ∀ {rs : List Rv} {env e2 : MEnv} {ds : List D}, escL env rs = some (ds, e2) → ds.length = rs.length
  | [], env, e2, ds, h => by
    cases Option.some.inj h
    rfl
  | r :: rs, env, e2, ds, h => by
    unfold escL at h
    cases q : esc env r with
    | none => simp [q] at h
    | some p =>
      obtain ⟨d, e1⟩ := p
      simp only [q] at h
      cases q2 : escL e1 rs with
      | none => simp [q2] at h
      | some p2 =>
        obtain ⟨ds', e3⟩ := p2
        simp only [q2, Option.some.injEq, Prod.mk.injEq] at h
        obtain ⟨rfl, rfl⟩ := h
        rw [List.length_cons, List.length_cons, escL_len q2]
theorem gd_args1 {K : PySem.W.Frag} {I H : Hp} {p : Addr} {ho : HO} {o : SO} {vs : List V} {ds : List D} (ex : Same I H) (ip : I p = none) (hp : H p = some ho) (so : SoOk K cl I p ho o) (r : RpA K cl I vs ds) :
    Gd K cl I H ((V.ref p :: vs).map some) (Slot.own o :: ds.map .val) ∧ ∀ b, Fp ((V.ref p :: vs).map some) (Slot.own o :: ds.map .val) b ↔ b = p := by
  obtain ⟨ga, fa⟩ := RpA.ofSlots ex r
  refine ⟨⟨ex, by simp [r.length], fun i s ov h1 h2 => ?_, fun i j b o1 o2 h1 h2 h3 h4 => ?_⟩, fun b => ⟨fun ⟨i, o1, h1, h2⟩ => ?_, fun e => ⟨0, o, rfl, by rw [e]; rfl⟩⟩⟩
  · cases i with
    | zero =>
      cases h1
      cases h2
      exact ⟨p, ho, rfl, ip, hp, so⟩
    | succ i => exact ga.ok i s ov h1 h2
  · cases i with
    | zero =>
      cases j with
      | zero => rfl
      | succ j => exact absurd ⟨j, o2, h2, h4⟩ (fa b)
    | succ i => exact absurd ⟨i, o1, h1, h3⟩ (fa b)
  · cases i with
    | zero =>
      cases h2
      rfl
    | succ i => exact absurd ⟨i, o1, h1, h2⟩ (fa b)
theorem callR_core {K : PySem.W.Frag} (hR : R 0 = true) {σ : L2.St} {H1 I1 : Hp} {e1 e2 : MEnv} {Q : VK} {i : Nat} {rs : List Rv} {vs : List V} (g1 : Gd K cl I1 H1 σ e1) (r1 : RvA K cl I1 σ vs (.sl i :: rs))
    {ds : List D} {o : SO} {rv : RetV} {s : Slot} {outs : List Slot} (hnp : (rs.length + 1) = np) (q2 : escL e1 rs = some (ds, e2)) (q3 : e2[i]? = some (.own o)) (q4 : f (.own o :: ds.map .val) = some (rv, s :: outs))
    (k' : ∀ v I' H', Gd K cl I' H' σ (e2.set i s) → Tr (Fp σ e1) I1 H1 (Fp σ (e2.set i s)) I' H' → RetOk K cl (Fp σ e1) H1 (Fp σ (e2.set i s)) I' H' v rv → Q v H') : spG K cl np R f vs H1 Q E0 := by
  cases r1 with
  | cons rv0 rvs =>
    rename_i v0 vs'
    obtain ⟨I2, g2, t2, r2⟩ := escL_ok g1 rvs q2
    have hσ : σ[i]? = some (some v0) := rv0
    obtain ⟨p, ho, ep, ip, hp, so⟩ := g2.ok i _ _ q3 hσ
    cases ep
    obtain ⟨ga, fa⟩ := gd_args1 g2.ex ip hp so r2
    refine ⟨by rw [List.length_cons, RvA.length rvs]; exact hnp, I2, _, rv, _, ga, fun j o1 h => ?_, q4, fun v I3 H3 g3 t3 rk => ?_⟩
    · cases j with
      | zero => exact hR
      | succ j =>
        exfalso
        have h' : (ds.map Slot.val)[j]? = some (.own o1) := h
        rw [List.getElem?_map] at h'
        cases q : ds[j]? with
        | none => rw [q] at h'; cases h'
        | some d => rw [q] at h'; cases h'
    · have t3' : Tr (fun b => b = p) I2 H1 (Fp ((V.ref p :: vs').map some) (s :: outs)) I3 H3 := t3.more fun b h => (fa b).mp h
      have hs : SlotOk K cl I3 H3 (some (.ref p)) s := g3.ok 0 s _ rfl rfl
      obtain ⟨g4, fp4⟩ := g2.setSlot q3 hσ t3' g3.ex hs
      have fpp : Fp σ e2 p := ⟨i, o, q3, hσ⟩
      have t4 : Tr (Fp σ e2) I2 H1 (Fp σ (e2.set i s)) I3 H3 := ⟨t3'.ext, fun b u h nf => t3'.frame b u h fun z => nf (by rw [z]; exact fpp), fun b hb nf hi => t3'.nofr b hb (fun z => nf (by rw [z]; exact fpp)) hi, fun b h => .inl (fp4 b h), t3'.dom⟩
      refine k' v I3 H3 g4 (t2.trans t4) ?_
      cases rv with
      | d d => exact rk
      | o o' =>
        obtain ⟨a, ho', ea, ia, ha, so', fr, nf⟩ := rk
        have fr' : Fp σ e2 a ∨ H1 a = none := by
          rcases fr with fr | fr
          · rw [fa a] at fr
            rw [fr]
            exact .inl fpp
          · exact .inr fr
        refine ⟨a, ho', ea, ia, ha, so', t2.back fr', fun ⟨j, o1, h1, h2⟩ => ?_⟩
        by_cases z : i = j
        · subst z
          rw [hσ] at h2
          cases h2
          have hil : i < e2.length := (List.getElem?_eq_some_iff.mp q3).1
          rw [List.getElem?_set] at h1
          simp only [if_true] at h1
          rw [if_pos hil] at h1
          cases h1
          exact nf ⟨0, o1, rfl, rfl⟩
        · rw [List.getElem?_set_ne z] at h1
          rcases fr with fr | fr
          · rw [fa a] at fr
            subst fr
            exact z (g2.inj i j a o o1 q3 h1 hσ h2)
          · exact nf_fresh g2 fr ⟨j, o1, h1, h2⟩
theorem cR_ok {K : PySem.W.Frag} (hR : R 0 = true) {t : TA} (kk : AgOk K cl t ms) {σ : L2.St} {H I : Hp} {env env' : MEnv} {Q : VK} {rv : RetV} (g : Gd K cl I H σ env) (hm : cR f ms env = some (rv, env')) (hnp : ∀ env rs e1, ms env = some (rs, e1) → rs.length = np)
    (k' : ∀ v I' H', Gd K cl I' H' σ env' → Tr (Fp σ env) I H (Fp σ env') I' H' → RetOk K cl (Fp σ env) H (Fp σ env') I' H' v rv → Q v H') : tCall (spG K cl np R f) [] E0 t σ H Q := by
  unfold cR at hm
  cases q1 : ms env with
  | none => simp [q1] at hm
  | some p1 =>
    obtain ⟨rs, e1⟩ := p1
    rcases rs with _ | ⟨r, rs⟩
    · simp [q1] at hm
    · cases r with
      | d d => simp [q1] at hm
      | sl i =>
        simp only [q1] at hm
        cases q2 : escL e1 rs with
        | none => simp [q2] at hm
        | some p2 =>
          obtain ⟨ds, e2⟩ := p2
          simp only [q2] at hm
          cases q3 : e2[i]? with
          | none => simp [q3] at hm
          | some s0 =>
            cases s0 with
            | none => simp [q3] at hm
            | val d => simp [q3] at hm
            | own o =>
              simp only [q3] at hm
              cases q4 : f (.own o :: ds.map .val) with
              | none => simp [q4] at hm
              | some p4 =>
                obtain ⟨rv', outs⟩ := p4
                rcases outs with _ | ⟨s, outs⟩
                · simp [q4] at hm
                · simp only [q4, Option.some.injEq, Prod.mk.injEq] at hm
                  obtain ⟨rfl, rfl⟩ := hm
                  refine kk σ H I env _ e1 _ g q1 fun vs I1 H1 g1 t1 r1 => ?_
                  show spG K cl np R f (vs ++ []) H1 Q E0
                  rw [List.append_nil]
                  refine callR_core hR g1 r1 (hnp _ _ _ q1) q2 q3 q4 fun v I3 H3 g3 t3 rk => k' v I3 H3 g3 (t1.trans t3) ?_
                  cases rv' with
                  | d d => exact rk
                  | o o' =>
                    obtain ⟨a, ho', ea, ia, ha, so', fr, nf⟩ := rk
                    exact ⟨a, ho', ea, ia, ha, so', t1.back fr, nf⟩
theorem me_callR (hR : R 0 = true) (hm : MA X cl es ms) (hp : ∀ t, PA X es t → PE X e (tCall (spG X.K cl np R f) [] E0 t)) (hnp : ∀ env rs e1, ms env = some (rs, e1) → rs.length = np) : ME X cl e (eCallR f ms) := by
  obtain ⟨t, p, kk⟩ := hm
  refine ⟨_, hp t p, fun σ H I env r env' Q g hme k' => ?_⟩
  unfold eCallR at hme
  cases q1 : cR f ms env with
  | none => simp [q1] at hme
  | some p1 =>
    obtain ⟨rv, e1⟩ := p1
    refine cR_ok hR kk g q1 hnp fun v I3 H3 g3 t3 rk => ?_
    cases rv with
    | d d =>
      simp only [q1, Option.some.injEq, Prod.mk.injEq] at hme
      obtain ⟨rfl, rfl⟩ := hme
      exact k' v I3 H3 g3 t3 rk
    | o o =>
      simp only [q1, Option.some.injEq, Prod.mk.injEq] at hme
      obtain ⟨rfl, rfl⟩ := hme
      obtain ⟨a, ho, ea, ia, ha, so, fr, nf⟩ := rk
      subst ea
      exact k' _ _ H3 (g3.frz ia ha nf) (t3.frzN fr ia) (so.frz ia)
theorem mf_callR (hR : R 0 = true) (hm : MA X cl es ms) (hp : ∀ t, PA X es t → PE X e (tCall (spG X.K cl np R f) [] E0 t)) (hnp : ∀ env rs e1, ms env = some (rs, e1) → rs.length = np) : MF X cl e (fCallR f ms) := by
  obtain ⟨t, p, kk⟩ := hm
  refine ⟨_, hp t p, fun σ H I env r env' Q g hme k' => ?_⟩
  unfold fCallR at hme
  cases q1 : cR f ms env with
  | none => simp [q1] at hme
  | some p1 =>
    obtain ⟨rv, e1⟩ := p1
    refine cR_ok hR kk g q1 hnp fun v I3 H3 g3 t3 rk => ?_
    cases rv with
    | d d => simp [q1] at hme
    | o o =>
      simp only [q1, Option.some.injEq, Prod.mk.injEq] at hme
      obtain ⟨rfl, rfl⟩ := hme
      obtain ⟨a, ho, ea, ia, ha, so, fr, nf⟩ := rk
      subst ea
      exact k' a ho I3 H3 g3 t3 ia ha so fr nf
/-! borrowed arguments: slots keep what they own; the answer holds no list, dict, object -/
mutual
def flatD : D → Bool
  | .non => true
  | .bl _ => true
  | .int _ => true
  | .str _ => true
  | .tup xs => flatDs xs
  | .lst _ => false
  | .dct _ _ => false
  | .obj _ _ => false
  | .scr _ => false
  | .ktp _ => false
def flatDs : List D → Bool
  | [] => true
  | x :: xs => flatD x && flatDs xs
end
def frzAll (σ : L2.St) (env : MEnv) (I H : Hp) [∀ p, Decidable (Fp σ env p)] : Hp := fun p => if Fp σ env p then H p else I p
def thaw (σ : L2.St) (env : MEnv) (I : Hp) [∀ p, Decidable (Fp σ env p)] : Hp := fun p => if Fp σ env p then none else I p
mutual
theorem Rp.thaw {K : PySem.W.Frag} {σ : L2.St} {env : MEnv} {I : Hp} [∀ p, Decidable (Fp σ env p)] (hn : ∀ p xs, Fp σ env p → I p ≠ some (.tup xs)) (hn2 : ∀ p o xs, Fp σ env p → I p ≠ some (.frz o (.tup xs))) : ∀ {v : V} {d : D}, flatD d = true → Rp K cl I v d → Rp K cl (MP.thaw σ env I) v d
  | _, _, _, .non => .non
  | _, _, _, .bl b => .bl b
  | _, _, _, .int i => .int i
  | _, _, _, .str x => .str x
  | _, _, f, .tup (a := a) h r => .tup (by
      rcases h with ⟨us, h⟩ | h
      · refine .inl ⟨us, ?_⟩
        have : ¬ Fp σ env a := fun z => by
          unfold xT at h
          split at h
          · exact hn a _ z h
          · exact hn2 a _ _ z h
        unfold MP.thaw
        rw [if_neg this]
        exact h
      · exact .inr h) (RpA.thaw hn hn2 (by simpa [flatD] using f) r)
  | _, _, f, .lst h r => by simp [flatD] at f
  | _, _, f, .scr h r => by simp [flatD] at f
  | _, _, f, .ktp h r => by simp [flatD] at f
  | _, _, f, .dK h k r => by simp [flatD] at f
  | _, _, f, .dT h nk k r => by simp [flatD] at f
  | _, _, f, .obj c h l r => by simp [flatD] at f
theorem RpA.thaw {K : PySem.W.Frag} {σ : L2.St} {env : MEnv} {I : Hp} [∀ p, Decidable (Fp σ env p)] (hn : ∀ p xs, Fp σ env p → I p ≠ some (.tup xs)) (hn2 : ∀ p o xs, Fp σ env p → I p ≠ some (.frz o (.tup xs))) : ∀ {vs : List V} {ds : List D}, flatDs ds = true → RpA K cl I vs ds → RpA K cl (MP.thaw σ env I) vs ds
  | _, _, _, .nil => .nil
  | _, _, f, .cons h t => .cons (Rp.thaw hn hn2 (by simp [flatDs] at f; exact f.1) h) (RpA.thaw hn hn2 (by simp [flatDs] at f; exact f.2) t)
end
def eCallB (f : Fn) (ms : Xa) : Xp := fun env => match ms env with
  | none => none
  | some (rs, e1) => match vwL e1 rs with
    | none => none
    | some ds => match f (ds.map .val) with
      | some (.d d, _) => if flatD d then some (.d d, e1) else none
      | _ => none
open Classical in
theorem me_callB (hm : MA X cl es ms) (hp : ∀ t, PA X es t → PE X e (tCall (spG X.K cl np R f) [] E0 t)) (hnp : ∀ env rs e1, ms env = some (rs, e1) → rs.length = np) : ME X cl e (eCallB f ms) := by
  obtain ⟨t, p, kk⟩ := hm
  refine ⟨_, hp t p, fun σ H I env r env' Q g hme k' => ?_⟩
  unfold eCallB at hme
  cases q1 : ms env with
  | none => simp [q1] at hme
  | some p1 =>
    obtain ⟨rs, e1⟩ := p1
    simp only [q1] at hme
    cases q2 : vwL e1 rs with
    | none => simp [q2] at hme
    | some ds =>
      simp only [q2] at hme
      cases q3 : f (ds.map .val) with
      | none => simp [q3] at hme
      | some p3 =>
        obtain ⟨rv, outs⟩ := p3
        cases rv with
        | o o => simp [q3] at hme
        | d d =>
          simp only [q3] at hme
          by_cases hf : flatD d = true
          · rw [if_pos hf] at hme
            simp only [Option.some.injEq, Prod.mk.injEq] at hme
            obtain ⟨rfl, rfl⟩ := hme
            refine kk σ H I env rs e1 _ g q1 fun vs I1 H1 g1 t1 r1 => ?_
            have own : ∀ p, Fp σ e1 p → I1 p = none ∧ ∃ ho o, H1 p = some ho ∧ SoOk X.K cl I1 p ho o := fun p ⟨j, o, h1, h2⟩ => by
              obtain ⟨p', ho, ep, ip, hp', so⟩ := g1.ok j _ _ h1 h2
              cases ep
              exact ⟨ip, ho, o, hp', so⟩
            have sI : Same I1 (frzAll σ e1 I1 H1) := fun b u hb => by
              have : ¬ Fp σ e1 b := fun z => by
                rw [(own b z).1] at hb
                cases hb
              unfold frzAll
              rw [if_neg this]
              exact hb
            have sH : Same (frzAll σ e1 I1 H1) H1 := fun b u hb => by
              unfold frzAll at hb
              by_cases z : Fp σ e1 b
              · rw [if_pos z] at hb
                exact hb
              · rw [if_neg z] at hb
                exact g1.ex b u hb
            have one : ∀ (v : V) (r : Rv) (d : D), RvOk X.K cl I1 σ v r → vw e1 r = some d → Rp X.K cl (frzAll σ e1 I1 H1) v d := fun v r d h q => by
              cases r with
              | d d1 =>
                cases Option.some.inj q
                exact Rp.mono sI h
              | sl j =>
                have hσ : σ[j]? = some (some v) := h
                unfold vw at q
                cases q6 : e1[j]? with
                | none => simp [q6] at q
                | some s =>
                  cases s with
                  | none => simp [q6] at q
                  | val d2 =>
                    simp [q6] at q
                    subst q
                    obtain ⟨v2, e2, r2⟩ := g1.ok j _ _ q6 hσ
                    cases e2
                    exact r2.mono sI
                  | own o2 =>
                    simp [q6] at q
                    subst q
                    obtain ⟨p, ho, e2, ip, hp', so⟩ := g1.ok j _ _ q6 hσ
                    cases e2
                    have z : Fp σ e1 p := ⟨j, o2, q6, hσ⟩
                    have h1 : (frzAll σ e1 I1 H1) p = some ho := by
                      unfold frzAll
                      rw [if_pos z]
                      exact hp'
                    have s2 : Same (upd I1 p ho) (frzAll σ e1 I1 H1) := fun b u hb => by
                      by_cases w : b = p
                      · subst w
                        rw [upd_same] at hb
                        cases hb
                        exact h1
                      · rw [upd_ne w] at hb
                        exact sI b u hb
                    exact (so.frz ip).mono s2
            have all : ∀ {vs : List V} {rs : List Rv} {ds : List D}, RvA X.K cl I1 σ vs rs → vwL e1 rs = some ds → RpA X.K cl (frzAll σ e1 I1 H1) vs ds := by
              intro vs rs
              induction rs generalizing vs with
              | nil =>
                intro ds ra e
                cases ra
                cases Option.some.inj e
                exact .nil
              | cons r rs ih =>
                intro ds ra e
                cases ra with
                | cons h t =>
                  unfold vwL at e
                  cases q : vw e1 r with
                  | none => simp [q] at e
                  | some d0 =>
                    cases q5 : vwL e1 rs with
                    | none => simp [q, q5] at e
                    | some ds' =>
                      simp only [q, q5, Option.some.injEq] at e
                      subst e
                      exact .cons (one _ _ _ h q) (ih t q5)
            obtain ⟨ga, fa⟩ := RpA.ofSlots sH (all r1 q2)
            show spG X.K cl np R f (vs ++ []) H1 Q E0
            rw [List.append_nil]
            refine ⟨by rw [r1.length]; exact hnp _ _ _ q1, frzAll σ e1 I1 H1, ds.map .val, .d d, outs, ga, fun i o h => ?_, q3, fun v I3 H3 g3 t3 rk => ?_⟩
            · exfalso
              rw [List.getElem?_map] at h
              cases q : ds[i]? with
              | none => rw [q] at h; cases h
              | some d => rw [q] at h; cases h
            · have keep : ∀ p u, H1 p = some u → H3 p = some u := fun p u h => t3.frame p u h (fa p)
              have shape : ∀ p, Fp σ e1 p → ∃ ho o, H3 p = some ho ∧ SoOk X.K cl I1 p ho o := fun p z => by
                obtain ⟨_, ho, o, h, so⟩ := own p z
                exact ⟨ho, o, keep p ho h, so⟩
              have n1 : ∀ p xs, Fp σ e1 p → I3 p ≠ some (.tup xs) := fun p xs z h => by
                obtain ⟨ho, o, h3, so⟩ := shape p z
                rw [g3.ex p _ h] at h3
                cases h3
                cases so
              have n2 : ∀ p o xs, Fp σ e1 p → I3 p ≠ some (.frz o (.tup xs)) := fun p o xs z h => by
                obtain ⟨ho, o, h3, so⟩ := shape p z
                rw [g3.ex p _ h] at h3
                cases h3
                cases so
              have s13 : Same I1 (MP.thaw σ e1 I3) := fun b u hb => by
                have nb : ¬ Fp σ e1 b := fun z => by
                  rw [(own b z).1] at hb
                  cases hb
                unfold MP.thaw
                rw [if_neg nb]
                exact t3.ext b u (sI b u hb)
              refine k' v (MP.thaw σ e1 I3) H3 ⟨fun b u hb => ?_, g1.len, fun i s ov h1 h2 => ?_, g1.inj⟩ (t1.trans ⟨s13, fun p o h _ => keep p o h, fun p hp nf hi => ?_, fun p h => .inl h, t3.dom⟩) (Rp.thaw n1 n2 hf rk)
              · unfold MP.thaw at hb
                by_cases z : Fp σ e1 b
                · rw [if_pos z] at hb
                  cases hb
                · rw [if_neg z] at hb
                  exact g3.ex b u hb
              · have ok := g1.ok i s ov h1 h2
                cases s with
                | none => trivial
                | val d2 =>
                  obtain ⟨v2, e2, r2⟩ := ok
                  exact ⟨v2, e2, r2.mono s13⟩
                | own o2 =>
                  obtain ⟨p, ho, e2, ip, hp', so⟩ := ok
                  subst e2
                  have z : Fp σ e1 p := ⟨i, o2, h1, h2⟩
                  refine ⟨p, ho, rfl, ?_, keep p ho hp', so.mono s13⟩
                  unfold MP.thaw
                  rw [if_pos z]
              · unfold MP.thaw
                rw [if_neg nf]
                refine t3.nofr p hp (fa p) ?_
                unfold frzAll
                rw [if_neg nf]
                exact hi
          · rw [if_neg hf] at hme
            cases hme
end
end MP
set_option Elab.async false
set_option linter.all false
set_option maxRecDepth 100000
set_option maxHeartbeats 4000000
namespace MP
open PySem PySem.Spec PyProof.Rows L2

/-! ### data for == -/
mutual
def pyD : D → PyData
  | .non => .none
  | .bl b => .bool b
  | .int i => .int i
  | .str x => .str x
  | .tup xs => .tuple (pyDs xs)
  | .lst xs => .list (pyDs xs)
  | .dct _ _ => .dict []
  | .obj _ _ => .dict []
  | .scr _ => .dict []
  | .ktp _ => .dict []
def pyDs : List D → List PyData
  | [] => []
  | x :: xs => pyD x :: pyDs xs
end
mutual
/-- data, without dicts and objects -/
def layD : D → Bool
  | .non => true
  | .bl _ => true
  | .int _ => true
  | .str x => PyData.strOk x
  | .tup xs => layDs xs
  | .lst xs => layDs xs
  | .dct _ _ => false
  | .obj _ _ => false
  | .scr _ => false
  | .ktp _ => false
def layDs : List D → Bool
  | [] => true
  | x :: xs => layD x && layDs xs
end
mutual
def depD : D → Nat
  | .tup xs => depDs xs + 1
  | .lst xs => depDs xs + 1
  | _ => 0
def depDs : List D → Nat
  | [] => 0
  | x :: xs => max (depD x) (depDs xs)
end
def shD (d : D) : Bool := layD d && decide (depD d ≤ 64)
mutual
def eqD : D → D → Bool
  | .non, .non => true
  | .bl a, .bl b => a == b
  | .bl a, .int j => (if a then 1 else 0) == j
  | .int i, .bl b => i == (if b then 1 else 0)
  | .int i, .int j => i == j
  | .str x, .str y => x == y
  | .tup xs, .tup ys => eqDs xs ys
  | .lst xs, .lst ys => eqDs xs ys
  | _, _ => false
def eqDs : List D → List D → Bool
  | [], [] => true
  | x :: xs, y :: ys => eqD x y && eqDs xs ys
  | _, _ => false
end
mutual
theorem lay_py : ∀ d : D, layD d = true → (pyD d).canLay0 = true
  | .non, _ => by simp only [pyD, PyData.canLay0]
  | .bl _, _ => by simp only [pyD, PyData.canLay0]
  | .int _, _ => by simp only [pyD, PyData.canLay0]
  | .str x, h => by
    simp only [pyD, PyData.canLay0]
    exact h
  | .tup xs, h => by
    simp only [pyD, PyData.canLay0]
    exact lay_pys xs (by simpa only [layD] using h)
  | .lst xs, h => by
    simp only [pyD, PyData.canLay0]
    exact lay_pys xs (by simpa only [layD] using h)
  | .dct _ _, h => by simp [layD] at h
  | .obj _ _, h => by simp [layD] at h
  | .scr _, h => by simp [layD] at h
  | .ktp _, h => by simp [layD] at h
theorem lay_pys : ∀ xs : List D, layDs xs = true → PyData.canLayAll0 (pyDs xs) = true
  | [], _ => by simp only [pyDs, PyData.canLayAll0]
  | x :: xs, h => by
    simp only [layDs, Bool.and_eq_true] at h
    simp only [pyDs, PyData.canLayAll0, lay_py x h.1, lay_pys xs h.2, Bool.and_self]
end
mutual
theorem dep_py : ∀ d : D, layD d = true → (pyD d).depth = depD d
  | .non, _ => by simp only [pyD, PyData.depth, depD]
  | .bl _, _ => by simp only [pyD, PyData.depth, depD]
  | .int _, _ => by simp only [pyD, PyData.depth, depD]
  | .str x, _ => by simp only [pyD, PyData.depth, depD]
  | .tup xs, h => by
    have := dep_pys xs (by simpa only [layD] using h)
    simp only [pyD, PyData.depth, depD, this]
  | .lst xs, h => by
    have := dep_pys xs (by simpa only [layD] using h)
    simp only [pyD, PyData.depth, depD, this]
  | .dct _ _, h => by simp [layD] at h
  | .obj _ _, h => by simp [layD] at h
  | .scr _, h => by simp [layD] at h
  | .ktp _, h => by simp [layD] at h
theorem dep_pys : ∀ xs : List D, layDs xs = true → PyData.depthAll (pyDs xs) = depDs xs
  | [], _ => by simp only [pyDs, PyData.depthAll, depDs]
  | x :: xs, h => by
    simp only [layDs, Bool.and_eq_true] at h
    simp only [pyDs, PyData.depthAll, depDs, dep_py x h.1, dep_pys xs h.2]
end
theorem sh_py {d : D} (h : shD d = true) : SeqAt.shaped (pyD d) = true := by
  unfold shD at h
  rw [Bool.and_eq_true] at h
  unfold SeqAt.shaped
  rw [lay_py d h.1, Bool.true_and]
  rw [dep_py d h.1]
  exact h.2
mutual
theorem eq_py : ∀ d e : D, layD d = true → layD e = true → PyData.eqv (pyD d) (pyD e) = eqD d e
  | .non, e, _, he => by cases e <;> simp_all [pyD, PyData.eqv, eqD, layD]
  | .bl _, e, _, he => by cases e <;> simp_all [pyD, PyData.eqv, eqD, layD]
  | .int _, e, _, he => by cases e <;> simp_all [pyD, PyData.eqv, eqD, layD]
  | .str x, e, _, he => by cases e <;> simp_all [pyD, PyData.eqv, eqD, layD]
  | .tup xs, e, h, he => by
    cases e with
    | tup ys =>
      simp only [pyD, PyData.eqv, eqD]
      exact eq_pys xs ys (by simpa only [layD] using h) (by simpa only [layD] using he)
    | _ => simp_all [pyD, PyData.eqv, eqD, layD]
  | .lst xs, e, h, he => by
    cases e with
    | lst ys =>
      simp only [pyD, PyData.eqv, eqD]
      exact eq_pys xs ys (by simpa only [layD] using h) (by simpa only [layD] using he)
    | _ => simp_all [pyD, PyData.eqv, eqD, layD]
  | .dct _ _, _, h, _ => by simp [layD] at h
  | .obj _ _, _, h, _ => by simp [layD] at h
  | .scr _, _, h, _ => by simp [layD] at h
  | .ktp _, _, h, _ => by simp [layD] at h
theorem eq_pys : ∀ xs ys : List D, layDs xs = true → layDs ys = true → PyData.eqvAll (pyDs xs) (pyDs ys) = eqDs xs ys
  | [], [], _, _ => by simp only [pyDs, PyData.eqvAll, eqDs]
  | [], y :: ys, _, _ => by simp only [pyDs, PyData.eqvAll, eqDs]
  | x :: xs, [], _, _ => by simp only [pyDs, PyData.eqvAll, eqDs]
  | x :: xs, y :: ys, h, he => by
    simp only [layDs, Bool.and_eq_true] at h he
    simp only [pyDs, PyData.eqvAll, eqDs, eq_py x y h.1 he.1, eq_pys xs ys h.2 he.2]
end
section
variable {K : PySem.W.Frag} {cl : ClM} {I H : Hp}
mutual
theorem Rp.dp (e : Same I H) : ∀ {v : V} {d : D}, Rp K cl I v d → layD d = true → Dp K H v (pyD d)
  | _, _, .non, _ => by simp only [pyD]; exact .non
  | _, _, .bl b, _ => by simp only [pyD]; exact .bl b
  | _, _, .int i, _ => by simp only [pyD]; exact .int i
  | _, _, .str x, _ => by simp only [pyD]; exact .str x
  | _, _, .tup h r, l => by
    simp only [pyD]
    exact .tup ((h.mono e).sq) (RpA.dp e r (by simpa only [layD] using l))
  | _, _, .lst h r, l => by
    simp only [pyD]
    exact .lst (SqL.of (e _ _ h)) (RpA.dp e r (by simpa only [layD] using l))
  | _, _, .scr h r, l => by simp [layD] at l
  | _, _, .ktp h r, l => by simp [layD] at l
  | _, _, .dK h k r, l => by simp [layD] at l
  | _, _, .dT h nk k r, l => by simp [layD] at l
  | _, _, .obj c h n r, l => by simp [layD] at l
theorem RpA.dp (e : Same I H) : ∀ {vs : List V} {ds : List D}, RpA K cl I vs ds → layDs ds = true → DpAll K H vs (pyDs ds)
  | _, _, .nil, _ => by simp only [pyDs]; exact .nil
  | _, _, .cons h t, l => by
    simp only [layDs, Bool.and_eq_true] at l
    simp only [pyDs]
    exact .cons (Rp.dp e h l.1) (RpA.dp e t l.2)
end
theorem Vw.dp {v : V} {d : D} (e : Same I H) (h : Vw K cl I H v d) (l : layD d = true) : Dp K H v (pyD d) := by
  rcases h with h | ⟨p, ho, o, rfl, ip, hp, so, rfl⟩
  · exact h.dp e l
  · cases so with
    | lst r =>
      simp only [so2d, pyD]
      exact .lst (SqL.of hp) (RpA.dp e r (by simpa only [so2d, layD] using l))
    | dK k r => simp [so2d, layD] at l
    | dT nk k r => simp [so2d, layD] at l
    | ins c n r => simp [so2d, layD] at l
end

/-! ### operators by values -/
section
variable {X : Cx} {cl : ClM}
theorem opm_int {f : Value → Value → Sem Value} {C : Int → Int → Prop} [∀ i j, Decidable (C i j)] {gi : Int → Int → Int} (ho : OpR X f (rI C fun i j => .int (gi i j))) :
    OpM X cl f (fun x y => match x, y with | .int i, .int j => if C i j then some (.int (gi i j)) else none | _, _ => none) := by
  refine ⟨_, ho, fun I H v w x y z Q ex hv hw hg k => ?_⟩
  cases x with
  | int i =>
    cases y with
    | int j =>
      by_cases c : C i j
      · simp only [c, if_true, Option.some.injEq] at hg
        subst hg
        cases hv.int
        cases hw.int
        exact ⟨i, j, rfl, rfl, c, k _ I H (Al.refl ex) (.int _)⟩
      · simp only [c, if_false] at hg
        cases hg
    | _ => cases hg
  | _ => cases hg
theorem opm_int0 {f : Value → Value → Sem Value} {gi : Int → Int → Int} (ho : OpR X f (rI0 fun i j => .int (gi i j))) :
    OpM X cl f (fun x y => match x, y with | .int i, .int j => some (.int (gi i j)) | _, _ => none) := by
  refine ⟨_, ho, fun I H v w x y z Q ex hv hw hg k => ?_⟩
  cases x with
  | int i =>
    cases y with
    | int j =>
      simp only [Option.some.injEq] at hg
      subst hg
      cases hv.int
      cases hw.int
      exact ⟨i, j, rfl, rfl, k _ I H (Al.refl ex) (.int _)⟩
    | _ => cases hg
  | _ => cases hg
theorem opm_cmp {f : Value → Value → Sem Value} {gi : Int → Int → Bool} (ho : OpR X f (rI0 fun i j => .bl (gi i j))) :
    OpM X cl f (fun x y => match x, y with | .int i, .int j => some (.bl (gi i j)) | _, _ => none) := by
  refine ⟨_, ho, fun I H v w x y z Q ex hv hw hg k => ?_⟩
  cases x with
  | int i =>
    cases y with
    | int j =>
      simp only [Option.some.injEq] at hg
      subst hg
      cases hv.int
      cases hw.int
      exact ⟨i, j, rfl, rfl, k _ I H (Al.refl ex) (.bl _)⟩
    | _ => cases hg
  | _ => cases hg
def gSub : D → D → Option D := fun x y => match x, y with | .int i, .int j => some (.int (i - j)) | _, _ => none
theorem om_sub : OpM X cl (binaryOp .Sub) gSub := opm_int0 op_sub
def gFdiv : D → D → Option D := fun x y => match x, y with | .int i, .int j => if 0 < j ∧ j.natAbs.log2 < 9000 then some (.int (i / j)) else none | _, _ => none
theorem om_fdiv : OpM X cl (binaryOp .FloorDiv) gFdiv := opm_int (C := fun _ j => 0 < j ∧ j.natAbs.log2 < 9000) (gi := fun i j => i / j) op_fdivW
def gMod : D → D → Option D := fun x y => match x, y with | .int i, .int j => if 0 < j then some (.int (i % j)) else none | _, _ => none
theorem om_mod : OpM X cl (binaryOp .Mod) gMod := opm_int (C := fun _ j => 0 < j) (gi := fun i j => i % j) op_mod
def gPow : D → D → Option D := fun x y => match x, y with | .int i, .int j => if 0 ≤ j ∧ j ≤ 1000000 ∧ i.natAbs < 2 ^ 64 then some (.int (i ^ j.toNat)) else none | _, _ => none
theorem om_pow : OpM X cl (binaryOp .Pow) gPow := opm_int (C := fun i j => 0 ≤ j ∧ j ≤ 1000000 ∧ i.natAbs < 2 ^ 64) (gi := fun i j => i ^ j.toNat) op_pow
def gShl : D → D → Option D := fun x y => match x, y with | .int i, .int j => if 0 ≤ j ∧ j ≤ 1000000 ∧ i.natAbs < 2 ^ 64 then some (.int (i * 2 ^ j.toNat)) else none | _, _ => none
theorem om_shl : OpM X cl (binaryOp .LShift) gShl := opm_int (C := fun i j => 0 ≤ j ∧ j ≤ 1000000 ∧ i.natAbs < 2 ^ 64) (gi := fun i j => i * 2 ^ j.toNat) op_shl
def gShr : D → D → Option D := fun x y => match x, y with | .int i, .int j => if 0 ≤ j then some (.int (i / 2 ^ j.toNat)) else none | _, _ => none
theorem om_shr : OpM X cl (binaryOp .RShift) gShr := opm_int (C := fun _ j => 0 ≤ j) (gi := fun i j => i / 2 ^ j.toNat) op_shr
def gAnd : D → D → Option D := fun x y => match x, y with | .int i, .int j => some (.int (Builtin.bitAnd i j)) | _, _ => none
theorem om_and : OpM X cl (binaryOp .BitAnd) gAnd := opm_int0 op_and
def gOr : D → D → Option D := fun x y => match x, y with | .int i, .int j => some (.int (Builtin.bitOr i j)) | _, _ => none
theorem om_or : OpM X cl (binaryOp .BitOr) gOr := opm_int0 op_or
def gXor : D → D → Option D := fun x y => match x, y with | .int i, .int j => some (.int (Builtin.bitXor i j)) | _, _ => none
theorem om_xor : OpM X cl (binaryOp .BitXor) gXor := opm_int0 op_xor
def gLt : D → D → Option D := fun x y => match x, y with | .int i, .int j => some (.bl (decide (i < j))) | _, _ => none
theorem om_lt : OpM X cl (compareOp .Lt) gLt := opm_cmp op_lt
def gLe : D → D → Option D := fun x y => match x, y with | .int i, .int j => some (.bl (decide (i ≤ j))) | _, _ => none
theorem om_le : OpM X cl (compareOp .LtE) gLe := opm_cmp op_le
def gGt : D → D → Option D := fun x y => match x, y with | .int i, .int j => some (.bl (decide (j < i))) | _, _ => none
theorem om_gt : OpM X cl (compareOp .Gt) gGt := opm_cmp op_gt
def gGe : D → D → Option D := fun x y => match x, y with | .int i, .int j => some (.bl (decide (j ≤ i))) | _, _ => none
theorem om_ge : OpM X cl (compareOp .GtE) gGe := opm_cmp op_ge
def gEq : D → D → Option D := fun x y => match x, y with
  | .int i, .int j => some (.bl (i == j))
  | x, y => if shD x && shD y then some (.bl (eqD x y)) else none
def gNe : D → D → Option D := fun x y => match x, y with
  | .int i, .int j => some (.bl (!(i == j)))
  | x, y => if shD x && shD y then some (.bl (!eqD x y)) else none
theorem gEq_cases {x y z : D} (h : gEq x y = some z) : shD x = true ∧ shD y = true ∧ z = .bl (eqD x y) := by
  unfold gEq at h
  split at h
  · cases Option.some.inj h
    exact ⟨by simp [shD, layD, depD], by simp [shD, layD, depD], by simp [eqD]⟩
  · split at h
    · rename_i hc
      rw [Bool.and_eq_true] at hc
      cases Option.some.inj h
      exact ⟨hc.1, hc.2, rfl⟩
    · cases h
theorem gNe_cases {x y z : D} (h : gNe x y = some z) : shD x = true ∧ shD y = true ∧ z = .bl (!eqD x y) := by
  unfold gNe at h
  split at h
  · cases Option.some.inj h
    exact ⟨by simp [shD, layD, depD], by simp [shD, layD, depD], by simp [eqD]⟩
  · split at h
    · rename_i hc
      rw [Bool.and_eq_true] at hc
      cases Option.some.inj h
      exact ⟨hc.1, hc.2, rfl⟩
    · cases h
theorem lay_sh {d : D} (h : shD d = true) : layD d = true := by
  unfold shD at h
  rw [Bool.and_eq_true] at h
  exact h.1
theorem om_eq (hu : X.A.units + 64 < cLine) : OpM X cl (compareOp .Eq) gEq := by
  refine ⟨_, op_eqD hu, fun I H v w x y z Q ex hv hw hg k => ?_⟩
  obtain ⟨sx, sy, rfl⟩ := gEq_cases hg
  refine ⟨pyD x, pyD y, hv.dp ex (lay_sh sx), hw.dp ex (lay_sh sy), sh_py sx, sh_py sy, ?_⟩
  rw [eq_py x y (lay_sh sx) (lay_sh sy)]
  exact k _ I H (Al.refl ex) (.bl _)
theorem om_ne (hu : X.A.units + 64 < cLine) : OpM X cl (compareOp .NotEq) gNe := by
  refine ⟨_, op_neD hu, fun I H v w x y z Q ex hv hw hg k => ?_⟩
  obtain ⟨sx, sy, rfl⟩ := gNe_cases hg
  refine ⟨pyD x, pyD y, hv.dp ex (lay_sh sx), hw.dp ex (lay_sh sy), sh_py sx, sh_py sy, ?_⟩
  rw [eq_py x y (lay_sh sx) (lay_sh sy)]
  exact k _ I H (Al.refl ex) (.bl _)
/-! in, not in: lists, tuples -/
def rInS (K : PySem.W.Frag) (neg : Bool) : R2 := fun x y H Q => ∃ d ds, Dp K H x d ∧ (Dp K H y (.list ds) ∨ Dp K H y (.tuple ds)) ∧ SeqAt.shaped d = true ∧ PyData.canLayAll0 ds = true ∧ Q (.bl (if neg then !ds.any (fun z => PyData.eqv z d) else ds.any fun z => PyData.eqv z d)) H
theorem op_inS (hu : X.A.units + 65 < cLine) : OpR X (compareOp .In) (rInS X.K false) := by
  intro pins s σ H x y v u Q I rx ry h
  obtain ⟨d, ds, hd, he, sd, se, q⟩ := h
  obtain ⟨as, r1⟩ := Dp.reads I d x v hd rx
  rcases he with he | he
  · obtain ⟨bs, r2⟩ := Dp.reads I (.list ds) y u he ry
    exact SeqAt.in_list_reads r2 r1 se (SeqAt.canLay_of_shaped sd) (room_in_shaped sd hu) ⟨.bl _, H, I, rfl, q⟩
  · obtain ⟨bs, r2⟩ := Dp.reads I (.tuple ds) y u he ry
    exact SeqAt.in_tuple_reads r2 r1 se (SeqAt.canLay_of_shaped sd) (room_in_shaped sd hu) ⟨.bl _, H, I, rfl, q⟩
theorem op_notInS (hu : X.A.units + 65 < cLine) : OpR X (compareOp .NotIn) (rInS X.K true) := by
  intro pins s σ H x y v u Q I rx ry h
  obtain ⟨d, ds, hd, he, sd, se, q⟩ := h
  obtain ⟨as, r1⟩ := Dp.reads I d x v hd rx
  rcases he with he | he
  · obtain ⟨bs, r2⟩ := Dp.reads I (.list ds) y u he ry
    exact SeqAt.notIn_list_reads r2 r1 se (SeqAt.canLay_of_shaped sd) (room_in_shaped sd hu) ⟨.bl _, H, I, rfl, q⟩
  · obtain ⟨bs, r2⟩ := Dp.reads I (.tuple ds) y u he ry
    exact SeqAt.notIn_tuple_reads r2 r1 se (SeqAt.canLay_of_shaped sd) (room_in_shaped sd hu) ⟨.bl _, H, I, rfl, q⟩
def anyEq (d : D) (ds : List D) : Bool := ds.any fun z => eqD z d
def gIn (neg : Bool) : D → D → Option D := fun x y => match y with
  | .lst ds => if shD x && layDs ds then some (.bl (if neg then !anyEq x ds else anyEq x ds)) else none
  | .tup ds => if shD x && layDs ds then some (.bl (if neg then !anyEq x ds else anyEq x ds)) else none
  | _ => none
theorem anyEq_py {d : D} (hd : layD d = true) : ∀ {ds : List D}, layDs ds = true → ((pyDs ds).any fun z => PyData.eqv z (pyD d)) = anyEq d ds
  | [], _ => rfl
  | x :: xs, h => by
    simp only [layDs, Bool.and_eq_true] at h
    have ih := anyEq_py hd h.2
    unfold anyEq at ih ⊢
    rw [pyDs, List.any_cons, List.any_cons, eq_py x d h.1 hd, ih]
theorem gIn_sem {K : PySem.W.Frag} {neg : Bool} {I H : Hp} {v w : V} {x y z : D} {Q : VK} (ex : Same I H) (hv : Vw K cl I H v x) (hw : Vw K cl I H w y) (hg : gIn neg x y = some z) (k : ∀ u I' H', Al I H I' H' → Rp K cl I' u z → Q u H') : rInS K neg v w H Q := by
  have fin : ∀ ds, (shD x && layDs ds) = true → (Dp K H w (.list (pyDs ds)) ∨ Dp K H w (.tuple (pyDs ds))) → z = .bl (if neg then !anyEq x ds else anyEq x ds) → rInS K neg v w H Q := fun ds hc hd ez => by
    rw [Bool.and_eq_true] at hc
    refine ⟨pyD x, pyDs ds, hv.dp ex (lay_sh hc.1), hd, sh_py hc.1, lay_pys ds hc.2, ?_⟩
    rw [anyEq_py (lay_sh hc.1) hc.2]
    subst ez
    exact k _ I H (Al.refl ex) (.bl _)
  cases y with
  | lst ds =>
    unfold gIn at hg
    by_cases hc : (shD x && layDs ds) = true
    · simp only [hc, if_true, Option.some.injEq] at hg
      refine fin ds hc (.inl ?_) hg.symm
      rw [Bool.and_eq_true] at hc
      have := hw.dp ex (show layD (.lst ds) = true by simpa only [layD] using hc.2)
      simpa only [pyD] using this
    · simp only [hc] at hg
      cases hg
  | tup ds =>
    unfold gIn at hg
    by_cases hc : (shD x && layDs ds) = true
    · simp only [hc, if_true, Option.some.injEq] at hg
      refine fin ds hc (.inr ?_) hg.symm
      rw [Bool.and_eq_true] at hc
      have := hw.dp ex (show layD (.tup ds) = true by simpa only [layD] using hc.2)
      simpa only [pyD] using this
    · simp only [hc] at hg
      cases hg
  | _ => cases hg
theorem om_in (hu : X.A.units + 65 < cLine) : OpM X cl (compareOp .In) (gIn false) := ⟨_, op_inS hu, fun _ _ _ _ _ _ _ _ ex hv hw hg k => gIn_sem ex hv hw hg k⟩
theorem om_notIn (hu : X.A.units + 65 < cLine) : OpM X cl (compareOp .NotIn) (gIn true) := ⟨_, op_notInS hu, fun _ _ _ _ _ _ _ _ ex hv hw hg k => gIn_sem ex hv hw hg k⟩
/-! is None -/
def isN : D → Bool | .non => true | _ => false
def gIsN (neg : Bool) : D → D → Option D := fun x y => match y with | .non => some (.bl (if neg then !isN x else isN x)) | _ => none
theorem vw_isN {K : PySem.W.Frag} {I H : Hp} {v : V} {x : D} (hv : Vw K cl I H v x) : decide (v = .non) = isN x := by
  cases x with
  | non => rw [hv.non]; rfl
  | _ =>
    refine decide_eq_false ?_
    rintro rfl
    rcases hv with h | ⟨p, ho, o, e, _⟩
    · cases h
    · cases e
theorem om_isN : OpM X cl (compareOp .Is) (gIsN false) := ⟨_, op_isN, fun I H v w x y z Q ex hv hw hg k => by
  cases y with
  | non =>
    cases Option.some.inj hg
    cases hw.non
    refine ⟨rfl, ?_⟩
    rw [vw_isN hv]
    exact k _ I H (Al.refl ex) (.bl _)
  | _ => cases hg⟩
theorem om_isNotN : OpM X cl (compareOp .IsNot) (gIsN true) := ⟨_, op_notN, fun I H v w x y z Q ex hv hw hg k => by
  cases y with
  | non =>
    cases Option.some.inj hg
    cases hw.non
    refine ⟨rfl, ?_⟩
    rw [vw_isN hv]
    exact k _ I H (Al.refl ex) (.bl _)
  | _ => cases hg⟩
/-! + : ints, lists, tuples -/
def gAdd : D → D → Option D := fun x y => match x, y with
  | .int i, .int j => some (.int (i + j))
  | .tup xs, .tup ys => if xs.length + ys.length ≤ 16777216 then some (.tup (xs ++ ys)) else none
  | .lst xs, .lst ys => if xs.length + ys.length ≤ 16777216 then some (.lst (xs ++ ys)) else none
  | _, _ => none
theorem RpA.nil_iff {K : PySem.W.Frag} {I : Hp} {vs : List V} {ds : List D} (h : RpA K cl I vs ds) : vs = [] ↔ ds = [] := by
  cases h <;> simp
theorem om_add : OpM X cl (binaryOp .Add) gAdd := by
  refine ⟨_, OpR.or op_add (OpR.or op_catX op_cat), fun I H v w x y z Q ex hv hw hg k => ?_⟩
  cases x with
  | int i =>
    cases y with
    | int j =>
      cases Option.some.inj hg
      cases hv.int
      cases hw.int
      exact .inl ⟨i, j, rfl, rfl, k _ I H (Al.refl ex) (.int _)⟩
    | _ => cases hg
  | tup xs =>
    cases y with
    | tup ys =>
      unfold gAdd at hg
      by_cases hl : xs.length + ys.length ≤ 16777216
      · simp only [hl, if_true, Option.some.injEq] at hg
        subst hg
        obtain ⟨a, vs, rfl, hs, r, rp⟩ := hv.tup ex
        obtain ⟨b, ws, rfl, hs2, r2, rp2⟩ := hw.tup ex
        refine .inr (.inl ⟨a, b, vs, ws, rfl, rfl, hs, hs2, by rw [r.length, r2.length]; exact hl, fun e1 => ?_, fun e1 e2 => ?_, fun _ _ p us hp => ?_⟩)
        · have e3 := r.nil_iff.mp e1
          subst e3
          exact k _ I H (Al.refl ex) rp2
        · have e3 := r2.nil_iff.mp e2
          subst e3
          rw [List.append_nil] at k
          exact k _ I H (Al.refl ex) rp
        · have al : Al I H (upd I p (xT us (vs ++ ws))) (upd H p (xT us (vs ++ ws))) := Al.new ex hp
          exact k _ _ _ al (.tup .new ((r.append r2).mono al.ext))
      · simp only [hl, if_false] at hg
        cases hg
    | _ => cases hg
  | lst xs =>
    cases y with
    | lst ys =>
      unfold gAdd at hg
      by_cases hl : xs.length + ys.length ≤ 16777216
      · simp only [hl, if_true, Option.some.injEq] at hg
        subst hg
        obtain ⟨a, vs, rfl, hs, r⟩ := hv.lst ex
        obtain ⟨b, ws, rfl, hs2, r2⟩ := hw.lst ex
        refine .inr (.inr ⟨a, b, vs, ws, rfl, rfl, hs, hs2, by rw [r.length, r2.length]; exact hl, fun p hp => ?_⟩)
        have al : Al I H (upd I p (.lst (vs ++ ws))) (upd H p (.lst (vs ++ ws))) := Al.new ex hp
        exact k _ _ _ al (.lst upd_same ((r.append r2).mono al.ext))
      · simp only [hl, if_false] at hg
        cases hg
    | _ => cases hg
  | _ => cases hg
/-! operators that make a list of their own -/
def OpF (X : Cx) (cl : ClM) (f : Value → Value → Sem Value) (g : D → D → Option SO) : Prop := ∃ r : R2, OpR X f r ∧
  ∀ (I H : Hp) (v w : V) (x y : D) (o : SO) (Q : VK), Same I H → Vw X.K cl I H v x → Vw X.K cl I H w y → g x y = some o → (∀ p ho I' H', Al I H I' H' → I' p = none → H p = none → H' p = some ho → SoOk X.K cl I' p ho o → Q (.ref p) H') → r v w H Q
def fBin (g : D → D → Option SO) (m1 m2 : Xp) : Xf := fun env => match m1 env with
  | none => none
  | some (r1, e1) => match m2 e1 with
    | none => none
    | some (r2, e2) => match vw e2 r1, vw e2 r2 with
      | some x, some y => match g x y with
        | some o => some (o, e2)
        | none => none
      | _, _ => none
theorem fr_bin {r : R2} {ta tb : TE} {g : D → D → Option SO} {m1 m2 : Xp} (h1 : EvOk X.K cl ta m1) (h2 : EvOk X.K cl tb m2)
    (hr : ∀ (I H : Hp) (v w : V) (x y : D) (o : SO) (Q : VK), Same I H → Vw X.K cl I H v x → Vw X.K cl I H w y → g x y = some o → (∀ p ho I' H', Al I H I' H' → I' p = none → H p = none → H' p = some ho → SoOk X.K cl I' p ho o → Q (.ref p) H') → r v w H Q) : FrOk X.K cl (tOp r ta tb) (fBin g m1 m2) := by
  intro σ H I env o env' Q gd hm k
  unfold fBin at hm
  cases q1 : m1 env with
  | none => simp [q1] at hm
  | some p1 =>
    obtain ⟨r1, e1⟩ := p1
    simp only [q1] at hm
    cases q2 : m2 e1 with
    | none => simp [q2] at hm
    | some p2 =>
      obtain ⟨r2, e2⟩ := p2
      simp only [q2] at hm
      cases q3 : vw e2 r1 with
      | none => simp [q3] at hm
      | some x =>
        cases q4 : vw e2 r2 with
        | none => simp [q3, q4] at hm
        | some y =>
          simp only [q3, q4] at hm
          cases q5 : g x y with
          | none => simp [q5] at hm
          | some z =>
            simp only [q5, Option.some.injEq, Prod.mk.injEq] at hm
            obtain ⟨rfl, rfl⟩ := hm
            refine h1 σ H I env r1 e1 _ gd q1 fun v I1 H1 g1 t1 k1 => ?_
            refine h2 σ H1 I1 e1 r2 e2 _ g1 q2 fun w I2 H2 g2 t2 k2 => ?_
            refine hr I2 H2 v w x y z Q g2.ex (vw_ok g2 (k1.mono t2.ext) q3) (vw_ok g2 k2 q4) q5 fun p ho I3 H3 a ip hp2 hp so => ?_
            have t12 := t1.trans t2
            exact k p ho I3 H3 (g2.al a) (t12.trans a.tr) ip hp so (t12.back (.inr hp2)) (nf_fresh g2 hp2)
theorem mf_op {op : Operator} {g : D → D → Option SO} {a b : Expr} {pos : Pos} {m1 m2 : Xp} (ho : OpF X cl (binaryOp op) g) (h1 : ME X cl a m1) (h2 : ME X cl b m2) : MF X cl (.BinOp a op b pos) (fBin g m1 m2) := by
  obtain ⟨r, hr, hw⟩ := ho
  obtain ⟨ta, pa, ea⟩ := h1
  obtain ⟨tb, pb, eb⟩ := h2
  exact ⟨_, pe_op hr pa pb, fr_bin ea eb hw⟩
def fgAdd : D → D → Option SO := fun x y => match x, y with
  | .lst xs, .lst ys => if xs.length + ys.length ≤ 16777216 then some (.lst (xs ++ ys)) else none
  | _, _ => none
theorem of_add : OpF X cl (binaryOp .Add) fgAdd := by
  refine ⟨_, op_cat, fun I H v w x y z Q ex hv hw hg k => ?_⟩
  cases x with
  | lst xs =>
    cases y with
    | lst ys =>
      unfold fgAdd at hg
      by_cases hl : xs.length + ys.length ≤ 16777216
      · simp only [hl, if_true, Option.some.injEq] at hg
        subst hg
        obtain ⟨a, vs, rfl, hs, r⟩ := hv.lst ex
        obtain ⟨b, ws, rfl, hs2, r2⟩ := hw.lst ex
        refine ⟨a, b, vs, ws, rfl, rfl, hs, hs2, by rw [r.length, r2.length]; exact hl, fun p hp => ?_⟩
        exact k p _ I _ (Al.newH ex hp) (ex.free hp) hp upd_same (.lst (r.append r2))
      · simp only [hl, if_false] at hg
        cases hg
    | _ => cases hg
  | _ => cases hg
def okK : Int → Bool
  | .ofNat n => Nat.ble n 9223372036854775807
  | .negSucc n => Nat.ble n 9223372036854775807
theorem okK_ok {i : Int} (h : okK i = true) : -(2 ^ 63) ≤ i ∧ i < 2 ^ 63 := by
  cases i with
  | ofNat n =>
    have := Nat.le_of_ble_eq_true h
    rw [Int.ofNat_eq_natCast]
    omega
  | negSucc n =>
    have := Nat.le_of_ble_eq_true h
    rw [Int.negSucc_eq]
    omega
theorem okK_of {i : Int} (h : -(2 ^ 63) ≤ i ∧ i < 2 ^ 63) : okK i = true := by
  cases i with
  | ofNat n =>
    rw [Int.ofNat_eq_natCast] at h
    exact Nat.ble_eq_true_of_le (by omega)
  | negSucc n =>
    rw [Int.negSucc_eq] at h
    exact Nat.ble_eq_true_of_le (by omega)
def fgMul : D → D → Option SO := fun x y => match x, y with
  | .lst xs, .int k => if okK k ∧ xs.length * k.toNat ≤ 16777216 then some (.lst (List.replicate k.toNat xs).flatten) else none
  | _, _ => none
theorem of_mul : OpF X cl (binaryOp .Mult) fgMul := by
  refine ⟨_, op_rep, fun I H v w x y z Q ex hv hw hg k => ?_⟩
  cases x with
  | lst xs =>
    cases y with
    | int j =>
      unfold fgMul at hg
      by_cases hl : okK j = true ∧ xs.length * j.toNat ≤ 16777216
      · simp only [hl, if_true, Option.some.injEq] at hg
        simp at hg
        subst hg
        obtain ⟨a, vs, rfl, hs, r⟩ := hv.lst ex
        cases hw.int
        refine ⟨a, j, vs, rfl, rfl, hs, (okK_ok hl.1).1, (okK_ok hl.1).2, by rw [r.length]; exact hl.2, fun p hp => ?_⟩
        exact k p _ I _ (Al.newH ex hp) (ex.free hp) hp upd_same (.lst (r.rep j.toNat))
      · simp only [hl, if_false] at hg
        cases hg
    | _ => cases hg
  | _ => cases hg
end
end MP
set_option Elab.async false
set_option linter.all false
set_option maxRecDepth 100000
set_option maxHeartbeats 4000000
namespace MP
open PySem PySem.Spec PyProof.Rows L2
theorem tuple_mul_self (l : Addr) (items : Array Value) (n : Nat) (sl : Array (Option Value)) (dd : Option Addr) (x : Int) (u : Tok) (c0 : (decide (x < -(2 ^ 63)) || decide (x ≥ 2 ^ 63)) = false) (c1 : (items.isEmpty || x == 1) = true) :
    Meets (Builtin.«tuple.__mul__» ⟨[.ref l, .int x u], []⟩) (fun _ R s => s.heap.get? l = some { cls := .type "tuple", dict := dd, data := .seq items n, slots := sl } ∧
      R (.ok (.ret (Value.ref l))) s) :=
  .of_wp fun prog w A R s h => by
    obtain ⟨hp, g, d, tk, os⟩ := s
    obtain ⟨hl, h⟩ := h
    have f1 := AutoSeq1.idx_int
    wp_walk using wpAny_loadPart' hl
    repeat (first
      | (refine wpAny_ite_false (decide_eq_false (by rw [c0]; exact Bool.false_ne_true)) ?_; wp_walk using wpAny_loadPart' hl)
      | (refine wpAny_ite_true (decide_eq_true c1) ?_; wp_walk using wpAny_loadPart' hl))
    exact ⟨_, rfl, h⟩
theorem tuple_mul_zero (l : Addr) (items : Array Value) (n : Nat) (sl : Array (Option Value)) (dd : Option Addr) (x : Int) (u : Tok) (c0 : (decide (x < -(2 ^ 63)) || decide (x ≥ 2 ^ 63)) = false) (c1 : (items.isEmpty || x == 1) = false) (c2 : (decide (x ≤ 0) || items.isEmpty) = true) :
    Meets (Builtin.«tuple.__mul__» ⟨[.ref l, .int x u], []⟩) (fun _ R s => s.heap.get? l = some { cls := .type "tuple", dict := dd, data := .seq items n, slots := sl } ∧
      R (.ok (.ret (Value.ref s.heap.objs.size))) { s with heap := s.heap.push { cls := Value.type "tuple", data := Data.seq #[] }, toks := s.toks }) :=
  .of_wp fun prog w A R s h => by
    obtain ⟨hp, g, d, tk, os⟩ := s
    obtain ⟨hl, h⟩ := h
    have f1 := AutoSeq1.idx_int
    wp_walk using wpAny_loadPart' hl
    repeat (first
      | (refine wpAny_ite_false (decide_eq_false (by rw [c0]; exact Bool.false_ne_true)) ?_; wp_walk using wpAny_loadPart' hl)
      | (refine wpAny_ite_false (decide_eq_false (by rw [c1]; exact Bool.false_ne_true)) ?_; wp_walk using wpAny_loadPart' hl)
      | (refine wpAny_ite_true (decide_eq_true c2) ?_; wp_walk using wpAny_loadPart' hl))
    exact ⟨_, rfl, h⟩
def rRepA (K : PySem.W.Frag) : R2 := fun x y H Q => ∃ l k xs, x = .ref l ∧ y = .int k ∧ SqT K H l xs ∧ okK k = true ∧ ((2 ≤ k ∧ xs ≠ []) → k ≤ 1000 ∧ xs.length ≤ 1000) ∧ (xs = [] ∨ k = 1 → Q (.ref l) H) ∧
  (¬ (xs = [] ∨ k = 1) → NewT H Q (List.replicate k.toNat xs).flatten)
theorem op_repA {X : Cx} : OpR X (binaryOp .Mult) (rRepA X.K) := by
  intro pins s σ H x y v u Q I rx ry h
  obtain ⟨l, k, xs, rfl, rfl, hT, hok, hbig, q1, q2⟩ := h
  obtain ⟨k1, k2⟩ := okK_ok hok
  cases rx
  obtain ⟨t, rfl⟩ := ry
  obtain ⟨its, r, ⟨⟨cls, dd, data, sl⟩, ho, hc, n, hd⟩, hs⟩ := I.tuple hT
  simp only at hc hd
  subst hc hd
  have hle : its.length = xs.length := r.length.symm
  have hem : its.toArray.isEmpty = xs.isEmpty := by
    cases its <;> cases xs <;> first | rfl | (simp at hle)
  have c0 : (decide (k < -(2 ^ 63)) || decide (k ≥ 2 ^ 63)) = false := by
    rw [decide_eq_false (by omega), decide_eq_false (by omega)] <;> rfl
  by_cases hb : 2 ≤ k ∧ xs ≠ []
  · obtain ⟨h1, h2⟩ := hbig hb
    have hn : ¬ (xs = [] ∨ k = 1) := fun z => by
      rcases z with z | z
      · exact hb.2 z
      · omega
    have k0 := hb.1
    have hi : its.toArray.isEmpty = false := by
      rw [hem]
      cases xs with
      | nil => exact absurd rfl hb.2
      | cons a b => rfl
    have c1 : (its.toArray.isEmpty || k == 1) = false := by
      rw [hi, Bool.false_or]
      exact beq_eq_false_iff_ne.mpr (by omega)
    have c2 : (decide (k ≤ 0) || its.toArray.isEmpty) = false := by
      rw [hi, Bool.or_false]
      exact decide_eq_false (by omega)
    have hsz : (its.toArray.size : Int) = xs.length := by
      rw [List.size_toArray, hle]
    have hm : (its.toArray.size : Int) * k ≤ 1000000 := by
      rw [hsz]
      have a1 : (xs.length : Int) * k ≤ 1000 * k := Int.mul_le_mul_of_nonneg_right (by omega) (by omega)
      omega
    have hm2 : k.toNat * xs.length ≤ 1000 * 1000 := Nat.mul_le_mul (by omega) h2
    have c3 : ¬ (its.toArray.size : Int) * k > (2 ^ 63 - 1) / 8 := by omega
    have c4 : Builtin.Tuple.tupleTooMany ((its.toArray.size : Int) * k) = false := by
      show decide ((its.toArray.size : Int) * k > (sizeLine : Nat)) = false
      rw [sizeLine_eq]
      exact decide_eq_false (by omega)
    have flen : ∀ {α : Type} (l : List α), l.length = xs.length → (List.replicate k.toNat l).flatten.length ≤ sizeLine := fun l hl => by
      rw [lm_len_rep_flat, hl, sizeLine_eq]
      omega
    refine wpAny_binaryOp_repeat_ref (T := "tuple") (U := "int") (by decide) ⟨_, ho, rfl⟩ (fun s' => typeIs_int s' k t) noFill_tuple_mul F.fills_int_mul F.slot_int_rmul repeat_tuple F.slot_int_index.lookup
      (call_meets F.slot_int_rmul (typeIs_int s k t) F.entry_int_rmul (F.args_int_rmul_2 _ _) (int_rmul_tuple k t l its.toArray n dd sl)
        ⟨ho, rfl, ⟨_, ho, rfl⟩, call_meets F.slot_tuple_mul ⟨_, ho, rfl⟩ F.entry_tuple_mul (F.args_tuple_mul_2 _ _) (tuple_mulW l its.toArray n dd sl k t c0 c1 c2 c3 c4 (by rw [size_rep, List.size_toArray]; exact flen its hle)) ⟨ho, ?_⟩⟩)
    rw [size_rep]
    exact epX (t' := s.toks) I (flen xs rfl) (r.rep k.toNat) (q2 hn)
  · skip
    by_cases hs1 : xs = [] ∨ k = 1
    · have c1 : (its.toArray.isEmpty || k == 1) = true := by
        rw [hem]
        rcases hs1 with z | z
        · rw [z]
          rfl
        · rw [z]
          simp
      exact wpAny_binaryOp_repeat_ref (T := "tuple") (U := "int") (by decide) ⟨_, ho, rfl⟩ (fun s' => typeIs_int s' k t) noFill_tuple_mul F.fills_int_mul F.slot_int_rmul repeat_tuple F.slot_int_index.lookup
        (call_meets F.slot_int_rmul (typeIs_int s k t) F.entry_int_rmul (F.args_int_rmul_2 _ _) (int_rmul_tuple k t l its.toArray n dd sl)
          ⟨ho, rfl, ⟨_, ho, rfl⟩, call_meets F.slot_tuple_mul ⟨_, ho, rfl⟩ F.entry_tuple_mul (F.args_tuple_mul_2 _ _) (tuple_mul_self l its.toArray n sl dd k t c0 c1) ⟨ho, ⟨.ref l, H, I, rfl, q1 hs1⟩⟩⟩)
    · have ne : xs ≠ [] := fun z => hs1 (.inl z)
      have n1 : k ≠ 1 := fun z => hs1 (.inr z)
      have kle : k ≤ 0 := by
        have : ¬ 2 ≤ k := fun z => hb ⟨z, ne⟩
        omega
      have c1 : (its.toArray.isEmpty || k == 1) = false := by
        rw [hem]
        cases xs with
        | nil => exact absurd rfl ne
        | cons a b =>
          show (false || k == 1) = false
          rw [Bool.false_or]
          exact beq_eq_false_iff_ne.mpr n1
      have c2 : (decide (k ≤ 0) || its.toArray.isEmpty) = true := by
        rw [decide_eq_true kle]
        rfl
      refine wpAny_binaryOp_repeat_ref (T := "tuple") (U := "int") (by decide) ⟨_, ho, rfl⟩ (fun s' => typeIs_int s' k t) noFill_tuple_mul F.fills_int_mul F.slot_int_rmul repeat_tuple F.slot_int_index.lookup
        (call_meets F.slot_int_rmul (typeIs_int s k t) F.entry_int_rmul (F.args_int_rmul_2 _ _) (int_rmul_tuple k t l its.toArray n dd sl)
          ⟨ho, rfl, ⟨_, ho, rfl⟩, call_meets F.slot_tuple_mul ⟨_, ho, rfl⟩ F.entry_tuple_mul (F.args_tuple_mul_2 _ _) (tuple_mul_zero l its.toArray n sl dd k t c0 c1 c2) ⟨ho, ?_⟩⟩)
      have ez : (List.replicate k.toNat xs).flatten = [] := by
        rw [show k.toNat = 0 by omega]
        rfl
      have q2' := q2 hs1
      rw [ez] at q2'
      exact epX (t' := s.toks) (us := []) (xs := []) I (Nat.zero_le _) .nil q2'
section
variable {X : Cx} {cl : ClM}
def mulOk (i j : Int) : Bool := decide (i.natAbs < 2 ^ 64) || decide (j.natAbs < 2 ^ 64) || decide (i.natAbs.log2 + j.natAbs.log2 < 1000000)
def gMul : D → D → Option D := fun x y => match x, y with
  | .int i, .int j => if mulOk i j then some (.int (i * j)) else none
  | .tup xs, .int k => if okK k && (decide (k < 2) || xs.isEmpty || (decide (k ≤ 1000) && decide (xs.length ≤ 1000))) then some (.tup (List.replicate k.toNat xs).flatten) else none
  | .lst xs, .int k => if okK k && decide (xs.length * k.toNat ≤ 16777216) then some (.lst (List.replicate k.toNat xs).flatten) else none
  | _, _ => none
theorem op_mulA : OpR X (binaryOp .Mult) (rI (fun i j => mulOk i j = true) fun i j => .int (i * j)) := by
  intro pins s σ H x y v u Q I rx ry h
  obtain ⟨i, j, rfl, rfl, c, q⟩ := h
  unfold mulOk at c
  rw [Bool.or_eq_true, Bool.or_eq_true] at c
  rcases c with (c | c) | c
  · have c' := of_decide_eq_true c
    exact op_mul pins s σ H _ _ v u Q I rx ry ⟨i, j, rfl, rfl, .inl (by omega), q⟩
  · have c' := of_decide_eq_true c
    exact op_mul pins s σ H _ _ v u Q I rx ry ⟨i, j, rfl, rfl, .inr (by omega), q⟩
  · exact op_mulW pins s σ H _ _ v u Q I rx ry ⟨i, j, rfl, rfl, (show i.natAbs.log2 + j.natAbs.log2 < 1000000 from of_decide_eq_true c), q⟩
theorem om_mul : OpM X cl (binaryOp .Mult) gMul := by
  refine ⟨_, OpR.or op_mulA (OpR.or op_repA op_rep), fun I H v w x y z Q ex hv hw hg k => ?_⟩
  cases x with
  | int i =>
    cases y with
    | int j =>
      unfold gMul at hg
      by_cases c : mulOk i j = true
      · simp only [c, if_true, Option.some.injEq] at hg
        subst hg
        cases hv.int
        cases hw.int
        exact .inl ⟨i, j, rfl, rfl, c, k _ I H (Al.refl ex) (.int _)⟩
      · simp only [c] at hg
        cases hg
    | _ => cases hg
  | tup xs =>
    cases y with
    | int j =>
      unfold gMul at hg
      by_cases c : (okK j && (decide (j < 2) || xs.isEmpty || (decide (j ≤ 1000) && decide (xs.length ≤ 1000)))) = true
      · simp only [c, if_true, Option.some.injEq] at hg
        subst hg
        obtain ⟨a, vs, rfl, hs, r, rp⟩ := hv.tup ex
        cases hw.int
        rw [Bool.and_eq_true] at c
        refine .inr (.inl ⟨a, j, vs, rfl, rfl, hs, c.1, fun ⟨h2, hne⟩ => ?_, fun h => ?_, fun h p us hp => ?_⟩)
        · have c2 := c.2
          rw [Bool.or_eq_true, Bool.or_eq_true, Bool.and_eq_true] at c2
          rcases c2 with (c2 | c2) | c2
          · have := of_decide_eq_true c2
            omega
          · rw [List.isEmpty_iff] at c2
            exact absurd (r.nil_iff.mpr c2) hne
          · exact ⟨of_decide_eq_true c2.1, by rw [r.length]; exact of_decide_eq_true c2.2⟩
        · have e : (List.replicate j.toNat xs).flatten = xs := by
            rcases h with h | h
            · have := r.nil_iff.mp h
              subst this
              induction j.toNat with
              | zero => rfl
              | succ n ih => rw [List.replicate_succ, List.flatten_cons, ih]; rfl
            · subst h
              show (List.replicate 1 xs).flatten = xs
              simp
          rw [e] at k
          exact k _ I H (Al.refl ex) rp
        · have al : Al I H (upd I p (xT us (List.replicate j.toNat vs).flatten)) (upd H p (xT us (List.replicate j.toNat vs).flatten)) := Al.new ex hp
          exact k _ _ _ al (.tup .new ((r.rep j.toNat).mono al.ext))
      · simp only [c] at hg
        cases hg
    | _ => cases hg
  | lst xs =>
    cases y with
    | int j =>
      unfold gMul at hg
      by_cases c : (okK j && decide (xs.length * j.toNat ≤ 16777216)) = true
      · simp only [c, if_true, Option.some.injEq] at hg
        subst hg
        rw [Bool.and_eq_true] at c
        obtain ⟨a, vs, rfl, hs, r⟩ := hv.lst ex
        cases hw.int
        refine .inr (.inr ⟨a, j, vs, rfl, rfl, hs, (okK_ok c.1).1, (okK_ok c.1).2, by rw [r.length]; exact of_decide_eq_true c.2, fun p hp => ?_⟩)
        have al : Al I H (upd I p (.lst (List.replicate j.toNat vs).flatten)) (upd H p (.lst (List.replicate j.toNat vs).flatten)) := Al.new ex hp
        exact k _ _ _ al (.lst upd_same ((r.rep j.toNat).mono al.ext))
      · simp only [c] at hg
        cases hg
    | _ => cases hg
  | _ => cases hg
/-! unary minus -/
def eUn (g : D → Option D) (m : Xp) : Xp := fun env => match m env with
  | none => none
  | some (r, e1) => match vw e1 r with
    | none => none
    | some d => match g d with
      | some z => some (.d z, e1)
      | none => none
def gNeg : D → Option D := fun d => match d with | .int i => some (.int (-i)) | _ => none
theorem me_neg {a : Expr} {m : Xp} {pos : Pos} (h : ME X cl a m) : ME X cl (.UnaryOp .USub a pos) (eUn gNeg m) := by
  obtain ⟨t, p, k⟩ := h
  refine ⟨_, pe_un un_neg p, fun σ H I env r env' Q g hm kk => ?_⟩
  unfold eUn at hm
  cases q : m env with
  | none => simp [q] at hm
  | some pr =>
    obtain ⟨r1, e1⟩ := pr
    simp only [q] at hm
    cases q2 : vw e1 r1 with
    | none => simp [q2] at hm
    | some d =>
      simp only [q2] at hm
      cases d with
      | int i =>
        simp only [gNeg, Option.some.injEq, Prod.mk.injEq] at hm
        obtain ⟨rfl, rfl⟩ := hm
        refine k σ H I env r1 e1 _ g q fun v I1 H1 g1 t1 rv => ?_
        have ev := (vw_ok g1 rv q2).int
        subst ev
        exact ⟨i, rfl, kk _ I1 H1 g1 t1 (.int _)⟩
      | _ => simp [gNeg] at hm

/-! ### subscripts -/
def gIx : D → D → Option D := fun x y => match x, y with
  | .lst xs, .int i => atI xs i
  | .tup xs, .int i => atI xs i
  | _, _ => none
theorem RpA.atI {K : PySem.W.Frag} {I : Hp} {vs : List V} {ds : List D} {i : Int} {d : D} (r : RpA K cl I vs ds) (h : L2.atI ds i = some d) : ∃ v, L2.atI vs i = some v ∧ Rp K cl I v d := by
  unfold L2.atI at h ⊢
  rw [r.length]
  cases q : ixN ds.length i with
  | none => rw [q] at h; cases h
  | some j =>
    rw [q] at h
    exact r.get (i := j) h
theorem me_ix {a b : Expr} {m1 m2 : Xp} {pos : Pos} (h1 : ME X cl a m1) (h2 : ME X cl b m2) (hs : PlainIx b) : ME X cl (.Subscript a b pos) (eBin gIx m1 m2) := by
  obtain ⟨ta, pa, ea⟩ := h1
  obtain ⟨tb, pb, eb⟩ := h2
  refine ⟨_, pe_ix ix_seq pa pb hs, ev_bin ea eb fun I H v w x y z Q ex hv hw hg k => ?_⟩
  cases x with
  | lst xs =>
    cases y with
    | int i =>
      obtain ⟨p, vs, rfl, hs, r⟩ := hv.lst ex
      cases hw.int
      obtain ⟨u, hu, ru⟩ := r.atI hg
      exact .inl ⟨p, vs, i, u, rfl, rfl, SqL.of hs, hu, k u I H (Al.refl ex) ru⟩
    | _ => cases hg
  | tup xs =>
    cases y with
    | int i =>
      obtain ⟨p, vs, rfl, hs, r, _⟩ := hv.tup ex
      cases hw.int
      obtain ⟨u, hu, ru⟩ := r.atI hg
      exact .inr (.inl ⟨p, vs, i, u, rfl, rfl, hs, hu, k u I H (Al.refl ex) ru⟩)
    | _ => cases hg
  | _ => cases hg
/-! slices -/
abbrev Xo := MEnv → Option (Option Int × MEnv)
def MO (X : Cx) (cl : ClM) (e : Option Expr) (m : Xo) : Prop := ∃ t, PO X e t ∧ ∀ (σ : L2.St) (H I : Hp) (env : MEnv) (o : Option Int) (env' : MEnv) (Q : Option Int → Hp → Prop), Gd X.K cl I H σ env → m env = some (o, env') →
  (∀ I' H', Gd X.K cl I' H' σ env' → Tr (Fp σ env) I H (Fp σ env') I' H' → Q o H') → t σ H Q
def oNo : Xo := fun env => some (none, env)
def oSm (m : Xp) : Xo := fun env => match m env with
  | none => none
  | some (r, e1) => match vw e1 r with
    | some (.int i) => some (some i, e1)
    | _ => none
theorem mo_no : MO X cl none oNo := ⟨_, po_none, fun σ H I env o env' Q g hm k => by
  cases Option.some.inj hm
  exact k I H g Tr.refl⟩
theorem mo_some {e : Expr} {m : Xp} (h : ME X cl e m) : MO X cl (some e) (oSm m) := by
  obtain ⟨t, p, k⟩ := h
  refine ⟨_, po_some p, fun σ H I env o env' Q g hm kk => ?_⟩
  unfold oSm at hm
  cases q : m env with
  | none => simp [q] at hm
  | some pr =>
    obtain ⟨r1, e1⟩ := pr
    simp only [q] at hm
    cases q2 : vw e1 r1 with
    | none => simp [q2] at hm
    | some d =>
      cases d with
      | int i =>
        simp only [q2, Option.some.injEq, Prod.mk.injEq] at hm
        obtain ⟨rfl, rfl⟩ := hm
        refine k σ H I env r1 e1 _ g q fun v I1 H1 g1 t1 rv => ?_
        have ev := (vw_ok g1 rv q2).int
        subst ev
        exact ⟨i, rfl, kk I1 H1 g1 t1⟩
      | _ => simp [q2] at hm
def cutD (xs : List D) (lo hi : Option Int) : List D := (xs.drop (HT.sIx xs.length 0 lo)).take (HT.sIx xs.length xs.length hi - HT.sIx xs.length 0 lo)
theorem RpA.cut {K : PySem.W.Frag} {I : Hp} {vs : List V} {ds : List D} (r : RpA K cl I vs ds) (lo hi : Option Int) : RpA K cl I (cutV vs lo hi) (cutD ds lo hi) := by
  unfold cutV cutD
  rw [r.length]
  exact (r.drop _).take _
def gSl (d : D) (lo hi : Option Int) : Option D := match d with
  | .lst xs => some (.lst (cutD xs lo hi))
  | .tup xs => some (.tup (cutD xs lo hi))
  | _ => none
def eSl (m : Xp) (ml mh : Xo) : Xp := fun env => match m env with
  | none => none
  | some (r, e1) => match ml e1 with
    | none => none
    | some (lo, e2) => match mh e2 with
      | none => none
      | some (hi, e3) => match vw e3 r with
        | none => none
        | some d => match gSl d lo hi with
          | some z => some (.d z, e3)
          | none => none
theorem me_sl {a : Expr} {lo hi : Option Expr} {m : Xp} {ml mh : Xo} {p2 pos : Pos} (h : ME X cl a m) (hl : MO X cl lo ml) (hh : MO X cl hi mh) : ME X cl (.Subscript a (.Slice lo hi none p2) pos) (eSl m ml mh) := by
  obtain ⟨t, p, k⟩ := h
  obtain ⟨tl, pl, kl⟩ := hl
  obtain ⟨th, ph, kh⟩ := hh
  refine ⟨_, pe_slice (SlR.or sl_tupX sl_list) p pl ph, fun σ H I env r env' Q g hm kk => ?_⟩
  unfold eSl at hm
  cases q : m env with
  | none => simp [q] at hm
  | some pr =>
    obtain ⟨r1, e1⟩ := pr
    simp only [q] at hm
    cases q2 : ml e1 with
    | none => simp [q2] at hm
    | some pr2 =>
      obtain ⟨lo', e2⟩ := pr2
      simp only [q2] at hm
      cases q3 : mh e2 with
      | none => simp [q3] at hm
      | some pr3 =>
        obtain ⟨hi', e3⟩ := pr3
        simp only [q3] at hm
        cases q4 : vw e3 r1 with
        | none => simp [q4] at hm
        | some d =>
          simp only [q4] at hm
          cases q5 : gSl d lo' hi' with
          | none => simp [q5] at hm
          | some z =>
            simp only [q5, Option.some.injEq, Prod.mk.injEq] at hm
            obtain ⟨rfl, rfl⟩ := hm
            refine k σ H I env r1 e1 _ g q fun v I1 H1 g1 t1 rv => ?_
            refine kl σ H1 I1 e1 lo' e2 _ g1 q2 fun I2 H2 g2 t2 => ?_
            refine kh σ H2 I2 e2 hi' e3 _ g2 q3 fun I3 H3 g3 t3 => ?_
            have t13 := (t1.trans t2).trans t3
            have hv := vw_ok g3 (rv.mono (t2.ext.trans t3.ext)) q4
            cases d with
            | tup xs =>
              cases Option.some.inj q5
              obtain ⟨a, vs, rfl, hs, rr, rp⟩ := hv.tup g3.ex
              refine .inl ⟨a, vs, rfl, hs, fun hw => ?_, fun _ b us hb => ?_⟩
              · have e : cutD xs lo' hi' = xs := by
                  unfold cutD
                  rw [← rr.length, hw.1, hw.2, rr.length]
                  simp
                rw [e] at kk
                exact kk _ I3 H3 g3 t13 rp
              · have al : Al I3 H3 (upd I3 b (xT us (cutV vs lo' hi'))) (upd H3 b (xT us (cutV vs lo' hi'))) := Al.new g3.ex hb
                exact kk _ _ _ (g3.al al) (t13.trans al.tr) (.tup .new ((rr.cut lo' hi').mono al.ext))
            | lst xs =>
              cases Option.some.inj q5
              obtain ⟨a, vs, rfl, hs, rr⟩ := hv.lst g3.ex
              refine .inr ⟨a, vs, rfl, SqL.of hs, fun b hb => ?_⟩
              have al : Al I3 H3 (upd I3 b (.lst (cutV vs lo' hi'))) (upd H3 b (.lst (cutV vs lo' hi'))) := Al.new g3.ex hb
              exact kk _ _ _ (g3.al al) (t13.trans al.tr) (.lst upd_same ((rr.cut lo' hi').mono al.ext))
            | _ => cases q5
/-! a slice of a list, as a list of its own -/
def fSl (m : Xp) (ml mh : Xo) : Xf := fun env => match m env with
  | none => none
  | some (r, e1) => match ml e1 with
    | none => none
    | some (lo, e2) => match mh e2 with
      | none => none
      | some (hi, e3) => match vw e3 r with
        | some (.lst xs) => some (.lst (cutD xs lo hi), e3)
        | _ => none
theorem mf_sl {a : Expr} {lo hi : Option Expr} {m : Xp} {ml mh : Xo} {p2 pos : Pos} (h : ME X cl a m) (hl : MO X cl lo ml) (hh : MO X cl hi mh) : MF X cl (.Subscript a (.Slice lo hi none p2) pos) (fSl m ml mh) := by
  obtain ⟨t, p, k⟩ := h
  obtain ⟨tl, pl, kl⟩ := hl
  obtain ⟨th, ph, kh⟩ := hh
  refine ⟨_, pe_slice sl_list p pl ph, fun σ H I env r env' Q g hm kk => ?_⟩
  unfold fSl at hm
  cases q : m env with
  | none => simp [q] at hm
  | some pr =>
    obtain ⟨r1, e1⟩ := pr
    simp only [q] at hm
    cases q2 : ml e1 with
    | none => simp [q2] at hm
    | some pr2 =>
      obtain ⟨lo', e2⟩ := pr2
      simp only [q2] at hm
      cases q3 : mh e2 with
      | none => simp [q3] at hm
      | some pr3 =>
        obtain ⟨hi', e3⟩ := pr3
        simp only [q3] at hm
        cases q4 : vw e3 r1 with
        | none => simp [q4] at hm
        | some d =>
          cases d with
          | lst xs =>
            simp only [q4, Option.some.injEq, Prod.mk.injEq] at hm
            obtain ⟨rfl, rfl⟩ := hm
            refine k σ H I env r1 e1 _ g q fun v I1 H1 g1 t1 rv => ?_
            refine kl σ H1 I1 e1 lo' e2 _ g1 q2 fun I2 H2 g2 t2 => ?_
            refine kh σ H2 I2 e2 hi' e3 _ g2 q3 fun I3 H3 g3 t3 => ?_
            have t13 := (t1.trans t2).trans t3
            have hv := vw_ok g3 (rv.mono (t2.ext.trans t3.ext)) q4
            obtain ⟨a, vs, rfl, hs, rr⟩ := hv.lst g3.ex
            refine ⟨a, vs, rfl, SqL.of hs, fun b hb => ?_⟩
            have al : Al I3 H3 I3 (upd H3 b (.lst (cutV vs lo' hi'))) := Al.newH g3.ex hb
            exact kk b _ _ _ (g3.al al) (t13.trans al.tr) (g3.ex.free hb) upd_same (.lst (rr.cut lo' hi')) (t13.back (.inr hb)) (nf_fresh g3 hb)
          | _ => simp [q4] at hm
/-! ### calls of built-ins by values -/
def CaM (X : Cx) (cl : ClM) (fv : Value) (g : List D → Option D) : Prop := ∃ r, CallR X fv r ∧
  ∀ (I H : Hp) (vs : List V) (ds : List D) (z : D) (Q : VK), Same I H → VwA X.K cl I H vs ds → g ds = some z → (∀ u I' H', Al I H I' H' → Rp X.K cl I' u z → Q u H') → r vs H Q
def CaF (X : Cx) (cl : ClM) (fv : Value) (g : List D → Option SO) : Prop := ∃ r, CallR X fv r ∧
  ∀ (I H : Hp) (vs : List V) (ds : List D) (o : SO) (Q : VK), Same I H → VwA X.K cl I H vs ds → g ds = some o → (∀ p ho I' H', Al I H I' H' → I' p = none → H p = none → H' p = some ho → SoOk X.K cl I' p ho o → Q (.ref p) H') → r vs H Q
def eCB (g : List D → Option D) (ms : Xa) : Xp := fun env => match ms env with
  | none => none
  | some (rs, e1) => match vwL e1 rs with
    | none => none
    | some ds => match g ds with
      | some z => some (.d z, e1)
      | none => none
def fCB (g : List D → Option SO) (ms : Xa) : Xf := fun env => match ms env with
  | none => none
  | some (rs, e1) => match vwL e1 rs with
    | none => none
    | some ds => match g ds with
      | some z => some (z, e1)
      | none => none
theorem me_cb {e : Expr} {es : List Expr} {fv : Value} {g : List D → Option D} {ms : Xa} (hc : CaM X cl fv g) (hm : MA X cl es ms) (hp : ∀ r t, CallR X fv r → PA X es t → PE X e (tCB r t)) : ME X cl e (eCB g ms) := by
  obtain ⟨r, cr, sem⟩ := hc
  obtain ⟨t, p, k⟩ := hm
  refine ⟨_, hp r t cr p, fun σ H I env r' env' Q gd hme kk => ?_⟩
  unfold eCB at hme
  cases q : ms env with
  | none => simp [q] at hme
  | some pr =>
    obtain ⟨rs, e1⟩ := pr
    simp only [q] at hme
    cases q2 : vwL e1 rs with
    | none => simp [q2] at hme
    | some ds =>
      simp only [q2] at hme
      cases q3 : g ds with
      | none => simp [q3] at hme
      | some z =>
        simp only [q3, Option.some.injEq, Prod.mk.injEq] at hme
        obtain ⟨rfl, rfl⟩ := hme
        refine k σ H I env rs e1 _ gd q fun vs I1 H1 g1 t1 r1 => ?_
        exact sem I1 H1 vs ds z Q g1.ex (vwL_ok g1 r1 q2) q3 fun u I2 H2 al ru => kk u I2 H2 (g1.al al) (t1.trans al.tr) ru
theorem mf_cb {e : Expr} {es : List Expr} {fv : Value} {g : List D → Option SO} {ms : Xa} (hc : CaF X cl fv g) (hm : MA X cl es ms) (hp : ∀ r t, CallR X fv r → PA X es t → PE X e (tCB r t)) : MF X cl e (fCB g ms) := by
  obtain ⟨r, cr, sem⟩ := hc
  obtain ⟨t, p, k⟩ := hm
  refine ⟨_, hp r t cr p, fun σ H I env r' env' Q gd hme kk => ?_⟩
  unfold fCB at hme
  cases q : ms env with
  | none => simp [q] at hme
  | some pr =>
    obtain ⟨rs, e1⟩ := pr
    simp only [q] at hme
    cases q2 : vwL e1 rs with
    | none => simp [q2] at hme
    | some ds =>
      simp only [q2] at hme
      cases q3 : g ds with
      | none => simp [q3] at hme
      | some z =>
        simp only [q3, Option.some.injEq, Prod.mk.injEq] at hme
        obtain ⟨rfl, rfl⟩ := hme
        refine k σ H I env rs e1 _ gd q fun vs I1 H1 g1 t1 r1 => ?_
        exact sem I1 H1 vs ds z Q g1.ex (vwL_ok g1 r1 q2) q3 fun p ho I2 H2 al ip hp0 hp2 so => kk p ho I2 H2 (g1.al al) (t1.trans al.tr) ip hp2 so (t1.back (.inr hp0)) (nf_fresh g1 hp0)
theorem VwA.one {K : PySem.W.Frag} {I H : Hp} {vs : List V} {d : D} (h : VwA K cl I H vs [d]) : ∃ v, vs = [v] ∧ Vw K cl I H v d := by
  cases h with
  | cons h t =>
    cases t
    exact ⟨_, rfl, h⟩
theorem VwA.two {K : PySem.W.Frag} {I H : Hp} {vs : List V} {d e : D} (h : VwA K cl I H vs [d, e]) : ∃ v w, vs = [v, w] ∧ Vw K cl I H v d ∧ Vw K cl I H w e := by
  cases h with
  | cons h t =>
    obtain ⟨w, rfl, h2⟩ := t.one
    exact ⟨_, _, rfl, h, h2⟩
def gLen : List D → Option D := fun ds => match ds with
  | [.lst xs] => some (.int xs.length)
  | [.tup xs] => some (.int xs.length)
  | _ => none
theorem cm_len : CaM X cl (.builtin "len") gLen := by
  refine ⟨_, call_len_seq, fun I H vs ds z Q ex hv hg k => ?_⟩
  unfold gLen at hg
  split at hg
  · cases Option.some.inj hg
    obtain ⟨v, rfl, h⟩ := hv.one
    obtain ⟨a, ws, rfl, hs, r⟩ := h.lst ex
    refine ⟨a, ws, rfl, .inl (SqL.of hs), ?_⟩
    rw [r.length]
    exact k _ I H (Al.refl ex) (.int _)
  · cases Option.some.inj hg
    obtain ⟨v, rfl, h⟩ := hv.one
    obtain ⟨a, ws, rfl, hs, r, _⟩ := h.tup ex
    refine ⟨a, ws, rfl, .inr hs, ?_⟩
    rw [r.length]
    exact k _ I H (Al.refl ex) (.int _)
  · cases hg
def gInt : List D → Option D := fun ds => match ds with
  | [.int i] => some (.int i)
  | [.bl b] => some (.int (if b then 1 else 0))
  | _ => none
theorem cm_int : CaM X cl (.type "int") gInt := by
  refine ⟨_, call_int1, fun I H vs ds z Q ex hv hg k => ?_⟩
  unfold gInt at hg
  split at hg
  · cases Option.some.inj hg
    obtain ⟨v, rfl, h⟩ := hv.one
    cases h.int
    exact .inl ⟨_, rfl, k _ I H (Al.refl ex) (.int _)⟩
  · cases Option.some.inj hg
    obtain ⟨v, rfl, h⟩ := hv.one
    cases h.bl
    exact .inr ⟨_, rfl, k _ I H (Al.refl ex) (.int _)⟩
  · cases hg
def gAbs : List D → Option D := fun ds => match ds with
  | [.int i] => some (.int (if i < 0 then -i else i))
  | _ => none
theorem cm_abs : CaM X cl (.builtin "abs") gAbs := by
  refine ⟨_, call_abs, fun I H vs ds z Q ex hv hg k => ?_⟩
  unfold gAbs at hg
  split at hg
  · cases Option.some.inj hg
    obtain ⟨v, rfl, h⟩ := hv.one
    cases h.int
    exact ⟨_, rfl, k _ I H (Al.refl ex) (.int _)⟩
  · cases hg
/-- the ints of a list -/
def intsD : List D → Option (List Int)
  | [] => some []
  | .int i :: r => match intsD r with
    | some ns => some (i :: ns)
    | none => none
  | _ => none
theorem intsD_eq : ∀ {ds : List D} {ns : List Int}, intsD ds = some ns → ds = ns.map D.int
  | [], ns, h => by
    cases Option.some.inj h
    rfl
  | d :: r, ns, h => by
    cases d with
    | int i =>
      unfold intsD at h
      cases q : intsD r with
      | none => simp [q] at h
      | some ms =>
        simp only [q, Option.some.injEq] at h
        subst h
        rw [intsD_eq q]
        rfl
    | _ => cases h
theorem intsD_map : ∀ ns : List Int, intsD (ns.map D.int) = some ns
  | [] => rfl
  | n :: ns => by
    show (match intsD (ns.map D.int) with | some ns => some (n :: ns) | none => none) = _
    rw [intsD_map ns]
def boolsD : List D → Option (List Bool)
  | [] => some []
  | .bl i :: r => match boolsD r with
    | some ns => some (i :: ns)
    | none => none
  | _ => none
theorem boolsD_eq : ∀ {ds : List D} {ns : List Bool}, boolsD ds = some ns → ds = ns.map D.bl
  | [], ns, h => by
    cases Option.some.inj h
    rfl
  | d :: r, ns, h => by
    cases d with
    | bl i =>
      unfold boolsD at h
      cases q : boolsD r with
      | none => simp [q] at h
      | some ms =>
        simp only [q, Option.some.injEq] at h
        subst h
        rw [boolsD_eq q]
        rfl
    | _ => cases h
theorem boolsD_map : ∀ ns : List Bool, boolsD (ns.map D.bl) = some ns
  | [] => rfl
  | n :: ns => by
    show (match boolsD (ns.map D.bl) with | some ns => some (n :: ns) | none => none) = _
    rw [boolsD_map ns]
theorem RpA.bls {K : PySem.W.Frag} {I : Hp} : ∀ {vs : List V} {ns : List Bool}, RpA K cl I vs (ns.map D.bl) → vs = ns.map V.bl
  | _, [], .nil => rfl
  | _, n :: ns, .cons h t => by
    cases h
    rw [RpA.bls t]
    rfl
def gSum : List D → Option D := fun ds => match ds with
  | [.lst xs] => match intsD xs with
    | some ns => some (.int ns.sum)
    | none => none
  | _ => none
theorem cm_sum (hc : X.calm = true) : CaM X cl (.builtin "sum") gSum := by
  refine ⟨_, cr_sum hc, fun I H vs ds z Q ex hv hg k => ?_⟩
  unfold gSum at hg
  split at hg
  · rename_i xs
    cases q : intsD xs with
    | none => simp [q] at hg
    | some ns =>
      simp only [q, Option.some.injEq] at hg
      subst hg
      obtain ⟨v, rfl, h⟩ := hv.one
      obtain ⟨a, ws, rfl, hs, r⟩ := h.lst ex
      rw [intsD_eq q] at r
      have e := r.ints
      subst e
      exact ⟨a, ns, rfl, SqL.of hs, k _ I H (Al.refl ex) (.int _)⟩
  · cases hg
def gAll : List D → Option D := fun ds => match ds with
  | [.lst xs] => match boolsD xs with
    | some ns => some (.bl (ns.all id))
    | none => none
  | _ => none
theorem cm_all (hc : X.calm = true) : CaM X cl (.builtin "all") gAll := by
  refine ⟨_, cr_all hc, fun I H vs ds z Q ex hv hg k => ?_⟩
  unfold gAll at hg
  split at hg
  · rename_i xs
    cases q : boolsD xs with
    | none => simp [q] at hg
    | some ns =>
      simp only [q, Option.some.injEq] at hg
      subst hg
      obtain ⟨v, rfl, h⟩ := hv.one
      obtain ⟨a, ws, rfl, hs, r⟩ := h.lst ex
      rw [boolsD_eq q] at r
      have e := r.bls
      subst e
      exact ⟨a, ns, rfl, SqL.of hs, k _ I H (Al.refl ex) (.bl _)⟩
  · cases hg
def gAny : List D → Option D := fun ds => match ds with
  | [.lst xs] => match boolsD xs with
    | some ns => some (.bl (ns.any id))
    | none => none
  | _ => none
theorem cm_any (hc : X.calm = true) : CaM X cl (.builtin "any") gAny := by
  refine ⟨_, cr_any hc, fun I H vs ds z Q ex hv hg k => ?_⟩
  unfold gAny at hg
  split at hg
  · rename_i xs
    cases q : boolsD xs with
    | none => simp [q] at hg
    | some ns =>
      simp only [q, Option.some.injEq] at hg
      subst hg
      obtain ⟨v, rfl, h⟩ := hv.one
      obtain ⟨a, ws, rfl, hs, r⟩ := h.lst ex
      rw [boolsD_eq q] at r
      have e := r.bls
      subst e
      exact ⟨a, ns, rfl, SqL.of hs, k _ I H (Al.refl ex) (.bl _)⟩
  · cases hg
def maxI : Int → List Int → Int := fun m ns => ns.foldl (fun a b => if a < b then b else a) m
def minI : Int → List Int → Int := fun m ns => ns.foldl (fun a b => if b < a then b else a) m
theorem maxI_ok : ∀ (ns : List Int) (m : Int), maxI m ns ∈ m :: ns ∧ ∀ y ∈ m :: ns, y ≤ maxI m ns
  | [], m => by simp [maxI]
  | n :: ns, m => by
    by_cases c : m < n
    · have e : maxI m (n :: ns) = maxI n ns := by
        unfold maxI
        rw [List.foldl_cons, if_pos c]
      obtain ⟨h1, h2⟩ := maxI_ok ns n
      rw [e]
      refine ⟨List.mem_cons_of_mem _ h1, fun y hy => ?_⟩
      rcases List.mem_cons.mp hy with rfl | hy
      · have := h2 n List.mem_cons_self
        omega
      · exact h2 y hy
    · have e : maxI m (n :: ns) = maxI m ns := by
        unfold maxI
        rw [List.foldl_cons, if_neg c]
      obtain ⟨h1, h2⟩ := maxI_ok ns m
      rw [e]
      refine ⟨?_, fun y hy => ?_⟩
      · rcases List.mem_cons.mp h1 with h | h
        · rw [h]
          exact List.mem_cons_self
        · exact List.mem_cons_of_mem _ (List.mem_cons_of_mem _ h)
      · rcases List.mem_cons.mp hy with rfl | hy
        · exact h2 y List.mem_cons_self
        · rcases List.mem_cons.mp hy with rfl | hy
          · have := h2 m List.mem_cons_self
            omega
          · exact h2 y (List.mem_cons_of_mem _ hy)
theorem minI_ok : ∀ (ns : List Int) (m : Int), minI m ns ∈ m :: ns ∧ ∀ y ∈ m :: ns, minI m ns ≤ y
  | [], m => by simp [minI]
  | n :: ns, m => by
    by_cases c : n < m
    · have e : minI m (n :: ns) = minI n ns := by
        unfold minI
        rw [List.foldl_cons, if_pos c]
      obtain ⟨h1, h2⟩ := minI_ok ns n
      rw [e]
      refine ⟨List.mem_cons_of_mem _ h1, fun y hy => ?_⟩
      rcases List.mem_cons.mp hy with rfl | hy
      · have := h2 n List.mem_cons_self
        omega
      · exact h2 y hy
    · have e : minI m (n :: ns) = minI m ns := by
        unfold minI
        rw [List.foldl_cons, if_neg c]
      obtain ⟨h1, h2⟩ := minI_ok ns m
      rw [e]
      refine ⟨?_, fun y hy => ?_⟩
      · rcases List.mem_cons.mp h1 with h | h
        · rw [h]
          exact List.mem_cons_self
        · exact List.mem_cons_of_mem _ (List.mem_cons_of_mem _ h)
      · rcases List.mem_cons.mp hy with rfl | hy
        · exact h2 y List.mem_cons_self
        · rcases List.mem_cons.mp hy with rfl | hy
          · have := h2 m List.mem_cons_self
            omega
          · exact h2 y (List.mem_cons_of_mem _ hy)
def gMax : List D → Option D := fun ds => match ds with
  | [.lst xs] => match intsD xs with
    | some (n :: ns) => some (.int (maxI n ns))
    | _ => none
  | _ => none
theorem cm_max (hc : X.calm = true) : CaM X cl (.builtin "max") gMax := by
  refine ⟨_, cr_max hc, fun I H vs ds z Q ex hv hg k => ?_⟩
  unfold gMax at hg
  split at hg
  · rename_i xs
    cases q : intsD xs with
    | none => simp [q] at hg
    | some ns =>
      cases ns with
      | nil => simp [q] at hg
      | cons n ns =>
        simp only [q, Option.some.injEq] at hg
        subst hg
        obtain ⟨v, rfl, h⟩ := hv.one
        obtain ⟨a, ws, rfl, hs, r⟩ := h.lst ex
        rw [intsD_eq q] at r
        have e := r.ints
        subst e
        refine ⟨a, n :: ns, rfl, SqL.of hs, by simp, fun m hm hmax => ?_⟩
        obtain ⟨m1, m2⟩ := maxI_ok ns n
        have em : m = maxI n ns := by
          have a1 := m2 m hm
          have a2 := hmax _ m1
          omega
        rw [em]
        exact k _ I H (Al.refl ex) (.int _)
  · cases hg
def gMin : List D → Option D := fun ds => match ds with
  | [.lst xs] => match intsD xs with
    | some (n :: ns) => some (.int (minI n ns))
    | _ => none
  | _ => none
theorem cm_min (hc : X.calm = true) : CaM X cl (.builtin "min") gMin := by
  refine ⟨_, cr_min hc, fun I H vs ds z Q ex hv hg k => ?_⟩
  unfold gMin at hg
  split at hg
  · rename_i xs
    cases q : intsD xs with
    | none => simp [q] at hg
    | some ns =>
      cases ns with
      | nil => simp [q] at hg
      | cons n ns =>
        simp only [q, Option.some.injEq] at hg
        subst hg
        obtain ⟨v, rfl, h⟩ := hv.one
        obtain ⟨a, ws, rfl, hs, r⟩ := h.lst ex
        rw [intsD_eq q] at r
        have e := r.ints
        subst e
        refine ⟨a, n :: ns, rfl, SqL.of hs, by simp, fun m hm hmin => ?_⟩
        obtain ⟨m1, m2⟩ := minI_ok ns n
        have em : m = minI n ns := by
          have a1 := m2 m hm
          have a2 := hmin _ m1
          omega
        rw [em]
        exact k _ I H (Al.refl ex) (.int _)
  · cases hg
def gMax2 : List D → Option D := fun ds => match ds with
  | [.int i, .int j] => some (.int (if j > i then j else i))
  | _ => none
theorem cm_max2 (hc : X.calm = true) : CaM X cl (.builtin "max") gMax2 := by
  refine ⟨_, call_max2 hc, fun I H vs ds z Q ex hv hg k => ?_⟩
  unfold gMax2 at hg
  split at hg
  · cases Option.some.inj hg
    obtain ⟨v, w, rfl, h, h2⟩ := hv.two
    cases h.int
    cases h2.int
    exact ⟨_, _, rfl, k _ I H (Al.refl ex) (.int _)⟩
  · cases hg
def gMin2 : List D → Option D := fun ds => match ds with
  | [.int i, .int j] => some (.int (if j < i then j else i))
  | _ => none
theorem cm_min2 (hc : X.calm = true) : CaM X cl (.builtin "min") gMin2 := by
  refine ⟨_, call_min2 hc, fun I H vs ds z Q ex hv hg k => ?_⟩
  unfold gMin2 at hg
  split at hg
  · cases Option.some.inj hg
    obtain ⟨v, w, rfl, h, h2⟩ := hv.two
    cases h.int
    cases h2.int
    exact ⟨_, _, rfl, k _ I H (Al.refl ex) (.int _)⟩
  · cases hg
/-! list(x), tuple(x) -/
def fgList : List D → Option SO := fun ds => match ds with
  | [.lst xs] => some (.lst xs)
  | [.tup xs] => some (.lst xs)
  | [.scr xs] => some (.lst xs)
  | _ => none
theorem cf_list : CaF X cl (.type "list") fgList := by
  refine ⟨_, call_list_of, fun I H vs ds o Q ex hv hg k => ?_⟩
  unfold fgList at hg
  split at hg
  · cases Option.some.inj hg
    obtain ⟨v, rfl, h⟩ := hv.one
    obtain ⟨a, ws, rfl, hs, r⟩ := h.lst ex
    exact ⟨a, ws, rfl, .inl (SqL.of hs), fun l hl => k l _ I _ (Al.newH ex hl) (ex.free hl) hl upd_same (.lst r)⟩
  · cases Option.some.inj hg
    obtain ⟨v, rfl, h⟩ := hv.one
    obtain ⟨a, ws, rfl, hs, r, _⟩ := h.tup ex
    exact ⟨a, ws, rfl, .inr hs, fun l hl => k l _ I _ (Al.newH ex hl) (ex.free hl) hl upd_same (.lst r)⟩
  · cases Option.some.inj hg
    obtain ⟨v, rfl, h⟩ := hv.one
    rcases h with h | ⟨p, ho, o, rfl, ip, hp, so, ed⟩
    · cases h with
      | scr hs r => exact ⟨_, _, rfl, .inl (ex.seq hs), fun l hl => k l _ I _ (Al.newH ex hl) (ex.free hl) hl upd_same (.lst r)⟩
    · cases so <;> cases ed
  · cases hg
def gTuple : List D → Option D := fun ds => match ds with
  | [.lst xs] => some (.tup xs)
  | [.tup xs] => some (.tup xs)
  | _ => none
theorem cm_tuple : CaM X cl (.type "tuple") gTuple := by
  refine ⟨_, call_tuple_ofX, fun I H vs ds o Q ex hv hg k => ?_⟩
  unfold gTuple at hg
  split at hg
  · cases Option.some.inj hg
    obtain ⟨v, rfl, h⟩ := hv.one
    obtain ⟨a, ws, rfl, hs, r⟩ := h.lst ex
    refine ⟨a, ws, rfl, .inl ⟨SqL.of hs, fun l us hl => ?_⟩⟩
    have al : Al I H (upd I l (xT us ws)) (upd H l (xT us ws)) := Al.new ex hl
    exact k _ _ _ al (.tup .new (r.mono al.ext))
  · cases Option.some.inj hg
    obtain ⟨v, rfl, h⟩ := hv.one
    obtain ⟨a, ws, rfl, hs, r, rp⟩ := h.tup ex
    exact ⟨a, ws, rfl, .inr ⟨hs, k _ I H (Al.refl ex) rp⟩⟩
  · cases hg
end
end MP
set_option Elab.async false
set_option linter.all false
set_option maxRecDepth 100000
set_option maxHeartbeats 4000000
namespace MP
open PySem PySem.Spec PyProof.Rows L2
open AutoSeq1 (wpAny_loadPart')
theorem meets_enumerate_newT (l : Addr) (items : Array Value) (n : Nat) (dct : Option Addr) (sl : Array (Option Value)) :
    Meets (Builtin.«enumerate.__new__» ⟨[.type "enumerate", .ref l], []⟩) (fun _ R s => s.heap.get? l = some { cls := .type "tuple", dict := dct, data := .seq items n, slots := sl } ∧
      R (.ok (.ret (.ref (s.heap.push { cls := .type "tuple_iterator", data := .fields #[.ref l, .int 0 0] }).objs.size)))
        { s with heap := (s.heap.push { cls := .type "tuple_iterator", data := .fields #[.ref l, .int 0 0] }).push { cls := .type "enumerate", data := .fields #[.none, .bool false, .ref s.heap.objs.size, rawInt 0, .none, .none] } }) :=
  .of_wp fun prog w A R s h => by
    obtain ⟨hp, g, d, tk, os⟩ := s; obtain ⟨hl, h⟩ := h
    have hsub := sub_enumerate
    have hL : Heap.IsTuple (Shared.heap ⟨hp, g, d, tk, os⟩) l items := ⟨_, hl, rfl, n, rfl⟩
    wp_walk using wpAny_loadPart' hl
    refine wpAny_stack_any fun st => wpAny_pure ?_
    split
    · rename_i c _ _ _ _ _
      cases (c == Value.type "enumerate")
      · wp_walk using wpAny_loadPart' hl, wpAny_pyIter_tuple hL
        exact ⟨_, rfl, h⟩
      · wp_walk using wpAny_loadPart' hl, wpAny_pyIter_tuple hL
        exact ⟨_, rfl, h⟩
    · wp_walk using wpAny_loadPart' hl, wpAny_pyIter_tuple hL
      exact ⟨_, rfl, h⟩
section
variable {prog : Program} {w : World} {A : Around} {E : Value → Shared → Prop} {s : Shared}
theorem call_enumerate_tuple {l : Addr} {items : Array Value} {Q : Value → Shared → Prop} (hL : s.heap.IsTuple l items)
    (h : ∀ h', IsEnum h' (s.heap.objs.size + 1) s.heap.objs.size 0 .none → h'.IsTupleIter s.heap.objs.size l 0 → h'.objs.size = s.heap.objs.size + 2 →
      (∀ b o, s.heap.get? b = some o → h'.get? b = some o) → Q (.ref (s.heap.objs.size + 1)) { s with heap := h' }) :
    wpAny (model prog w) A (call (.type "enumerate") [.ref l]) Q E s := by
  obtain ⟨⟨c, dct, dt, sl⟩, hl, hc, n, hd⟩ := hL
  replace hc : c = .type "tuple" := hc
  replace hd : dt = .seq items n := hd
  subst hc hd
  refine callType_new F.called_enumerate (by decide) (F.typeCall_enumerate_1 _) (F.newCall_enumerate_1 _) (fun obj => F.args_object_init_2 obj _) F.entry_enumerate_new
    (meets_enumerate_newT l items n dct sl) ⟨hl, ?_⟩
  have hz : (s.heap.push { cls := .type "tuple_iterator", data := .fields #[.ref l, .int 0 0] }).objs.size = s.heap.objs.size + 1 := Heap.size_push ..
  show _ ∧ _
  rw [hz]
  have he : IsEnum ((s.heap.push { cls := .type "tuple_iterator", data := .fields #[.ref l, .int 0 0] }).push
      { cls := .type "enumerate", data := .fields #[.none, .bool false, .ref s.heap.objs.size, rawInt 0, .none, .none] }) (s.heap.objs.size + 1) s.heap.objs.size 0 .none := by
    have := Heap.get?_push_size (s.heap.push { cls := .type "tuple_iterator", data := .fields #[.ref l, .int 0 0] })
      (o := { cls := .type "enumerate", data := .fields #[.none, .bool false, .ref s.heap.objs.size, rawInt 0, .none, .none] }) rfl
    rw [hz] at this; exact this
  refine ⟨⟨_, he, rfl⟩, h _ he ⟨_, Heap.get?_push_of_some _ (Heap.get?_push_size _ rfl), rfl, rfl⟩ (by rw [Heap.size_push, hz]) fun b o x => Heap.get?_push_of_some _ (Heap.get?_push_of_some _ x)⟩
end
def IteT (K : PySem.W.Frag) (a : Addr) : It :=
  ⟨fun i H => ∃ (xs : List V) (x : V), SqT K H a xs ∧ xs[i]? = some x, fun i H v H' => ∃ T us x, v = .ref T ∧ H T = none ∧ H' = upd H T (MP.xT us [.int (i : Nat), x]) ∧ ∀ xs, SqT K H a xs → xs[i]? = some x, fun i H => ∃ xs : List V, SqT K H a xs ∧ xs.length ≤ i⟩
theorem turn_enumT {P : Program} {w : World} {K : PySem.W.Frag} {elts : List Expr} {kk : Nat} {tpos : Pos} (a e it : Addr) (hta : a ≠ it) (hea : e ≠ a) :
    Turn P w K (.Tuple elts kk tpos) (IteT K a) [e, it] e (fun i h => (∃ old, IsEnum h e it ((i : Nat) : Int) old) ∧ h.IsTupleIter it a i ∧ e ≠ it) where
  mem := by simp
  obj := fun i h st b hb => by
    obtain ⟨⟨old, he⟩, ⟨o, ho, hc, hd⟩, _⟩ := st
    have e' : b = e ∨ b = it := by simpa using hb
    rcases e' with z | z
    · rw [z]; exact ⟨_, he, fun v q => nomatch q⟩
    · rw [z]; exact ⟨o, ho, fun v q => by rw [hd] at q; cases q⟩
  keep := fun i h h' st k => let ⟨⟨old, he⟩, hi, hne⟩ := st; ⟨⟨old, k e (by simp) _ he⟩, hi.at fun o q => k it (by simp) o q, hne⟩
  item := by
    intro X hP hw hK hc i pins s σ H E I hf st hg
    subst hP hw hK
    obtain ⟨⟨old, he⟩, hit, hne⟩ := st
    obtain ⟨xs, x, hq, hx⟩ := hg
    obtain ⟨its, rv, p, hz⟩ := I.tuple hq
    obtain ⟨u, hu, ru⟩ := rv.get hx
    have hel : e < s.heap.objs.size := Heap.lt_size he
    have hil : it < s.heap.objs.size := by obtain ⟨_, q, _⟩ := hit; exact Heap.lt_size q
    have hlt : i < its.toArray.size := by
      have := (List.getElem?_eq_some_iff.mp hu).1
      simpa using this
    refine wpAny_pyNext_enum_itemD (Draws.tuple (prog := X.prog) (w := X.w) (A := X.A.in1) (I.ok.hd hc) it a hta its.toArray) he ⟨hit, show s.heap.IsTuple a its.toArray from p⟩ hlt hne (by simp [hne, hea]) fun x' h' tk hPx ho hst' hT hsz hk => ?_
    have ex : x' = u := by
      have h1 : its.toArray[i]? = some u := by simpa using hu
      rw [h1] at hPx
      exact (Option.some.inj hPx).symm
    subst ex
    refine ⟨_, rfl, wpAny_letOwnedTupleGo_enum (s := { s with heap := h', toks := tk + 1 }) ho fun h'' he' sb => ?_⟩
    have hT2 : h''.get? s.heap.objs.size = some { cls := .type "tuple", data := .seq #[.int i tk, x'] } := (sb.2 _ (Nat.ne_of_gt hel)).trans hT
    have new : ObjOk X.prog X.w (upd H s.heap.objs.size (MP.xT #[.int i tk, x'] [.int (i : Nat), x])) h'' s.heap.objs.size (MP.xT #[.int i tk, x'] [.int (i : Nat), x]) :=
      MP.okX hT2 (by show 2 ≤ sizeLine; decide) (.cons ⟨_, rfl⟩ (.cons ru .nil))
    have I1 : Inv X pins σ (upd H s.heap.objs.size (MP.xT #[.int i tk, x'] [.int (i : Nat), x])) { s with heap := h'', toks := tk + 1 } :=
      I.turnedNew (ch := [e, it]) (fun b ob hb q => (sb.2 b (fun z => hb (by simp [z]))).trans (hk b ob (fun z => hb (by simp [z])) (fun z => hb (by simp [z])) q)) hf (Nat.le_refl _) new
    refine ⟨.ref s.heap.objs.size, _, I1, rfl, ⟨_, _, x, rfl, I.hok.fresh (Nat.le_refl _), rfl, fun ys hy => by rw [I.tuple_inj hy hq]; exact hx⟩, ⟨⟨x', ?_⟩, hst'.1.at fun o q => (sb.2 it (Ne.symm hne)).trans q, hne⟩, fun b hb => ?_⟩
    · have e1 : ((i + 1 : Nat) : Int) = (i : Int) + 1 := by omega
      rw [e1]; exact he'
    · have hb' : b < s.heap.objs.size := by
        have e' : b = e ∨ b = it := by simpa using hb
        rcases e' with z | z
        · rw [z]; exact hel
        · rw [z]; exact hil
      rw [upd_ne (Nat.ne_of_lt hb')]
      exact (hf b hb).1
  done := by
    intro X hP hw hK hc i pins s σ H E I hf st hg
    subst hP hw hK
    obtain ⟨⟨old, he⟩, hit, hne⟩ := st
    obtain ⟨xs, hq, hx⟩ := hg
    obtain ⟨its, rv, p, hz⟩ := I.tuple hq
    obtain ⟨f0, f1, f2, f3, f4, f5⟩ := hf it (by simp)
    have hl := rv.length
    have hT : s.TypeIs (.ref e) "enumerate" := ⟨_, he, rfl⟩
    unfold pyNext
    refine wpAny_bind (wpAny_attempt (wpAny_callSpecial?_slot (name := Str.ofString "__next__") hT F.slot_enumerate_next
      (wpAny_call_entry F.slot_enumerate_next hT F.entry_enumerate_next ?_ (F.args_enumerate_next_1 _))))
    show wpAny _ _ (field (.ref e) 2 >>= _) _ _ _
    refine wpAny_bind (wpAny_field he rfl (x := .ref it) rfl ?_)
    refine wpAny_bind (wpAny_nextOf_tuple_end (A := X.A.in1) (I.ok.hd hc) hit (show s.heap.IsTuple a its.toArray from p) (by simp; omega) fun h' x he' hx' => ?_)
    obtain ⟨o, ho, hcc⟩ := hx'
    refine wpAny_bind (wpAny_isInstance (T := "StopIteration") (b := true) ⟨o, ho, hcc⟩ isSubtype_stop ?_)
    exact wpAny_pure ⟨rfl, I.turned (t' := s.toks) (fun b o hb q => he' b o hb q) f0 f1 f3 f4 f5⟩
  self := fun A i s Q E st h => let ⟨⟨_, he⟩, _⟩ := st; wpAny_pyIter_enum he h
def iEnumA (K : PySem.W.Frag) (ta : TA) : TI := fun σ H R => ta σ H fun vs H1 => ∃ a xs, vs = [.ref a] ∧ ((SqL K H1 a xs ∧ R (Ite K a) H1) ∨ (SqT K H1 a xs ∧ R (IteT K a) H1))
theorem pi_enumA {X : Cx} {e : Expr} {ta : TA} {p pos tpos : Pos} {elts : List Expr} {kk : Nat} (hg : Gl X "enumerate") (hm : X.mg "enumerate" = none) (ha : PA X [e] ta) (hs : starEach [e] X.env = [(false, eval e X.env)] := by rfl) :
    PI X (.Tuple elts kk tpos) (.Call (.Name "enumerate" p) [e] [] pos) (iEnumA X.K ta) := by
  refine ⟨fun pins s σ H R I h => ?_⟩
  refine Call_ (ld_blt I hg hm boot_enumerate (PyProof.Rows.callWith_type1 (thn (ha.run pos pins s σ H _ I h) fun us s1 ⟨vs, H1, I1, r1, q1⟩ => ?_) hs rfl))
  obtain ⟨a, xs, ex, hq⟩ := q1
  subst ex
  cases r1 with
  | cons r rr =>
    cases rr
    cases r
    have fin : ∀ b, b ∈ [s1.heap.objs.size + 1, s1.heap.objs.size] → FpOk X pins H1 b := fun b hb => by
      have e' : b = s1.heap.objs.size + 1 ∨ b = s1.heap.objs.size := by simpa using hb
      have hle : s1.heap.objs.size ≤ b := by
        rcases e' with z | z
        · rw [z]; exact Nat.le_add_right _ _
        · rw [z]; exact Nat.le_refl _
      exact I1.fpOk hle (I1.hok.fresh hle)
    rcases hq with ⟨hq, q⟩ | ⟨hq, q⟩
    · obtain ⟨its, rv, p', hz⟩ := I1.list hq
      refine call_enumerate_list p'.isList fun h' he hit hsz hk => wpAny_pyIter_enum he ?_
      have I2 : Inv X pins σ H1 { s1 with heap := h' } := I1.kept (t' := s1.toks) hk
      exact ⟨s1.heap.objs.size + 1, [s1.heap.objs.size + 1, s1.heap.objs.size], _, _, H1, rfl, I2, turn_enum a (s1.heap.objs.size + 1) s1.heap.objs.size, ⟨⟨.none, he⟩, hit, Nat.succ_ne_self _⟩, fin, q⟩
    · obtain ⟨its, rv, p', hz⟩ := I1.tuple hq
      have hal : a < s1.heap.objs.size := by
        obtain ⟨o, ho, _⟩ := id p'
        exact Heap.lt_size ho
      refine call_enumerate_tuple (show s1.heap.IsTuple a its.toArray from p') fun h' he hit hsz hk => wpAny_pyIter_enum he ?_
      have I2 : Inv X pins σ H1 { s1 with heap := h' } := I1.kept (t' := s1.toks) hk
      exact ⟨s1.heap.objs.size + 1, [s1.heap.objs.size + 1, s1.heap.objs.size], _, _, H1, rfl, I2, turn_enumT a (s1.heap.objs.size + 1) s1.heap.objs.size (Nat.ne_of_lt hal) (Nat.ne_of_gt (Nat.lt_succ_of_lt hal)), ⟨⟨.none, he⟩, hit, Nat.succ_ne_self _⟩, fin, q⟩
end MP
set_option Elab.async false
set_option linter.all false
set_option maxRecDepth 100000
set_option maxHeartbeats 4000000
namespace MP
open PySem PySem.Spec PyProof.Rows L2
open PySem.W (krv_pick)

/-! ### t[::-1] of a tuple -/
section
variable {prog : Program} {w : World} {A : Around} {E : Value → Shared → Prop} {s : Shared}
theorem sliceApplied_rev {sl : Addr} {vs : Value} {n : Nat} {Q : Int × Int × Nat → Shared → Prop} (hs : s.heap.IsSliceOf sl .none .none vs) (ps : IsPart vs (some (-1)))
    (h : Q ((n : Int) - 1, -1, n) s) : wpAny (model prog w) A (Builtin.Slice.sliceApplied (.ref sl) (pure (n : Int))) Q E s := by
  obtain ⟨os, hos, hcs, hds⟩ := id hs
  unfold Builtin.Slice.sliceApplied Builtin.Slice.sliceFields
  refine wpAny_bind (wpAny_bind (wpAny_field hos hds (x := .none) rfl (wpAny_bind (wpAny_field hos hds (x := .none) rfl (wpAny_bind (wpAny_field hos hds (x := vs) rfl (wpAny_pure ?_)))))))
  refine wpAny_bind (HT.slicePart_ ps ?_)
  show wpAny _ _ (if ((-1 : Int) == 0) = true then _ else _) _ _ s
  rw [if_neg (by decide)]
  refine wpAny_bind (HT.slicePart_ .none (wpAny_bind (HT.slicePart_ .none (wpAny_bind (wpAny_pure ?_)))))
  show wpAny _ _ (match Builtin.Slice.sliceAdjust none none (-1) (n : Int) with | (lo, hi) => pure (lo, (-1 : Int), Builtin.Slice.slicePlaces lo hi (-1))) _ _ s
  have e1 : Builtin.Slice.sliceAdjust none none (-1) (n : Int) = ((n : Int) - 1, -1) := by
    unfold Builtin.Slice.sliceAdjust
    simp
  rw [e1]
  show wpAny _ _ (pure ((n : Int) - 1, (-1 : Int), Builtin.Slice.slicePlaces ((n : Int) - 1) (-1) (-1))) _ _ s
  have e2 : Builtin.Slice.slicePlaces ((n : Int) - 1) (-1) (-1) = n := by
    unfold Builtin.Slice.slicePlaces
    simp
    split <;> omega
  rw [e2]
  exact wpAny_pure h
theorem pick_rev (xs : Array Value) : ((List.range xs.size).filterMap fun (m : Nat) => xs[(((xs.size : Int) - 1) + (m : Int) * (-1)).toNat]?).toArray = xs.toList.reverse.toArray := by
  congr 1
  apply List.ext_getElem?
  intro i
  have e : (List.range xs.size).filterMap (fun (m : Nat) => xs[(((xs.size : Int) - 1) + (m : Int) * (-1)).toNat]?) = (List.range xs.size).map fun m => xs.toList.reverse.getD m default := by
    have : ∀ k, k ≤ xs.size → (List.range k).filterMap (fun (m : Nat) => xs[(((xs.size : Int) - 1) + (m : Int) * (-1)).toNat]?) = (List.range k).map fun m => xs.toList.reverse.getD m default := by
      intro k
      induction k with
      | zero => intro _; rfl
      | succ k ih =>
        intro hk
        rw [List.range_succ, List.filterMap_append, List.map_append, ih (by omega)]
        congr 1
        have h1 : (((xs.size : Int) - 1) + (k : Int) * (-1)).toNat = xs.size - 1 - k := by omega
        have h2 : xs.size - 1 - k < xs.size := by omega
        rw [List.filterMap_cons, h1]
        rw [Array.getElem?_eq_getElem h2]
        simp only [List.filterMap_nil, List.map_cons, List.map_nil]
        congr 1
        rw [List.getD_eq_getElem?_getD, List.getElem?_reverse (by simpa using (by omega : k < xs.size))]
        simp [h2]
    exact this xs.size (Nat.le_refl _)
  rw [e, List.getElem?_map]
  by_cases h : i < xs.size
  · rw [List.getElem?_range h]
    have h3 : i < xs.toList.reverse.length := by simpa using h
    rw [List.getElem?_eq_getElem h3]
    simp [List.getD_eq_getElem?_getD, List.getElem?_eq_getElem h3]
  · rw [List.getElem?_eq_none_iff.mpr (by simpa using h), List.getElem?_eq_none_iff.mpr (by simpa using h)]
    rfl
theorem getItem_tuple_rev {t sl : Addr} {items : Array Value} {vs : Value} {Q : Value → Shared → Prop} (ht : IsTup s.heap t items) (hs : s.heap.IsSliceOf sl .none .none vs) (ps : IsPart vs (some (-1)))
    (h : Q (.ref s.heap.objs.size) { s with heap := s.heap.push { cls := .type "tuple", data := .seq items.toList.reverse.toArray } })
    (hsz : items.size ≤ sizeLine) : wpAny (model prog w) A (getItem (.ref t) (.ref sl)) Q E s := by
  have htake : sizeOk (.seq items.toList.reverse.toArray) := by
    show items.toList.reverse.toArray.size ≤ sizeLine
    simpa using hsz
  obtain ⟨os, hos, hcs, hds⟩ := id hs
  have hTs : s.TypeIs (.ref sl) "slice" := ⟨os, hos, hcs⟩
  unfold getItem
  try with_reducible refine wpAny_holding ?_
  first | refine wpAny_bind (wpAny_pure ?_) | skip
  refine wpAny_bind (wpAny_sequenceKey ht.typeIs (by decide) ?_)
  refine wpAny_bind (wpAny_callSpecial?_slot (name := Str.ofString "__getitem__") ht.typeIs PyProof.Rows.slot_tuple_getitem
    (wpAny_call_entry PyProof.Rows.slot_tuple_getitem ht.typeIs entry_tuple_getitem ?_ (args_tuple_getitem _ _)))
  show wpAny _ _ (Builtin.Tuple.tupleItemsOf (.ref t) >>= _) _ _ s
  refine wpAny_bind (tupleItemsOf_ ht ?_)
  refine wpAny_bind (wpAny_typeOf hTs ?_)
  rw [if_pos (by decide)]
  refine wpAny_bind (sliceApplied_rev hs ps ?_)
  have hno : ¬ ((((items.size : Int) - 1) == 0 && (-1 : Int) == 1 && items.size == items.size) = true) := by
    simp
  show wpAny _ _ (if (((items.size : Int) - 1) == 0 && (-1 : Int) == 1 && items.size == items.size) = true then _ else _) _ _ s
  rw [if_neg hno, pick_rev]
  first
    | exact wpAny_bind (m := Builtin.Tuple.tupleExact _) (wpAny_newObj_type (wpAny_pure ⟨_, rfl, wpAny_pure h⟩) htake)
    | exact wpAny_bind (m := Builtin.Tuple.tupleExact _) (wpAny_newObj_type (wpAny_bind (wpAny_pure (wpAny_pure ⟨_, rfl, wpAny_pure h⟩))) htake)
    | exact wpAny_bind (wpAny_bind (m := Builtin.Tuple.tupleExact _) (wpAny_newObj_type (wpAny_pure (wpAny_pure ⟨_, rfl, wpAny_pure h⟩)) htake))
    | exact wpAny_bind (wpAny_bind (m := Builtin.Tuple.tupleExact _) (wpAny_newObj_type (wpAny_pure ⟨_, rfl, wpAny_pure h⟩) htake))
end
section
variable {X : Cx} {cl : ClM}
def tRevA (K : PySem.W.Frag) (te : TE) : TE := fun σ H Q => te σ H fun x H1 => (∃ a xs, x = .ref a ∧ SqL K H1 a xs ∧ ∀ p, H1 p = none → Q (.ref p) (upd H1 p (.lst xs.reverse))) ∨
  ∃ a xs, x = .ref a ∧ SqT K H1 a xs ∧ NewT H1 Q xs.reverse
theorem pe_revA {e : Expr} {te : TE} {k : Nat} {p1 p2 p3 pos : Pos} (he : PE X e te) : PE X (.Subscript e (.Slice none none (some (.UnaryOp .USub (.Constant (.int 1) k p1) p2)) p3) pos) (tRevA X.K te) := by
  refine ⟨fun pins s σ H Q I h => ?_⟩
  refine Subscript_ (thn (he.run pins s σ H _ I h) fun v s1 ⟨x, H1, I1, r1, q1⟩ => ?_)
  have go : ∀ (a : Addr), x = .ref a → (∀ (s4 : Shared) (vs : Value), IsPart vs (some (-1)) → Inv X pins σ H1 s4 → Inv X pins σ H1 { s4 with heap := s4.heap.push { cls := .type "slice", data := .fields #[.none, .none, vs] } } →
      wpAny (model X.prog X.w) X.A (subscriptTail e (.Slice none none (some (.UnaryOp .USub (.Constant (.int 1) k p1) p2)) p3) (.ref a) (.ref s4.heap.objs.size)) (EP X pins σ Q) X.xe { s4 with heap := s4.heap.push { cls := .type "slice", data := .fields #[.none, .none, vs] } }) →
      wpAny (model X.prog X.w) X.A (eval (.Slice none none (some (.UnaryOp .USub (.Constant (.int 1) k p1) p2)) p3) X.env) (fun u s' => wpAny (model X.prog X.w) X.A (subscriptTail e (.Slice none none (some (.UnaryOp .USub (.Constant (.int 1) k p1) p2)) p3) (.ref a) u) (EP X pins σ Q) X.xe s') X.xe s1 := by
    intro a ex fin
    have hst : PO X (some (.UnaryOp .USub (.Constant (.int 1) k p1) p2)) (tPart (tUn (rU fun i => .int (-i)) (tC (.int 1)))) := po_some (pe_un un_neg pe_int)
    refine wpAny_Slice (thn (po_none.run pins s1 σ H1 (fun o H2 => o = none ∧ H2 = H1) I1 ⟨rfl, rfl⟩) fun vl s2 ⟨l, H2, I2, pl, el, e2⟩ => ?_)
    subst el e2
    refine thn (po_none.run pins s2 σ H2 (fun o H3 => o = none ∧ H3 = H2) I2 ⟨rfl, rfl⟩) fun vu s3 ⟨u, H3, I3, pu, eu, e3⟩ => ?_
    subst eu e3
    refine thn (hst.run pins s3 σ H3 (fun o H4 => o = some (-1) ∧ H4 = H3) I3 ⟨1, rfl, -1, rfl, rfl, rfl⟩) fun vs s4 ⟨o, H4, I4, ps, eo, e4⟩ => ?_
    subst eo e4
    cases pl
    cases pu
    exact fin s4 vs ps I4 (I4.kept (t' := s4.toks) fun b ob q => Heap.get?_push_of_some _ q)
  rcases q1 with ⟨a, xs, ex, hx, q⟩ | ⟨a, xs, ex, hx, q⟩
  · subst ex
    cases r1
    refine go a rfl fun s4 vs ps I4 I5 => ?_
    obtain ⟨its, r, ht, hz⟩ := I5.list hx
    have hlen := r.length
    refine tail_any (ops := [.ref a, .ref s4.heap.objs.size]) ht.isList.typeIs (PySem.slot_list_getitem.lookup) ?_ (by with_unfolding_all rfl)
    refine wpAny_getItem_list_slice ht.isList (Heap.IsSliceOf.new _ .none .none vs) .none .none ps (by decide) ?_ (by rw [List.size_toArray]; omega)
    rw [PySem.W.krv_pick]
    refine ⟨.ref _, _, I5.laid (t' := s4.toks) (o := .lst xs.reverse) (fun b ob q => Heap.get?_push_of_some _ q) (Nat.le_refl _) ?_, rfl, q _ (I5.hok.fresh (Nat.le_refl _))⟩
    exact ⟨by rw [List.length_reverse]; exact hz, _, 0, r.reverse, Heap.get?_push_size _ rfl⟩
  · subst ex
    cases r1
    refine go a rfl fun s4 vs ps I4 I5 => ?_
    obtain ⟨its, r, ht, hz⟩ := I5.tuple hx
    have hlen := r.length
    refine tail_any (ops := [.ref a, .ref s4.heap.objs.size]) ht.typeIs (PyProof.Rows.slot_tuple_getitem.lookup) ?_ (by with_unfolding_all rfl)
    refine getItem_tuple_rev ht (Heap.IsSliceOf.new _ .none .none vs) ps ?_ (by rw [List.size_toArray]; omega)
    exact epX (s := { s4 with heap := s4.heap.push { cls := .type "slice", data := .fields #[.none, .none, vs] } }) (t' := s4.toks) I5 (by rw [List.length_reverse]; exact hz) r.reverse q
def gRev : D → Option D := fun d => match d with
  | .lst xs => some (.lst xs.reverse)
  | .tup xs => some (.tup xs.reverse)
  | _ => none
theorem me_rev {a : Expr} {m : Xp} {k : Nat} {p1 p2 p3 pos : Pos} (h : ME X cl a m) : ME X cl (.Subscript a (.Slice none none (some (.UnaryOp .USub (.Constant (.int 1) k p1) p2)) p3) pos) (eUn gRev m) := by
  obtain ⟨t, p, kk⟩ := h
  refine ⟨_, pe_revA p, fun σ H I env r env' Q g hm k' => ?_⟩
  unfold eUn at hm
  cases q : m env with
  | none => simp [q] at hm
  | some pr =>
    obtain ⟨r1, e1⟩ := pr
    simp only [q] at hm
    cases q2 : vw e1 r1 with
    | none => simp [q2] at hm
    | some d =>
      simp only [q2] at hm
      cases d with
      | lst xs =>
        simp only [gRev, Option.some.injEq, Prod.mk.injEq] at hm
        obtain ⟨rfl, rfl⟩ := hm
        refine kk σ H I env r1 e1 _ g q fun v I1 H1 g1 t1 rv => ?_
        obtain ⟨b, vs, rfl, hs, rr⟩ := (vw_ok g1 rv q2).lst g1.ex
        refine .inl ⟨b, vs, rfl, SqL.of hs, fun c hc => ?_⟩
        have al : Al I1 H1 (upd I1 c (.lst vs.reverse)) (upd H1 c (.lst vs.reverse)) := Al.new g1.ex hc
        exact k' _ _ _ (g1.al al) (t1.trans al.tr) (.lst upd_same (rr.reverse.mono al.ext))
      | tup xs =>
        simp only [gRev, Option.some.injEq, Prod.mk.injEq] at hm
        obtain ⟨rfl, rfl⟩ := hm
        refine kk σ H I env r1 e1 _ g q fun v I1 H1 g1 t1 rv => ?_
        obtain ⟨b, vs, rfl, hs, rr, _⟩ := (vw_ok g1 rv q2).tup g1.ex
        refine .inr ⟨b, vs, rfl, hs, fun c us hc => ?_⟩
        have al : Al I1 H1 (upd I1 c (xT us vs.reverse)) (upd H1 c (xT us vs.reverse)) := Al.new g1.ex hc
        exact k' _ _ _ (g1.al al) (t1.trans al.tr) (.tup .new (rr.reverse.mono al.ext))
      | _ => simp [gRev] at hm

/-! ### list(range(..)), tuple(range(..)) -/
abbrev Xr := MEnv → Option (Int × Int × MEnv)
def MR (X : Cx) (cl : ClM) (e : Expr) (m : Xr) : Prop := ∃ t, PRg X e t ∧ ∀ (σ : L2.St) (H I : Hp) (env : MEnv) (a b : Int) (env' : MEnv) (Q : Int → Int → Hp → Prop), Gd X.K cl I H σ env → m env = some (a, b, env') →
  (∀ I' H', Gd X.K cl I' H' σ env' → Tr (Fp σ env) I H (Fp σ env') I' H' → Q a b H') → t σ H Q
def rg1 (m : Xp) : Xr := fun env => match m env with
  | none => none
  | some (r, e1) => match vw e1 r with
    | some (.int n) => some (0, n, e1)
    | _ => none
def rg2 (m m' : Xp) : Xr := fun env => match m env with
  | none => none
  | some (r, e1) => match m' e1 with
    | none => none
    | some (r', e2) => match vw e2 r, vw e2 r' with
      | some (.int i), some (.int j) => some (i, j, e2)
      | _, _ => none
theorem mr_1 {e a : Expr} {m : Xp} (h : ME X cl a m) (hp : ∀ t, PE X a t → PRg X e (tRg1 t)) : MR X cl e (rg1 m) := by
  obtain ⟨t, p, k⟩ := h
  refine ⟨_, hp t p, fun σ H I env i j env' Q g hm kk => ?_⟩
  unfold rg1 at hm
  cases q : m env with
  | none => simp [q] at hm
  | some pr =>
    obtain ⟨r, e1⟩ := pr
    simp only [q] at hm
    cases q2 : vw e1 r with
    | none => simp [q2] at hm
    | some d =>
      cases d with
      | int n =>
        simp only [q2, Option.some.injEq, Prod.mk.injEq] at hm
        obtain ⟨rfl, rfl, rfl⟩ := hm
        refine k σ H I env r e1 _ g q fun v I1 H1 g1 t1 r1 => ?_
        have ev := (vw_ok g1 r1 q2).int
        subst ev
        exact ⟨_, rfl, kk I1 H1 g1 t1⟩
      | _ => simp [q2] at hm
theorem mr_2 {e a b : Expr} {m m' : Xp} (h : ME X cl a m) (h' : ME X cl b m') (hp : ∀ t u, PE X a t → PE X b u → PRg X e (tRg2 t u)) : MR X cl e (rg2 m m') := by
  obtain ⟨t, p, k⟩ := h
  obtain ⟨u, p', k'⟩ := h'
  refine ⟨_, hp t u p p', fun σ H I env i j env' Q g hm kk => ?_⟩
  unfold rg2 at hm
  cases q : m env with
  | none => simp [q] at hm
  | some pr =>
    obtain ⟨r, e1⟩ := pr
    simp only [q] at hm
    cases q' : m' e1 with
    | none => simp [q'] at hm
    | some pr' =>
      obtain ⟨r', e2⟩ := pr'
      simp only [q'] at hm
      cases q2 : vw e2 r with
      | none => simp [q2] at hm
      | some d =>
        cases d with
        | int n =>
          cases q3 : vw e2 r' with
          | none => simp [q2, q3] at hm
          | some d' =>
            cases d' with
            | int n' =>
              simp only [q2, q3, Option.some.injEq, Prod.mk.injEq] at hm
              obtain ⟨rfl, rfl, rfl⟩ := hm
              refine k σ H I env r e1 _ g q fun v I1 H1 g1 t1 r1 => ?_
              refine k' σ H1 I1 e1 r' e2 _ g1 q' fun v' I2 H2 g2 t2 r2 => ?_
              have ev := (vw_ok g2 (r1.mono t2.ext) q2).int
              have ev' := (vw_ok g2 r2 q3).int
              subst ev
              subst ev'
              exact ⟨_, _, rfl, rfl, kk I2 H2 g2 (t1.trans t2)⟩
            | _ => simp [q2, q3] at hm
        | _ => simp [q2] at hm
def okRg (a b : Int) : Bool := okR a && okR b && decide ((b - a).toNat ≤ 16777216)
theorem okRg_ok {a b : Int} (h : okRg a b = true) : RgOk a b := by
  unfold okRg at h
  rw [Bool.and_eq_true, Bool.and_eq_true] at h
  exact ⟨(okR_ok h.1.1).1, (okR_ok h.1.1).2, (okR_ok h.1.2).1, (okR_ok h.1.2).2, of_decide_eq_true h.2⟩
theorem rp_rg {K : PySem.W.Frag} {I : Hp} (a b : Int) : RpA K cl I (rgV a b) (rgD a (b - a).toNat) := by
  have : rgD a (b - a).toNat = ((List.range (b - a).toNat).map fun (i : Nat) => a + (i : Int)).map D.int := by
    unfold rgD
    rw [List.map_map]
    rfl
  rw [this]
  have h2 : rgV a b = ((List.range (b - a).toNat).map fun (i : Nat) => a + (i : Int)).map V.int := by
    unfold rgV
    rw [List.map_map]
    rfl
  rw [h2]
  exact RpA.ofInts _
def fLrg (m : Xr) : Xf := fun env => match m env with
  | none => none
  | some (a, b, e1) => if okRg a b then some (.lst (rgD a (b - a).toNat), e1) else none
theorem mf_lrg {e e2 : Expr} {m : Xr} (h : MR X cl e m) (hp : ∀ t, PRg X e t → PE X e2 (tLstRg t)) : MF X cl e2 (fLrg m) := by
  obtain ⟨t, p, k⟩ := h
  refine ⟨_, hp t p, fun σ H I env o env' Q g hm kk => ?_⟩
  unfold fLrg at hm
  cases q : m env with
  | none => simp [q] at hm
  | some pr =>
    obtain ⟨a, b, e1⟩ := pr
    simp only [q] at hm
    by_cases ok : okRg a b = true
    · rw [if_pos ok] at hm
      simp only [Option.some.injEq, Prod.mk.injEq] at hm
      obtain ⟨rfl, rfl⟩ := hm
      refine k σ H I env a b e1 _ g q fun I1 H1 g1 t1 => ⟨okRg_ok ok, fun c hc => ?_⟩
      have al : Al I1 H1 I1 (upd H1 c (.lst (rgV a b))) := Al.newH g1.ex hc
      exact kk c _ _ _ (g1.al al) (t1.trans al.tr) (g1.ex.free hc) upd_same (.lst (rp_rg a b)) (t1.back (.inr hc)) (nf_fresh g1 hc)
    · rw [if_neg ok] at hm
      cases hm
def eTrg (m : Xr) : Xp := fun env => match m env with
  | none => none
  | some (a, b, e1) => if okRg a b then some (.d (.tup (rgD a (b - a).toNat)), e1) else none
theorem me_trg {e e2 : Expr} {m : Xr} (h : MR X cl e m) (hp : ∀ t, PRg X e t → PE X e2 (tTupRgX t)) : ME X cl e2 (eTrg m) := by
  obtain ⟨t, p, k⟩ := h
  refine ⟨_, hp t p, fun σ H I env o env' Q g hm kk => ?_⟩
  unfold eTrg at hm
  cases q : m env with
  | none => simp [q] at hm
  | some pr =>
    obtain ⟨a, b, e1⟩ := pr
    simp only [q] at hm
    by_cases ok : okRg a b = true
    · rw [if_pos ok] at hm
      simp only [Option.some.injEq, Prod.mk.injEq] at hm
      obtain ⟨rfl, rfl⟩ := hm
      refine k σ H I env a b e1 _ g q fun I1 H1 g1 t1 => ⟨okRg_ok ok, fun c us hc => ?_⟩
      have al : Al I1 H1 (upd I1 c (xT us (rgV a b))) (upd H1 c (xT us (rgV a b))) := Al.new g1.ex hc
      exact kk _ _ _ (g1.al al) (t1.trans al.tr) (.tup .new ((rp_rg a b).mono al.ext))
    · rw [if_neg ok] at hm
      cases hm

/-! ### enumerate, zip -/
def enumD : Nat → List D → List D
  | _, [] => []
  | i, d :: ds => .tup [.int (i : Nat), d] :: enumD (i + 1) ds
theorem enumD_get : ∀ (ds : List D) (k i : Nat), (enumD k ds)[i]? = (ds[i]?).map fun d => D.tup [.int ((k + i : Nat) : Int), d]
  | [], _, _ => rfl
  | d :: ds, k, 0 => rfl
  | d :: ds, k, i + 1 => by
    show (enumD (k + 1) ds)[i]? = (ds[i]?).map _
    rw [enumD_get ds (k + 1) i, Nat.add_right_comm k 1 i]
    rfl
theorem rp_pair {K : PySem.W.Frag} {I1 H1 : Hp} {T : Addr} {us : Array Value} {v w : V} {d e : D} (ex : Same I1 H1) (hT : H1 T = none) (h1 : Rp K cl I1 v d) (h2 : Rp K cl I1 w e) : ∃ I2, Al I1 H1 I2 (upd H1 T (xT us [v, w])) ∧ Rp K cl I2 (.ref T) (.tup [d, e]) := by
  have al : Al I1 H1 (upd I1 T (xT us [v, w])) (upd H1 T (xT us [v, w])) := Al.new ex hT
  exact ⟨_, al, .tup .new (.cons (h1.mono al.ext) (.cons (h2.mono al.ext) .nil))⟩
theorem iteT_ok {K : PySem.W.Frag} {I : Hp} {a : Addr} {vs : List V} {ds : List D} (hs : SqT K I a vs) (hr : RpA K cl I vs ds) : ItOk K cl I (IteT K a) (enumD 0 ds) := by
  intro i I1 H1 s1 s2
  have hs1 : SqT K H1 a vs := same_t (s1.trans s2) hs
  rw [enumD_get]
  refine ⟨fun hn => ⟨vs, hs1, ?_⟩, fun d hd => ?_⟩
  · rw [hr.length]
    cases q : ds[i]? with
    | none => exact List.getElem?_eq_none_iff.mp q
    | some d => rw [q] at hn; cases hn
  · cases q : ds[i]? with
    | none => rw [q] at hd; cases hd
    | some d0 =>
      rw [q] at hd
      cases hd
      obtain ⟨v, hv, rv⟩ := hr.get q
      refine ⟨⟨vs, v, hs1, hv⟩, fun x H2 ⟨T, us, x', e1, hT, e2, e3⟩ => ?_⟩
      subst e1
      subst e2
      have e4 := e3 vs hs1
      rw [hv] at e4
      cases e4
      rw [Nat.zero_add]
      exact rp_pair s2 hT (.int _) (rv.mono s1)
def iEn (ms : Xa) : Xi := fun env => match ms env with
  | some ([r], e1) => match esc e1 r with
    | some (.tup ds, e2) => some (enumD 0 ds, e2)
    | _ => none
  | _ => none
theorem mi_enum {e a : Expr} {tg : Expr} {ms : Xa} (h : MA X cl [a] ms) (hp : ∀ ta, PA X [a] ta → PI X tg e (iEnumA X.K ta)) : MI X cl tg e (iEn ms) := by
  obtain ⟨t, p, k⟩ := h
  refine ⟨_, hp t p, fun σ H I env ds env' Rr g hm kk => ?_⟩
  unfold iEn at hm
  cases q : ms env with
  | none => simp [q] at hm
  | some pr =>
    obtain ⟨rs, e1⟩ := pr
    rcases rs with _ | ⟨r, _ | ⟨r', rs⟩⟩
    · simp [q] at hm
    · simp only [q] at hm
      cases q2 : esc e1 r with
      | none => simp [q2] at hm
      | some p2 =>
        obtain ⟨d, e2⟩ := p2
        refine k σ H I env [r] e1 _ g q fun vs I1 H1 g1 t1 r1 => ?_
        cases r1 with
        | cons rv rn =>
          cases rn
          obtain ⟨I2, g2, t2, r2⟩ := esc_ok g1 rv q2
          cases d with
          | tup ds' =>
            simp only [q2, Option.some.injEq, Prod.mk.injEq] at hm
            obtain ⟨rfl, rfl⟩ := hm
            cases r2 with
            | tup hs hr => exact ⟨_, _, rfl, .inr ⟨(hs.mono g2.ex).sq, kk _ I2 H1 g2 (t1.trans t2) (iteT_ok hs.sq hr)⟩⟩
          | _ => simp [q2] at hm
    · simp [q] at hm
def zipD : List D → List D → List D
  | x :: xs, y :: ys => .tup [x, y] :: zipD xs ys
  | _, _ => []
theorem zipD_get : ∀ (xs ys : List D) (i : Nat), (zipD xs ys)[i]? = match xs[i]?, ys[i]? with | some x, some y => some (.tup [x, y]) | _, _ => none
  | [], _, i => by simp [zipD]
  | x :: xs, [], i => by
    simp only [zipD, List.getElem?_nil]
    cases (x :: xs)[i]? <;> rfl
  | x :: xs, y :: ys, 0 => rfl
  | x :: xs, y :: ys, i + 1 => by
    show (zipD xs ys)[i]? = _
    rw [zipD_get xs ys i]
    rfl
def iZp (ms : Xa) : Xi := fun env => match ms env with
  | some ([r, r'], e1) => match escL e1 [r, r'] with
    | some ([.lst xs, .lst ys], e2) => some (zipD xs ys, e2)
    | some ([.tup xs, .tup ys], e2) => some (zipD xs ys, e2)
    | _ => none
  | _ => none
/-! ### methods of a slot's own list -/
def gMt := List D → List D → Option (D × List D)
def MtL (X : Cx) (cl : ClM) (r : V → List V → Hp → VK → Prop) (g : gMt) : Prop := ∀ (I H : Hp) (p : Addr) (vs ws : List V) (xs args : List D) (res : D) (xs' : List D) (Q : VK), I p = none → H p = some (.lst vs) → RpA X.K cl I vs xs → RpA X.K cl I ws args → g xs args = some (res, xs') →
  (∀ v vs', Rp X.K cl I v res → RpA X.K cl I vs' xs' → Q v (upd H p (.lst vs'))) → r (.ref p) ws H Q
theorem own_upd {K : PySem.W.Frag} {I H : Hp} {σ : L2.St} {env : MEnv} {i : Nat} {p : Addr} {ho : HO} {o o' : SO} (g : Gd K cl I H σ env) (hi : env[i]? = some (.own o)) (hp : σ[i]? = some (some (.ref p))) (so : SoOk K cl I p ho o') :
    Gd K cl I (upd H p ho) σ (env.set i (.own o')) ∧ Tr (Fp σ env) I H (Fp σ (env.set i (.own o'))) I (upd H p ho) := by
  obtain ⟨p', ho0, ep, ip, hp0, so0⟩ := g.ok i _ _ hi hp
  cases ep
  have t : Tr (fun b => b = p) I H (fun _ => False) I (upd H p ho) := ⟨Same.refl _, fun b u h n => by rw [upd_ne n]; exact h, fun _ _ _ h => h, fun _ h => h.elim, fun b hb => by
    by_cases z : b = p
    · rw [z, upd_same]
      exact fun w => nomatch w
    · rw [upd_ne z]
      exact hb⟩
  have ex : Same I (upd H p ho) := fun b u hb => by
    rw [upd_ne (ne_of_none hb ip)]
    exact g.ex b u hb
  obtain ⟨g2, f2⟩ := g.setSlot (s := .own o') hi hp t ex ⟨p, ho, rfl, ip, upd_same, so⟩
  have fpp : Fp σ env p := ⟨i, o, hi, hp⟩
  exact ⟨g2, ⟨t.ext, fun b u h nf => t.frame b u h fun z => nf (by rw [z]; exact fpp), fun b hb nf h => h, fun b h => .inl (f2 b h), t.dom⟩⟩
def ownL (env : MEnv) (i : Nat) : Option (List D) := match env[i]? with
  | some (.own (.lst xs)) => some xs
  | _ => none
theorem ownL_eq {env : MEnv} {i : Nat} {xs : List D} (h : ownL env i = some xs) : env[i]? = some (.own (.lst xs)) := by
  unfold ownL at h
  split at h
  · rename_i q
    rw [q, Option.some.inj h]
  · cases h
def eMt (g : gMt) (i : Nat) (ms : Xa) : Xp := fun env => match ownL env i with
  | none => none
  | some _ => match ms env with
    | none => none
    | some (rs, e1) => match escL e1 rs with
      | none => none
      | some (args, e2) => match ownL e2 i with
        | none => none
        | some xs => match g xs args with
          | none => none
          | some (res, xs') => some (.d res, e2.set i (.own (.lst xs')))
theorem me_mt {e : Expr} {es : List Expr} {i : Nat} {g : gMt} {ms : Xa} {r : V → List V → Hp → VK → Prop} (hr : MtL X cl r g) (hm : MA X cl es ms) (hp : ∀ t, PA X es t → PE X e (tBM X.K "list" r (tVar i) t)) : ME X cl e (eMt g i ms) := by
  obtain ⟨t, p, k⟩ := hm
  refine ⟨_, hp t p, fun σ H I env r' env' Q gd hme kk => ?_⟩
  unfold eMt at hme
  cases q0 : ownL env i with
  | none => simp [q0] at hme
  | some xs0 =>
    simp only [q0] at hme
    cases q : ms env with
    | none => simp [q] at hme
    | some pr =>
      obtain ⟨rs, e1⟩ := pr
      simp only [q] at hme
      cases q2 : escL e1 rs with
      | none => simp [q2] at hme
      | some pr2 =>
        obtain ⟨args, e2⟩ := pr2
        simp only [q2] at hme
        cases q3 : ownL e2 i with
        | none => simp [q3] at hme
        | some xs =>
          simp only [q3] at hme
          cases q4 : g xs args with
          | none => simp [q4] at hme
          | some pr4 =>
            obtain ⟨res, xs'⟩ := pr4
            simp only [q4, Option.some.injEq, Prod.mk.injEq] at hme
            obtain ⟨rfl, rfl⟩ := hme
            have w0 := ownL_eq q0
            have hil : i < σ.length := by
              rw [gd.len]
              exact (List.getElem?_eq_some_iff.mp w0).1
            obtain ⟨ov, hov⟩ : ∃ ov, σ[i]? = some ov := ⟨σ[i], List.getElem?_eq_getElem hil⟩
            obtain ⟨a, ho, ea, ia, ha, so⟩ := gd.ok i _ ov w0 hov
            subst ea
            cases so with
            | lst r0 =>
              refine ⟨.ref a, hov, .inl ⟨rfl, _, SqL.of ha⟩, ?_⟩
              refine k σ H I env rs e1 _ gd q fun ws I1 H1 g1 t1 r1 => ?_
              obtain ⟨I2, g2, t2, r2⟩ := escL_ok g1 r1 q2
              have w3 := ownL_eq q3
              obtain ⟨a', ho', ea', ia', ha', so'⟩ := g2.ok i _ _ w3 hov
              cases ea'
              cases so' with
              | lst r3 =>
                refine hr I2 H1 a _ ws xs args res xs' Q ia' ha' r3 r2 q4 fun v vs' rv rvs => ?_
                obtain ⟨g4, t4⟩ := own_upd (o' := .lst xs') g2 w3 hov (.lst rvs)
                exact kk v I2 _ g4 ((t1.trans t2).trans t4) rv
theorem me_mt0 {e : Expr} {i : Nat} {g : gMt} {r : V → List V → Hp → VK → Prop} (hr : MtL X cl r g) (hp : PE X e (tBM0 X.K "list" r (tVar i))) : ME X cl e (eMt g i aNil) := by
  refine ⟨_, hp, fun σ H I env r' env' Q gd hme kk => ?_⟩
  unfold eMt at hme
  cases q0 : ownL env i with
  | none => simp [q0] at hme
  | some xs =>
    simp only [q0, aNil, escL] at hme
    cases q4 : g xs [] with
    | none => simp [q4] at hme
    | some pr4 =>
      obtain ⟨res, xs'⟩ := pr4
      simp only [q4, Option.some.injEq, Prod.mk.injEq] at hme
      obtain ⟨rfl, rfl⟩ := hme
      have w0 := ownL_eq q0
      have hil : i < σ.length := by
        rw [gd.len]
        exact (List.getElem?_eq_some_iff.mp w0).1
      obtain ⟨ov, hov⟩ : ∃ ov, σ[i]? = some ov := ⟨σ[i], List.getElem?_eq_getElem hil⟩
      obtain ⟨a, ho, ea, ia, ha, so⟩ := gd.ok i _ ov w0 hov
      subst ea
      cases so with
      | lst r0 =>
        refine ⟨.ref a, hov, .inl ⟨rfl, _, SqL.of ha⟩, ?_⟩
        refine hr I H a _ [] xs [] res xs' Q ia ha r0 .nil q4 fun v vs' rv rvs => ?_
        obtain ⟨g4, t4⟩ := own_upd (o' := .lst xs') gd w0 hov (.lst rvs)
        exact kk v I _ g4 t4 rv
def gAppend : gMt := fun xs args => match args with
  | [d] => if xs.length < 16777216 then some (.non, xs ++ [d]) else none
  | _ => none
theorem ml_append : MtL X cl rAppend gAppend := by
  intro I H p vs ws xs args res xs' Q ip hp r ra hg k
  unfold gAppend at hg
  split at hg
  · split at hg
    · rename_i hlt
      simp only [Option.some.injEq, Prod.mk.injEq] at hg
      obtain ⟨rfl, rfl⟩ := hg
      cases ra with
      | cons h t =>
        cases t
        exact ⟨p, vs, _, rfl, rfl, hp, by rw [r.length]; exact hlt, k _ _ .non (r.append (.cons h .nil))⟩
    · cases hg
  · cases hg
def gPop : gMt := fun xs args => match args with
  | [] => match xs[xs.length - 1]? with
    | some y => some (y, xs.dropLast)
    | none => none
  | _ => none
theorem RpA.dropLast {K : PySem.W.Frag} {I : Hp} : ∀ {vs : List V} {ds : List D}, RpA K cl I vs ds → RpA K cl I vs.dropLast ds.dropLast
  | _, _, .nil => .nil
  | _, _, .cons h .nil => .nil
  | _, _, .cons h (.cons h2 t) => .cons h (RpA.dropLast (.cons h2 t))
theorem ml_pop : MtL X cl rPop gPop := by
  intro I H p vs ws xs args res xs' Q ip hp r ra hg k
  unfold gPop at hg
  split at hg
  · cases q : xs[xs.length - 1]? with
    | none => simp [q] at hg
    | some y =>
      simp only [q, Option.some.injEq, Prod.mk.injEq] at hg
      obtain ⟨rfl, rfl⟩ := hg
      cases ra
      obtain ⟨v, hv, rv⟩ := r.get q
      exact ⟨p, vs, v, rfl, rfl, hp, by rw [r.length]; exact hv, k _ _ rv r.dropLast⟩
  · cases hg
def gPopAt : gMt := fun xs args => match args with
  | [.int i] => if okK i = false then none else match ixN xs.length i with
    | some j => match xs[j]? with
      | some y => some (y, xs.eraseIdx j)
      | none => none
    | none => none
  | _ => none
theorem ml_popAt : MtL X cl rPopAt gPopAt := by
  intro I H p vs ws xs args res xs' Q ip hp r ra hg k
  unfold gPopAt at hg
  split at hg
  · rename_i i
    cases q0 : okK i with
    | false => simp [q0] at hg
    | true =>
      simp only [q0] at hg
      cases q : ixN xs.length i with
      | none => simp [q] at hg
      | some j =>
        simp only [q] at hg
        cases q2 : xs[j]? with
        | none => simp [q2] at hg
        | some y =>
          simp only [q2] at hg
          simp at hg
          obtain ⟨rfl, rfl⟩ := hg
          cases ra with
          | cons h t =>
            cases t
            cases h
            obtain ⟨v, hv, rv⟩ := r.get q2
            obtain ⟨h1, h2, h3, h4⟩ := ixN_seq q
            exact ⟨p, vs, i, j, v, rfl, rfl, hp, (okK_ok q0).1, (okK_ok q0).2, by rw [r.length]; exact h1, hv, k _ _ rv (r.eraseIdx j)⟩
  · cases hg
end
end MP
set_option Elab.async false
set_option linter.all false
set_option maxRecDepth 100000
set_option maxHeartbeats 4000000
namespace MP
open PySem PySem.Spec PyProof.Rows L2
section
variable {X : Cx} {cl : ClM} {R : Nat → Bool}
/-! ### xs[i] = e -/
def sSetIx (i : Nat) (me mi : Xp) : Xs := fun env => match me env with
  | none => none
  | some (r, e1) => match esc e1 r with
    | none => none
    | some (d, e2) => match ownL e2 i with
      | none => none
      | some _ => match mi e2 with
        | none => none
        | some (ri, e3) => match vw e3 ri with
          | some (.int k) => match ownL e3 i with
            | none => none
            | some xs => match ixN xs.length k with
              | none => none
              | some j => some (.nx, e3.set i (.own (.lst (xs.set j d))))
          | _ => none
theorem ms_setIx {st : Stmt} {e x : Expr} {i : Nat} {me mi : Xp} (he : ME X cl e me) (hi : ME X cl x mi) (hp : ∀ te ti, PE X e te → PE X x ti → PS X st (L2.tAsg te (L2.gSub (tVar i) ti rSetL))) : MS X cl R st (sSetIx i me mi) := by
  obtain ⟨te, pe, ke⟩ := he
  obtain ⟨ti, pi, ki⟩ := hi
  refine ⟨_, hp te ti pe pi, fun σ H I env fl env' Dn g hm kk => ?_⟩
  unfold sSetIx at hm
  cases q1 : me env with
  | none => simp [q1] at hm
  | some p1 =>
    obtain ⟨r, e1⟩ := p1
    simp only [q1] at hm
    cases q2 : esc e1 r with
    | none => simp [q2] at hm
    | some p2 =>
      obtain ⟨d, e2⟩ := p2
      simp only [q2] at hm
      cases q0 : ownL e2 i with
      | none => simp [q0] at hm
      | some xs0 =>
        simp only [q0] at hm
        cases q3 : mi e2 with
        | none => simp [q3] at hm
        | some p3 =>
          obtain ⟨ri, e3⟩ := p3
          simp only [q3] at hm
          cases q4 : vw e3 ri with
          | none => simp [q4] at hm
          | some dk =>
            cases dk with
            | int k =>
              simp only [q4] at hm
              cases q5 : ownL e3 i with
              | none => simp [q5] at hm
              | some xs =>
                simp only [q5] at hm
                cases q6 : ixN xs.length k with
                | none => simp [q6] at hm
                | some j =>
                  simp only [q6, Option.some.injEq, Prod.mk.injEq] at hm
                  obtain ⟨rfl, rfl⟩ := hm
                  refine ke σ H I env r e1 _ g q1 fun v I1 H1 g1 t1 r1 => ?_
                  obtain ⟨I2, g2, t2, r2⟩ := esc_ok g1 r1 q2
                  have w0 := ownL_eq q0
                  have hil : i < σ.length := by
                    rw [g2.len]
                    exact (List.getElem?_eq_some_iff.mp w0).1
                  obtain ⟨ov, hov⟩ : ∃ ov, σ[i]? = some ov := ⟨σ[i], List.getElem?_eq_getElem hil⟩
                  obtain ⟨a, ho, ea, ia, ha, so⟩ := g2.ok i _ ov w0 hov
                  subst ea
                  refine ⟨.ref a, hov, ?_⟩
                  refine ki σ H1 I2 e2 ri e3 _ g2 q3 fun u I3 H3 g3 t3 r3 => ?_
                  have w5 := ownL_eq q5
                  obtain ⟨a', ho', ea', ia', ha', so'⟩ := g3.ok i _ _ w5 hov
                  cases ea'
                  cases so' with
                  | lst r5 =>
                    have eu := (vw_ok g3 r3 q4).int
                    subst eu
                    refine ⟨a, _, k, j, rfl, rfl, ha', by rw [r5.length]; exact q6, ?_⟩
                    obtain ⟨g4, t4⟩ := own_upd (o' := .lst (xs.set j d)) g3 w5 hov (.lst (r5.set (r2.mono t3.ext) j))
                    exact kk σ I3 _ g4 (((t1.trans t2).trans t3).trans t4) (fun _ _ => rfl)
            | _ => simp [q4] at hm

/-! ### fields -/
/-- what the top tells of a class and its fields -/
structure ClsOk (K : PySem.W.Frag) (cl : ClM) (c : Nat) (C : Addr) (ns : List Str) : Prop where
  at_ : cl c = some (C, ns)
  cls : Cls K C
  nd : ns.Nodup
  no : ∀ f ∈ ns, NoAttr K C f
  few : ns.length < 1000
theorem lookup_zip : ∀ {ns : List Str} {vs : List V} {j : Nat} {f : Str} {v : V}, ns.Nodup → ns[j]? = some f → vs[j]? = some v → (ns.zip vs).lookup f = some v
  | [], _, _, _, _, _, h, _ => by simp at h
  | n :: ns, [], j, _, _, _, _, h => by simp at h
  | n :: ns, w :: vs, 0, f, v, _, h1, h2 => by
    simp at h1 h2
    subst h1
    subst h2
    rw [List.zip_cons_cons, List.lookup_cons]
    simp
  | n :: ns, w :: vs, j + 1, f, v, nd, h1, h2 => by
    have nd' := List.nodup_cons.mp nd
    have h1' : ns[j]? = some f := by simpa using h1
    have hne : (f == n) = false := by
      refine beq_eq_false_iff_ne.mpr fun e => nd'.1 ?_
      rw [← e]
      exact List.mem_of_getElem? h1'
    rw [List.zip_cons_cons, List.lookup_cons, hne]
    exact lookup_zip nd'.2 h1' (by simpa using h2)
theorem lookup_fs {ns : List Str} {vs : List V} {j : Nat} {f : Str} {v : V} (nd : ns.Nodup) (hle : vs.length ≤ ns.length) (h1 : ns[j]? = some f) (h2 : vs[j]? = some v) : ((ns.take vs.length).zip vs).lookup f = some v := by
  have hj : j < vs.length := (List.getElem?_eq_some_iff.mp h2).1
  exact lookup_zip (nd.sublist (List.take_sublist _ _)) (by rw [List.getElem?_take_of_lt hj]; exact h1) h2
def gFld (c j : Nat) : D → Option D := fun d => match d with
  | .obj c' fs => if c' = c then fs[j]? else none
  | _ => none
theorem Vw.obj {K : PySem.W.Frag} {I H : Hp} {v : V} {c : Nat} {fs : List D} {C : Addr} {ns : List Str} (e : Same I H) (h : Vw K cl I H v (.obj c fs)) (hc : cl c = some (C, ns)) :
    ∃ a dx vs, v = .ref a ∧ H a = some (.ins C dx ((ns.take vs.length).zip vs)) ∧ vs.length ≤ ns.length ∧ RpA K cl I vs fs := by
  rcases h with h | ⟨p, ho, o, rfl, ip, hp, so, ed⟩
  · cases h with
    | obj c' h' l r =>
      rw [hc] at c'
      cases c'
      exact ⟨_, _, _, rfl, e _ _ h', l, r⟩
  · cases so with
    | ins c' l r =>
      cases ed
      rw [hc] at c'
      cases c'
      exact ⟨p, _, _, rfl, hp, l, r⟩
    | lst r => cases ed
    | dK k r => cases ed
    | dT nk k r => cases ed
theorem me_fld {e o : Expr} {f : Str} {m : Xp} {c j : Nat} {C : Addr} {ns : List Str} (T : ClsOk X.K cl c C ns) (hf : ns[j]? = some f) (h : ME X cl o m) (hp : ∀ t, PE X o t → PE X e (tFld X.K t f)) : ME X cl e (eUn (gFld c j) m) := by
  obtain ⟨t, p, k⟩ := h
  refine ⟨_, hp t p, fun σ H I env r env' Q g hm kk => ?_⟩
  unfold eUn at hm
  cases q : m env with
  | none => simp [q] at hm
  | some pr =>
    obtain ⟨r1, e1⟩ := pr
    simp only [q] at hm
    cases q2 : vw e1 r1 with
    | none => simp [q2] at hm
    | some d =>
      simp only [q2] at hm
      cases d with
      | obj c' fs =>
        unfold gFld at hm
        by_cases ec : c' = c
        · simp only [ec, if_true] at hm
          subst ec
          cases q3 : fs[j]? with
          | none => simp [q3] at hm
          | some z =>
            simp only [q3, Option.some.injEq, Prod.mk.injEq] at hm
            obtain ⟨rfl, rfl⟩ := hm
            refine k σ H I env r1 e1 _ g q fun v I1 H1 g1 t1 rv => ?_
            obtain ⟨a, dx, vs, rfl, ha, hle, rr⟩ := (vw_ok g1 rv q2).obj g1.ex T.at_
            obtain ⟨u, hu, ru⟩ := rr.get q3
            exact ⟨a, C, dx, _, u, rfl, ha, T.cls, T.no f (List.mem_of_getElem? hf), lookup_fs T.nd hle hf hu, kk u I1 H1 g1 t1 ru⟩
        · simp [ec] at hm
      | _ => simp [gFld] at hm
/-! self.f = e, self a slot's own object -/
def ownI (env : MEnv) (i : Nat) : Option (Nat × List D) := match env[i]? with
  | some (.own (.ins c fs)) => some (c, fs)
  | _ => none
theorem ownI_eq {env : MEnv} {i c : Nat} {fs : List D} (h : ownI env i = some (c, fs)) : env[i]? = some (.own (.ins c fs)) := by
  unfold ownI at h
  split at h
  · rename_i q
    cases Option.some.inj h
    exact q
  · cases h
def sFldSet (i c j : Nat) (me : Xp) : Xs := fun env => match me env with
  | none => none
  | some (r, e1) => match esc e1 r with
    | none => none
    | some (d, e2) => match ownI e2 i with
      | none => none
      | some (c', fs) => if c' = c then (if j < fs.length then some (.nx, e2.set i (.own (.ins c (fs.set j d)))) else if j = fs.length then some (.nx, e2.set i (.own (.ins c (fs ++ [d])))) else none) else none
theorem putF_set : ∀ {ns : List Str} {vs : List V} {j : Nat} {f : Str} {v : V}, ns.Nodup → ns[j]? = some f → j < vs.length → putF f v (ns.zip vs) = ns.zip (vs.set j v)
  | [], _, _, _, _, _, h, _ => by simp at h
  | n :: ns, [], j, _, _, _, _, h => by simp at h
  | n :: ns, w :: vs, 0, f, v, _, h1, _ => by
    simp at h1
    subst h1
    rw [List.zip_cons_cons]
    show (if n = n then (n, v) :: ns.zip vs else _) = _
    rw [if_pos rfl]
    rfl
  | n :: ns, w :: vs, j + 1, f, v, nd, h1, h2 => by
    have nd' := List.nodup_cons.mp nd
    have h1' : ns[j]? = some f := by simpa using h1
    have hne : ¬ n = f := fun e => nd'.1 (by rw [e]; exact List.mem_of_getElem? h1')
    rw [List.zip_cons_cons]
    show (if n = f then _ else (n, w) :: putF f v (ns.zip vs)) = _
    rw [if_neg hne, putF_set nd'.2 h1' (by simpa using h2)]
    rfl
theorem putF_new : ∀ {ns : List Str} {vs : List V} {f : Str} {v : V}, ns.Nodup → ns[vs.length]? = some f → putF f v ((ns.take vs.length).zip vs) = (ns.take (vs.length + 1)).zip (vs ++ [v])
  | [], vs, _, _, _, h => by simp at h
  | n :: ns, [], f, v, nd, h => by
    simp at h
    subst h
    rfl
  | n :: ns, w :: vs, f, v, nd, h => by
    have nd' := List.nodup_cons.mp nd
    have h' : ns[vs.length]? = some f := by simpa using h
    have hne : ¬ n = f := fun e => nd'.1 (by rw [e]; exact List.mem_of_getElem? h')
    show (if n = f then _ else (n, w) :: putF f v ((ns.take vs.length).zip vs)) = _
    rw [if_neg hne, putF_new nd'.2 h']
    rfl
theorem ms_fldSet {st : Stmt} {e : Expr} {f : Str} {me : Xp} {i c j : Nat} {C : Addr} {ns : List Str} (T : ClsOk X.K cl c C ns) (hf : ns[j]? = some f) (he : ME X cl e me) (hp : ∀ te, PE X e te → PS X st (sFld X.K (tVar i) te f)) : MS X cl R st (sFldSet i c j me) := by
  obtain ⟨te, pe, ke⟩ := he
  refine ⟨_, hp te pe, fun σ H I env fl env' Dn g hm kk => ?_⟩
  unfold sFldSet at hm
  cases q1 : me env with
  | none => simp [q1] at hm
  | some p1 =>
    obtain ⟨r, e1⟩ := p1
    simp only [q1] at hm
    cases q2 : esc e1 r with
    | none => simp [q2] at hm
    | some p2 =>
      obtain ⟨d, e2⟩ := p2
      simp only [q2] at hm
      cases q0 : ownI e2 i with
      | none => simp [q0] at hm
      | some p0 =>
        obtain ⟨c', fs⟩ := p0
        simp only [q0] at hm
        by_cases ec : c' = c
        · rw [if_pos ec] at hm
          subst ec
          refine ke σ H I env r e1 _ g q1 fun v I1 H1 g1 t1 r1 => ?_
          obtain ⟨I2, g2, t2, r2⟩ := esc_ok g1 r1 q2
          have w0 := ownI_eq q0
          have hil : i < σ.length := by
            rw [g2.len]
            exact (List.getElem?_eq_some_iff.mp w0).1
          obtain ⟨ov, hov⟩ : ∃ ov, σ[i]? = some ov := ⟨σ[i], List.getElem?_eq_getElem hil⟩
          obtain ⟨a, ho, ea, ia, ha, so⟩ := g2.ok i _ ov w0 hov
          subst ea
          cases so with
          | ins hc hle rr =>
            rename_i C' dx ns' vs
            rw [T.at_] at hc
            cases hc
            have hlen := rr.length
            have hjn : j < ns.length := (List.getElem?_eq_some_iff.mp hf).1
            have hfew : ((ns.take vs.length).zip vs).length < 1000 := by
              rw [List.length_zip, List.length_take]
              have := T.few
              omega
            refine ⟨.ref a, hov, a, C, dx, _, rfl, ha, T.cls, T.no f (List.mem_of_getElem? hf), hfew, ?_⟩
            by_cases hj : j < fs.length
            · rw [if_pos hj] at hm
              simp only [Option.some.injEq, Prod.mk.injEq] at hm
              obtain ⟨rfl, rfl⟩ := hm
              have ep : putF f v ((ns.take vs.length).zip vs) = (ns.take (vs.set j v).length).zip (vs.set j v) := by
                rw [List.length_set]
                refine putF_set (T.nd.sublist (List.take_sublist _ _)) ?_ (by omega)
                rw [List.getElem?_take_of_lt (by omega)]
                exact hf
              rw [ep]
              obtain ⟨g4, t4⟩ := own_upd (o' := .ins c' (fs.set j d)) g2 w0 hov (.ins (dx := dx) (vs := vs.set j v) T.at_ (by rw [List.length_set]; exact hle) (rr.set r2 j))
              exact kk σ I2 _ g4 ((t1.trans t2).trans t4) (fun _ _ => rfl)
            · rw [if_neg hj] at hm
              by_cases hj2 : j = fs.length
              · rw [if_pos hj2] at hm
                simp only [Option.some.injEq, Prod.mk.injEq] at hm
                obtain ⟨rfl, rfl⟩ := hm
                have ej : j = vs.length := by omega
                have ep : putF f v ((ns.take vs.length).zip vs) = (ns.take (vs ++ [v]).length).zip (vs ++ [v]) := by
                  rw [List.length_append]
                  exact putF_new T.nd (by rw [← ej]; exact hf)
                rw [ep]
                obtain ⟨g4, t4⟩ := own_upd (o' := .ins c' (fs ++ [d])) g2 w0 hov (.ins (dx := dx) (vs := vs ++ [v]) T.at_ (by rw [List.length_append]; show vs.length + 1 ≤ ns.length; omega) (rr.append (.cons r2 .nil)))
                exact kk σ I2 _ g4 ((t1.trans t2).trans t4) (fun _ _ => rfl)
              · rw [if_neg hj2] at hm
                cases hm
        · rw [if_neg ec] at hm
          cases hm
end

/-! ### making an object -/
section
variable {X : Cx} {cl : ClM} {e : Expr} {es : List Expr} {R : Nat → Bool} {f : Fn} {ms : Xa} {np : Nat}
/-- C(args): __init__ over the new object -/
def fMake (c : Nat) (f : Fn) (ms : Xa) : Xf := fun env => match ms env with
  | none => none
  | some (rs, e1) => match escL e1 rs with
    | none => none
    | some (ds, e2) => match f (.own (.ins c []) :: ds.map .val) with
      | some (.d .non, .own o :: _) => some (o, e2)
      | _ => none
theorem mf_make {c : Nat} {C : Addr} {ns : List Str} (T : cl c = some (C, ns)) (hR : R 0 = true) (hm : MA X cl es ms) (hp : ∀ t, PA X es t → PE X e (tMake C (spG X.K cl np R f) [] E0 t)) (hnp : ∀ env rs e1, ms env = some (rs, e1) → rs.length + 1 = np) : MF X cl e (fMake c f ms) := by
  obtain ⟨t, p, kk⟩ := hm
  refine ⟨_, hp t p, fun σ H I env r env' Q g hme k' => ?_⟩
  unfold fMake at hme
  cases q1 : ms env with
  | none => simp [q1] at hme
  | some p1 =>
    obtain ⟨rs, e1⟩ := p1
    simp only [q1] at hme
    cases q2 : escL e1 rs with
    | none => simp [q2] at hme
    | some p2 =>
      obtain ⟨ds, e2⟩ := p2
      simp only [q2] at hme
      cases q3 : f (.own (.ins c []) :: ds.map .val) with
      | none => simp [q3] at hme
      | some p3 =>
        obtain ⟨rv, outs⟩ := p3
        cases rv with
        | o o => simp [q3] at hme
        | d dn =>
          cases dn with
          | non =>
            rcases outs with _ | ⟨s, outs⟩
            · simp [q3] at hme
            · cases s with
              | none => simp [q3] at hme
              | val d => simp [q3] at hme
              | own o =>
                simp only [q3, Option.some.injEq, Prod.mk.injEq] at hme
                obtain ⟨rfl, rfl⟩ := hme
                refine kk σ H I env rs e1 _ g q1 fun vs I1 H1 g1 t1 r1 => ?_
                obtain ⟨I2, g2, t2, r2⟩ := escL_ok g1 r1 q2
                intro x dx hx hdx hne
                show spG X.K cl np R f (.ref x :: (vs ++ [])) _ _ E0
                rw [List.append_nil]
                have e0 : Same H1 (upd (upd H1 dx (.own x)) x (.ins C dx [])) := fun b u hb => by
                  rw [upd_ne (ne_of_none hb hx), upd_ne (ne_of_none hb hdx)]
                  exact hb
                have exI : Same I2 (upd (upd H1 dx (.own x)) x (.ins C dx [])) := g2.ex.trans e0
                have ix : I2 x = none := g2.ex.free hx
                obtain ⟨ga, fa⟩ := gd_args1 (cl := cl) (K := X.K) (o := .ins c []) exI ix upd_same (SoOk.ins (ns := ns) (vs := []) (dx := dx) T (Nat.zero_le _) .nil) r2
                refine ⟨by rw [List.length_cons, r1.length]; exact hnp _ _ _ q1, I2, _, .d .non, _, ga, fun j o1 h => ?_, q3, fun v I3 H3 g3 t3 rk => ?_⟩
                · cases j with
                  | zero => exact hR
                  | succ j =>
                    exfalso
                    have h' : (ds.map Slot.val)[j]? = some (.own o1) := h
                    rw [List.getElem?_map] at h'
                    cases q : ds[j]? with
                    | none => rw [q] at h'; cases h'
                    | some d => rw [q] at h'; cases h'
                · have ev : v = .non := by
                    have rk' : Rp X.K cl I3 v .non := rk
                    cases rk'
                    rfl
                  refine ⟨ev, ?_⟩
                  obtain ⟨p0, ho, ep, ip, hp0, so⟩ := g3.ok 0 _ _ rfl rfl
                  cases ep
                  -- the caller's own: nothing of it has changed
                  have old : ∀ b, H1 b ≠ none → b ≠ x := fun b hb z => hb (by rw [z]; exact hx)
                  have hb2 : ∀ b u, H1 b = some u → (upd (upd H1 dx (.own x)) x (.ins C dx [])) b = some u := fun b u h => e0 b u h
                  have nfa : ∀ b, b ≠ x → ¬ Fp ((V.ref x :: vs).map some) (Slot.own (.ins c []) :: ds.map .val) b := fun b n h => n ((fa b).mp h)
                  have tt : Tr (Fp σ e2) I2 H1 (Fp σ e2) I3 H3 := ⟨t3.ext, fun b u h _ => t3.frame b u (hb2 b u h) (nfa b (old b (by rw [h]; exact fun z => nomatch z))),
                    fun b hb _ hi => t3.nofr b (by
                      cases q : H1 b with
                      | none => exact absurd q hb
                      | some u => rw [hb2 b u q]; exact fun z => nomatch z) (nfa b (old b hb)) hi, fun b h => .inl h, fun b hb => t3.dom b (by
                      cases q : H1 b with
                      | none => exact absurd q hb
                      | some u => rw [hb2 b u q]; exact fun z => nomatch z)⟩
                  have nfx : ¬ Fp σ e2 x := nf_fresh g2 hx
                  have g4 : Gd X.K cl I3 H3 σ e2 := by
                    refine ⟨g3.ex, g2.len, fun i s ov h1 h2 => ?_, g2.inj⟩
                    have ok := g2.ok i s ov h1 h2
                    cases s with
                    | none => trivial
                    | val d2 =>
                      obtain ⟨v2, e2', r2'⟩ := ok
                      exact ⟨v2, e2', r2'.mono t3.ext⟩
                    | own o2 =>
                      obtain ⟨p2, ho2, e2', ip2, hp2, so2⟩ := ok
                      have hn : H1 p2 ≠ none := by
                        rw [hp2]
                        exact fun z => nomatch z
                      refine ⟨p2, ho2, e2', t3.nofr p2 ?_ (nfa p2 (old p2 hn)) ip2, t3.frame p2 ho2 (hb2 p2 ho2 hp2) (nfa p2 (old p2 hn)), so2.mono t3.ext⟩
                      rw [hb2 p2 ho2 hp2]
                      exact fun z => nomatch z
                  exact k' x ho I3 H3 g4 ((t1.trans t2).trans tt) ip hp0 so ((t1.trans t2).back (.inr hx)) nfx
          | _ => simp [q3] at hme
end
end MP
set_option Elab.async false
set_option linter.all false
set_option maxRecDepth 100000
set_option maxHeartbeats 4000000
namespace MP
open PySem PySem.Spec PyProof.Rows L2
section
variable {X : Cx} {cl : ClM} {R : Nat → Bool}
/-- a, b = e, f, both local -/
def sPar (i j : Nat) (ms : Xa) : Xs := fun env => match ms env with
  | none => none
  | some (rs, e1) => match escL e1 rs with
    | some ([d, d'], e2) => if i < e2.length ∧ j < e2.length then some (.nx, (e2.set i (.val d)).set j (.val d')) else none
    | _ => none
theorem ms_par {st : Stmt} {es : List Expr} {i j : Nat} {ms : Xa} (h : MA X cl es ms) (hp : ∀ t, PA X es t → PS X st (tPar i j t)) (h1 : R i = false) (h2 : R j = false) : MS X cl R st (sPar i j ms) := by
  obtain ⟨t, p, k⟩ := h
  refine ⟨_, hp t p, fun σ H I env fl env' Dn g hm kk => ?_⟩
  unfold sPar at hm
  cases q : ms env with
  | none => simp [q] at hm
  | some pr =>
    obtain ⟨rs, e1⟩ := pr
    simp only [q] at hm
    refine k σ H I env rs e1 _ g q fun vs I1 H1 g1 t1 r1 => ?_
    cases q2 : escL e1 rs with
    | none => simp [q2] at hm
    | some p2 =>
      obtain ⟨ds, e2⟩ := p2
      obtain ⟨I2, g2, t2, r2⟩ := escL_ok g1 r1 q2
      cases r2 with
      | nil => simp [q2] at hm
      | cons ra r2 =>
        cases r2 with
        | nil => simp [q2] at hm
        | cons rb r2 =>
          cases r2 with
          | cons _ _ => simp [q2] at hm
          | nil =>
            rename_i v d v' d'
            simp only [q2] at hm
            by_cases hl : i < e2.length ∧ j < e2.length
            · rw [if_pos hl] at hm
              simp only [Option.some.injEq, Prod.mk.injEq] at hm
              obtain ⟨rfl, rfl⟩ := hm
              refine ⟨v, v', rfl, kk _ I2 H1 ((g2.setVal ra).setVal rb) ((t1.trans t2).less fun p h => h.setVal.setVal) fun a ha => ?_⟩
              rw [List.getElem?_set_ne, List.getElem?_set_ne]
              · rintro rfl
                rw [h1] at ha
                cases ha
              · rintro rfl
                rw [h2] at ha
                cases ha
            · rw [if_neg hl] at hm
              cases hm
/-! a list or a tuple walked -/
def iSq (m : Xp) : Xi := fun env => match m env with
  | none => none
  | some (r, e1) => match esc e1 r with
    | some (.lst ds, e2) => some (ds, e2)
    | some (.tup ds, e2) => some (ds, e2)
    | _ => none
theorem mi_sq {e tg : Expr} {m : Xp} (h : ME X cl e m) : MI X cl tg e (iSq m) := by
  obtain ⟨t, p, k⟩ := h
  refine ⟨fun σ H R => iList X.K t σ H R ∨ iTup X.K t σ H R, ⟨fun pins s σ H R I h => ?_⟩, fun σ H I env ds env' Rr g hm kk => ?_⟩
  · rcases h with h | h
    · exact (pi_list p).run pins s σ H R I h
    · exact (pi_tup p).run pins s σ H R I h
  · unfold iSq at hm
    cases q : m env with
    | none => simp [q] at hm
    | some pr =>
      obtain ⟨r, e1⟩ := pr
      simp only [q] at hm
      cases q2 : esc e1 r with
      | none => simp [q2] at hm
      | some p2 =>
        obtain ⟨d, e2⟩ := p2
        cases d with
        | lst ds' =>
          simp only [q2, Option.some.injEq, Prod.mk.injEq] at hm
          obtain ⟨rfl, rfl⟩ := hm
          refine .inl (k σ H I env r e1 _ g q fun v I1 H1 g1 t1 r1 => ?_)
          obtain ⟨I2, g2, t2, r2⟩ := esc_ok g1 r1 q2
          cases r2 with
          | lst hs hr => exact ⟨_, rfl, ⟨_, SqL.of (g2.ex _ _ hs)⟩, kk _ I2 H1 g2 (t1.trans t2) (itl_ok (SqL.of hs) hr)⟩
        | tup ds' =>
          simp only [q2, Option.some.injEq, Prod.mk.injEq] at hm
          obtain ⟨rfl, rfl⟩ := hm
          refine .inr (k σ H I env r e1 _ g q fun v I1 H1 g1 t1 r1 => ?_)
          obtain ⟨I2, g2, t2, r2⟩ := esc_ok g1 r1 q2
          cases r2 with
          | tup hs hr => exact ⟨_, rfl, ⟨_, (hs.mono g2.ex).sq⟩, kk _ I2 H1 g2 (t1.trans t2) (itt_ok (hs.sq) hr)⟩
        | _ => simp [q2] at hm
/-! calls without arguments -/
theorem ag_nil : AgOk X.K cl tNil aNil := fun σ H I env rs env' Q g hm k => by
  cases Option.some.inj hm
  exact k [] I H g Tr.refl .nil
def eCall0 (f : Fn) : Xp := eCall f aNil
def fCall0 (f : Fn) : Xf := fCall f aNil
theorem me_call0 {e : Expr} {f : Fn} {R' : Nat → Bool} (hp : PE X e (tCall (spG X.K cl 0 R' f) [] E0 tNil)) : ME X cl e (eCall0 f) := by
  refine ⟨_, hp, fun σ H I env r env' Q g hme k' => ?_⟩
  unfold eCall0 eCall aNil escL at hme
  simp only [List.map_nil] at hme
  cases q3 : f [] with
  | none => simp [q3] at hme
  | some p3 =>
    obtain ⟨rv, outs⟩ := p3
    refine call_core (f := f) (ds := []) (rs := []) ag_nil g rfl rfl rfl q3 fun v I3 H3 g3 t3 rk => ?_
    cases rv with
    | d d =>
      simp only [q3, Option.some.injEq, Prod.mk.injEq] at hme
      obtain ⟨rfl, rfl⟩ := hme
      exact k' v I3 H3 g3 t3 rk
    | o o =>
      simp only [q3, Option.some.injEq, Prod.mk.injEq] at hme
      obtain ⟨rfl, rfl⟩ := hme
      obtain ⟨a, ho, ea, ia, ha, so, fr, nf⟩ := rk
      subst ea
      exact k' _ _ H3 (g3.frz ia ha nf) (t3.frzN fr ia) (so.frz ia)
theorem mf_call0 {e : Expr} {f : Fn} {R' : Nat → Bool} (hp : PE X e (tCall (spG X.K cl 0 R' f) [] E0 tNil)) : MF X cl e (fCall0 f) := by
  refine ⟨_, hp, fun σ H I env r env' Q g hme k' => ?_⟩
  unfold fCall0 fCall aNil escL at hme
  simp only [List.map_nil] at hme
  cases q3 : f [] with
  | none => simp [q3] at hme
  | some p3 =>
    obtain ⟨rv, outs⟩ := p3
    refine call_core (f := f) (ds := []) (rs := []) ag_nil g rfl rfl rfl q3 fun v I3 H3 g3 t3 rk => ?_
    cases rv with
    | d d => simp [q3] at hme
    | o o =>
      simp only [q3, Option.some.injEq, Prod.mk.injEq] at hme
      obtain ⟨rfl, rfl⟩ := hme
      obtain ⟨a, ho, ea, ia, ha, so, fr, nf⟩ := rk
      subst ea
      exact k' a ho I3 H3 g3 t3 ia ha so fr nf
end
theorem hu_1 {A : Around} {k : Nat} (hr : Room k A) : A.units + 1 < cLine := by
  have := hr.un
  omega
theorem hu_64 {A : Around} {k : Nat} (hr : Room k A) : A.units + 64 < cLine := by
  have := hr.un
  omega
theorem hu_65 {A : Around} {k : Nat} (hr : Room k A) : A.units + 65 < cLine := by
  have := hr.un
  omega
/-! ### the law's end -/
def spLaw (K : PySem.W.Frag) : Sp := fun vs H Q _ => ∃ (a : Addr) (ns : List Int), vs = [.ref a] ∧ SqL K H a (ns.map V.int) ∧ ns.length ≤ 63 ∧ ∀ H', Q (.bl true) H'
theorem law_of {P : Program} {w : World} {K : PySem.W.Frag} {mg : Str → Option Value} {base : Heap} {CX : CXT} {k : Nat} {f : Addr} {fd : FuncData} {ps : List Str} {cl : ClM} {R : Nat → Bool} {fn : Nat → Fn} (hps : ps.length = 1)
    (F : ∀ N, FnOk P w K mg base CX k f fd ps (spG K cl ps.length R (fn N))) (h : ∀ ns : List Int, ns.length ≤ 63 → ∃ N outs, fn N [.val (.scr (ns.map D.int))] = some (.d (.bl true), outs)) : FnOk P w K mg base CX k f fd ps (spLaw K) := by
  have key : ∀ vs H Q E, spLaw K vs H Q E → ∃ N, spG K cl ps.length R (fn N) vs H Q E := by
    intro vs H Q E hsp
    obtain ⟨a, ns, rfl, hs, hlen, hq⟩ := hsp
    obtain ⟨N, outs, hf⟩ := h ns hlen
    let I : Hp := fun b => if b = a then H a else none
    have ex : Same I H := fun b u hb => by
      show H b = some u
      have hb' : (if b = a then H a else none) = some u := hb
      by_cases z : b = a
      · rw [if_pos z] at hb'
        rw [z]
        exact hb'
      · rw [if_neg z] at hb'
        cases hb'
    have hI : I a = H a := by
      show (if a = a then H a else none) = H a
      rw [if_pos rfl]
    have hs' : SqL K I a (ns.map V.int) := by
      rcases hs with (h | ⟨o, h⟩) | h
      · exact .inl (.inl (hI.trans h))
      · exact .inl (.inr ⟨o, hI.trans h⟩)
      · exact .inr h
    have rp : Rp K cl I (.ref a) (.scr (ns.map D.int)) := .scr hs' (RpA.ofInts ns)
    refine ⟨N, by rw [hps]; rfl, I, [.val (.scr (ns.map D.int))], _, outs, ⟨ex, rfl, fun i s ov h1 h2 => ?_, fun i j p o o' h1 => ?_⟩, fun i o h => ?_, hf, fun v I' H' g t rk => ?_⟩
    · cases i with
      | zero =>
        cases h1
        cases h2
        exact ⟨_, rfl, rp⟩
      | succ i => cases h1
    · cases i with
      | zero => cases h1
      | succ i => cases h1
    · cases i with
      | zero => cases h
      | succ i => cases h
    · have rk' : Rp K cl I' v (.bl true) := rk
      cases rk'
      exact hq H'
  refine ⟨fun vs H Q E h1 => ?_, fun A outer s H args us vs Q E hr e b r h1 => ?_⟩
  · obtain ⟨N, h2⟩ := key vs H Q E h1
    exact (F N).len vs H Q E h2
  · obtain ⟨N, h2⟩ := key vs H Q E h1
    exact (F N).run A outer s H args us vs Q E hr e b r h2
end MP
set_option Elab.async false
set_option linter.all false
set_option maxRecDepth 100000
set_option maxHeartbeats 4000000
namespace MP
open PySem PySem.Spec PyProof.Rows L2
/-! ### two clauses -/
def cLoop2 (vs : List Nat) (g : Xg) (t : Xt) (mi1 : Xi) (vs1 : List Nat) (g1 : Xg) (t1 : Xt) (m : Xp) : List D → List D → MEnv → Option (List D × MEnv)
  | [], acc, env => some (acc, env)
  | d :: ds, acc, env => match g d env with
    | none => none
    | some e1 => match t e1 with
      | none => none
      | some (false, e2) => cLoop2 vs g t mi1 vs1 g1 t1 m ds acc (wipeE e2 vs)
      | some (true, e2) => match mi1 e2 with
        | none => none
        | some (ds1, e3) => match cLoop vs1 g1 t1 m ds1 acc (wipeE e3 vs1) with
          | none => none
          | some (acc', e4) => cLoop2 vs g t mi1 vs1 g1 t1 m ds acc' (wipeE e4 vs)
def fComp2 (vs : List Nat) (mi : Xi) (g : Xg) (t : Xt) (mi1 : Xi) (vs1 : List Nat) (g1 : Xg) (t1 : Xt) (m : Xp) : Xf := fun env => match mi env with
  | none => none
  | some (ds, e1) => if okW e1 vs then match cLoop2 vs g t mi1 vs1 g1 t1 m ds [] (wipeE e1 vs) with
    | none => none
    | some (xs, e2) => some (.lst xs, restE e1 e2 vs)
    else none
theorem wipe_sub {σ : L2.St} {vs vs1 : List Nat} (h : ∀ i ∈ vs1, i ∈ vs) : wipe (wipe σ vs1) vs = wipe σ vs :=
  wipe_eq (wipe_length _ _) fun i hi => wipe_out fun z => hi (h i z)
section
variable {X : Cx} {cl : ClM} {tg iter tg1 iter1 elt e : Expr} {ifs ifs1 : List Expr} {vs vs1 : List Nat} {mi mi1 : Xi} {g g1 : Xg} {mt mt1 : Xt} {m : Xp} {scope : Scope}
theorem lc2_fr (hvs : ∀ i ∈ vs1, i ∈ vs) (hi : MI X cl tg iter mi) (hg : BlkAll X scope fun Y => MG Y cl (notIn vs) tg g) (ht : BlkAll X scope fun Y => MTs Y cl ifs mt)
    (hi1 : BlkAll X scope fun Y => MI Y cl tg1 iter1 mi1) (hg1 : BlkAll X scope fun Y => MG Y cl (notIn vs1) tg1 g1) (ht1 : BlkAll X scope fun Y => MTs Y cl ifs1 mt1) (he : BlkAll X scope fun Y => ME Y cl elt m) :
    ∃ wi tgt tt wi1 tgt1 tt1 te, PI X tg iter wi ∧ BlkAll X scope (fun Y => PG Y tg tgt) ∧ BlkAll X scope (fun Y => PTs Y ifs tt) ∧ BlkAll X scope (fun Y => PI Y tg1 iter1 wi1) ∧ BlkAll X scope (fun Y => PG Y tg1 tgt1) ∧ BlkAll X scope (fun Y => PTs Y ifs1 tt1) ∧ BlkAll X scope (fun Y => PE Y elt te) ∧
      FrOk X.K cl (tLc2 wi tgt tt wi1 tgt1 tt1 te vs vs1) (fComp2 vs mi g mt mi1 vs1 g1 mt1 m) := by
  obtain ⟨wi, pi, ki⟩ := hi
  obtain ⟨tgt, pg, kg⟩ := uni_g hg
  obtain ⟨tt, pt, kt⟩ := uni_t ht
  obtain ⟨wi1, pi1, ki1⟩ := uni_i hi1
  obtain ⟨tgt1, pg1, kg1⟩ := uni_g hg1
  obtain ⟨tt1, pt1, kt1⟩ := uni_t ht1
  obtain ⟨te, pe, ke⟩ := uni_e he
  refine ⟨wi, tgt, tt, wi1, tgt1, tt1, te, pi, pg, pt, pi1, pg1, pt1, pe, fun σ H I env o env' Q gd hm k => ?_⟩
  unfold fComp2 at hm
  cases q : mi env with
  | none => simp [q] at hm
  | some pr =>
    obtain ⟨ds, e1⟩ := pr
    simp only [q] at hm
    by_cases ok : okW e1 vs = true
    · rw [if_pos ok] at hm
      cases q2 : cLoop2 vs g mt mi1 vs1 g1 mt1 m ds [] (wipeE e1 vs) with
      | none => simp [q2] at hm
      | some pr2 =>
        obtain ⟨xs, e2⟩ := pr2
        simp only [q2, Option.some.injEq, Prod.mk.injEq] at hm
        obtain ⟨rfl, rfl⟩ := hm
        refine ki σ H I env ds e1 _ gd q fun J I1 H1 g1' t1 it => fun Da hD => ?_
        have nfD : ¬ Fp σ e1 Da := nf_fresh g1' hD
        have iD : I1 Da = none := g1'.ex.free hD
        have al0 : Al I1 H1 I1 (upd H1 Da (.lst [])) := Al.newH g1'.ex hD
        refine ⟨fun i j H2 => j = ds.length - i ∧ ∃ I2 env2 acc accV, Gd X.K cl I2 H2 (wipe σ vs) env2 ∧ Tr (Fp σ e1) I1 H1 (Fp (wipe σ vs) env2) I2 H2 ∧ I2 Da = none ∧ H2 Da = some (.lst accV) ∧ ¬ Fp (wipe σ vs) env2 Da ∧ RpA X.K cl I2 accV acc ∧
            cLoop2 vs g mt mi1 vs1 g1 mt1 m (ds.drop i) acc env2 = some (xs, e2),
          ⟨ds.length, rfl, I1, wipeE e1 vs, [], [], (g1'.al al0).wipe, ((al0.tr (F := Fp σ e1)).less fun p h => h.wipe), iD, upd_same, fun h => nfD h.wipe, .nil, q2⟩, fun i j H2 ⟨hj, I2, env2, acc, accV, g2, t2, i2, h2, nf2, ra, hw⟩ => ?_⟩
        obtain ⟨hstop, hgo⟩ := it i I2 H2 t2.ext g2.ex
        cases hd : ds[i]? with
        | none =>
          have hle : ds.length ≤ i := List.getElem?_eq_none_iff.mp hd
          rw [List.drop_eq_nil_of_le hle] at hw
          simp only [cLoop2, Option.some.injEq, Prod.mk.injEq] at hw
          obtain ⟨rfl, rfl⟩ := hw
          refine .inl ⟨hstop hd, ?_⟩
          have g3 : Gd X.K cl I2 H2 σ (restE e1 env2 vs) := Gd.rest g1' ok t2.ext g2
          have t3 : Tr (Fp σ e1) I1 H1 (Fp σ (restE e1 env2 vs)) I2 H2 := t2.less fun p h => Fp.rest ok h
          exact k Da _ I2 H2 g3 (t1.trans t3) i2 h2 (.lst ra) (t1.back (.inr hD)) fun h => nf2 (Fp.rest ok h)
        | some d =>
          have hlt : i < ds.length := (List.getElem?_eq_some_iff.mp hd).1
          have edr : ds.drop i = d :: ds.drop (i + 1) := by
            rw [List.drop_eq_getElem_cons hlt]
            congr 1
            exact (List.getElem?_eq_some_iff.mp hd).2
          rw [edr] at hw
          obtain ⟨go, yld⟩ := hgo d hd
          refine .inr ⟨go, fun H4 => ∃ I4 env4 acc4 accV4, Gd X.K cl I4 H4 (wipe σ vs) env4 ∧ Tr (Fp σ e1) I1 H1 (Fp (wipe σ vs) env4) I4 H4 ∧ I4 Da = none ∧ H4 Da = some (.lst accV4) ∧ ¬ Fp (wipe σ vs) env4 Da ∧ RpA X.K cl I4 accV4 acc4 ∧
            cLoop2 vs g mt mi1 vs1 g1 mt1 m (ds.drop (i + 1)) acc4 env4 = some (xs, e2), fun H4 h4 => ⟨ds.length - (i + 1), by omega, rfl, h4⟩, fun v H3 hy => ?_⟩
          obtain ⟨I3, al, rv⟩ := yld v H3 hy
          have g3 := g2.al al
          have t3 := t2.trans (al.tr (F := Fp (wipe σ vs) env2))
          have hDa2 : H2 Da ≠ none := by
            rw [h2]
            exact fun z => nomatch z
          have i3 : I3 Da = none := al.nofr Da hDa2 i2
          have h3 : H3 Da = some (.lst accV) := al.exH _ _ h2
          unfold cLoop2 at hw
          cases q3 : g d env2 with
          | none => simp [q3] at hw
          | some e3 =>
            simp only [q3] at hw
            refine kg (wipe σ vs) H3 I3 env2 d e3 v _ g3 rv q3 fun σ4 I4 H4 g4 t4 r4 l4 => ?_
            have ew : wipe σ4 vs = wipe σ vs := (wipe_eq l4 fun i hi => r4 i (notIn_t hi)).trans (wipe_eq (wipe_length _ _) fun i hi => wipe_out hi)
            refine ⟨ew, ?_⟩
            have t34 := t3.trans t4
            have hDa3 : H3 Da ≠ none := by
              rw [h3]
              exact fun z => nomatch z
            have i4 : I4 Da = none := t4.nofr Da hDa3 nf2 i3
            have h4 : H4 Da = some (.lst accV) := t4.frame _ _ h3 nf2
            have nf4 : ¬ Fp σ4 e3 Da := t4.notin hDa3 nf2
            cases q4 : mt e3 with
            | none => simp [q4] at hw
            | some pr4 =>
              obtain ⟨b4, e4⟩ := pr4
              refine kt σ4 H4 I4 e3 b4 e4 _ g4 q4 fun I5 H5 g5 t5 => ?_
              have hDa4 : H4 Da ≠ none := by
                rw [h4]
                exact fun z => nomatch z
              have i5 : I5 Da = none := t5.nofr Da hDa4 nf4 i4
              have h5 : H5 Da = some (.lst accV) := t5.frame _ _ h4 nf4
              have nf5 : ¬ Fp σ4 e4 Da := t5.notin hDa4 nf4
              have t45 := t34.trans t5
              cases b4 with
              | false =>
                simp only [q4] at hw
                show ∃ I4 env4 acc4 accV4, _
                refine ⟨I5, wipeE e4 vs, acc, accV, ?_, ?_, i5, h5, ?_, ra.mono ((al.ext.trans t4.ext).trans t5.ext), hw⟩
                · rw [← ew]
                  exact g5.wipe
                · rw [← ew]
                  exact t45.less fun p h => h.wipe
                · rw [← ew]
                  exact fun h => nf5 h.wipe
              | true =>
                simp only [q4] at hw
                show wi1 σ4 H5 _
                cases q5 : mi1 e4 with
                | none => simp [q5] at hw
                | some pr5 =>
                  obtain ⟨ds1, e5⟩ := pr5
                  simp only [q5] at hw
                  cases q6 : cLoop vs1 g1 mt1 m ds1 acc (wipeE e5 vs1) with
                  | none => simp [q6] at hw
                  | some pr6 =>
                    obtain ⟨acc', e6⟩ := pr6
                    simp only [q6] at hw
                    refine ki1 σ4 H5 I5 e4 ds1 e5 _ g5 q5 fun J1 I6 H6 g6 t6 it6 => ?_
                    have hDa5 : H5 Da ≠ none := by
                      rw [h5]
                      exact fun z => nomatch z
                    have i6 : I6 Da = none := t6.nofr Da hDa5 nf5 i5
                    have h6 : H6 Da = some (.lst accV) := t6.frame _ _ h5 nf5
                    have nf6 : ¬ Fp σ4 e5 Da := t6.notin hDa5 nf5
                    have t46 := t45.trans t6
                    have ra6 : RpA X.K cl I6 accV acc := ra.mono (((al.ext.trans t4.ext).trans t5.ext).trans t6.ext)
                    refine ⟨fun j k H7 => k = ds1.length - j ∧ ∃ I7 env7 acc7 accV7, Gd X.K cl I7 H7 (wipe σ4 vs1) env7 ∧ Tr (Fp σ e1) I1 H1 (Fp (wipe σ4 vs1) env7) I7 H7 ∧ I7 Da = none ∧ H7 Da = some (.lst accV7) ∧ ¬ Fp (wipe σ4 vs1) env7 Da ∧ RpA X.K cl I7 accV7 acc7 ∧ Same I6 I7 ∧
                        cLoop vs1 g1 mt1 m (ds1.drop j) acc7 env7 = some (acc', e6),
                      ⟨ds1.length, rfl, I6, wipeE e5 vs1, acc, accV, g6.wipe, t46.less fun p h => h.wipe, i6, h6, fun h => nf6 h.wipe, ra6, fun _ _ h => h, q6⟩, fun j k H7 ⟨hk, I7, env7, acc7, accV7, g7, t7, i7, h7, nf7, ra7, e67, hw7⟩ => ?_⟩
                    obtain ⟨hstop1, hgo1⟩ := it6 j I7 H7 e67 g7.ex
                    cases hd1 : ds1[j]? with
                    | none =>
                      have hle : ds1.length ≤ j := List.getElem?_eq_none_iff.mp hd1
                      rw [List.drop_eq_nil_of_le hle] at hw7
                      simp only [cLoop, Option.some.injEq, Prod.mk.injEq] at hw7
                      obtain ⟨rfl, rfl⟩ := hw7
                      refine .inl ⟨hstop1 hd1, ?_⟩
                      have ew1 : wipe (wipe σ4 vs1) vs = wipe σ vs := (wipe_sub hvs).trans ew
                      refine ⟨I7, wipeE env7 vs, acc7, accV7, ?_, ?_, i7, h7, ?_, ra7, hw⟩
                      · rw [← ew1]
                        exact g7.wipe
                      · rw [← ew1]
                        exact t7.less fun p h => h.wipe
                      · rw [← ew1]
                        exact fun h => nf7 h.wipe
                    | some d1 =>
                      have hlt1 : j < ds1.length := (List.getElem?_eq_some_iff.mp hd1).1
                      have edr1 : ds1.drop j = d1 :: ds1.drop (j + 1) := by
                        rw [List.drop_eq_getElem_cons hlt1]
                        congr 1
                        exact (List.getElem?_eq_some_iff.mp hd1).2
                      rw [edr1] at hw7
                      obtain ⟨go1, yld1⟩ := hgo1 d1 hd1
                      refine .inr ⟨go1, fun H8 => ∃ I7 env7 acc7 accV7, Gd X.K cl I7 H8 (wipe σ4 vs1) env7 ∧ Tr (Fp σ e1) I1 H1 (Fp (wipe σ4 vs1) env7) I7 H8 ∧ I7 Da = none ∧ H8 Da = some (.lst accV7) ∧ ¬ Fp (wipe σ4 vs1) env7 Da ∧ RpA X.K cl I7 accV7 acc7 ∧ Same I6 I7 ∧
                        cLoop vs1 g1 mt1 m (ds1.drop (j + 1)) acc7 env7 = some (acc', e6), fun H8 h8 => ⟨ds1.length - (j + 1), by omega, rfl, h8⟩, fun v1 H8 hy1 => ?_⟩
                      obtain ⟨I8, al8, rv8⟩ := yld1 v1 H8 hy1
                      have g8 := g7.al al8
                      have t8 := t7.trans (al8.tr (F := Fp (wipe σ4 vs1) env7))
                      have hDa7 : H7 Da ≠ none := by
                        rw [h7]
                        exact fun z => nomatch z
                      have i8 : I8 Da = none := al8.nofr Da hDa7 i7
                      have h8 : H8 Da = some (.lst accV7) := al8.exH _ _ h7
                      unfold cLoop at hw7
                      cases q8 : g1 d1 env7 with
                      | none => simp [q8] at hw7
                      | some e8 =>
                        simp only [q8] at hw7
                        refine kg1 (wipe σ4 vs1) H8 I8 env7 d1 e8 v1 _ g8 rv8 q8 fun σ9 I9 H9 g9 t9 r9 l9 => ?_
                        have ew9 : wipe σ9 vs1 = wipe σ4 vs1 := (wipe_eq l9 fun i hi => r9 i (notIn_t hi)).trans (wipe_eq (wipe_length _ _) fun i hi => wipe_out hi)
                        refine ⟨ew9, ?_⟩
                        have t89 := t8.trans t9
                        have hDa8 : H8 Da ≠ none := by
                          rw [h8]
                          exact fun z => nomatch z
                        have i9 : I9 Da = none := t9.nofr Da hDa8 nf7 i8
                        have h9 : H9 Da = some (.lst accV7) := t9.frame _ _ h8 nf7
                        have nf9 : ¬ Fp σ9 e8 Da := t9.notin hDa8 nf7
                        cases q9 : mt1 e8 with
                        | none => simp [q9] at hw7
                        | some pr9 =>
                          obtain ⟨b9, e9⟩ := pr9
                          refine kt1 σ9 H9 I9 e8 b9 e9 _ g9 q9 fun Ia Ha ga ta => ?_
                          have hDa9 : H9 Da ≠ none := by
                            rw [h9]
                            exact fun z => nomatch z
                          have ia : Ia Da = none := ta.nofr Da hDa9 nf9 i9
                          have ha : Ha Da = some (.lst accV7) := ta.frame _ _ h9 nf9
                          have nfa : ¬ Fp σ9 e9 Da := ta.notin hDa9 nf9
                          have t9a := t89.trans ta
                          have ext9 := (al8.ext.trans t9.ext).trans ta.ext
                          cases b9 with
                          | false =>
                            simp only [q9] at hw7
                            show ∃ I7 env7 acc7 accV7, _
                            refine ⟨Ia, wipeE e9 vs1, acc7, accV7, ?_, ?_, ia, ha, ?_, ra7.mono ext9, e67.trans ext9, hw7⟩
                            · rw [← ew9]
                              exact ga.wipe
                            · rw [← ew9]
                              exact t9a.less fun p h => h.wipe
                            · rw [← ew9]
                              exact fun h => nfa h.wipe
                          | true =>
                            simp only [q9] at hw7
                            show te σ9 Ha _
                            cases qb : m e9 with
                            | none => simp [qb] at hw7
                            | some prb =>
                              obtain ⟨rb, eb⟩ := prb
                              simp only [qb] at hw7
                              cases qc : esc eb rb with
                              | none => simp [qc] at hw7
                              | some prc =>
                                obtain ⟨x, ec⟩ := prc
                                simp only [qc] at hw7
                                by_cases hsz : acc7.length < 16777216
                                · rw [if_pos hsz] at hw7
                                  refine ke σ9 Ha Ia e9 rb eb _ ga qb fun y Ib Hb gb tb rb' => ?_
                                  obtain ⟨Ic, gc, tc, rc⟩ := esc_ok gb rb' qc
                                  have tbc := tb.trans tc
                                  have hDaa : Ha Da ≠ none := by
                                    rw [ha]
                                    exact fun z => nomatch z
                                  have ic : Ic Da = none := tbc.nofr Da hDaa nfa ia
                                  have hc : Hb Da = some (.lst accV7) := tbc.frame _ _ ha nfa
                                  have nfc : ¬ Fp σ9 ec Da := tbc.notin hDaa nfa
                                  have rac : RpA X.K cl Ic accV7 acc7 := ra7.mono (ext9.trans tbc.ext)
                                  refine ⟨accV7, hc, ?_, Ic, wipeE ec vs1, acc7 ++ [x], accV7 ++ [y], ?_, ?_, ic, upd_same, ?_, rac.append (.cons rc .nil), e67.trans (ext9.trans tbc.ext), hw7⟩
                                  · rw [rac.length]
                                    exact Nat.lt_of_lt_of_le hsz (by decide)
                                  · rw [← ew9]
                                    exact (gc.updH ic nfc).wipe
                                  · rw [← ew9]
                                    exact ((t9a.trans tbc).updN (.inr hD)).less fun p h => h.wipe
                                  · rw [← ew9]
                                    exact fun h => nfc h.wipe
                                · rw [if_neg hsz] at hw7
                                  cases hw7
    · rw [if_neg ok] at hm
      cases hm
theorem mf_lc2 (hvs : ∀ i ∈ vs1, i ∈ vs) (hi : MI X cl tg iter mi) (hg : BlkAll X scope fun Y => MG Y cl (notIn vs) tg g) (ht : BlkAll X scope fun Y => MTs Y cl ifs mt)
    (hi1 : BlkAll X scope fun Y => MI Y cl tg1 iter1 mi1) (hg1 : BlkAll X scope fun Y => MG Y cl (notIn vs1) tg1 g1) (ht1 : BlkAll X scope fun Y => MTs Y cl ifs1 mt1) (he : BlkAll X scope fun Y => ME Y cl elt m)
    (hp : ∀ wi tgt tt wi1 tgt1 tt1 te, PI X tg iter wi → BlkAll X scope (fun Y => PG Y tg tgt) → BlkAll X scope (fun Y => PTs Y ifs tt) → BlkAll X scope (fun Y => PI Y tg1 iter1 wi1) → BlkAll X scope (fun Y => PG Y tg1 tgt1) → BlkAll X scope (fun Y => PTs Y ifs1 tt1) → BlkAll X scope (fun Y => PE Y elt te) →
      PE X e (tLc2 wi tgt tt wi1 tgt1 tt1 te vs vs1)) : MF X cl e (fComp2 vs mi g mt mi1 vs1 g1 mt1 m) := by
  obtain ⟨wi, tgt, tt, wi1, tgt1, tt1, te, pi, pg, pt, pi1, pg1, pt1, pe, fr⟩ := lc2_fr hvs hi hg ht hi1 hg1 ht1 he
  exact ⟨_, hp wi tgt tt wi1 tgt1 tt1 te pi pg pt pi1 pg1 pt1 pe, fr⟩
theorem ms_setLc2 {R : Nat → Bool} {st : Stmt} {i : Nat} (hvs : ∀ i ∈ vs1, i ∈ vs) (hi : MI X cl tg iter mi) (hg : BlkAll X scope fun Y => MG Y cl (notIn vs) tg g) (ht : BlkAll X scope fun Y => MTs Y cl ifs mt)
    (hi1 : BlkAll X scope fun Y => MI Y cl tg1 iter1 mi1) (hg1 : BlkAll X scope fun Y => MG Y cl (notIn vs1) tg1 g1) (ht1 : BlkAll X scope fun Y => MTs Y cl ifs1 mt1) (he : BlkAll X scope fun Y => ME Y cl elt m)
    (hp : ∀ wi tgt tt wi1 tgt1 tt1 te, PI X tg iter wi → BlkAll X scope (fun Y => PG Y tg tgt) → BlkAll X scope (fun Y => PTs Y ifs tt) → BlkAll X scope (fun Y => PI Y tg1 iter1 wi1) → BlkAll X scope (fun Y => PG Y tg1 tgt1) → BlkAll X scope (fun Y => PTs Y ifs1 tt1) → BlkAll X scope (fun Y => PE Y elt te) →
      PS X st (L2.tAsg (tLc2 wi tgt tt wi1 tgt1 tt1 te vs vs1) (L2.gName i))) (hR : R i = false) : MS X cl R st (sAsg (eFrz (fComp2 vs mi g mt mi1 vs1 g1 mt1 m)) (gNm i)) := by
  obtain ⟨wi, tgt, tt, wi1, tgt1, tt1, te, pi, pg, pt, pi1, pg1, pt1, pe, fr⟩ := lc2_fr hvs hi hg ht hi1 hg1 ht1 he
  exact ⟨_, hp wi tgt tt wi1 tgt1 tt1 te pi pg pt pi1 pg1 pt1 pe, st_asg (ev_frz fr) (gt_name hR)⟩
theorem ms_setOLc2 {R : Nat → Bool} {st : Stmt} {i : Nat} (hvs : ∀ i ∈ vs1, i ∈ vs) (hi : MI X cl tg iter mi) (hg : BlkAll X scope fun Y => MG Y cl (notIn vs) tg g) (ht : BlkAll X scope fun Y => MTs Y cl ifs mt)
    (hi1 : BlkAll X scope fun Y => MI Y cl tg1 iter1 mi1) (hg1 : BlkAll X scope fun Y => MG Y cl (notIn vs1) tg1 g1) (ht1 : BlkAll X scope fun Y => MTs Y cl ifs1 mt1) (he : BlkAll X scope fun Y => ME Y cl elt m)
    (hp : ∀ wi tgt tt wi1 tgt1 tt1 te, PI X tg iter wi → BlkAll X scope (fun Y => PG Y tg tgt) → BlkAll X scope (fun Y => PTs Y ifs tt) → BlkAll X scope (fun Y => PI Y tg1 iter1 wi1) → BlkAll X scope (fun Y => PG Y tg1 tgt1) → BlkAll X scope (fun Y => PTs Y ifs1 tt1) → BlkAll X scope (fun Y => PE Y elt te) →
      PS X st (L2.tAsg (tLc2 wi tgt tt wi1 tgt1 tt1 te vs vs1) (L2.gName i))) (hR : R i = false) : MS X cl R st (sOwn (fComp2 vs mi g mt mi1 vs1 g1 mt1 m) i) := by
  obtain ⟨wi, tgt, tt, wi1, tgt1, tt1, te, pi, pg, pt, pi1, pg1, pt1, pe, fr⟩ := lc2_fr hvs hi hg ht hi1 hg1 ht1 he
  exact ⟨_, hp wi tgt tt wi1 tgt1 tt1 te pi pg pt pi1 pg1 pt1 pe, st_own fr hR⟩
end
/-! ### isinstance with a built-in type -/
def isiB (n : String) : D → Option Bool
  | .non => some (n == "NoneType")
  | .bl _ => some (n == "bool" || n == "int")
  | .int _ => some (n == "int")
  | .str _ => some (n == "str")
  | .tup _ => some (n == "tuple")
  | .lst _ => some (n == "list")
  | _ => none
def gIsi (n : String) : D → Option D := fun d => match isiB n d with
  | some b => some (.bl b)
  | none => none
structure IsiK (K : PySem.W.Frag) (n : String) : Prop where
  non : PySem.W.kitOne K (.type "NoneType") (.type n) = some (n == "NoneType")
  bl : PySem.W.kitOne K (.type "bool") (.type n) = some (n == "bool" || n == "int")
  int : PySem.W.kitOne K (.type "int") (.type n) = some (n == "int")
  str : PySem.W.kitOne K (.type "str") (.type n) = some (n == "str")
  tup : PySem.W.kitOne K (.type "tuple") (.type n) = some (n == "tuple")
  lst : PySem.W.kitOne K (.type "list") (.type n) = some (n == "list")
theorem isi_int {K : PySem.W.Frag} : IsiK K "int" := ⟨rfl, rfl, rfl, rfl, rfl, rfl⟩
theorem isi_bool {K : PySem.W.Frag} : IsiK K "bool" := ⟨rfl, rfl, rfl, rfl, rfl, rfl⟩
theorem isi_str {K : PySem.W.Frag} : IsiK K "str" := ⟨rfl, rfl, rfl, rfl, rfl, rfl⟩
theorem isi_tuple {K : PySem.W.Frag} : IsiK K "tuple" := ⟨rfl, rfl, rfl, rfl, rfl, rfl⟩
theorem isi_list {K : PySem.W.Frag} : IsiK K "list" := ⟨rfl, rfl, rfl, rfl, rfl, rfl⟩
theorem tyx_t {K : PySem.W.Frag} {H : Hp} {a : Addr} {xs : List V} (h : SqT K H a xs) : TyX K H (.ref a) (.type "tuple") := by
  rcases h with (h | ⟨o, h⟩) | ⟨o, its, n, h1, h2, _⟩
  · exact .base (.tup h)
  · exact .fTuple h
  · exact .kTuple h1 h2
theorem isi_ty {K : PySem.W.Frag} {cl : ClM} {I H : Hp} {v : V} {d : D} {n : String} {b : Bool} (N : IsiK K n) (e : Same I H) (h : Vw K cl I H v d) (hb : isiB n d = some b) : ∃ t, TyX K H v t ∧ PySem.W.kitOne K t (.type n) = some b := by
  cases d with
  | non =>
    cases h.non
    cases hb
    exact ⟨_, .base .non, N.non⟩
  | bl x =>
    cases h.bl
    cases hb
    exact ⟨_, .base (.bl x), N.bl⟩
  | int x =>
    cases h.int
    cases hb
    exact ⟨_, .base (.int x), N.int⟩
  | str x =>
    cases h.str
    cases hb
    exact ⟨_, .base (.str x), N.str⟩
  | tup xs =>
    obtain ⟨a, vs, rfl, hs, _⟩ := h.tup e
    cases hb
    exact ⟨_, tyx_t hs, N.tup⟩
  | lst xs =>
    obtain ⟨a, vs, rfl, hs, _⟩ := h.lst e
    cases hb
    exact ⟨_, .base (.lst hs), N.lst⟩
  | _ => cases hb
section
variable {X : Cx} {cl : ClM} {e e' : Expr} {m : Xp}
theorem me_isi {n : String} (N : IsiK X.K n) (h : ME X cl e m) (hp : ∀ t, PE X e t → PE X e' (tCB (rIsi X.K) (tCons t (tCons (tC (.ty n)) tNil)))) : ME X cl e' (eUn (gIsi n) m) := by
  obtain ⟨t, p, k⟩ := h
  refine ⟨_, hp t p, fun σ H I env r env' Q g hm kk => ?_⟩
  unfold eUn at hm
  cases q : m env with
  | none => simp [q] at hm
  | some pr =>
    obtain ⟨r1, e1⟩ := pr
    simp only [q] at hm
    cases q2 : vw e1 r1 with
    | none => simp [q2] at hm
    | some d =>
      simp only [q2] at hm
      unfold gIsi at hm
      cases q3 : isiB n d with
      | none => simp [q3] at hm
      | some b =>
        simp only [q3, Option.some.injEq, Prod.mk.injEq] at hm
        obtain ⟨rfl, rfl⟩ := hm
        refine k σ H I env r1 e1 _ g q fun v I1 H1 g1 t1 rv => ?_
        obtain ⟨ty, h1, h2⟩ := isi_ty N g1.ex (vw_ok g1 rv q2) q3
        exact ⟨v, .ty n, ty, .type n, b, rfl, .ty n, h1, h2, kk _ I1 H1 g1 t1 (.bl b)⟩
end
/-! ### methods by name -/
def aMth (c : Nat) (mo : Xp) (ms : Xa) : Xa := fun env => match mo env with
  | none => none
  | some (r, e1) => match vw e1 r with
    | some (.obj c' _) => if c' = c then match ms e1 with
      | none => none
      | some (rs, e2) => some (r :: rs, e2)
      else none
    | _ => none
/-- o, then the arguments, o an instance of the class at C -/
def tM (C : Addr) (mn : Str) (ta : TE) (t : TA) : TA := fun σ H Q => ta σ H fun x H1 => ∃ a dx fs, x = .ref a ∧ H1 a = some (.ins C dx fs) ∧ fs.lookup mn = none ∧ t σ H1 fun vs H2 => Q (x :: vs) H2
theorem lookup_no {ns : List Str} {vs : List V} {f : Str} (h : f ∉ ns) : (ns.zip vs).lookup f = none := by
  induction ns generalizing vs with
  | nil => rfl
  | cons n ns ih =>
    cases vs with
    | nil => rfl
    | cons v vs =>
      rw [List.zip_cons_cons, List.lookup_cons]
      have hne : (f == n) = false := beq_eq_false_iff_ne.mpr fun z => h (z ▸ List.mem_cons_self)
      rw [hne]
      exact ih fun z => h (List.mem_cons_of_mem _ z)
section
variable {X : Cx} {cl : ClM} {R : Nat → Bool} {e o : Expr} {es : List Expr} {mo : Xp} {ms : Xa} {f : Fn} {np : Nat}
theorem ag_meth {c : Nat} {C : Addr} {ns : List Str} {mn : Str} {ta : TE} {t : TA} (hc : cl c = some (C, ns)) (hn : mn ∉ ns) (k : EvOk X.K cl ta mo) (k2 : AgOk X.K cl t ms) : AgOk X.K cl (tM C mn ta t) (aMth c mo ms) := by
  intro σ H I env rs env' Q g hm k'
  unfold aMth at hm
  cases q1 : mo env with
  | none => simp [q1] at hm
  | some p1 =>
    obtain ⟨r, e1⟩ := p1
    simp only [q1] at hm
    cases q0 : vw e1 r with
    | none => simp [q0] at hm
    | some d =>
      simp only [q0] at hm
      cases d with
      | obj c' fs =>
        by_cases ec : c' = c
        · simp only [ec, if_true] at hm
          subst ec
          cases q2 : ms e1 with
          | none => simp [q2] at hm
          | some p2 =>
            obtain ⟨rs', e2⟩ := p2
            simp only [q2, Option.some.injEq, Prod.mk.injEq] at hm
            obtain ⟨rfl, rfl⟩ := hm
            refine k σ H I env r e1 _ g q1 fun v I1 H1 g1 t1 r1 => ?_
            obtain ⟨a, dx, vs, rfl, ha, hle, rr⟩ := (vw_ok g1 r1 q0).obj g1.ex hc
            refine ⟨a, dx, _, rfl, ha, lookup_no fun z => hn (List.mem_of_mem_take z), ?_⟩
            exact k2 σ H1 I1 e1 rs' e2 _ g1 q2 fun vs I2 H2 g2 t2 r2 => k' (_ :: vs) I2 H2 g2 (t1.trans t2) (.cons (r1.mono t2.ext) r2)
        · simp [ec] at hm
      | _ => simp at hm
theorem me_callA {t : TA} (kk : AgOk X.K cl t ms) (p : PE X e (tCall (spG X.K cl np R f) [] E0 t)) (hnp : ∀ env rs e1, ms env = some (rs, e1) → rs.length = np) : ME X cl e (eCall f ms) := by
  refine ⟨_, p, fun σ H I env r env' Q g hme k' => ?_⟩
  unfold eCall at hme
  cases q1 : ms env with
  | none => simp [q1] at hme
  | some p1 =>
    obtain ⟨rs, e1⟩ := p1
    simp only [q1] at hme
    cases q2 : escL e1 rs with
    | none => simp [q2] at hme
    | some p2 =>
      obtain ⟨ds, e2⟩ := p2
      simp only [q2] at hme
      cases q3 : f (ds.map .val) with
      | none => simp [q3] at hme
      | some p3 =>
        obtain ⟨rv, outs⟩ := p3
        refine call_core kk g q1 (hnp _ _ _ q1) q2 q3 fun v I3 H3 g3 t3 rk => ?_
        cases rv with
        | d d =>
          simp only [q3, Option.some.injEq, Prod.mk.injEq] at hme
          obtain ⟨rfl, rfl⟩ := hme
          exact k' v I3 H3 g3 t3 rk
        | o o =>
          simp only [q3, Option.some.injEq, Prod.mk.injEq] at hme
          obtain ⟨rfl, rfl⟩ := hme
          obtain ⟨a, ho, ea, ia, ha, so, fr, nf⟩ := rk
          subst ea
          exact k' _ _ H3 (g3.frz ia ha nf) (t3.frzN fr ia) (so.frz ia)
theorem aMth_len {c : Nat} {env : MEnv} {rs : List Rv} {e1 : MEnv} {n : Nat} (h : aMth c mo ms env = some (rs, e1)) (hn : ∀ env rs e1, ms env = some (rs, e1) → rs.length = n) : rs.length = n + 1 := by
  unfold aMth at h
  cases q1 : mo env with
  | none => simp [q1] at h
  | some p1 =>
    obtain ⟨r, e2⟩ := p1
    simp only [q1] at h
    split at h
    · split at h
      · cases q2 : ms e2 with
        | none => simp [q2] at h
        | some p2 =>
          obtain ⟨rs', e3⟩ := p2
          simp only [q2, Option.some.injEq, Prod.mk.injEq] at h
          obtain ⟨rfl, rfl⟩ := h
          rw [List.length_cons, hn _ _ _ q2]
      · cases h
    · cases h
theorem me_meth {c : Nat} {C : Addr} {ns : List Str} {mn : Str} (hc : cl c = some (C, ns)) (hn : mn ∉ ns) (ho : ME X cl o mo) (hm : MA X cl es ms) (hp : ∀ ta t, PE X o ta → PA X es t → PE X e (tMeth C mn (spG X.K cl (np + 1) R f) [] E0 ta t)) (hnp : ∀ env rs e1, ms env = some (rs, e1) → rs.length = np) :
    ME X cl e (eCall f (aMth c mo ms)) := by
  obtain ⟨ta, po, ko⟩ := ho
  obtain ⟨t, p, kk⟩ := hm
  exact me_callA (R := R) (np := np + 1) (t := tM C mn ta t) (ag_meth hc hn ko kk) (hp ta t po p) fun _ _ _ h => aMth_len h hnp
end
/-! ### a def that calls itself, so many times deep -/
theorem fnok_none {P : Program} {w : World} {K : PySem.W.Frag} {mg : Str → Option Value} {base : Heap} {CX : CXT} {k : Nat} {f : Addr} {fd : FuncData} {ps : List Str} {cl : ClM} {R : Nat → Bool} : FnOk P w K mg base CX k f fd ps (spG K cl ps.length R fun _ => none) :=
  ⟨fun vs H Q E h => h.1, fun A outer s H args us vs Q E _ _ _ _ h => by
    obtain ⟨_, I, args, ret, outs, _, _, hf, _⟩ := h
    cases hf⟩
/-! ### a chain of three comparisons -/
def tChain3 (r r' r'' : R2) (ta tb tc td : TE) : TE := fun σ H Q => ta σ H fun x H1 => tb σ H1 fun y H2 => r x y H2 fun z H3 => ∃ k, z = .bl k ∧
  (if k = true then tc σ H3 fun w' H4 => r' y w' H4 fun z' H5 => ∃ k', z' = .bl k' ∧ (if k' = true then td σ H5 fun u' H6 => r'' w' u' H6 Q else Q (.bl false) H5) else Q (.bl false) H3)
section
variable {X : Cx} {cl : ClM} {a b c d : Expr} {pos : Pos} {ta tb tc td : TE}
theorem pe_chain3 {op op' op'' : CmpOp} {r r' r'' : R2} (ho : OpR X (compareOp op) r) (ho' : OpR X (compareOp op') r') (ho'' : OpR X (compareOp op'') r'') (ha : PE X a ta) (hb : PE X b tb) (hc : PE X c tc) (hd : PE X d td)
    (hm : lastMarks [op, op', op''] [b, c, d] = false := by with_unfolding_all rfl) : PE X (.Compare a [op, op', op''] [b, c, d] pos) (tChain3 r r' r'' ta tb tc td) := by
  refine ⟨fun pins s σ H Q I h => ?_⟩
  refine Compare_chain (thn (ha.run pins s σ H _ I h) fun v s1 ⟨x, H1, I1, r1, q1⟩ => chain_link (thn (hb.run pins s1 σ H1 _ I1 q1) fun u s2 ⟨y, H2, I2, r2, q2⟩ =>
    thn (ho pins s2 σ H2 x y v u _ I2 r1 r2 q2) fun d s3 ⟨z, H3, I3, r3, k, e, q3⟩ => ?_)) hm
  subst e
  cases r3
  refine wpAny_truthy_bool ?_
  cases k with
  | false => exact ite_ff ⟨.bl false, H3, I3, rfl, q3⟩
  | true =>
    refine ite_tt (chain_link (thn (hc.run pins s3 σ H3 _ I3 q3) fun w' s4 ⟨z', H4, I4, r4, q4⟩ => thn (ho' pins s4 σ H4 y z' u w' _ I4 r2 r4 q4) fun d' s5 ⟨z2, H5, I5, r5, k', e', q5⟩ => ?_))
    subst e'
    cases r5
    refine wpAny_truthy_bool ?_
    cases k' with
    | false => exact ite_ff ⟨.bl false, H5, I5, rfl, q5⟩
    | true => exact ite_tt (chain_last (thn (hd.run pins s5 σ H5 _ I5 q5) fun w2 s6 ⟨z3, H6, I6, r6, q6⟩ => ho'' pins s6 σ H6 z' z3 w' w2 Q I6 r4 r6 q6))
def eChain3 (g g' g'' : D → D → Option D) (m1 m2 m3 m4 : Xp) : Xp := fun env => match m1 env with
  | none => none
  | some (r1, e1) => match m2 e1 with
    | none => none
    | some (r2, e2) => match vw e2 r1, vw e2 r2 with
      | some x, some y => match g x y with
        | some (.bl true) => match m3 e2 with
          | none => none
          | some (r3, e3) => match vw e3 r2, vw e3 r3 with
            | some y', some z => match g' y' z with
              | some (.bl true) => match m4 e3 with
                | none => none
                | some (r4, e4) => match vw e4 r3, vw e4 r4 with
                  | some z', some u => match g'' z' u with
                    | some w => some (.d w, e4)
                    | none => none
                  | _, _ => none
              | some (.bl false) => some (.d (.bl false), e3)
              | _ => none
            | _, _ => none
        | some (.bl false) => some (.d (.bl false), e2)
        | _ => none
      | _, _ => none
theorem me_chain3 {op op' op'' : CmpOp} {g g' g'' : D → D → Option D} {m1 m2 m3 m4 : Xp} (ho : OpM X cl (compareOp op) g) (ho' : OpM X cl (compareOp op') g') (ho'' : OpM X cl (compareOp op'') g'') (h1 : ME X cl a m1) (h2 : ME X cl b m2) (h3 : ME X cl c m3) (h4 : ME X cl d m4)
    (hm : lastMarks [op, op', op''] [b, c, d] = false := by with_unfolding_all rfl) : ME X cl (.Compare a [op, op', op''] [b, c, d] pos) (eChain3 g g' g'' m1 m2 m3 m4) := by
  obtain ⟨r, hr, hw⟩ := ho
  obtain ⟨r', hr', hw'⟩ := ho'
  obtain ⟨r'', hr'', hw''⟩ := ho''
  obtain ⟨ta, pa, h1⟩ := h1
  obtain ⟨tb, pb, h2⟩ := h2
  obtain ⟨tc, pc, h3⟩ := h3
  obtain ⟨td, pd, h4⟩ := h4
  refine ⟨_, pe_chain3 hr hr' hr'' pa pb pc pd hm, ?_⟩
  intro σ H I env rr env' Q gd hm k
  unfold eChain3 at hm
  cases q1 : m1 env with
  | none => simp [q1] at hm
  | some p1 =>
    obtain ⟨r1, e1⟩ := p1
    simp only [q1] at hm
    cases q2 : m2 e1 with
    | none => simp [q2] at hm
    | some p2 =>
      obtain ⟨r2, e2⟩ := p2
      simp only [q2] at hm
      cases q3 : vw e2 r1 with
      | none => simp [q3] at hm
      | some x =>
        cases q4 : vw e2 r2 with
        | none => simp [q3, q4] at hm
        | some y =>
          simp only [q3, q4] at hm
          cases q5 : g x y with
          | none => simp [q5] at hm
          | some z =>
            cases z with
            | bl bb =>
              refine h1 σ H I env r1 e1 _ gd q1 fun v I1 H1 g1 t1 k1 => ?_
              refine h2 σ H1 I1 e1 r2 e2 _ g1 q2 fun w I2 H2 g2 t2 k2 => ?_
              refine hw I2 H2 v w x y _ _ g2.ex (vw_ok g2 (k1.mono t2.ext) q3) (vw_ok g2 k2 q4) q5 fun u I3 H3 a ru => ?_
              have ru' : Rp X.K cl I3 u (.bl bb) := ru
              cases ru'
              have g3 := g2.al a
              have t3 := (t1.trans t2).trans a.tr
              refine ⟨bb, rfl, ?_⟩
              cases bb with
              | false =>
                simp only [q5, Option.some.injEq, Prod.mk.injEq] at hm
                obtain ⟨rfl, rfl⟩ := hm
                exact k _ I3 H3 g3 t3 (.bl false)
              | true =>
                simp only [q5] at hm
                cases q6 : m3 e2 with
                | none => simp [q6] at hm
                | some p3 =>
                  obtain ⟨r3, e3⟩ := p3
                  simp only [q6] at hm
                  cases q7 : vw e3 r2 with
                  | none => simp [q7] at hm
                  | some y' =>
                    cases q8 : vw e3 r3 with
                    | none => simp [q7, q8] at hm
                    | some z' =>
                      simp only [q7, q8] at hm
                      show tc σ H3 _
                      refine h3 σ H3 I3 e2 r3 e3 _ g3 q6 fun w2 I4 H4 g4 t4 k4 => ?_
                      cases q9 : g' y' z' with
                      | none => simp [q9] at hm
                      | some w' =>
                        cases w' with
                        | bl b2 =>
                          refine hw' I4 H4 w w2 y' z' _ _ g4.ex (vw_ok g4 ((k2.mono a.ext).mono t4.ext) q7) (vw_ok g4 k4 q8) q9 fun u I5 H5 a5 r5 => ?_
                          have r5' : Rp X.K cl I5 u (.bl b2) := r5
                          cases r5'
                          have g5 := g4.al a5
                          have t5 := (t3.trans t4).trans a5.tr
                          refine ⟨b2, rfl, ?_⟩
                          cases b2 with
                          | false =>
                            simp only [q9, Option.some.injEq, Prod.mk.injEq] at hm
                            obtain ⟨rfl, rfl⟩ := hm
                            exact k _ I5 H5 g5 t5 (.bl false)
                          | true =>
                            simp only [q9] at hm
                            cases qa : m4 e3 with
                            | none => simp [qa] at hm
                            | some p4 =>
                              obtain ⟨r4, e4⟩ := p4
                              simp only [qa] at hm
                              cases qb : vw e4 r3 with
                              | none => simp [qb] at hm
                              | some z2 =>
                                cases qc : vw e4 r4 with
                                | none => simp [qb, qc] at hm
                                | some u2 =>
                                  simp only [qb, qc] at hm
                                  cases qd : g'' z2 u2 with
                                  | none => simp [qd] at hm
                                  | some w3 =>
                                    simp only [qd, Option.some.injEq, Prod.mk.injEq] at hm
                                    obtain ⟨rfl, rfl⟩ := hm
                                    show td σ H5 _
                                    refine h4 σ H5 I5 e3 r4 e4 _ g5 qa fun w4 I6 H6 g6 t6 k6 => ?_
                                    exact hw'' I6 H6 w2 w4 z2 u2 w3 Q g6.ex (vw_ok g6 ((k4.mono a5.ext).mono t6.ext) qb) (vw_ok g6 k6 qc) qd fun u I7 H7 a7 r7 => k u I7 H7 (g6.al a7) ((t5.trans t6).trans a7.tr) r7
                        | _ => simp [q9] at hm
            | _ => simp [q5] at hm
end
/-! ### sum of a list or a tuple -/
section
variable {X : Cx} {cl : ClM}
def rSumA (K : PySem.W.Frag) : List V → Hp → VK → Prop := fun vs H Q => ∃ (a : Addr) (ns : List Int), vs = [V.ref a] ∧ (SqL K H a (ns.map V.int) ∨ SqT K H a (ns.map V.int)) ∧ Q (.int ns.sum) H
theorem cr_sumA (hc : X.calm = true) : CallR X (.builtin "sum") (rSumA X.K) := by
  intro pins s σ H vs us Q I r h
  obtain ⟨a, ns, rfl, hs | hs, q⟩ := h
  · exact cr_sum hc pins s σ H _ us Q I r ⟨a, ns, rfl, hs, q⟩
  · obtain ⟨its, rv, hl, _⟩ := I.tuple hs
    rw [Vals.ref1 r]
    have hi := rv.ints
    obtain ⟨xs, e⟩ := hi.allInts.items
    have hn : numsOf (intItems xs).toList = ns := by rw [← e]; exact hi.numsOf
    rw [nums_intItems] at hn
    rw [e] at hl
    obtain ⟨o, h1, h2, n, h3⟩ := hl
    refine PySem.W.ktm_sumG (I.ok.hd hc) ⟨o, h1, h2, n, h3⟩ fun h' tk t' hk => ?_
    rw [preSum_eq, List.take_of_length_le (by simp), hn]
    exact ⟨.int _, H, I.kept hk, ⟨_, rfl⟩, q⟩
def gSumA : List D → Option D := fun ds => match ds with
  | [.lst xs] => match intsD xs with
    | some ns => some (.int ns.sum)
    | none => none
  | [.tup xs] => match intsD xs with
    | some ns => some (.int ns.sum)
    | none => none
  | _ => none
theorem cm_sumA (hc : X.calm = true) : CaM X cl (.builtin "sum") gSumA := by
  refine ⟨_, cr_sumA hc, fun I H vs ds z Q ex hv hg k => ?_⟩
  unfold gSumA at hg
  split at hg
  · rename_i xs
    cases q : intsD xs with
    | none => simp [q] at hg
    | some ns =>
      simp only [q, Option.some.injEq] at hg
      subst hg
      obtain ⟨v, rfl, h⟩ := hv.one
      obtain ⟨a, ws, rfl, hs, r⟩ := h.lst ex
      rw [intsD_eq q] at r
      have e := r.ints
      subst e
      exact ⟨a, ns, rfl, .inl (SqL.of hs), k _ I H (Al.refl ex) (.int _)⟩
  · rename_i xs
    cases q : intsD xs with
    | none => simp [q] at hg
    | some ns =>
      simp only [q, Option.some.injEq] at hg
      subst hg
      obtain ⟨v, rfl, h⟩ := hv.one
      obtain ⟨a, ws, rfl, hs, r, _⟩ := h.tup ex
      rw [intsD_eq q] at r
      have e := r.ints
      subst e
      exact ⟨a, ns, rfl, .inr hs, k _ I H (Al.refl ex) (.int _)⟩
  · cases hg
end
end MP
set_option Elab.async false
set_option linter.all false
set_option maxRecDepth 100000
set_option maxHeartbeats 4000000
namespace MP
open PySem PySem.Spec PyProof.Rows L2
/-! ### dicts: keys -/
mutual
def eqKy : D → D → Bool
  | .non, .non => true
  | .int a, .int b => decide (a = b)
  | .str a, .str b => decide (a = b)
  | .tup a, .tup b => eqKs a b
  | _, _ => false
def eqKs : List D → List D → Bool
  | [], [] => true
  | x :: xs, y :: ys => eqKy x y && eqKs xs ys
  | _, _ => false
end
mutual
theorem eqKy_nk : ∀ a b : NestedKey, eqKy (nkE a) (nkE b) = decide (a = b)
  | .none, b => by cases b <;> simp [nkE, eqKy]
  | .num i, b => by cases b <;> simp [nkE, eqKy]
  | .text x, b => by cases b <;> simp [nkE, eqKy]
  | .tup as, .tup bs => by
    simp only [nkE, eqKy, eqKs_nk as bs]
    simp
  | .tup as, .none => by simp [nkE, eqKy]
  | .tup as, .num i => by simp [nkE, eqKy]
  | .tup as, .text x => by simp [nkE, eqKy]
theorem eqKs_nk : ∀ as bs : List NestedKey, eqKs (nkEs as) (nkEs bs) = decide (as = bs)
  | [], [] => by simp [nkEs, eqKs]
  | [], b :: bs => by simp [nkEs, eqKs]
  | a :: as, [] => by simp [nkEs, eqKs]
  | a :: as, b :: bs => by
    simp only [nkEs, eqKs, eqKy_nk a b, eqKs_nk as bs]
    simp
end
mutual
/-- data as a key: ints and tuples -/
def nkD : D → Option NestedKey
  | .int i => some (.num i)
  | .tup xs => match nkDs xs with
    | some ks => some (.tup ks)
    | none => none
  | _ => none
def nkDs : List D → Option (List NestedKey)
  | [] => some []
  | x :: xs => match nkD x, nkDs xs with
    | some k, some ks => some (k :: ks)
    | _, _ => none
end
mutual
theorem rp_nk {K : PySem.W.Frag} {cl : ClM} {I : Hp} : ∀ {d : D} {v : V} {k : NestedKey}, nkD d = some k → Rp K cl I v d → d = nkE k ∧ NkV K I k v
  | .int i, v, k, h, r => by
    cases Option.some.inj (show some (NestedKey.num i) = some k by simpa only [nkD] using h)
    cases r
    exact ⟨by simp only [nkE], .int i⟩
  | .tup xs, v, k, h, r => by
    simp only [nkD] at h
    cases q : nkDs xs with
    | none => simp [q] at h
    | some ks =>
      simp only [q, Option.some.injEq] at h
      subst h
      cases r with
      | tup hs hr =>
        obtain ⟨e, hl⟩ := rpA_nk q hr
        exact ⟨by simp only [nkE, ← e], .tup hs.sq hl⟩
  | .non, v, k, h, r => by simp [nkD] at h
  | .bl b, v, k, h, r => by simp [nkD] at h
  | .str x, v, k, h, r => by simp [nkD] at h
  | .lst xs, v, k, h, r => by simp [nkD] at h
  | .dct t kv, v, k, h, r => by simp [nkD] at h
  | .obj c fs, v, k, h, r => by simp [nkD] at h
  | .scr xs, v, k, h, r => by simp [nkD] at h
  | .ktp xs, v, k, h, r => by simp [nkD] at h
theorem rpA_nk {K : PySem.W.Frag} {cl : ClM} {I : Hp} : ∀ {ds : List D} {vs : List V} {ks : List NestedKey}, nkDs ds = some ks → RpA K cl I vs ds → ds = nkEs ks ∧ NkL K I ks vs
  | [], vs, ks, h, r => by
    cases Option.some.inj (show some [] = some ks by simpa only [nkDs] using h)
    cases r
    exact ⟨by simp only [nkEs], .nil⟩
  | x :: xs, vs, ks, h, r => by
    simp only [nkDs] at h
    cases q1 : nkD x with
    | none => simp [q1] at h
    | some k =>
      cases q2 : nkDs xs with
      | none => simp [q1, q2] at h
      | some ks' =>
        simp only [q1, q2, Option.some.injEq] at h
        subst h
        cases r with
        | cons h1 h2 =>
          obtain ⟨e1, n1⟩ := rp_nk q1 h1
          obtain ⟨e2, n2⟩ := rpA_nk q2 h2
          exact ⟨by simp only [nkEs, ← e1, ← e2], .cons n1 n2⟩
end
def keyOf : D → Option Key
  | .int i => some (.inl i)
  | .str s => some (.inr s)
  | _ => none
def keysOf : List D → Option (List Key)
  | [] => some []
  | d :: ds => match keyOf d, keysOf ds with
    | some k, some ks => some (k :: ks)
    | _, _ => none
theorem keyOf_eq {d : D} {k : Key} (h : keyOf d = some k) : d = keyD k := by
  cases d <;> simp [keyOf] at h <;> subst h <;> rfl
theorem keysOf_eq : ∀ {ds : List D} {ks : List Key}, keysOf ds = some ks → ds = ks.map keyD
  | [], ks, h => by
    cases Option.some.inj h
    rfl
  | d :: ds, ks, h => by
    unfold keysOf at h
    cases q1 : keyOf d with
    | none => simp [q1] at h
    | some k =>
      cases q2 : keysOf ds with
      | none => simp [q1, q2] at h
      | some ks' =>
        simp only [q1, q2, Option.some.injEq] at h
        subst h
        rw [keyOf_eq q1, keysOf_eq q2]
        rfl
theorem eqKy_key (a b : Key) : eqKy (keyD a) (keyD b) = decide (a = b) := by
  cases a <;> cases b <;> simp [eqKy, keyD]
/-- the right kind of key -/
def okKy (t : Bool) (k : D) : Bool := match t, k with
  | false, k => (keyOf k).isSome
  | true, .tup ks => match nkD (.tup ks) with
    | some k => okN k
    | none => false
  | true, _ => false
def dFind (kv : List (D × D)) (k : D) : Option D := (kv.find? fun p => eqKy p.1 k).map (·.2)
def dHas (kv : List (D × D)) (k : D) : Bool := kv.any fun p => eqKy p.1 k
def dPut (kv : List (D × D)) (k v : D) : List (D × D) := if dHas kv k then kv.map fun p => if eqKy p.1 k then (p.1, v) else p else kv ++ [(k, v)]
theorem keyV {K : PySem.W.Frag} {cl : ClM} {I H : Hp} {v : V} {k : Key} (h : Vw K cl I H v (keyD k)) : v = kV k := by
  cases k with
  | inl i => exact Vw.int h
  | inr s => exact Vw.str h
theorem keysV {K : PySem.W.Frag} {cl : ClM} {I : Hp} : ∀ {vs : List V} {ks : List Key}, RpA K cl I vs (ks.map keyD) → vs = ks.map kV
  | _, [], h => by
    cases h
    rfl
  | _, k :: ks, h => by
    cases h with
    | @cons v vs _ _ h t =>
      have : v = kV k := by
        cases k with
        | inl i => cases h; rfl
        | inr s => cases h; rfl
      rw [this, keysV t]
      rfl
section
variable {K : PySem.W.Frag} {cl : ClM} {I H : Hp} {κ : Type} [DecidableEq κ] (kd : κ → D)
theorem dFind_ok (hk : ∀ a b, eqKy (kd a) (kd b) = decide (a = b)) (k : κ) : ∀ {kvs : List (κ × V)} {ds : List D}, RpA K cl I (kvs.map (·.2)) ds →
    (dHas ((kvs.map fun p => kd p.1).zip ds) (kd k) = (valV kvs k).isSome) ∧ ∀ d, dFind ((kvs.map fun p => kd p.1).zip ds) (kd k) = some d → ∃ v, valV kvs k = some v ∧ Rp K cl I v d
  | [], ds, r => ⟨rfl, fun d h => by simp [dFind] at h⟩
  | (a, v) :: kvs, ds, r => by
    cases r with
    | cons h t =>
      rename_i d0 ds0
      obtain ⟨i1, i2⟩ := dFind_ok hk k t
      simp only [List.map_cons, List.zip_cons_cons, dHas, dFind, List.any_cons, List.find?_cons, hk] at i1 i2 ⊢
      by_cases e : a = k
      · subst e
        rw [valV_pos rfl]
        simp only [decide_true, Bool.true_or, Option.isSome_some, Option.map_some, Option.some.injEq, true_and]
        rintro d rfl
        exact ⟨v, rfl, h⟩
      · rw [valV_neg e]
        simp only [decide_eq_false e, Bool.false_or]
        exact ⟨i1, i2⟩
theorem dPut_map (hk : ∀ a b, eqKy (kd a) (kd b) = decide (a = b)) (k : κ) (d : D) : ∀ {kvs : List (κ × V)} {ds : List D}, (kvs.map (·.2)).length = ds.length → ∀ (v : V), ∃ ds', ((kvs.map fun p => kd p.1).zip ds).map (fun p => if eqKy p.1 (kd k) then (p.1, d) else p) = ((kvs.map fun kv => if kv.1 = k then (kv.1, v) else kv).map fun p => kd p.1).zip ds' ∧
    (∀ I', RpA K cl I' (kvs.map (·.2)) ds → Rp K cl I' v d → RpA K cl I' ((kvs.map fun kv => if kv.1 = k then (kv.1, v) else kv).map (·.2)) ds')
  | [], ds, _, v => ⟨[], by simp, fun I' _ _ => .nil⟩
  | (a, v0) :: kvs, [], hl, v => by simp at hl
  | (a, v0) :: kvs, d0 :: ds, hl, v => by
    obtain ⟨ds', h1, h2⟩ := dPut_map hk k d (kvs := kvs) (ds := ds) (by simpa using hl) v
    by_cases e : a = k
    · refine ⟨d :: ds', ?_, fun I' r rv => ?_⟩
      · simp only [List.map_cons, List.zip_cons_cons, hk, decide_eq_true e, if_pos e, h1, if_true]
      · cases r with
        | cons h t =>
          simp only [List.map_cons, if_pos e]
          exact .cons rv (h2 I' t rv)
    · refine ⟨d0 :: ds', ?_, fun I' r rv => ?_⟩
      · simp only [List.map_cons, List.zip_cons_cons, hk, decide_eq_false e, if_neg e, h1]
        simp
      · cases r with
        | cons h t =>
          simp only [List.map_cons, if_neg e]
          exact .cons h (h2 I' t rv)
theorem dPut_ok (hk : ∀ a b, eqKy (kd a) (kd b) = decide (a = b)) (k : κ) {v : V} {d : D} (rv : Rp K cl I v d) {kvs : List (κ × V)} {ds : List D} (r : RpA K cl I (kvs.map (·.2)) ds) :
    ∃ ds', dPut ((kvs.map fun p => kd p.1).zip ds) (kd k) d = ((putK kvs k v).map fun p => kd p.1).zip ds' ∧ RpA K cl I ((putK kvs k v).map (·.2)) ds' := by
  have h1 := (dFind_ok kd hk k r).1
  unfold dPut putK
  rw [h1, valV_any k kvs]
  cases q : (valV kvs k).isSome with
  | true =>
    simp only [if_true]
    obtain ⟨ds', h2, h3⟩ := dPut_map (K := K) (cl := cl) kd hk k d r.length v
    exact ⟨ds', h2, h3 I r rv⟩
  | false =>
    simp only [Bool.false_eq_true, if_false]
    refine ⟨ds ++ [d], ?_, ?_⟩
    · rw [List.map_append, List.zip_append (by rw [List.length_map, ← r.length, List.length_map])]
      rfl
    · rw [List.map_append]
      exact r.append (.cons rv .nil)
end
def gDix : D → D → Option D := fun x k => match x with
  | .dct t kv => if okKy t k then dFind kv k else none
  | _ => none
def gDin (neg : Bool) : D → D → Option D := fun k x => match x with
  | .dct t kv => if okKy t k then some (.bl (if neg then !dHas kv k else dHas kv k)) else none
  | _ => none
section
variable {K : PySem.W.Frag} {cl : ClM} {I H : Hp} {v y : V} {t : Bool} {kv : List (D × D)} {k : D}
theorem Vw.dctF (e : Same I H) (h : Vw K cl I H v (.dct false kv)) : ∃ a kvs ds, v = .ref a ∧ Rd H a (.dK kvs) ∧ kv = (kvs.map fun p => keyD p.1).zip ds ∧ RpA K cl I (kvs.map (·.2)) ds := by
  rcases h with h | ⟨p, ho, o, rfl, ip, hp, r, ed⟩
  · cases h with
    | dK hr hk r =>
      subst hk
      exact ⟨_, _, _, rfl, same_rd e hr, rfl, r⟩
  · cases r with
    | lst r => cases ed
    | dK hk r =>
      cases ed
      subst hk
      exact ⟨p, _, _, rfl, .inl hp, rfl, r⟩
    | dT nk hk r => cases ed
    | ins c l r => cases ed
theorem Vw.dctT (e : Same I H) (h : Vw K cl I H v (.dct true kv)) : ∃ a L ds, v = .ref a ∧ H a = some (NdO a L) ∧ NK K H L ∧ kv = ((kvN L).map fun p => nkE p.1).zip ds ∧ RpA K cl I ((kvN L).map (·.2)) ds := by
  rcases h with h | ⟨p, ho, o, rfl, ip, hp, r, ed⟩
  · cases h with
    | dT hr nk hk r =>
      subst hk
      exact ⟨_, _, _, rfl, e _ _ hr, nk.mono (same_t e), rfl, r⟩
  · cases r with
    | lst r => cases ed
    | dK hk r => cases ed
    | dT nk hk r =>
      cases ed
      subst hk
      exact ⟨p, _, _, rfl, hp, nk.mono (same_t e), rfl, r⟩
    | ins c l r => cases ed
/-- what the dict at hand holds at the key at hand -/
theorem dget_vw (e : Same I H) (h : Vw K cl I H v (.dct t kv)) (hy : Vw K cl I H y k) (ok : okKy t k = true) :
    ∃ a o, v = .ref a ∧ DGetU K H a y o ∧ dHas kv k = o.isSome ∧ ∀ d, dFind kv k = some d → ∃ u, o = some u ∧ Rp K cl I u d := by
  cases t with
  | false =>
    obtain ⟨a, kvs, ds, rfl, hr, rfl, r⟩ := h.dctF e
    unfold okKy at ok
    obtain ⟨kk, hk⟩ := Option.isSome_iff_exists.mp ok
    have := keyOf_eq hk
    subst this
    obtain ⟨h1, h2⟩ := dFind_ok keyD eqKy_key kk r
    rw [keyV hy]
    exact ⟨a, valV kvs kk, rfl, .inl (.inl ⟨kvs, kk, hr, rfl, rfl⟩), h1, h2⟩
  | true =>
    obtain ⟨a, L, ds, rfl, hr, nk, rfl, r⟩ := h.dctT e
    cases k with
    | tup ks =>
      have ok : (match nkD (.tup ks) with | some k => okN k | none => false) = true := ok
      split at ok
      · rename_i kk hk
        have hyr := hy.rp fun o z => by cases o <;> cases z
        obtain ⟨e1, hn⟩ := rp_nk hk hyr
        rw [e1]
        obtain ⟨h1, h2⟩ := dFind_ok nkE eqKy_nk kk r
        obtain ⟨b, vs, rfl, _⟩ := hy.tupP e
        exact ⟨a, valV (kvN L) kk, rfl, .inr ⟨L, kk, b, hr, nk, ok, rfl, hn.mono (same_t e), rfl⟩, h1, h2⟩
      · cases ok
    | _ => cases ok
end
section
variable {X : Cx} {cl : ClM} {R : Nat → Bool} {a b c : Expr} {m1 m2 m3 : Xp} {pos pos' : Pos}
theorem me_dix (hu : X.A.units + 64 < cLine) (h1 : ME X cl a m1) (h2 : ME X cl b m2) (hs : NoSl b) : ME X cl (.Subscript a b pos) (eBin gDix m1 m2) := by
  obtain ⟨ta, pa, ea⟩ := h1
  obtain ⟨tb, pb, eb⟩ := h2
  refine ⟨_, pe_dgetU hu pa pb hs, ev_bin (r := fun x y H Q => ∃ a v, x = .ref a ∧ DGetU X.K H a y (some v) ∧ Q v H) ea eb fun I H v w x y z Q ex hv hw hg k => ?_⟩
  unfold gDix at hg
  split at hg
  · rename_i t kv
    by_cases ok : okKy t y = true
    · rw [if_pos ok] at hg
      obtain ⟨p, o, rfl, g, _, h3⟩ := dget_vw ex hv hw ok
      obtain ⟨u, rfl, ru⟩ := h3 z hg
      exact ⟨p, u, rfl, g, k u I H (Al.refl ex) ru⟩
    · rw [if_neg ok] at hg
      cases hg
  · cases hg
theorem din_ev {ta tb : TE} (ea : EvOk X.K cl ta m1) (eb : EvOk X.K cl tb m2) : EvOk X.K cl (tDInU X.K ta tb) (eBin (gDin false) m1 m2) :=
  ev_bin (r := fun y x H Q => ∃ a o, x = .ref a ∧ DGetU X.K H a y o ∧ Q (.bl o.isSome) H) ea eb fun I H v w x y z Q ex hv hw hg k => by
    unfold gDin at hg
    split at hg
    · rename_i t kv
      by_cases ok : okKy t x = true
      · rw [if_pos ok] at hg
        obtain ⟨p, o, rfl, g, h3, _⟩ := dget_vw ex hw hv ok
        cases Option.some.inj hg
        refine ⟨p, o, rfl, g, ?_⟩
        rw [← h3]
        exact k _ I H (Al.refl ex) (.bl _)
      · rw [if_neg ok] at hg
        cases hg
    · cases hg
theorem dnin_ev {ta tb : TE} (ea : EvOk X.K cl ta m1) (eb : EvOk X.K cl tb m2) : EvOk X.K cl (tDNotInU X.K ta tb) (eBin (gDin true) m1 m2) :=
  ev_bin (r := fun y x H Q => ∃ a o, x = .ref a ∧ DGetU X.K H a y o ∧ Q (.bl (!o.isSome)) H) ea eb fun I H v w x y z Q ex hv hw hg k => by
    unfold gDin at hg
    split at hg
    · rename_i t kv
      by_cases ok : okKy t x = true
      · rw [if_pos ok] at hg
        obtain ⟨p, o, rfl, g, h3, _⟩ := dget_vw ex hw hv ok
        cases Option.some.inj hg
        refine ⟨p, o, rfl, g, ?_⟩
        rw [← h3]
        exact k _ I H (Al.refl ex) (.bl _)
      · rw [if_neg ok] at hg
        cases hg
    · cases hg
theorem me_din (hu : X.A.units + 64 < cLine) (h1 : ME X cl a m1) (h2 : ME X cl b m2) (hm : behindInMarks .In b = false := by rfl) : ME X cl (.Compare a [.In] [b] pos) (eBin (gDin false) m1 m2) := by
  obtain ⟨ta, pa, ea⟩ := h1
  obtain ⟨tb, pb, eb⟩ := h2
  exact ⟨_, pe_cmp (pc_dinU hu pa pb) hm, din_ev ea eb⟩
theorem mt_din (hu : X.A.units + 64 < cLine) (h1 : ME X cl a m1) (h2 : ME X cl b m2) (hm : behindInMarks .In b = false := by rfl) : MT X cl (.Compare a [.In] [b] pos) (tOfB (eBin (gDin false) m1 m2)) := by
  obtain ⟨ta, pa, ea⟩ := h1
  obtain ⟨tb, pb, eb⟩ := h2
  exact ⟨_, pt_cmp (pc_dinU hu pa pb) hm, tt_b (din_ev ea eb)⟩
theorem me_dnin (hu : X.A.units + 64 < cLine) (h1 : ME X cl a m1) (h2 : ME X cl b m2) (hm : behindInMarks .NotIn b = false := by rfl) : ME X cl (.Compare a [.NotIn] [b] pos) (eBin (gDin true) m1 m2) := by
  obtain ⟨ta, pa, ea⟩ := h1
  obtain ⟨tb, pb, eb⟩ := h2
  exact ⟨_, pe_cmp (pc_dnotinU hu pa pb) hm, dnin_ev ea eb⟩
theorem mt_dnin (hu : X.A.units + 64 < cLine) (h1 : ME X cl a m1) (h2 : ME X cl b m2) (hm : behindInMarks .NotIn b = false := by rfl) : MT X cl (.Compare a [.NotIn] [b] pos) (tOfB (eBin (gDin true) m1 m2)) := by
  obtain ⟨ta, pa, ea⟩ := h1
  obtain ⟨tb, pb, eb⟩ := h2
  exact ⟨_, pt_cmp (pc_dnotinU hu pa pb) hm, tt_b (dnin_ev ea eb)⟩
/-! {} -/
def fDict (t : Bool) : Xf := fun env => some (.dct t [], env)
theorem mf_dictK : MF X cl (.Dict [] [] pos) (fDict false) := ⟨_, pe_dnewK, fun σ H I env o env' Q g hm k => by
  cases Option.some.inj hm
  refine fun p hp => ?_
  have al : Al I H I (upd H p (.dK [])) := Al.newH g.ex hp
  exact k p _ I _ (g.al al) al.tr (g.ex.free hp) upd_same (.dK (ks := []) (ds := []) rfl .nil) (.inr hp) (nf_fresh g hp)⟩
theorem mf_dictT : MF X cl (.Dict [] [] pos) (fDict true) := ⟨_, pe_dnewN, fun σ H I env o env' Q g hm k => by
  cases Option.some.inj hm
  refine fun p hp => ?_
  have al : Al I H I (upd H p (NdO p [])) := Al.newH g.ex hp
  exact k p _ I _ (g.al al) al.tr (g.ex.free hp) upd_same (.dT (L := []) (ks := []) (ds := []) (fun q hq => by cases hq) rfl .nil) (.inr hp) (nf_fresh g hp)⟩
/-! d[k] = v, d a slot's own dict -/
def ownD (env : MEnv) (i : Nat) : Option (Bool × List (D × D)) := match env[i]? with
  | some (.own (.dct t kv)) => some (t, kv)
  | _ => none
theorem ownD_eq {env : MEnv} {i : Nat} {t : Bool} {kv : List (D × D)} (h : ownD env i = some (t, kv)) : env[i]? = some (.own (.dct t kv)) := by
  unfold ownD at h
  split at h
  · rename_i q
    cases Option.some.inj h
    exact q
  · cases h
def sDPut (i : Nat) (mk mv : Xp) : Xs := fun env => match mv env with
  | none => none
  | some (r, e1) => match esc e1 r with
    | none => none
    | some (d, e2) => match ownD e2 i with
      | none => none
      | some _ => match mk e2 with
        | none => none
        | some (rk, e3) => match vw e3 rk with
          | none => none
          | some k => match ownD e3 i with
            | none => none
            | some (t, kv) => if okKy t k && decide (kv.length < 16777216) then some (.nx, e3.set i (.own (.dct t (dPut kv k d)))) else none
theorem ms_dput {st : Stmt} {e x : Expr} {i : Nat} {me mk : Xp} (he : ME X cl e me) (hk : ME X cl x mk) (hp : ∀ te tk, PE X e te → PE X x tk → PS X st (sDPutU X.K (tVar i) tk te)) : MS X cl R st (MP.sDPut i mk me) := by
  obtain ⟨te, pe, ke⟩ := he
  obtain ⟨tk, pk, kk'⟩ := hk
  refine ⟨_, hp te tk pe pk, fun σ H I env fl env' Dn g hm kk => ?_⟩
  unfold MP.sDPut at hm
  cases q1 : me env with
  | none => simp [q1] at hm
  | some p1 =>
    obtain ⟨r, e1⟩ := p1
    simp only [q1] at hm
    cases q2 : esc e1 r with
    | none => simp [q2] at hm
    | some p2 =>
      obtain ⟨d, e2⟩ := p2
      simp only [q2] at hm
      cases q0 : ownD e2 i with
      | none => simp [q0] at hm
      | some tk0 =>
        simp only [q0] at hm
        cases q3 : mk e2 with
        | none => simp [q3] at hm
        | some p3 =>
          obtain ⟨rk, e3⟩ := p3
          simp only [q3] at hm
          cases q4 : vw e3 rk with
          | none => simp [q4] at hm
          | some k =>
            simp only [q4] at hm
            cases q5 : ownD e3 i with
            | none => simp [q5] at hm
            | some tkv =>
              obtain ⟨t, kv⟩ := tkv
              simp only [q5] at hm
              by_cases ok : (okKy t k && decide (kv.length < 16777216)) = true
              · rw [if_pos ok] at hm
                simp only [Option.some.injEq, Prod.mk.injEq] at hm
                obtain ⟨rfl, rfl⟩ := hm
                rw [Bool.and_eq_true] at ok
                obtain ⟨ok1, ok2⟩ := ok
                have ok2 := of_decide_eq_true ok2
                refine ke σ H I env r e1 _ g q1 fun v I1 H1 g1 t1 r1 => ?_
                obtain ⟨I2, g2, t2, r2⟩ := esc_ok g1 r1 q2
                have w0 := ownD_eq (t := tk0.1) (kv := tk0.2) q0
                have hil : i < σ.length := by
                  rw [g2.len]
                  exact (List.getElem?_eq_some_iff.mp w0).1
                obtain ⟨ov, hov⟩ : ∃ ov, σ[i]? = some ov := ⟨σ[i], List.getElem?_eq_getElem hil⟩
                obtain ⟨a, ho, ea, ia, ha, so⟩ := g2.ok i _ ov w0 hov
                subst ea
                refine ⟨.ref a, hov, ?_⟩
                refine kk' σ H1 I2 e2 rk e3 _ g2 q3 fun u I3 H3 g3 t3 r3 => ?_
                have w5 := ownD_eq q5
                obtain ⟨a', ho', ea', ia', ha', so'⟩ := g3.ok i _ _ w5 hov
                cases ea'
                have rv := r2.mono t3.ext
                have hy := vw_ok g3 r3 q4
                cases so' with
                | @dK kvs ks ds hks r5 =>
                  subst hks
                  unfold okKy at ok1
                  obtain ⟨kx, hkx⟩ := Option.isSome_iff_exists.mp ok1
                  have := keyOf_eq hkx
                  subst this
                  rw [keyV hy]
                  obtain ⟨ds', e5, r6⟩ := dPut_ok keyD eqKy_key kx rv r5
                  have hlen : kvs.length < sizeLine := by
                    have hz := r5.length
                    rw [List.length_map] at hz
                    rw [List.length_zip, List.length_map, hz, Nat.min_self] at ok2
                    rw [hz]
                    exact Nat.lt_of_lt_of_le ok2 (by decide)
                  refine ⟨a, _, rfl, .inl (.inl ⟨kvs, kx, ha', rfl, hlen, rfl⟩), ?_⟩
                  rw [e5] at kk
                  obtain ⟨g4, t4⟩ := own_upd (o' := .dct false (((putK kvs kx v).map fun p => keyD p.1).zip ds')) g3 w5 hov (.dK rfl r6)
                  exact kk σ I3 _ g4 (((t1.trans t2).trans t3).trans t4) (fun _ _ => rfl)
                | @dT L ks ds nk hks r5 =>
                  subst hks
                  cases k with
                  | tup kl =>
                    have ok1 : (match nkD (.tup kl) with | some k => okN k | none => false) = true := ok1
                    split at ok1
                    · rename_i kx hk
                      have hyr := hy.rp fun o z => by cases o <;> cases z
                      obtain ⟨e1, hn⟩ := rp_nk hk hyr
                      obtain ⟨b, vs, rfl, _⟩ := hy.tupP g3.ex
                      obtain ⟨ds', e5, r6⟩ := dPut_ok nkE eqKy_nk kx rv r5
                      have hlen : L.length < sizeLine := by
                        have hz := r5.length
                        rw [List.length_map] at hz
                        have hz2 : (kvN L).length = L.length := List.length_map _
                        rw [List.length_zip, List.length_map, hz, Nat.min_self] at ok2
                        rw [← hz2, hz]
                        exact Nat.lt_of_lt_of_le ok2 (by decide)
                      refine ⟨a, _, rfl, .inr ⟨L, kx, b, ha', nk.mono (same_t g3.ex), ok1, rfl, hn.mono (same_t g3.ex), hlen, rfl⟩, ?_⟩
                      rw [e1, e5, ← kvN_put L kx b v] at kk
                      rw [← kvN_put L kx b v] at r6
                      obtain ⟨g4, t4⟩ := own_upd (o' := .dct true (((kvN (putN L kx b v)).map fun p => nkE p.1).zip ds')) g3 w5 hov (.dT (nk.put ok1 hn v) rfl r6)
                      exact kk σ I3 _ g4 (((t1.trans t2).trans t3).trans t4) (fun _ _ => rfl)
                    · cases ok1
                  | _ => cases ok1
              · rw [if_neg ok] at hm
                cases hm
end
/-! len of a dict -/
def gLenD : List D → Option D := fun ds => match ds with
  | [.dct _ kv] => some (.int kv.length)
  | _ => none
theorem cm_lenD {X : Cx} {cl : ClM} : CaM X cl (.builtin "len") gLenD := by
  refine ⟨_, call_lenU, fun I H vs ds z Q ex hv hg k => ?_⟩
  unfold gLenD at hg
  split at hg
  · rename_i t kv
    cases Option.some.inj hg
    obtain ⟨v, rfl, h⟩ := hv.one
    cases t with
    | false =>
      obtain ⟨a, kvs, ds, rfl, hr, rfl, r⟩ := h.dctF ex
      have hz := r.length
      rw [List.length_map] at hz
      refine ⟨a, rfl, .inl ⟨kvs, hr, ?_⟩⟩
      have := k (.int kvs.length) I H (Al.refl ex)
      rw [List.length_zip, List.length_map, ← hz, Nat.min_self] at this
      exact this (.int _)
    | true =>
      obtain ⟨a, L, ds, rfl, hr, nk, rfl, r⟩ := h.dctT ex
      have hz := r.length
      rw [List.length_map] at hz
      have hz2 : (kvN L).length = L.length := List.length_map _
      refine ⟨a, rfl, .inr ⟨L, hr, nk, ?_⟩⟩
      have := k (.int L.length) I H (Al.refl ex)
      rw [List.length_zip, List.length_map, ← hz, Nat.min_self, hz2] at this
      exact this (.int _)
  · cases hg
end MP
set_option Elab.async false
set_option linter.all false
set_option maxRecDepth 100000
set_option maxHeartbeats 4000000
namespace MP
open PySem PySem.Spec PyProof.Rows L2
/-! ### set(l), l a list of ints -/
abbrev setNew (w : World) : Obj := { cls := .type "set", dict := none, data := .set #[] 0 (.fresh 0 0 (!w.params.followText "set-order")) }
section
variable {P : Program} {w : World} {A : Around} {E : Value → Shared → Prop} {s : Shared}
set_option maxHeartbeats 6400000 in
theorem call_set_lstI {l : Addr} {items : Array Value} (ns : List Int) {Q : Value → Shared → Prop} (hh : A.handled = none) (hl : s.heap.IsList l items) (hit : IntsAre items.toList ns) (hb : ns.length + 1 < scanBound)
    (h : ∀ (h' : Heap) (tk c : Nat), SetR w h' s.heap.objs.size (fun j => decide (j ∈ ns)) c → c ≤ ns.length → (∀ b o, s.heap.get? b = some o → h'.get? b = some o) → Q (.ref s.heap.objs.size) { s with heap := h', toks := tk }) :
    wpAny (model P w) A (call (.type "set") [.ref l]) Q E s := by
  have hisz : items.size = ns.length := by
    have q := IntsAre.length hit
    rw [Array.length_toList] at q
    exact q
  obtain ⟨c, tl, hmro⟩ := F.called_set.mro
  have hmade := F.called_set.made
  have hsub := F.called_set.sub
  refine wpAny_call (codeAny_of_tree ?_)
  show wpAny _ _ (callAny (.type "set") _) _ _ _
  refine wpAny_pure ⟨Code.quiet_builtin _ (by decide +kernel), codeAny_builtin F.entry_type_call ?_⟩
  rw [Around.under_plain (weight_type_call_type "set" [.ref l] []) rfl]
  have h1 := F.called_set.notType
  have h2 := F.called_set.canCreate
  have hct := F.typeCall_set_1 (.ref l)
  repeat (any_goals (first | assumption | wp_step))
  refine codeAny_mono (code_set_led1 (.ref l) (E := E) (Q₁ := fun obj s₁ => obj = .ref s.heap.objs.size ∧ s₁ = { s with heap := s.heap.push (setNew w) }) ⟨rfl, rfl⟩) fun r s₁ hr => ?_
  cases r with
  | error e => exact hr
  | ok fl =>
    cases fl with
    | ret obj =>
      obtain ⟨rfl, rfl⟩ := hr
      have hS : (s.heap.push (setNew w)).get? s.heap.objs.size = some (setNew w) := Heap.get?_push_size _ rfl
      have hT : Shared.TypeIs { s with heap := s.heap.push (setNew w) } (.ref s.heap.objs.size) "set" := ⟨_, hS, rfl⟩
      have hli := F.called_set.init.lookup
      have hbi := F.called_set.init.bind (.ref s.heap.objs.size)
      repeat (any_goals (first | assumption | wp_step))
      refine codeAny_mono (codeAny_call_builtin (R := wants (fun r s₂ => r = .none ∧ ∃ h' tk c, s₂ = { s with heap := h', toks := tk } ∧ SetR w h' s.heap.objs.size (fun j => decide (j ∈ ns)) c ∧ c ≤ ns.length ∧
          (∀ b o, s.heap.get? b = some o → h'.get? b = some o)) E) F.called_set.init.plain F.entry_set_init (check_set_init_1 hT ?_)) fun r₂ s₂ hr₂ => ?_
      · obtain ⟨ol, hol, hcl, nl, hdl⟩ := hl
        obtain ⟨ocls, odict, odata, oslots⟩ := ol
        simp only at hcl hdl
        subst hcl; subst hdl
        have hol' : (s.heap.push (setNew w)).get? l = some { cls := .type "list", dict := odict, data := .seq items nl, slots := oslots } := Heap.get?_push_of_some _ hol
        have hsls := F.sub_list_set
        have hslf := F.sub_list_frozenset
        have hne : (Value.type "list" == Value.type "dict") = false := by decide
        have hl1 : (s.heap.push (setNew w)).IsList l items := ⟨_, hol', rfl, nl, rfl⟩
        unfold Builtin.«set.__init__» noKeywords Builtin.Frozenset.updateFrom
        generalize hPI : pyIter = PI
        wp_walk
        subst hPI
        refine wpAny_pyIter_list hl1 ?_
        refine wpAny_bind (wpAny_runValue ?_)
        have hlS : l < s.heap.objs.size := Heap.lt_size hol
        have hh3 : A.in1.in1.in1.handled = none := by simp [hh]
        have hneI : l ≠ (s.heap.push (setNew w)).objs.size := by
          rw [Heap.size_push]
          exact fun e => Nat.lt_irrefl _ (Nat.lt_trans hlS (e ▸ Nat.lt_succ_self _))
        have hSf : s.heap.objs.size ∉ [(s.heap.push (setNew w)).objs.size, l] := by
          rw [Heap.size_push]
          simp only [List.mem_cons, List.not_mem_nil, or_false, not_or]
          exact ⟨fun e => Nat.succ_ne_self _ e.symm, fun e => Nat.lt_irrefl _ (e ▸ hlS)⟩
        have hval : ∀ (i : Nat) (v : Value), items[i]? = some v → ∃ k t, ns[i]? = some k ∧ v = .int k t := fun i v hv => by
          have hi : i < ns.length := by rw [← hisz]; exact (Array.getElem?_eq_some_iff.mp hv).1
          obtain ⟨t, e⟩ := IntsAre.int_at hit i v (by rw [Array.getElem?_toList]; exact hv)
          refine ⟨ns[i], t, List.getElem?_eq_getElem hi, ?_⟩
          rw [e, List.getD_eq_getElem?_getD, List.getElem?_eq_getElem hi] <;> rfl
        refine set_update_ints ((Walks.list hh3 _ l hneI items).toS) s.heap.objs.size hSf ns hisz hb hval (items.size - 0) 0 _ (by omega) (Nat.zero_le _)
          ⟨⟨_, Heap.get?_push_size _ rfl, rfl, rfl⟩, (hl1.push _)⟩ ?hS0 ?hR
        case hS0 =>
          exact ⟨0, Nat.le_refl 0, setR_new_at (Heap.get?_push_of_some _ hS)⟩
        case hR =>
          intro s' c' hm hc' hS'
          obtain ⟨h', g2, d', tk', os'⟩ := s'
          have eg : g2 = s.gens := hm.gens
          have ed : d' = s.drawn := hm.drawn
          have eo : os' = s.os := hm.os
          subst eg; subst ed; subst eo
          show wpAny _ _ _ _ _ _
          refine wpAny_pure ?_
          show wpAny _ _ (ret Value.none) _ _ _
          rw [hisz] at hc'
          refine wpAny_pure ⟨rfl, h', tk', c', rfl, hS', hc', fun b o e => ?_⟩
          have hb0 : b < s.heap.objs.size := Heap.lt_size e
          refine hm.heap b o ?_ (Heap.get?_push_of_some _ (Heap.get?_push_of_some _ e))
          simp only [List.mem_cons, List.not_mem_nil, or_false, not_or]
          rw [Heap.size_push]
          exact ⟨fun e => Nat.lt_irrefl _ (e ▸ hb0), fun e => Nat.lt_irrefl _ (Nat.lt_trans hb0 (e ▸ Nat.lt_succ_self _))⟩
      · cases r₂ with
        | error e => exact hr₂
        | ok fl =>
          cases fl with
          | ret v =>
            obtain ⟨rfl, h', tk, c, rfl, hS2, hc2, hk⟩ := hr₂
            repeat (any_goals (first | assumption | wp_step))
            exact h h' tk c hS2 hc2 hk
          | _ => exact hr₂.elim
    | _ => exact hr.elim
end

def rSetI (K : PySem.W.Frag) (w : World) : List V → Hp → VK → Prop := fun vs H Q => ∃ (l : Addr) (ns : List Int), vs = [.ref l] ∧ (SqL K H l (ns.map V.int) ∨ SqT K H l (ns.map V.int)) ∧ ns.length < 64 ∧
  ∀ p c, H p = none → c ≤ ns.length → Q (.ref p) (upd H p (SetO w p (fun j => decide (j ∈ ns)) c))
theorem cr_setI {X : Cx} (hc : X.calm = true) : CallR X (.type "set") (rSetI X.K X.w) := by
  intro pins s σ H vs us Q I r h
  obtain ⟨l, ns, rfl, hs, h64, q⟩ := h
  rw [Vals.ref1 r]
  have fin : ∀ (h' : Heap) (tk c : Nat), SetR X.w h' s.heap.objs.size (fun j => decide (j ∈ ns)) c → c ≤ ns.length → (∀ b o, s.heap.get? b = some o → h'.get? b = some o) →
      EP X pins σ Q (.ref s.heap.objs.size) { s with heap := h', toks := tk } := fun h' tk c R1 hcn k =>
    ⟨.ref _, _, I.laid (t' := tk) k (Nat.le_refl _) (setO_new R1), rfl, q _ c (I.hok.fresh (Nat.le_refl _)) hcn⟩
  rcases hs with hs | hs
  · obtain ⟨its, rv, pl, hz⟩ := I.list hs
    exact call_set_lstI ns (I.ok.hd hc) pl.isList (ints_of_vals rv) (by unfold scanBound; omega) fin
  · obtain ⟨its, rv, pt, hz⟩ := I.tuple hs
    exact call_set_tupI ns (I.ok.hd hc) (show s.heap.IsTuple l its.toArray from pt) (ints_of_vals rv) (by unfold scanBound; omega) fin
/-! ### rising lists of ints -/
def insS (k : Int) : List Int → List Int
  | [] => [k]
  | a :: r => if k < a then k :: a :: r else if k = a then a :: r else a :: insS k r
def srtS : List Int → List Int
  | [] => []
  | a :: r => insS a (srtS r)
theorem insS_mem (k j : Int) : ∀ l : List Int, j ∈ insS k l ↔ j = k ∨ j ∈ l
  | [] => by simp [insS]
  | a :: r => by
    unfold insS
    have ih := insS_mem k j r
    split
    · simp
    · split
      · rename_i h
        subst h
        simp
      · simp only [List.mem_cons, ih]
        constructor
        · rintro (h | h | h) <;> simp [h]
        · rintro (h | h | h) <;> simp [h]
theorem insS_pw (k : Int) : ∀ l : List Int, l.Pairwise (· < ·) → (insS k l).Pairwise (· < ·)
  | [], _ => by simp [insS]
  | a :: r, h => by
    unfold insS
    rw [List.pairwise_cons] at h
    split
    · rename_i hk
      rw [List.pairwise_cons]
      refine ⟨fun j hj => ?_, List.pairwise_cons.2 h⟩
      rcases List.mem_cons.1 hj with rfl | hj
      · exact hk
      · exact Int.lt_trans hk (h.1 j hj)
    · split
      · exact List.pairwise_cons.2 h
      · rw [List.pairwise_cons]
        refine ⟨fun j hj => ?_, insS_pw k r h.2⟩
        rcases (insS_mem k j r).1 hj with rfl | hj
        · omega
        · exact h.1 j hj
theorem srtS_mem (j : Int) : ∀ l : List Int, j ∈ srtS l ↔ j ∈ l
  | [] => by simp [srtS]
  | a :: r => by rw [srtS, insS_mem, srtS_mem j r, List.mem_cons]
theorem srtS_pw : ∀ l : List Int, (srtS l).Pairwise (· < ·)
  | [] => List.Pairwise.nil
  | a :: r => insS_pw a _ (srtS_pw r)
/-- a rising list is told by its members -/
theorem rise_ext : ∀ {l m : List Int}, l.Pairwise (· < ·) → m.Pairwise (· < ·) → (∀ j, j ∈ l ↔ j ∈ m) → l = m
  | [], [], _, _, _ => rfl
  | [], b :: m, _, _, h => absurd ((h b).2 List.mem_cons_self) (by simp)
  | a :: l, [], _, _, h => absurd ((h a).1 List.mem_cons_self) (by simp)
  | a :: l, b :: m, h1, h2, h => by
    rw [List.pairwise_cons] at h1 h2
    have hab : a = b := by
      rcases List.mem_cons.1 ((h a).1 List.mem_cons_self) with e | e
      · exact e
      · rcases List.mem_cons.1 ((h b).2 List.mem_cons_self) with e2 | e2
        · exact e2.symm
        · have := h1.1 b e2
          have := h2.1 a e
          omega
    subst hab
    rw [rise_ext h1.2 h2.2 fun j => ?_]
    have n1 : j ∈ l → j ≠ a := fun hj e => by
      have := h1.1 j hj
      omega
    have n2 : j ∈ m → j ≠ a := fun hj e => by
      have := h2.1 j hj
      omega
    have hj := h j
    simp only [List.mem_cons] at hj
    constructor
    · exact fun z => (hj.1 (.inr z)).resolve_left (n1 z)
    · exact fun z => (hj.2 (.inr z)).resolve_left (n2 z)
theorem srtS_id {l : List Int} (h : l.Pairwise (· < ·)) : srtS l = l := rise_ext (srtS_pw l) h fun j => srtS_mem j l
/-! ### sorted(set(l)) -/
def fgSS : List D → Option SO := fun ds => match ds with
  | [.lst xs] => match intsD xs with
    | some ns => if ns.length < 64 then some (.lst ((srtS ns).map .int)) else none
    | none => none
  | [.tup xs] => match intsD xs with
    | some ns => if ns.length < 64 then some (.lst ((srtS ns).map .int)) else none
    | none => none
  | _ => none
section
variable {X : Cx} {cl : ClM}
def tSS (K : PySem.W.Frag) (w : World) (t : TA) : TE := tCB (rSortedSet w) (tCons (tCB (rSetI K w) t) tNil)
theorem mf_ss {e a : Expr} {ms : Xa} (hm : MA X cl [a] ms) (hp : ∀ t, PA X [a] t → PE X e (tSS X.K X.w t)) : MF X cl e (fCB fgSS ms) := by
  obtain ⟨t, p, k⟩ := hm
  refine ⟨_, hp t p, fun σ H I env r' env' Q gd hme kk => ?_⟩
  unfold fCB at hme
  cases q : ms env with
  | none => simp [q] at hme
  | some pr =>
    obtain ⟨rs, e1⟩ := pr
    simp only [q] at hme
    cases q2 : vwL e1 rs with
    | none => simp [q2] at hme
    | some ds =>
      simp only [q2] at hme
      cases q3 : fgSS ds with
      | none => simp [q3] at hme
      | some z =>
        simp only [q3, Option.some.injEq, Prod.mk.injEq] at hme
        obtain ⟨rfl, rfl⟩ := hme
        refine k σ H I env rs e1 _ gd q fun vs I1 H1 g1 t1 r1 => ?_
        have hv := vwL_ok g1 r1 q2
        have fin : ∀ (l : Addr) (ns : List Int), vs = [.ref l] → (SqL X.K H1 l (ns.map V.int) ∨ SqT X.K H1 l (ns.map V.int)) → ns.length < 64 → z = .lst ((srtS ns).map .int) → rSetI X.K X.w vs H1 fun v H2 => tNil σ H2 fun ws H3 => rSortedSet X.w (v :: ws) H3 Q := by
          intro l ns ev hs h64 ez
          refine ⟨l, ns, ev, hs, h64, fun a c ha hca => ?_⟩
          refine ⟨a, _, c, rfl, upd_same, by omega, fun ns' b hpw hmem hlen hb => ?_⟩
          have e1 : ns' = srtS ns := rise_ext hpw (srtS_pw ns) fun j => by
            rw [srtS_mem, hmem, decide_eq_true_eq]
          subst e1
          subst ez
          have al1 : Al I1 H1 I1 (upd H1 a (SetO X.w a (fun j => decide (j ∈ ns)) c)) := Al.newH g1.ex ha
          have al2 := Al.newH (ho := .lst ((srtS ns).map V.int)) al1.ex hb
          have hb1 : H1 b = none := by
            by_cases eq : b = a
            · rw [eq]; exact ha
            · rw [upd_ne eq] at hb
              exact hb
          exact kk b _ _ _ (g1.al (al1.trans al2)) (t1.trans (al1.trans al2).tr) (g1.ex.free hb1) upd_same (.lst (RpA.ofInts _)) (t1.back (.inr hb1)) (nf_fresh g1 hb1)
        unfold fgSS at q3
        split at q3
        · rename_i xs
          cases q4 : intsD xs with
          | none => simp [q4] at q3
          | some ns =>
            simp only [q4] at q3
            by_cases h64 : ns.length < 64
            · rw [if_pos h64] at q3
              obtain ⟨v, rfl, h⟩ := hv.one
              obtain ⟨l, ws, rfl, hs, r⟩ := h.lst g1.ex
              rw [intsD_eq q4] at r
              have e := r.ints
              subst e
              exact fin l ns rfl (.inl (SqL.of hs)) h64 (Option.some.inj q3).symm
            · rw [if_neg h64] at q3
              cases q3
        · rename_i xs
          cases q4 : intsD xs with
          | none => simp [q4] at q3
          | some ns =>
            simp only [q4] at q3
            by_cases h64 : ns.length < 64
            · rw [if_pos h64] at q3
              obtain ⟨v, rfl, h⟩ := hv.one
              obtain ⟨l, ws, rfl, hs, r, _⟩ := h.tup g1.ex
              rw [intsD_eq q4] at r
              have e := r.ints
              subst e
              exact fin l ns rfl (.inr hs) h64 (Option.some.inj q3).symm
            · rw [if_neg h64] at q3
              cases q3
        · cases q3
@[simp] theorem fgSS_l (ns : List Int) : fgSS [.lst (ns.map .int)] = if ns.length < 64 then some (.lst ((srtS ns).map .int)) else none := by
  unfold fgSS
  simp only [intsD_map]
@[simp] theorem fgSS_t (ns : List Int) : fgSS [.tup (ns.map .int)] = if ns.length < 64 then some (.lst ((srtS ns).map .int)) else none := by
  unfold fgSS
  simp only [intsD_map]
/-! ### sorted(l), l a list of ints -/
def insI (k : Int) : List Int → List Int
  | [] => [k]
  | a :: r => if k ≤ a then k :: a :: r else a :: insI k r
def srtI : List Int → List Int
  | [] => []
  | a :: r => insI a (srtI r)
theorem insI_perm (k : Int) : ∀ l : List Int, (insI k l).Perm (k :: l)
  | [] => .refl _
  | a :: r => by
    unfold insI
    split
    · exact .refl _
    · exact ((insI_perm k r).cons a).trans (.swap k a r)
theorem srtI_perm : ∀ l : List Int, (srtI l).Perm l
  | [] => .refl _
  | a :: r => (insI_perm a _).trans ((srtI_perm r).cons a)
theorem insI_pw (k : Int) : ∀ l : List Int, l.Pairwise (· ≤ ·) → (insI k l).Pairwise (· ≤ ·)
  | [], _ => by simp [insI]
  | a :: r, h => by
    unfold insI
    rw [List.pairwise_cons] at h
    split
    · rename_i hk
      rw [List.pairwise_cons]
      refine ⟨fun j hj => ?_, List.pairwise_cons.2 h⟩
      rcases List.mem_cons.1 hj with rfl | hj
      · exact hk
      · exact Int.le_trans hk (h.1 j hj)
    · rw [List.pairwise_cons]
      refine ⟨fun j hj => ?_, insI_pw k r h.2⟩
      rcases List.mem_cons.1 ((insI_perm k r).mem_iff.1 hj) with rfl | hj
      · omega
      · exact h.1 j hj
theorem srtI_pw : ∀ l : List Int, (srtI l).Pairwise (· ≤ ·)
  | [] => List.Pairwise.nil
  | a :: r => insI_pw a _ (srtI_pw r)
theorem le_ext {l m : List Int} (h : l.Perm m) (h1 : l.Pairwise (· ≤ ·)) (h2 : m.Pairwise (· ≤ ·)) : l = m :=
  h.eq_of_pairwise (fun a b _ _ => Int.le_antisymm) h1 h2
def fgSI : List D → Option SO := fun ds => match ds with
  | [.lst xs] => match intsD xs with
    | some ns => some (.lst ((srtI ns).map .int))
    | none => none
  | _ => none
theorem cf_sortI : CaF X cl (.builtin "sorted") fgSI := by
  refine ⟨_, cr_sortedI, fun I H vs ds o Q ex hv hg k => ?_⟩
  unfold fgSI at hg
  split at hg
  · rename_i xs
    cases q : intsD xs with
    | none => simp [q] at hg
    | some ns =>
      simp only [q, Option.some.injEq] at hg
      subst hg
      obtain ⟨v, rfl, h⟩ := hv.one
      obtain ⟨a, ws, rfl, hs, r⟩ := h.lst ex
      rw [intsD_eq q] at r
      have e := r.ints
      subst e
      refine ⟨a, ns, rfl, SqL.of hs, fun ns' p hpm hpw hp => ?_⟩
      have e2 : ns' = srtI ns := le_ext (hpm.trans (srtI_perm ns).symm) hpw (srtI_pw ns)
      subst e2
      exact k p _ I _ (Al.newH ex hp) (ex.free hp) hp upd_same (.lst (RpA.ofInts _))
  · cases hg
@[simp] theorem fgSI_l (ns : List Int) : fgSI [.lst (ns.map .int)] = some (.lst ((srtI ns).map .int)) := by
  unfold fgSI
  simp only [intsD_map]
/-! ### methods of a list that is only read: l.index(x), l.count(x) -/
def eMv (g : List D → List D → Option D) (m : Xp) (ms : Xa) : Xp := fun env => match m env with
  | none => none
  | some (r, e1) => match vw e1 r with
    | some (.lst _) => match ms e1 with
      | none => none
      | some (rs, e2) => match vw e2 r, vwL e2 rs with
        | some (.lst xs), some ds => match g xs ds with
          | some z => some (.d z, e2)
          | none => none
        | _, _ => none
    | _ => none
@[simp] theorem eMv_s (g : List D → List D → Option D) (m : Xp) (ms : Xa) (env : MEnv) : eMv g m ms env = match m env with
  | none => none
  | some (r, e1) => match vw e1 r with
    | some (.lst _) => match ms e1 with
      | none => none
      | some (rs, e2) => match vw e2 r, vwL e2 rs with
        | some (.lst xs), some ds => match g xs ds with
          | some z => some (.d z, e2)
          | none => none
        | _, _ => none
    | _ => none := (rfl)
def MvL (X : Cx) (cl : ClM) (r : V → List V → Hp → VK → Prop) (g : List D → List D → Option D) : Prop := ∀ (I H : Hp) (v : V) (ws : List V) (xs ds : List D) (z : D) (Q : VK), Same I H → Vw X.K cl I H v (.lst xs) → VwA X.K cl I H ws ds → g xs ds = some z →
  (∀ u I' H', Al I H I' H' → Rp X.K cl I' u z → Q u H') → r v ws H Q
theorem me_mv {e o : Expr} {es : List Expr} {m : Xp} {ms : Xa} {g : List D → List D → Option D} {r : V → List V → Hp → VK → Prop} (hr : MvL X cl r g) (ho : ME X cl o m) (hm : MA X cl es ms)
    (hp : ∀ to t, PE X o to → PA X es t → PE X e (tBM X.K "list" r to t)) : ME X cl e (eMv g m ms) := by
  obtain ⟨to, po, ko⟩ := ho
  obtain ⟨t, p, k⟩ := hm
  refine ⟨_, hp to t po p, fun σ H I env r' env' Q gd hme kk => ?_⟩
  unfold eMv at hme
  cases q : m env with
  | none => simp [q] at hme
  | some pr =>
    obtain ⟨r1, e1⟩ := pr
    simp only [q] at hme
    split at hme
    · rename_i xs0 q2
      cases q3 : ms e1 with
      | none => simp [q3] at hme
      | some pr3 =>
        obtain ⟨rs, e2⟩ := pr3
        simp only [q3] at hme
        split at hme
        · rename_i xs ds q4 q5
          cases q6 : g xs ds with
          | none => simp [q6] at hme
          | some z =>
            simp only [q6, Option.some.injEq, Prod.mk.injEq] at hme
            obtain ⟨rfl, rfl⟩ := hme
            refine ko σ H I env r1 e1 _ gd q fun v I1 H1 g1 t1 rv => ?_
            obtain ⟨a, ws, rfl, hs, _⟩ := (vw_ok g1 rv q2).lst g1.ex
            refine ⟨.inl ⟨rfl, _, SqL.of hs⟩, ?_⟩
            refine k σ H1 I1 e1 rs e2 _ g1 q3 fun us I2 H2 g2 t2 r2 => ?_
            exact hr I2 H2 _ us xs ds z Q g2.ex (vw_ok g2 (rv.mono t2.ext) q4) (vwL_ok g2 r2 q5) q6 fun u I3 H3 al ru => kk u I3 H3 (g2.al al) ((t1.trans t2).trans al.tr) ru
        · cases hme
    · cases hme
def gIndex : List D → List D → Option D := fun xs ds => match ds with
  | [d] => if shD (.lst xs) && shD d then match xs.findIdx? (fun z => eqD z d) with
    | some j => some (.int (j : Nat))
    | none => none
    else none
  | _ => none
theorem pyDs_get : ∀ (xs : List D) (i : Nat), (pyDs xs)[i]? = (xs[i]?).map pyD
  | [], i => by simp [pyDs]
  | x :: xs, 0 => by simp [pyDs]
  | x :: xs, i + 1 => by
    have := pyDs_get xs i
    simpa [pyDs] using this
theorem layDs_get : ∀ {xs : List D} {i : Nat} {x : D}, layDs xs = true → xs[i]? = some x → layD x = true
  | x :: xs, 0, y, h, e => by
    simp only [layDs, Bool.and_eq_true] at h
    simp only [List.getElem?_cons_zero, Option.some.injEq] at e
    subst e
    exact h.1
  | x :: xs, i + 1, y, h, e => by
    simp only [layDs, Bool.and_eq_true] at h
    exact layDs_get (i := i) h.2 (by simpa using e)
theorem mv_index (hu : X.A.units + 65 < cLine) : MvL X cl (rIndexD X.K) gIndex := by
  intro I H v ws xs ds z Q ex hv hws hg k
  unfold gIndex at hg
  split at hg
  · rename_i d
    by_cases hc : (shD (.lst xs) && shD d) = true
    · rw [if_pos hc] at hg
      rw [Bool.and_eq_true] at hc
      split at hg
      · rename_i j q
        cases Option.some.inj hg
        obtain ⟨y, rfl, hy⟩ := hws.one
        obtain ⟨a, vs, rfl, _, _⟩ := hv.lst ex
        obtain ⟨hj, h1, h2⟩ := List.findIdx?_eq_some_iff_getElem.1 q
        have hl : layDs xs = true := by
          have := lay_sh hc.1
          simpa only [layD] using this
        refine ⟨a, y, pyD d, pyDs xs, j, pyD xs[j], rfl, rfl, ?_, hy.dp ex (lay_sh hc.2), ?_, sh_py hc.2, ?_, ?_, fun m z' hm hz => ?_, k _ I H (Al.refl ex) (.int _)⟩
        · have := hv.dp ex (lay_sh hc.1)
          simpa only [pyD] using this
        · have := sh_py hc.1
          simpa only [pyD] using this
        · rw [pyDs_get, List.getElem?_eq_getElem hj]
          rfl
        · rw [eq_py xs[j] d (layDs_get hl (List.getElem?_eq_getElem hj)) (lay_sh hc.2)]
          exact h1
        · rw [pyDs_get] at hz
          have hml : m < xs.length := by omega
          rw [List.getElem?_eq_getElem hml] at hz
          cases Option.some.inj hz
          rw [eq_py xs[m] d (layDs_get hl (List.getElem?_eq_getElem hml)) (lay_sh hc.2)]
          have := h2 m hm
          simpa using this
      · cases hg
    · rw [if_neg hc] at hg
      cases hg
  · cases hg
def gCount : List D → List D → Option D := fun xs ds => match ds, intsD xs with
  | [.int k], some ns => some (.int (ns.count k : Nat))
  | _, _ => none
theorem mv_count : MvL X cl (rCntI X.K) gCount := by
  intro I H v ws xs ds z Q ex hv hws hg k
  unfold gCount at hg
  split at hg
  · rename_i d ns q
    cases Option.some.inj hg
    obtain ⟨y, rfl, hy⟩ := hws.one
    cases hy.int
    obtain ⟨a, vs, rfl, hs, r⟩ := hv.lst ex
    rw [intsD_eq q] at r
    have e := r.ints
    subst e
    exact ⟨a, ns, _, rfl, rfl, SqL.of hs, k _ I H (Al.refl ex) (.int _)⟩
  · cases hg
/-! ### l[a::-1] -/
def pickN {α : Type} (xs : List α) (lo : Option Int) : List α :=
  (sliceRange (sliceBounds lo none (some (-1)) xs.length).1 (sliceBounds lo none (some (-1)) xs.length).2.1 (sliceBounds lo none (some (-1)) xs.length).2.2).filterMap (xs[·]?)
theorem vals_pick {xs : List V} {us : List Value} (h : Vals xs us) : ∀ js : List Nat, Vals (js.filterMap (xs[·]?)) (js.filterMap (us[·]?))
  | [] => .nil
  | j :: js => by
    have ih := vals_pick h js
    rw [List.filterMap_cons, List.filterMap_cons]
    by_cases hj : j < xs.length
    · have hj2 : j < us.length := by rw [← h.length]; exact hj
      obtain ⟨u, e, r⟩ := h.get (List.getElem?_eq_getElem hj)
      rw [List.getElem?_eq_getElem hj, e]
      exact .cons r ih
    · have hj2 : ¬ j < us.length := by rw [← h.length]; exact hj
      rw [List.getElem?_eq_none (by omega), List.getElem?_eq_none (by omega)]
      exact ih
theorem rpa_pick {K : PySem.W.Frag} {I : Hp} {vs : List V} {ds : List D} (h : RpA K cl I vs ds) : ∀ js : List Nat, RpA K cl I (js.filterMap (vs[·]?)) (js.filterMap (ds[·]?))
  | [] => .nil
  | j :: js => by
    have ih := rpa_pick h js
    rw [List.filterMap_cons, List.filterMap_cons]
    by_cases hj : j < ds.length
    · obtain ⟨u, e, r⟩ := h.get (List.getElem?_eq_getElem hj)
      rw [List.getElem?_eq_getElem hj, e]
      exact .cons r ih
    · have hj2 : ¬ j < vs.length := by rw [h.length]; exact hj
      rw [List.getElem?_eq_none (by omega), List.getElem?_eq_none (by omega)]
      exact ih
theorem slicePick_N (items : List Value) (lo : Option Int) : slicePick items.toArray lo none (some (-1)) = (pickN items lo).toArray := by
  unfold slicePick pickN
  simp
theorem pickN_le {α : Type} (xs : List α) (lo : Option Int) : (pickN xs lo).length ≤ xs.length := by
  unfold pickN
  refine Nat.le_trans (List.length_filterMap_le _ _) ?_
  refine sliceRange_length_le _ _ _ _ (fun h => ?_) (fun _ => ?_)
  · have : ¬ ((-1 : Int) > 0) := by decide
    exact absurd h this
  · unfold sliceBounds
    cases lo with
    | none => simp
    | some a =>
      simp
      omega
def tSlN (K : PySem.W.Frag) (te : TE) (tl : TO) : TE := fun σ H Q => te σ H fun x H1 => tl σ H1 fun l H2 => ∃ a xs, x = .ref a ∧ SqL K H2 a xs ∧ ∀ p, H2 p = none → Q (.ref p) (upd H2 p (.lst (pickN xs l)))
theorem pe_slN {e lo : Expr} {te : TE} {tl : TO} {k : Nat} {p1 p2 p3 pos : Pos} (he : PE X e te) (hl : PO X (some lo) tl) : PE X (.Subscript e (.Slice (some lo) none (some (.UnaryOp .USub (.Constant (.int 1) k p1) p2)) p3) pos) (tSlN X.K te tl) := by
  refine ⟨fun pins s σ H Q I h => ?_⟩
  refine Subscript_ (thn (he.run pins s σ H _ I h) fun v s1 ⟨x, H1, I1, r1, q1⟩ => ?_)
  have hst : PO X (some (.UnaryOp .USub (.Constant (.int 1) k p1) p2)) (tPart (tUn (rU fun i => .int (-i)) (tC (.int 1)))) := po_some (pe_un un_neg pe_int)
  refine wpAny_Slice (thn (hl.run pins s1 σ H1 _ I1 q1) fun vl s2 ⟨l, H2, I2, pl, q2⟩ => ?_)
  obtain ⟨a, xs, ex, hx, q⟩ := q2
  subst ex
  cases r1
  refine thn (po_none.run pins s2 σ H2 (fun o H3 => o = none ∧ H3 = H2) I2 ⟨rfl, rfl⟩) fun vu s3 ⟨u, H3, I3, pu, eu, e3⟩ => ?_
  subst eu e3
  refine thn (hst.run pins s3 σ H3 (fun o H4 => o = some (-1) ∧ H4 = H3) I3 ⟨1, rfl, -1, rfl, rfl, rfl⟩) fun vs s4 ⟨o, H4, I4, ps, eo, e4⟩ => ?_
  subst eo e4
  have I5 : Inv X pins σ H4 { s4 with heap := s4.heap.push { cls := .type "slice", data := .fields #[vl, vu, vs] } } := I4.kept (t' := s4.toks) fun b ob q => Heap.get?_push_of_some _ q
  obtain ⟨its, r, ht, hz⟩ := I5.list hx
  have hlen := r.length
  refine tail_any (ops := [.ref a, .ref s4.heap.objs.size]) ht.isList.typeIs (PySem.slot_list_getitem.lookup) ?_ (by with_unfolding_all rfl)
  refine wpAny_getItem_list_slice ht.isList (Heap.IsSliceOf.new _ vl vu vs) pl pu ps (by decide) ?_ (by rw [List.size_toArray]; omega)
  rw [slicePick_N]
  refine ⟨.ref _, _, I5.laid (t' := s4.toks) (o := .lst (pickN xs l)) (fun b ob q => Heap.get?_push_of_some _ q) (Nat.le_refl _) ?_, rfl, q _ (I5.hok.fresh (Nat.le_refl _))⟩
  refine ⟨Nat.le_trans (pickN_le xs l) hz, pickN its l, 0, ?_, Heap.get?_push_size _ rfl⟩
  unfold pickN
  rw [hlen]
  exact vals_pick r _
def fSlN (m : Xp) (ml : Xo) : Xf := fun env => match m env with
  | none => none
  | some (r, e1) => match ml e1 with
    | none => none
    | some (lo, e2) => match vw e2 r with
      | some (.lst xs) => some (.lst (pickN xs lo), e2)
      | _ => none
@[simp] theorem fSlN_s (m : Xp) (ml : Xo) (env : MEnv) : fSlN m ml env = match m env with
  | none => none
  | some (r, e1) => match ml e1 with
    | none => none
    | some (lo, e2) => match vw e2 r with
      | some (.lst xs) => some (.lst (pickN xs lo), e2)
      | _ => none := (rfl)
theorem mf_slN {a lo : Expr} {m : Xp} {ml : Xo} {k : Nat} {p1 p2 p3 pos : Pos} (h : ME X cl a m) (hl : MO X cl (some lo) ml) : MF X cl (.Subscript a (.Slice (some lo) none (some (.UnaryOp .USub (.Constant (.int 1) k p1) p2)) p3) pos) (fSlN m ml) := by
  obtain ⟨t, p, k1⟩ := h
  obtain ⟨tl, pl, kl⟩ := hl
  refine ⟨_, pe_slN p pl, fun σ H I env r env' Q g hm kk => ?_⟩
  unfold fSlN at hm
  cases q : m env with
  | none => simp [q] at hm
  | some pr =>
    obtain ⟨r1, e1⟩ := pr
    simp only [q] at hm
    cases q2 : ml e1 with
    | none => simp [q2] at hm
    | some pr2 =>
      obtain ⟨lo', e2⟩ := pr2
      simp only [q2] at hm
      cases q4 : vw e2 r1 with
      | none => simp [q4] at hm
      | some d =>
        cases d with
        | lst xs =>
          simp only [q4, Option.some.injEq, Prod.mk.injEq] at hm
          obtain ⟨rfl, rfl⟩ := hm
          refine k1 σ H I env r1 e1 _ g q fun v I1 H1 g1 t1 rv => ?_
          refine kl σ H1 I1 e1 lo' e2 _ g1 q2 fun I2 H2 g2 t2 => ?_
          have t12 := t1.trans t2
          obtain ⟨a, vs, rfl, hs, rr⟩ := (vw_ok g2 (rv.mono t2.ext) q4).lst g2.ex
          refine ⟨a, vs, rfl, SqL.of hs, fun b hb => ?_⟩
          have al : Al I2 H2 I2 (upd H2 b (.lst (pickN vs lo'))) := Al.newH g2.ex hb
          refine kk b _ _ _ (g2.al al) (t12.trans al.tr) (g2.ex.free hb) upd_same (.lst ?_) (t12.back (.inr hb)) (nf_fresh g2 hb)
          unfold pickN
          rw [rr.length]
          exact rpa_pick rr _
        | _ => simp [q4] at hm
end
end MP
set_option Elab.async false
set_option linter.all false
set_option maxRecDepth 100000
set_option maxHeartbeats 4000000
namespace MP
open PySem PySem.Spec PyProof.Rows L2
section
variable {X : Cx} {cl : ClM}
/-! ### l.extend(m), l.insert(i, x): l a slot's own list -/
def MtLs (X : Cx) (cl : ClM) (r : V → List V → Hp → VK → Prop) (g : gMt) : Prop := ∀ (I H : Hp) (p : Addr) (vs ws : List V) (xs args : List D) (res : D) (xs' : List D) (Q : VK), Same I H → I p = none → H p = some (.lst vs) → RpA X.K cl I vs xs → RpA X.K cl I ws args → g xs args = some (res, xs') →
  (∀ v vs', Rp X.K cl I v res → RpA X.K cl I vs' xs' → Q v (upd H p (.lst vs'))) → r (.ref p) ws H Q
theorem me_mts {e : Expr} {es : List Expr} {i : Nat} {g : gMt} {ms : Xa} {r : V → List V → Hp → VK → Prop} (hr : MtLs X cl r g) (hm : MA X cl es ms) (hp : ∀ t, PA X es t → PE X e (tBM X.K "list" r (tVar i) t)) : ME X cl e (eMt g i ms) := by
  obtain ⟨t, p, k⟩ := hm
  refine ⟨_, hp t p, fun σ H I env r' env' Q gd hme kk => ?_⟩
  unfold eMt at hme
  cases q0 : ownL env i with
  | none => simp [q0] at hme
  | some xs0 =>
    simp only [q0] at hme
    cases q : ms env with
    | none => simp [q] at hme
    | some pr =>
      obtain ⟨rs, e1⟩ := pr
      simp only [q] at hme
      cases q2 : escL e1 rs with
      | none => simp [q2] at hme
      | some pr2 =>
        obtain ⟨args, e2⟩ := pr2
        simp only [q2] at hme
        cases q3 : ownL e2 i with
        | none => simp [q3] at hme
        | some xs =>
          simp only [q3] at hme
          cases q4 : g xs args with
          | none => simp [q4] at hme
          | some pr4 =>
            obtain ⟨res, xs'⟩ := pr4
            simp only [q4, Option.some.injEq, Prod.mk.injEq] at hme
            obtain ⟨rfl, rfl⟩ := hme
            have w0 := ownL_eq q0
            have hil : i < σ.length := by
              rw [gd.len]
              exact (List.getElem?_eq_some_iff.mp w0).1
            obtain ⟨ov, hov⟩ : ∃ ov, σ[i]? = some ov := ⟨σ[i], List.getElem?_eq_getElem hil⟩
            obtain ⟨a, ho, ea, ia, ha, so⟩ := gd.ok i _ ov w0 hov
            subst ea
            cases so with
            | lst r0 =>
              refine ⟨.ref a, hov, .inl ⟨rfl, _, SqL.of ha⟩, ?_⟩
              refine k σ H I env rs e1 _ gd q fun ws I1 H1 g1 t1 r1 => ?_
              obtain ⟨I2, g2, t2, r2⟩ := escL_ok g1 r1 q2
              have w3 := ownL_eq q3
              obtain ⟨a', ho', ea', ia', ha', so'⟩ := g2.ok i _ _ w3 hov
              cases ea'
              cases so' with
              | lst r3 =>
                refine hr I2 H1 a _ ws xs args res xs' Q g2.ex ia' ha' r3 r2 q4 fun v vs' rv rvs => ?_
                obtain ⟨g4, t4⟩ := own_upd (o' := .lst xs') g2 w3 hov (.lst rvs)
                exact kk v I2 _ g4 ((t1.trans t2).trans t4) rv
def gExtend : gMt := fun xs args => match args with
  | [.lst ys] => if xs.length + ys.length ≤ 16777216 then some (.non, xs ++ ys) else none
  | _ => none
@[simp] theorem gExtend_l (xs ys : List D) : gExtend xs [.lst ys] = if xs.length + ys.length ≤ 16777216 then some (.non, xs ++ ys) else none := (rfl)
theorem ml_extend : MtLs X cl rExtend gExtend := by
  intro I H p vs ws xs args res xs' Q ex ip hp r ra hg k
  unfold gExtend at hg
  split at hg
  · rename_i ys
    split at hg
    · rename_i hlt
      simp only [Option.some.injEq, Prod.mk.injEq] at hg
      obtain ⟨rfl, rfl⟩ := hg
      cases ra with
      | cons h t =>
        cases t
        cases h with
        | lst hb rb =>
          refine ⟨p, _, vs, _, rfl, rfl, hp, ex _ _ hb, ?_, k _ _ .non (r.append rb)⟩
          rw [r.length, rb.length]
          exact Nat.le_trans hlt (by decide)
    · cases hg
  · cases hg
def rInsert : V → List V → Hp → VK → Prop := fun x vs H Q => ∃ (l : Addr) (xs : List V) (i : Int) (y : V), x = .ref l ∧ vs = [.int i, y] ∧ H l = some (.lst xs) ∧ xs.length < sizeLine ∧ 0 ≤ i ∧ i < 2 ^ 63 ∧
    Q .non (upd H l (.lst (xs.take i.toNat ++ [y] ++ xs.drop i.toNat)))
def gInsert : gMt := fun xs args => match args with
  | [.int i, y] => if okK i && decide (0 ≤ i) && decide (xs.length < 16777216) then some (.non, xs.take i.toNat ++ [y] ++ xs.drop i.toNat) else none
  | _ => none
@[simp] theorem gInsert_i (xs : List D) (i : Int) (y : D) : gInsert xs [.int i, y] = if okK i && decide (0 ≤ i) && decide (xs.length < 16777216) then some (.non, xs.take i.toNat ++ [y] ++ xs.drop i.toNat) else none := (rfl)
theorem ml_insert : MtLs X cl rInsert gInsert := by
  intro I H p vs ws xs args res xs' Q ex ip hp r ra hg k
  unfold gInsert at hg
  split at hg
  · rename_i i y
    split at hg
    · rename_i hc
      simp only [Bool.and_eq_true, decide_eq_true_eq] at hc
      simp only [Option.some.injEq, Prod.mk.injEq] at hg
      obtain ⟨rfl, rfl⟩ := hg
      cases ra with
      | cons h t =>
        cases t with
        | cons h2 t =>
          cases t
          cases h
          refine ⟨p, vs, i, _, rfl, rfl, hp, ?_, hc.1.2, (okK_ok hc.1.1).2, k _ _ .non (((r.take _).append (.cons h2 .nil)).append (r.drop _))⟩
          rw [r.length]
          exact Nat.lt_of_lt_of_le hc.2 (by decide)
    · cases hg
  · cases hg
end
section
variable {X : Cx} {cl : ClM} {e : Expr} {es : List Expr} {ms : Xa} {np : Nat} {R : Nat → Bool} {f : Fn}
/-! ### a call whose arguments stay the caller's own; the answer is a new list of plain things -/
def eCallL (f : Fn) (ms : Xa) : Xp := fun env => match ms env with
  | none => none
  | some (rs, e1) => match vwL e1 rs with
    | none => none
    | some ds => match f (ds.map .val) with
      | some (.o (.lst xs), _) => if flatDs xs then some (.d (.lst xs), e1) else none
      | _ => none
open Classical in
theorem me_callL (hm : MA X cl es ms) (hp : ∀ t, PA X es t → PE X e (tCall (spG X.K cl np R f) [] E0 t)) (hnp : ∀ env rs e1, ms env = some (rs, e1) → rs.length = np) : ME X cl e (eCallL f ms) := by
  obtain ⟨t, p, kk⟩ := hm
  refine ⟨_, hp t p, fun σ H I env r env' Q g hme k' => ?_⟩
  unfold eCallL at hme
  cases q1 : ms env with
  | none => simp [q1] at hme
  | some p1 =>
    obtain ⟨rs, e1⟩ := p1
    simp only [q1] at hme
    cases q2 : vwL e1 rs with
    | none => simp [q2] at hme
    | some ds =>
      simp only [q2] at hme
      cases q3 : f (ds.map .val) with
      | none => simp [q3] at hme
      | some p3 =>
        obtain ⟨rv, outs⟩ := p3
        cases rv with
        | d d => simp [q3] at hme
        | o o =>
          cases o with
          | dct t kv => simp [q3] at hme
          | ins c fs => simp [q3] at hme
          | lst xs =>
          simp only [q3] at hme
          by_cases hf : flatDs xs = true
          · rw [if_pos hf] at hme
            simp only [Option.some.injEq, Prod.mk.injEq] at hme
            obtain ⟨rfl, rfl⟩ := hme
            refine kk σ H I env rs e1 _ g q1 fun vs I1 H1 g1 t1 r1 => ?_
            have own : ∀ p, Fp σ e1 p → I1 p = none ∧ ∃ ho o, H1 p = some ho ∧ SoOk X.K cl I1 p ho o := fun p ⟨j, o, h1, h2⟩ => by
              obtain ⟨p', ho, ep, ip, hp', so⟩ := g1.ok j _ _ h1 h2
              cases ep
              exact ⟨ip, ho, o, hp', so⟩
            have sI : Same I1 (frzAll σ e1 I1 H1) := fun b u hb => by
              have : ¬ Fp σ e1 b := fun z => by
                rw [(own b z).1] at hb
                cases hb
              unfold frzAll
              rw [if_neg this]
              exact hb
            have sH : Same (frzAll σ e1 I1 H1) H1 := fun b u hb => by
              unfold frzAll at hb
              by_cases z : Fp σ e1 b
              · rw [if_pos z] at hb
                exact hb
              · rw [if_neg z] at hb
                exact g1.ex b u hb
            have one : ∀ (v : V) (r : Rv) (d : D), RvOk X.K cl I1 σ v r → vw e1 r = some d → Rp X.K cl (frzAll σ e1 I1 H1) v d := fun v r d h q => by
              cases r with
              | d d1 =>
                cases Option.some.inj q
                exact Rp.mono sI h
              | sl j =>
                have hσ : σ[j]? = some (some v) := h
                unfold vw at q
                cases q6 : e1[j]? with
                | none => simp [q6] at q
                | some s =>
                  cases s with
                  | none => simp [q6] at q
                  | val d2 =>
                    simp [q6] at q
                    subst q
                    obtain ⟨v2, e2, r2⟩ := g1.ok j _ _ q6 hσ
                    cases e2
                    exact r2.mono sI
                  | own o2 =>
                    simp [q6] at q
                    subst q
                    obtain ⟨p, ho, e2, ip, hp', so⟩ := g1.ok j _ _ q6 hσ
                    cases e2
                    have z : Fp σ e1 p := ⟨j, o2, q6, hσ⟩
                    have h1 : (frzAll σ e1 I1 H1) p = some ho := by
                      unfold frzAll
                      rw [if_pos z]
                      exact hp'
                    have s2 : Same (upd I1 p ho) (frzAll σ e1 I1 H1) := fun b u hb => by
                      by_cases w : b = p
                      · subst w
                        rw [upd_same] at hb
                        cases hb
                        exact h1
                      · rw [upd_ne w] at hb
                        exact sI b u hb
                    exact (so.frz ip).mono s2
            have all : ∀ {vs : List V} {rs : List Rv} {ds : List D}, RvA X.K cl I1 σ vs rs → vwL e1 rs = some ds → RpA X.K cl (frzAll σ e1 I1 H1) vs ds := by
              intro vs rs
              induction rs generalizing vs with
              | nil =>
                intro ds ra e
                cases ra
                cases Option.some.inj e
                exact .nil
              | cons r rs ih =>
                intro ds ra e
                cases ra with
                | cons h t =>
                  unfold vwL at e
                  cases q : vw e1 r with
                  | none => simp [q] at e
                  | some d0 =>
                    cases q5 : vwL e1 rs with
                    | none => simp [q, q5] at e
                    | some ds' =>
                      simp only [q, q5, Option.some.injEq] at e
                      subst e
                      exact .cons (one _ _ _ h q) (ih t q5)
            obtain ⟨ga, fa⟩ := RpA.ofSlots sH (all r1 q2)
            show spG X.K cl np R f (vs ++ []) H1 Q E0
            rw [List.append_nil]
            refine ⟨by rw [r1.length]; exact hnp _ _ _ q1, frzAll σ e1 I1 H1, ds.map .val, .o (.lst xs), outs, ga, fun i o h => ?_, q3, fun v I3 H3 g3 t3 rk => ?_⟩
            · exfalso
              rw [List.getElem?_map] at h
              cases q : ds[i]? with
              | none => rw [q] at h; cases h
              | some d => rw [q] at h; cases h
            · have keep : ∀ p u, H1 p = some u → H3 p = some u := fun p u h => t3.frame p u h (fa p)
              have shape : ∀ p, Fp σ e1 p → ∃ ho o, H3 p = some ho ∧ SoOk X.K cl I1 p ho o := fun p z => by
                obtain ⟨_, ho, o, h, so⟩ := own p z
                exact ⟨ho, o, keep p ho h, so⟩
              have n1 : ∀ p xs, Fp σ e1 p → I3 p ≠ some (.tup xs) := fun p xs z h => by
                obtain ⟨ho, o, h3, so⟩ := shape p z
                rw [g3.ex p _ h] at h3
                cases h3
                cases so
              have n2 : ∀ p o xs, Fp σ e1 p → I3 p ≠ some (.frz o (.tup xs)) := fun p o xs z h => by
                obtain ⟨ho, o, h3, so⟩ := shape p z
                rw [g3.ex p _ h] at h3
                cases h3
                cases so
              have s13 : Same I1 (MP.thaw σ e1 I3) := fun b u hb => by
                have nb : ¬ Fp σ e1 b := fun z => by
                  rw [(own b z).1] at hb
                  cases hb
                unfold MP.thaw
                rw [if_neg nb]
                exact t3.ext b u (sI b u hb)
              obtain ⟨pa, ho, rfl, ia, ha, so, hfr, _⟩ := rk
              have hn1 : H1 pa = none := hfr.resolve_left (fa pa)
              have nfp : ¬ Fp σ e1 pa := fun z => by
                obtain ⟨_, ho2, _, h, _⟩ := own pa z
                rw [hn1] at h
                cases h
              have iT : (MP.thaw σ e1 I3) pa = none := by
                unfold MP.thaw
                rw [if_neg nfp]
                exact ia
              have gT : Gd X.K cl (MP.thaw σ e1 I3) H3 σ e1 := by
                refine ⟨fun b u hb => ?_, g1.len, fun i s ov h1 h2 => ?_, g1.inj⟩
                · unfold MP.thaw at hb
                  by_cases z : Fp σ e1 b
                  · rw [if_pos z] at hb
                    cases hb
                  · rw [if_neg z] at hb
                    exact g3.ex b u hb
                · have ok := g1.ok i s ov h1 h2
                  cases s with
                  | none => trivial
                  | val d2 =>
                    obtain ⟨v2, e2, r2⟩ := ok
                    exact ⟨v2, e2, r2.mono s13⟩
                  | own o2 =>
                    obtain ⟨p, ho, e2, ip, hp', so⟩ := ok
                    subst e2
                    have z : Fp σ e1 p := ⟨i, o2, h1, h2⟩
                    refine ⟨p, ho, rfl, ?_, keep p ho hp', so.mono s13⟩
                    unfold MP.thaw
                    rw [if_pos z]
              have tT : Tr (Fp σ e1) I1 H1 (Fp σ e1) (MP.thaw σ e1 I3) H3 := by
                refine ⟨s13, fun p o h _ => keep p o h, fun p hp nf hi => ?_, fun p h => .inl h, t3.dom⟩
                unfold MP.thaw
                rw [if_neg nf]
                refine t3.nofr p hp (fa p) ?_
                unfold frzAll
                rw [if_neg nf]
                exact hi
              have soT : SoOk X.K cl (MP.thaw σ e1 I3) pa ho (.lst xs) := by
                cases so with
                | lst r => exact .lst (RpA.thaw n1 n2 hf r)
              exact k' (.ref pa) _ H3 (gT.frz iT ha nfp) ((t1.trans tT).frzN (t1.back (.inr hn1)) iT) (soT.frz iT)
          · rw [if_neg hf] at hme
            cases hme
end
end MP
set_option Elab.async false
set_option linter.all false
set_option maxRecDepth 100000
set_option maxHeartbeats 4000000
namespace MP
open PySem PySem.Spec PyProof.Rows L2 PpSet
/-! ### comprehensions that make sets of ints: one clause, two clauses -/
section
variable {X : Cx}
theorem addI_ok {pins : List (Addr × Obj)} {σ : L2.St} {H : Hp} {s : Shared} {E : Value → Shared → Prop} {D : Addr} {S : Int → Bool} {n : Nat} {y : Int} {tk : Tok} {Q : Value → Shared → Prop} (I : Inv X pins σ H s) (hD : H D = some (SetO X.w D S n)) (room : n + 1 < scanBound)
    (h : ∀ s', Inv X pins σ (upd H D (SetO X.w D (fun j => S j || decide (j = y)) (if S y = true then n else n + 1))) s' → Q .none s') : wpAny (model X.prog X.w) X.A (call (.builtin "set.add") [.ref D, .int y tk]) Q E s :=
  setR_add (setO_get I hD) room fun h' sb new => by
    have he : ∃ u, h'.get? D = some u := by
      obtain ⟨o, _, _, _, ho, _⟩ := id new
      exact ⟨o, ho⟩
    exact h _ (I.write (e := D) (t' := s.toks + 1) (by rw [hD]; trivial) (.inl rfl) (fun b u hb hu => (sb.2 b hb).trans hu) he (setO_new new))
end
section
variable {X : Cx}
/-- {elt for target in iter if ..}, elt an int: D the new set -/
def tScI (w : World) (wi : TI) (g : TG) (tt : TT) (te : TE) (vs : List Nat) : TE := fun σ H Q => wi σ H fun J H1 => ∀ D, H1 D = none → ∃ W : Nat → Nat → Hp → Prop, (∃ m, W 0 m (upd H1 D (SetO w D (fun _ => false) 0))) ∧ ∀ i m H, W i m H →
  (J.stop i H ∧ Q (.ref D) H) ∨ (J.go i H ∧ ∃ Nx : Hp → Prop, (∀ H', Nx H' → ∃ m', m' < m ∧ W (i + 1) m' H') ∧ ∀ x H', J.yld i H x H' → g x (wipe σ vs) H' fun σ2 H2 => wipe σ2 vs = wipe σ vs ∧ tt σ2 H2 fun b H3 =>
    if b = true then te σ2 H3 fun y H4 => ∃ (c : Int) (S : Int → Bool) (n : Nat), y = .int c ∧ H4 D = some (SetO w D S n) ∧ n + 1 < scanBound ∧ Nx (upd H4 D (SetO w D (fun j => S j || decide (j = c)) (if S c = true then n else n + 1))) else Nx H3)
theorem scI_core {pins : List (Addr × Obj)} {s : Shared} {σ : L2.St} {H : Hp} {Q : VK} {elt tg iter : Expr} {ifs : List Expr} {scope : Scope} {own : List (PySem.Str × Nat)} {pos pos' : Pos} {wi : TI} {g : TG} {tt : TT} {te : TE} {use : Option (Value → Sem Unit)} {Qf : Value → Shared → Prop}
    (hc : X.calm = true) (hN : X.N.Nodup) (I : Inv X pins σ H s) (hi : PI X tg iter wi) (ok : BlkOk X.N X.env.scope scope own)
    (hg : ∀ (s : Shared) (H : Hp) (C : Addr) (cl : List (PySem.Str × Addr)) (fp : List Addr), PG (X.blk s H scope (compEnvC scope cl C X.env) fp) tg g) (ht : ∀ (s : Shared) (H : Hp) (C : Addr) (cl : List (PySem.Str × Addr)) (fp : List Addr), PTs (X.blk s H scope (compEnvC scope cl C X.env) fp) ifs tt)
    (he : ∀ (s : Shared) (H : Hp) (C : Addr) (cl : List (PySem.Str × Addr)) (fp : List Addr), PE (X.blk s H scope (compEnvC scope cl C X.env) fp) elt te) (hs : ∀ x, foldedSetIterable iter X.env x = pure x)
    (h : tScI X.w wi g tt te (own.map (·.2)) σ H Q)
    (hRR : ∀ D C s' m H', Inv X pins σ H' s' → Q (.ref D) H' → s'.heap.Ns C m → FpOk X pins H' C → compPost (model X.prog X.w) X.A X.xe use Qf (.ref D) C (.ok .next) s') :
    wpAny (model X.prog X.w) X.A (comprehension (.SetComp elt [⟨tg, iter, ifs, 0⟩] scope pos) scope X.env pos' (newSet (.type "set")) false (eval iter X.env) use) Qf X.xe s := by
  have hfree : ∀ y ∈ scope.names, y.2 = .free → ∃ c, X.env.cells.lookup y.1 = some c := fun y hy e => by
    rcases ok.free y hy e with k | k
    · exact I.ok.has _ (.inl k)
    · exact I.ok.has _ (.inr k)
  refine wpAny_comprehension_free (use := use) rfl hs (closure_ok hfree) ok.kind (fun y hy e => by rw [ok.uniq y hy, e])
    (thn (hi.run pins s σ H _ I h) fun xv s1 hx => thn hx fun itv s2 h2 => ?_)
  obtain ⟨it, fp, tn, J, H2, e, I2, T, st2, f2, q⟩ := h2
  subst e
  refine newSet_ok (newEnv_comp ?_)
  generalize hD : s2.heap.objs.size = D
  have hDn : H2 D = none := I2.hok.fresh (Nat.le_of_eq hD)
  obtain ⟨W, ⟨m0, w0⟩, turn⟩ := q D hDn
  -- the new list
  generalize hs3 : ({ s2 with heap := s2.heap.push { cls := .type "set", dict := none, data := .set #[] 0 (.fresh 0 0 (!X.w.params.followText "set-order")) } } : Shared) = s3
  have I3 : Inv X pins σ (upd H2 D (SetO X.w D (fun _ => false) 0)) s3 := by
    rw [← hs3]
    refine I2.laid (t' := s2.toks) (fun b o e => Heap.get?_push_of_some _ e) (Nat.le_of_eq hD) ?_
    rw [← hD]
    exact setO_new (setR_fresh X.w)
  have h3 : s3.heap = s2.heap.push { cls := .type "set", dict := none, data := .set #[] 0 (.fresh 0 0 (!X.w.params.followText "set-order")) } := by rw [← hs3]
  have sz : ∀ b ∈ fp, b < s2.heap.objs.size := fun b hb => by
    obtain ⟨o, e, _⟩ := T.obj _ _ st2 b hb
    exact Heap.lt_size e
  have f3 : ∀ b ∈ fp, FpOk X pins (upd H2 D (SetO X.w D (fun _ => false) 0)) b ∧ b < s3.heap.objs.size := fun b hb => by
    have hlt := sz b hb
    refine ⟨⟨?_, (f2 b hb).2⟩, by rw [h3, Heap.size_push]; exact Nat.lt_succ_of_lt hlt⟩
    rw [upd_ne (by rw [← hD]; exact Nat.ne_of_lt hlt)]
    exact (f2 b hb).1
  have st3 : tn 0 s3.heap := T.keep _ _ _ st2 fun b _ o e => by rw [h3]; exact Heap.get?_push_of_some _ e
  have I4 := block_start I3 ok hN f3
  have pg := hg s3 (upd H2 D (SetO X.w D (fun _ => false) 0)) s3.heap.objs.size (cellsFrom (s3.heap.objs.size + 1) scope.names (cloFrom X.env.cells scope.names [])) fp
  have pt := ht s3 (upd H2 D (SetO X.w D (fun _ => false) 0)) s3.heap.objs.size (cellsFrom (s3.heap.objs.size + 1) scope.names (cloFrom X.env.cells scope.names [])) fp
  have pe := he s3 (upd H2 D (SetO X.w D (fun _ => false) 0)) s3.heap.objs.size (cellsFrom (s3.heap.objs.size + 1) scope.names (cloFrom X.env.cells scope.names [])) fp
  show codeAny _ _ (.compStart (.SetComp elt [⟨tg, iter, ifs, 0⟩] scope pos) 0 (.ref it) (.ref D) (compEnvC scope (cellsFrom (s3.heap.objs.size + 1) scope.names (cloFrom X.env.cells scope.names [])) s3.heap.objs.size X.env)) (compPost (model X.prog X.w) X.A X.xe use Qf (.ref D) s3.heap.objs.size) { s3 with heap := pushCells (s3.heap.push { cls := .type "dict", data := .dict #[] }) scope.names }
  have nfp : ∀ b ∈ fp, (upd H2 D (SetO X.w D (fun _ => false) 0)) b = none := fun b hb => (f3 b hb).1.1
  generalize hce : compEnvC scope (cellsFrom (s3.heap.objs.size + 1) scope.names (cloFrom X.env.cells scope.names [])) s3.heap.objs.size X.env = ce at I4 pg pt pe ⊢
  have cL : ce.locals = s3.heap.objs.size := by subst hce; rfl
  generalize hH3 : upd H2 D (SetO X.w D (fun _ => false) 0) = H3 at I3 I4 pg pt pe w0 nfp f3
  generalize hs4 : ({ s3 with heap := pushCells (s3.heap.push { cls := .type "dict", data := .dict #[] }) scope.names } : Shared) = s4 at I4 ⊢
  have st4 : tn 0 s4.heap := T.keep _ _ _ st3 fun b _ o e => by rw [← hs4]; exact pushCells_keeps _ _ _ _ (Heap.get?_push_of_some _ e)
  have stat : ∀ {σ' : L2.St} {H' : Hp} {s' : Shared}, Inv (X.blk s3 H3 scope ce fp) [] σ' H' s' → (∀ b ∈ fp, H' b = none) → ∀ b ∈ fp, FpOk (X.blk s3 H3 scope ce fp) [] H' b := fun {σ' H' s'} I' hn b hb =>
    ⟨hn b hb, (I'.ok.exf b hb).1, I'.ok.exfs b hb, .inl hb, fun x c e => (I'.ok.exf b hb).2 x c e, fun p hp => absurd (show p ∈ ([] : List (Addr × Obj)) ++ [] from hp) (by simp)⟩
  have loop : codeAny (model X.prog X.w) X.A (.compLoop (.SetComp elt [⟨tg, iter, ifs, 0⟩] scope pos) 0 (.ref it) (.ref D) ce) (compPost (model X.prog X.w) X.A X.xe use Qf (.ref D) s3.heap.objs.size) s4 := by
    refine compLoopS_any (fun n s' => ∃ i H', Inv (X.blk s3 H3 scope ce fp) [] (wipe σ (own.map (·.2))) H' s' ∧ tn i s'.heap ∧ (∀ b ∈ fp, H' b = none) ∧ W i n H') ?_ m0 ⟨0, H3, I4, st4, nfp, w0⟩
    rintro n s5 ⟨i, H5, I5, st5, n5, w5⟩
    rcases turn i n H5 w5 with ⟨stop, qq⟩ | ⟨go, Nx, hNx, step⟩
    · have td := T.done (X.blk s3 H3 scope ce fp) rfl rfl rfl hc i [] s5 _ H5 (fun _ _ => False) I5 (stat I5 n5) st5 stop
      refine thnF td fun r s6 ⟨hr, I6⟩ => ?_
      subst hr
      -- back in the def's context
      have I7 : Inv X pins σ H5 s6 := I3.call' (ch := fp) I6.os I6.base I6.hok I6.bare fun b hb => ⟨(f3 b hb).1.2.2.2.1, (f3 b hb).1.2.1, (f3 b hb).1.2.2.2.2.1, (f3 b hb).1.2.2.2.2.2⟩
      have nC : H5 s3.heap.objs.size = none := by
        have z : H5 ce.locals = none := I6.free
        rw [cL] at z
        exact z
      obtain ⟨m, hn, _⟩ := I6.loc
      have hn : s6.heap.Ns ce.locals m := hn
      rw [cL] at hn
      exact hRR D s3.heap.objs.size s6 m H5 I7 qq hn (I3.fpOk (Nat.le_refl _) nC)
    · have ti := T.item (X.blk s3 H3 scope ce fp) rfl rfl rfl hc i [] s5 _ H5 (fun _ _ => False) I5 (stat I5 n5) st5 go
      refine thnF ti fun r s6 ⟨u, hr, h6⟩ => ?_
      subst hr
      refine thnF h6 fun _ s7 ⟨x, H7, I7, r7, y7, st7, n7⟩ => ?_
      have I7' := I7.pinned (stat I7 n7) (T.obj _ _ st7)
      refine thnF (pg.run _ s7 _ H7 x u _ I7' r7 (step x H7 y7)) fun _ s8 ⟨σ8, H8, I8, hw8, q8⟩ => ?_
      refine thnF (pt.run _ s8 σ8 H8 _ I8 q8) fun b s9 ⟨H9, I9, q9⟩ => ?_
      -- the turn's end
      have fin : ∀ {s' : Shared} {H' : Hp}, Inv (X.blk s3 H3 scope ce fp) ([] ++ pinsAt fp s7.heap) σ8 H' s' → Nx H' → ∃ m, m < n ∧ ∃ i H', Inv (X.blk s3 H3 scope ce fp) [] (wipe σ (own.map (·.2))) H' s' ∧ tn i s'.heap ∧ (∀ b ∈ fp, H' b = none) ∧ W i m H' := fun {s' H'} I' nx => by
        obtain ⟨m', hm, w'⟩ := hNx H' nx
        have pin' : ∀ b ∈ fp, ∀ o, s7.heap.get? b = some o → s'.heap.get? b = some o ∧ H' b = none := fun b hb o e =>
          let z := I'.pin (b, o) (List.mem_append_right _ (List.mem_append_right _ (mem_pinsAt hb e)))
          ⟨z.1, z.2.1⟩
        have hl : (wipe σ (own.map (·.2))).length = σ8.length := by rw [← hw8, wipe_length]
        refine ⟨m', hm, i + 1, H', (I'.unpinned (pins := [])).weak hl (fun j v e => ?_), T.keep _ _ _ st7 fun b hb o e => (pin' b hb o e).1, fun b hb => ?_, w'⟩
        · rw [← hw8] at e
          exact (wipe_some e).1
        · obtain ⟨o, e, _⟩ := T.obj _ _ st7 b hb
          exact (pin' b hb o e).2
      cases b with
      | false =>
        simp only [Bool.false_eq_true, if_false] at q9 ⊢
        exact fin I9 q9
      | true =>
        simp only [if_true] at q9 ⊢
        refine thnF (pe.run _ s9 σ8 H9 _ I9 q9) fun z s10 ⟨yv, H10, I10, r10, cb, S0, n0, ey, hD10, hz10, nx⟩ => ?_
        subst ey
        obtain ⟨tk, rfl⟩ := r10
        exact addI_ok (X := X.blk s3 H3 scope ce fp) I10 hD10 hz10 fun s11 I11 => fin I11 nx
  exact codeAny_compStart_set loop (T.self X.A 0 _ _ _ st4 loop)
/-- as a value -/
theorem pe_scI {elt tg iter : Expr} {ifs : List Expr} {scope : Scope} {own : List (PySem.Str × Nat)} {pos : Pos} {wi : TI} {g : TG} {tt : TT} {te : TE} (hc : X.calm = true) (hN : X.N.Nodup) (hi : PI X tg iter wi) (ok : BlkOk X.N X.env.scope scope own)
    (hg : ∀ (s : Shared) (H : Hp) (C : Addr) (cl : List (PySem.Str × Addr)) (fp : List Addr), PG (X.blk s H scope (compEnvC scope cl C X.env) fp) tg g) (ht : ∀ (s : Shared) (H : Hp) (C : Addr) (cl : List (PySem.Str × Addr)) (fp : List Addr), PTs (X.blk s H scope (compEnvC scope cl C X.env) fp) ifs tt)
    (he : ∀ (s : Shared) (H : Hp) (C : Addr) (cl : List (PySem.Str × Addr)) (fp : List Addr), PE (X.blk s H scope (compEnvC scope cl C X.env) fp) elt te) (hs : ∀ x, foldedSetIterable iter X.env x = pure x := by intro _; rfl) :
    PE X (.SetComp elt [⟨tg, iter, ifs, 0⟩] scope pos) (tScI X.w wi g tt te (own.map (·.2))) := by
  refine ⟨fun pins s σ H Q I h => ?_⟩
  rw [eval_SetComp]
  refine scI_core hc hN I hi ok hg ht he hs h fun D C s' m H' I' q hn f => ⟨m, hn, fun h'' sb => ?_⟩
  obtain ⟨f0, f1, f2, f3, f4, f5⟩ := f
  exact ⟨.ref D, H', I'.turned (t' := s'.toks) (fun b o hb e => (sb.2 b hb).trans e) f0 f1 f3 f4 f5, rfl, q⟩
end
theorem scTurn2_out (elt t0 i0 t1 i1 : Expr) (ifs0 ifs1 : List Expr) (scope : Scope) (pos : Pos) (it acc : Value) (env : Env) :
    compTurn (.SetComp elt [⟨t0, i0, ifs0, 0⟩, ⟨t1, i1, ifs1, 0⟩] scope pos) 0 it acc env = (do
      standAt i0.pos
      match ← pyNext it with
      | none => pure (.done .next)
      | some v =>
        letOwnedTupleGo t0 it v
        assign t0 env v
        let mut ok := true
        for c in ifs0 do
          if ok then ok ← isTrue c env (eval c env)
        if ok then
          let x ← eval i1 env
          standAt i1.pos
          let x ← foldedSetIterable i1 env x
          let _ ← runOwn (.compStart (.SetComp elt [⟨t0, i0, ifs0, 0⟩, ⟨t1, i1, ifs1, 0⟩] scope pos) 1 (← holding [x] (pyIter x)) acc env) env
        again (.compLoop (.SetComp elt [⟨t0, i0, ifs0, 0⟩, ⟨t1, i1, ifs1, 0⟩] scope pos) 0 it acc env)) := by rfl
theorem scTurn2_in (elt t0 i0 t1 i1 : Expr) (ifs0 ifs1 : List Expr) (scope : Scope) (pos : Pos) (it acc : Value) (env : Env) :
    compTurn (.SetComp elt [⟨t0, i0, ifs0, 0⟩, ⟨t1, i1, ifs1, 0⟩] scope pos) 1 it acc env = (do
      standAt i1.pos
      match ← pyNext it with
      | none => pure (.done .next)
      | some v =>
        letOwnedTupleGo t1 it v
        assign t1 env v
        let mut ok := true
        for c in ifs1 do
          if ok then ok ← isTrue c env (eval c env)
        if ok then
          (do let v ← eval elt env; standAt elt.pos; let _ ← call (.builtin "set.add") [acc, v])
        again (.compLoop (.SetComp elt [⟨t0, i0, ifs0, 0⟩, ⟨t1, i1, ifs1, 0⟩] scope pos) 1 it acc env)) := by rfl

section
variable {prog : Program} {w : World} {A : Around} {R : Result → Shared → Prop} {s : Shared} {elt t0 i0 t1 i1 : Expr} {ifs0 ifs1 : List Expr} {scope : Scope} {pos : Pos} {it acc : Value} {env : Env}
/-- the loop of the first clause -/
theorem scLoop2_out (hs : ∀ x, foldedSetIterable i1 env x = pure x) (I : Nat → Shared → Prop)
    (turn : ∀ n s, I n s → wpAny (model prog w) A (pyNext it) (fun r s₁ => match r with
      | none => R (.ok .next) s₁
      | some v => wpAny (model prog w) A (letOwnedTupleGo t0 it v) (fun _ s₁' => wpAny (model prog w) A (assign t0 env v) (fun _ s₂ =>
          wpAny (model prog w) A (forIn ifs0 true fun c r => if r = true then do let ok ← isTrue c env (eval c env); pure (ForInStep.yield ok) else pure (ForInStep.yield r)) (fun ok s₃ =>
            if ok = true then wpAny (model prog w) A (eval i1 env) (fun x s₄ => wpAny (model prog w) A (pyIter x) (fun it1 s₅ =>
              codeAny (model prog w) A (.compStart (.SetComp elt [⟨t0, i0, ifs0, 0⟩, ⟨t1, i1, ifs1, 0⟩] scope pos) 1 it1 acc env) (fun r s' => match r with
                | .ok _ => ∃ m, m < n ∧ I m s'
                | .error _ => False) s₅) (notedBy (model prog w) A env fun e s' => R (.error e) s') s₄) (notedBy (model prog w) A env fun e s' => R (.error e) s') s₃
            else ∃ m, m < n ∧ I m s₃) (notedBy (model prog w) A env fun e s' => R (.error e) s') s₂) (notedBy (model prog w) A env fun e s' => R (.error e) s') s₁') (notedBy (model prog w) A env fun e s' => R (.error e) s') s₁) (notedBy (model prog w) A env fun e s' => R (.error e) s') s)
    (n : Nat) (h : I n s) :
    codeAny (model prog w) A (.compLoop (.SetComp elt [⟨t0, i0, ifs0, 0⟩, ⟨t1, i1, ifs1, 0⟩] scope pos) 0 it acc env) R s := by
  refine codeAny_loop rfl I (fun n s hI => ?_) n h
  show wpAny _ A ((compTurn (.SetComp elt [⟨t0, i0, ifs0, 0⟩, ⟨t1, i1, ifs1, 0⟩] scope pos) 0 it acc env).onRaise (fun x => do noteFrame x env; theTreesLotGoes x)) _ _ s
  refine wpAny_noted ?_
  rw [scTurn2_out]
  refine wpAny_bind (wpAny_standAt (wpAny_bind (wpAny_mono (turn n s hI) (fun r s₁ h₁ => ?_) fun _ _ h' => h')))
  cases r with
  | none => exact wpAny_pure h₁
  | some v =>
    refine wpAny_bind (wpAny_mono h₁ (fun _ s₁' h₁' => ?_) fun _ _ h' => h')
    refine wpAny_bind (wpAny_mono h₁' (fun _ s₂ h₂ => wpAny_bind (wpAny_mono h₂ (fun ok s₃ h₃ => ?_) fun _ _ h' => h')) fun _ _ h' => h')
    cases ok with
    | false => exact wpAny_pure ⟨rfl, h₃⟩
    | true =>
      refine wpAny_bind (wpAny_mono h₃ (fun x s₄ h₄ => ?_) fun _ _ h' => h')
      refine wpAny_bind (wpAny_standAt (wpAny_bind (wpAny_of_eq (hs x) (wpAny_bind (wpAny_holding (wpAny_mono h₄ (fun it1 s₅ h₅ => ?_) fun _ _ h' => h'))))))
      refine wpAny_bind (wpAny_runOwn ?_)
      rw [Around.mark_none]
      refine codeAny_mono h₅ fun r s' hr => ?_
      cases r with
      | ok f =>
        first
          | exact wpAny_pure ⟨rfl, hr⟩
          | exact wpAny_bind (wpAny_pure (wpAny_pure ⟨rfl, hr⟩))
      | error e => exact hr.elim
/-- the loop of the second -/
theorem scLoop2_in (I : Nat → Shared → Prop)
    (turn : ∀ n s, I n s → wpAny (model prog w) A (pyNext it) (fun r s₁ => match r with
      | none => R (.ok .next) s₁
      | some v => wpAny (model prog w) A (letOwnedTupleGo t1 it v) (fun _ s₁' => wpAny (model prog w) A (assign t1 env v) (fun _ s₂ =>
          wpAny (model prog w) A (forIn ifs1 true fun c r => if r = true then do let ok ← isTrue c env (eval c env); pure (ForInStep.yield ok) else pure (ForInStep.yield r)) (fun ok s₃ =>
            if ok = true then wpAny (model prog w) A (eval elt env) (fun x s₄ =>
              wpAny (model prog w) A (call (.builtin "set.add") [acc, x]) (fun _ s₅ => ∃ m, m < n ∧ I m s₅) (notedBy (model prog w) A env fun e s' => R (.error e) s') s₄) (notedBy (model prog w) A env fun e s' => R (.error e) s') s₃
            else ∃ m, m < n ∧ I m s₃) (notedBy (model prog w) A env fun e s' => R (.error e) s') s₂) (notedBy (model prog w) A env fun e s' => R (.error e) s') s₁') (notedBy (model prog w) A env fun e s' => R (.error e) s') s₁) (notedBy (model prog w) A env fun e s' => R (.error e) s') s)
    (n : Nat) (h : I n s) :
    codeAny (model prog w) A (.compLoop (.SetComp elt [⟨t0, i0, ifs0, 0⟩, ⟨t1, i1, ifs1, 0⟩] scope pos) 1 it acc env) R s := by
  refine codeAny_loop rfl I (fun n s hI => ?_) n h
  show wpAny _ A ((compTurn (.SetComp elt [⟨t0, i0, ifs0, 0⟩, ⟨t1, i1, ifs1, 0⟩] scope pos) 1 it acc env).onRaise (fun x => do noteFrame x env; theTreesLotGoes x)) _ _ s
  refine wpAny_noted ?_
  rw [scTurn2_in]
  refine wpAny_bind (wpAny_standAt (wpAny_bind (wpAny_mono (turn n s hI) (fun r s₁ h₁ => ?_) fun _ _ h' => h')))
  cases r with
  | none => exact wpAny_pure h₁
  | some v =>
    refine wpAny_bind (wpAny_mono h₁ (fun _ s₁' h₁' => ?_) fun _ _ h' => h')
    refine wpAny_bind (wpAny_mono h₁' (fun _ s₂ h₂ => wpAny_bind (wpAny_mono h₂ (fun ok s₃ h₃ => ?_) fun _ _ h' => h')) fun _ _ h' => h')
    cases ok with
    | false => exact wpAny_pure ⟨rfl, h₃⟩
    | true =>
      exact wpAny_bind (wpAny_bind (wpAny_mono h₃ (fun x s₄ h₄ => wpAny_bind (wpAny_standAt (wpAny_bind (wpAny_mono h₄ (fun _ s₅ h₅ => wpAny_pure (wpAny_pure ⟨rfl, h₅⟩)) fun _ _ h' => h')))) fun _ _ h' => h'))
/-- the second clause's start -/
theorem scStart1_ok (h0 : codeAny (model prog w) A (.compLoop (.SetComp elt [⟨t0, i0, ifs0, 0⟩, ⟨t1, i1, ifs1, 0⟩] scope pos) 1 it acc env) R s)
    (h : wpAny (model prog w) A (pyIter it) (fun it' s' => codeAny (model prog w) A (.compLoop (.SetComp elt [⟨t0, i0, ifs0, 0⟩, ⟨t1, i1, ifs1, 0⟩] scope pos) 1 it' acc env) R s')
      (notedBy (model prog w) A env fun x s' => R (.error x) s') s) :
    codeAny (model prog w) A (.compStart (.SetComp elt [⟨t0, i0, ifs0, 0⟩, ⟨t1, i1, ifs1, 0⟩] scope pos) 1 it acc env) R s := by
  refine codeAny_of_tree ?_
  show wpAny _ _ ((compStart (.SetComp elt [⟨t0, i0, ifs0, 0⟩, ⟨t1, i1, ifs1, 0⟩] scope pos) 1 it acc env).onRaise (fun x => do noteFrame x env; standAt theWindowsPlace)) _ _ s
  refine wpAny_notedAt ?_
  unfold compStart
  show wpAny _ _ (ask >>= _) _ _ s
  refine wpAny_bind (wpAny_askSetting (wpAny_ite ?_))
  split
  · first
      | exact wpAny_bind (wpAny_pure (wpAny_pure (And.intro rfl h0)))
      | exact wpAny_pure (And.intro rfl h0)
  · first
      | exact wpAny_bind (wpAny_rule (wpAny_bind (wpAny_standAt (wpAny_bind (wpAny_mono h (fun it' s' h' => wpAny_pure (And.intro rfl h')) fun _ _ x => x)))))
      | (refine wpAny_bind (wpAny_rule ?_); show wpAny _ _ (standAt i1.pos >>= _) _ _ s; exact wpAny_bind (wpAny_standAt (wpAny_bind (wpAny_mono h (fun it' s' h' => wpAny_pure (And.intro rfl h')) fun _ _ x => x))))
end

section
variable {X : Cx}
/-- [elt for tg in iter if .. for tg1 in iter1 if ..]: behind the first clause's store and tests the second source's own loop, from which Nx is reached. vs: the block's names; vs1: those of the second target -/
def tSc2 (w : World) (wi : TI) (g : TG) (tt : TT) (wi1 : TI) (g1 : TG) (tt1 : TT) (te : TE) (vs vs1 : List Nat) : TE := fun σ H Q => wi σ H fun J H1 => ∀ D, H1 D = none → ∃ W : Nat → Nat → Hp → Prop, (∃ m, W 0 m (upd H1 D (SetO w D (fun _ => false) 0))) ∧ ∀ i m H, W i m H →
  (J.stop i H ∧ Q (.ref D) H) ∨ (J.go i H ∧ ∃ Nx : Hp → Prop, (∀ H', Nx H' → ∃ m', m' < m ∧ W (i + 1) m' H') ∧ ∀ x H', J.yld i H x H' → g x (wipe σ vs) H' fun σ2 H2 => wipe σ2 vs = wipe σ vs ∧ tt σ2 H2 fun b H3 =>
    if b = true then wi1 σ2 H3 fun J1 H4 => ∃ W1 : Nat → Nat → Hp → Prop, (∃ m, W1 0 m H4) ∧ ∀ j k H, W1 j k H →
      (J1.stop j H ∧ Nx H) ∨ (J1.go j H ∧ ∃ Nx1 : Hp → Prop, (∀ H', Nx1 H' → ∃ k', k' < k ∧ W1 (j + 1) k' H') ∧ ∀ x H', J1.yld j H x H' → g1 x (wipe σ2 vs1) H' fun σ3 H5 => wipe σ3 vs1 = wipe σ2 vs1 ∧ tt1 σ3 H5 fun b H6 =>
        if b = true then te σ3 H6 fun y H7 => ∃ (c : Int) (S : Int → Bool) (n : Nat), y = .int c ∧ H7 D = some (SetO w D S n) ∧ n + 1 < scanBound ∧ Nx1 (upd H7 D (SetO w D (fun j => S j || decide (j = c)) (if S c = true then n else n + 1))) else Nx1 H6)
    else Nx H3)
theorem scI2_core {pins : List (Addr × Obj)} {s : Shared} {σ : L2.St} {H : Hp} {Q : VK} {elt tg iter tg1 iter1 : Expr} {ifs ifs1 : List Expr} {scope : Scope} {own : List (Str × Nat)} {vs1 : List Nat} {pos pos' : Pos} {wi wi1 : TI} {g g1 : TG} {tt tt1 : TT} {te : TE} {use : Option (Value → Sem Unit)} {Qf : Value → Shared → Prop}
    (hc : X.calm = true) (hN : X.N.Nodup) (I : Inv X pins σ H s) (hi : PI X tg iter wi) (ok : BlkOk X.N X.env.scope scope own) (hv : ∀ i ∈ vs1, i ∈ own.map (·.2))
    (hg : ∀ (s : Shared) (H : Hp) (C : Addr) (cl : List (Str × Addr)) (fp : List Addr), PG (X.blk s H scope (compEnvC scope cl C X.env) fp) tg g) (ht : ∀ (s : Shared) (H : Hp) (C : Addr) (cl : List (Str × Addr)) (fp : List Addr), PTs (X.blk s H scope (compEnvC scope cl C X.env) fp) ifs tt)
    (he : ∀ (s : Shared) (H : Hp) (C : Addr) (cl : List (Str × Addr)) (fp : List Addr), PE (X.blk s H scope (compEnvC scope cl C X.env) fp) elt te) (hs : ∀ x, foldedSetIterable iter X.env x = pure x)
    (hi1 : ∀ (s : Shared) (H : Hp) (C : Addr) (cl : List (Str × Addr)) (fp : List Addr), PI (X.blk s H scope (compEnvC scope cl C X.env) fp) tg1 iter1 wi1)
    (hg1 : ∀ (s : Shared) (H : Hp) (C : Addr) (cl : List (Str × Addr)) (fp : List Addr), PG (X.blk s H scope (compEnvC scope cl C X.env) fp) tg1 g1)
    (ht1 : ∀ (s : Shared) (H : Hp) (C : Addr) (cl : List (Str × Addr)) (fp : List Addr), PTs (X.blk s H scope (compEnvC scope cl C X.env) fp) ifs1 tt1)
    (hs1 : ∀ env x, foldedSetIterable iter1 env x = pure x)
    (h : tSc2 X.w wi g tt wi1 g1 tt1 te (own.map (·.2)) vs1 σ H Q)
    (hRR : ∀ D C s' m H', Inv X pins σ H' s' → Q (.ref D) H' → s'.heap.Ns C m → FpOk X pins H' C → compPost (model X.prog X.w) X.A X.xe use Qf (.ref D) C (.ok .next) s') :
    wpAny (model X.prog X.w) X.A (comprehension (.SetComp elt [⟨tg, iter, ifs, 0⟩, ⟨tg1, iter1, ifs1, 0⟩] scope pos) scope X.env pos' (newSet (.type "set")) false (eval iter X.env) use) Qf X.xe s := by
  have hfree : ∀ y ∈ scope.names, y.2 = .free → ∃ c, X.env.cells.lookup y.1 = some c := fun y hy e => by
    rcases ok.free y hy e with k | k
    · exact I.ok.has _ (.inl k)
    · exact I.ok.has _ (.inr k)
  refine wpAny_comprehension_free (use := use) rfl hs (closure_ok hfree) ok.kind (fun y hy e => by rw [ok.uniq y hy, e])
    (thn (hi.run pins s σ H _ I h) fun xv s1 hx => thn hx fun itv s2 h2 => ?_)
  obtain ⟨it, fp, tn, J, H2, e, I2, T, st2, f2, q⟩ := h2
  subst e
  refine newSet_ok (newEnv_comp ?_)
  generalize hD : s2.heap.objs.size = D
  have hDn : H2 D = none := I2.hok.fresh (Nat.le_of_eq hD)
  obtain ⟨W, ⟨m0, w0⟩, turn⟩ := q D hDn
  -- the new list
  generalize hs3 : ({ s2 with heap := s2.heap.push (setNew X.w) } : Shared) = s3
  have I3 : Inv X pins σ (upd H2 D (SetO X.w D (fun _ => false) 0)) s3 := by
    rw [← hs3]
    refine I2.laid (t' := s2.toks) (fun b o e => Heap.get?_push_of_some _ e) (Nat.le_of_eq hD) ?_
    rw [← hD]
    exact setO_new (setR_fresh X.w)
  have h3 : s3.heap = s2.heap.push (setNew X.w) := by rw [← hs3]
  have sz : ∀ b ∈ fp, b < s2.heap.objs.size := fun b hb => by
    obtain ⟨o, e, _⟩ := T.obj _ _ st2 b hb
    exact Heap.lt_size e
  have f3 : ∀ b ∈ fp, FpOk X pins (upd H2 D (SetO X.w D (fun _ => false) 0)) b ∧ b < s3.heap.objs.size := fun b hb => by
    have hlt := sz b hb
    refine ⟨⟨?_, (f2 b hb).2⟩, by rw [h3, Heap.size_push]; exact Nat.lt_succ_of_lt hlt⟩
    rw [upd_ne (by rw [← hD]; exact Nat.ne_of_lt hlt)]
    exact (f2 b hb).1
  have st3 : tn 0 s3.heap := T.keep _ _ _ st2 fun b _ o e => by rw [h3]; exact Heap.get?_push_of_some _ e
  have I4 := block_start I3 ok hN f3
  have pg := hg s3 (upd H2 D (SetO X.w D (fun _ => false) 0)) s3.heap.objs.size (cellsFrom (s3.heap.objs.size + 1) scope.names (cloFrom X.env.cells scope.names [])) fp
  have pt := ht s3 (upd H2 D (SetO X.w D (fun _ => false) 0)) s3.heap.objs.size (cellsFrom (s3.heap.objs.size + 1) scope.names (cloFrom X.env.cells scope.names [])) fp
  have pe := he s3 (upd H2 D (SetO X.w D (fun _ => false) 0)) s3.heap.objs.size (cellsFrom (s3.heap.objs.size + 1) scope.names (cloFrom X.env.cells scope.names [])) fp
  have pi1 := hi1 s3 (upd H2 D (SetO X.w D (fun _ => false) 0)) s3.heap.objs.size (cellsFrom (s3.heap.objs.size + 1) scope.names (cloFrom X.env.cells scope.names [])) fp
  have pg1 := hg1 s3 (upd H2 D (SetO X.w D (fun _ => false) 0)) s3.heap.objs.size (cellsFrom (s3.heap.objs.size + 1) scope.names (cloFrom X.env.cells scope.names [])) fp
  have pt1 := ht1 s3 (upd H2 D (SetO X.w D (fun _ => false) 0)) s3.heap.objs.size (cellsFrom (s3.heap.objs.size + 1) scope.names (cloFrom X.env.cells scope.names [])) fp
  show codeAny _ _ (.compStart (.SetComp elt [⟨tg, iter, ifs, 0⟩, ⟨tg1, iter1, ifs1, 0⟩] scope pos) 0 (.ref it) (.ref D) (compEnvC scope (cellsFrom (s3.heap.objs.size + 1) scope.names (cloFrom X.env.cells scope.names [])) s3.heap.objs.size X.env)) (compPost (model X.prog X.w) X.A X.xe use Qf (.ref D) s3.heap.objs.size) { s3 with heap := pushCells (s3.heap.push { cls := .type "dict", data := .dict #[] }) scope.names }
  have nfp : ∀ b ∈ fp, (upd H2 D (SetO X.w D (fun _ => false) 0)) b = none := fun b hb => (f3 b hb).1.1
  generalize hce : compEnvC scope (cellsFrom (s3.heap.objs.size + 1) scope.names (cloFrom X.env.cells scope.names [])) s3.heap.objs.size X.env = ce at I4 pg pt pe pi1 pg1 pt1 ⊢
  have cL : ce.locals = s3.heap.objs.size := by subst hce; rfl
  generalize hH3 : upd H2 D (SetO X.w D (fun _ => false) 0) = H3 at I3 I4 pg pt pe pi1 pg1 pt1 w0 nfp f3
  generalize hs4 : ({ s3 with heap := pushCells (s3.heap.push { cls := .type "dict", data := .dict #[] }) scope.names } : Shared) = s4 at I4 ⊢
  have st4 : tn 0 s4.heap := T.keep _ _ _ st3 fun b _ o e => by rw [← hs4]; exact pushCells_keeps _ _ _ _ (Heap.get?_push_of_some _ e)
  have stat : ∀ {σ' : L2.St} {H' : Hp} {s' : Shared}, Inv (X.blk s3 H3 scope ce fp) [] σ' H' s' → (∀ b ∈ fp, H' b = none) → ∀ b ∈ fp, FpOk (X.blk s3 H3 scope ce fp) [] H' b := fun {σ' H' s'} I' hn b hb =>
    ⟨hn b hb, (I'.ok.exf b hb).1, I'.ok.exfs b hb, .inl hb, fun x c e => (I'.ok.exf b hb).2 x c e, fun p hp => absurd (show p ∈ ([] : List (Addr × Obj)) ++ [] from hp) (by simp)⟩
  have loop : codeAny (model X.prog X.w) X.A (.compLoop (.SetComp elt [⟨tg, iter, ifs, 0⟩, ⟨tg1, iter1, ifs1, 0⟩] scope pos) 0 (.ref it) (.ref D) ce) (compPost (model X.prog X.w) X.A X.xe use Qf (.ref D) s3.heap.objs.size) s4 := by
    refine scLoop2_out (hs1 ce) (fun n s' => ∃ i H', Inv (X.blk s3 H3 scope ce fp) [] (wipe σ (own.map (·.2))) H' s' ∧ tn i s'.heap ∧ (∀ b ∈ fp, H' b = none) ∧ W i n H') ?_ m0 ⟨0, H3, I4, st4, nfp, w0⟩
    rintro n s5 ⟨i, H5, I5, st5, n5, w5⟩
    rcases turn i n H5 w5 with ⟨stop, qq⟩ | ⟨go, Nx, hNx, step⟩
    · have td := T.done (X.blk s3 H3 scope ce fp) rfl rfl rfl hc i [] s5 _ H5 (fun _ _ => False) I5 (stat I5 n5) st5 stop
      refine thnF td fun r s6 ⟨hr, I6⟩ => ?_
      subst hr
      -- back in the def's context
      have I7 : Inv X pins σ H5 s6 := I3.call' (ch := fp) I6.os I6.base I6.hok I6.bare fun b hb => ⟨(f3 b hb).1.2.2.2.1, (f3 b hb).1.2.1, (f3 b hb).1.2.2.2.2.1, (f3 b hb).1.2.2.2.2.2⟩
      have nC : H5 s3.heap.objs.size = none := by
        have z : H5 ce.locals = none := I6.free
        rw [cL] at z
        exact z
      obtain ⟨m, hn, _⟩ := I6.loc
      have hn : s6.heap.Ns ce.locals m := hn
      rw [cL] at hn
      exact hRR D s3.heap.objs.size s6 m H5 I7 qq hn (I3.fpOk (Nat.le_refl _) nC)
    · have ti := T.item (X.blk s3 H3 scope ce fp) rfl rfl rfl hc i [] s5 _ H5 (fun _ _ => False) I5 (stat I5 n5) st5 go
      refine thnF ti fun r s6 ⟨u, hr, h6⟩ => ?_
      subst hr
      refine thnF h6 fun _ s7 ⟨x, H7, I7, r7, y7, st7, n7⟩ => ?_
      have I7' := I7.pinned (stat I7 n7) (T.obj _ _ st7)
      refine thnF (pg.run _ s7 _ H7 x u _ I7' r7 (step x H7 y7)) fun _ s8 ⟨σ8, H8, I8, hw8, q8⟩ => ?_
      refine thnF (pt.run _ s8 σ8 H8 _ I8 q8) fun b s9 ⟨H9, I9, q9⟩ => ?_
      -- the turn's end, from any slots that know what the block knew at its start
      have fin : ∀ {σ9 : L2.St} {s' : Shared} {H' : Hp}, Inv (X.blk s3 H3 scope ce fp) ([] ++ pinsAt fp s7.heap) σ9 H' s' → (wipe σ (own.map (·.2))).length = σ9.length → (∀ (j : Nat) v, (wipe σ (own.map (·.2)))[j]? = some (some v) → σ9[j]? = some (some v)) → Nx H' →
          ∃ m, m < n ∧ ∃ i H', Inv (X.blk s3 H3 scope ce fp) [] (wipe σ (own.map (·.2))) H' s' ∧ tn i s'.heap ∧ (∀ b ∈ fp, H' b = none) ∧ W i m H' := fun {σ9 s' H'} I' hl hk nx => by
        obtain ⟨m', hm, w'⟩ := hNx H' nx
        have pin' : ∀ b ∈ fp, ∀ o, s7.heap.get? b = some o → s'.heap.get? b = some o ∧ H' b = none := fun b hb o e =>
          let z := I'.pin (b, o) (List.mem_append_right _ (List.mem_append_right _ (mem_pinsAt hb e)))
          ⟨z.1, z.2.1⟩
        refine ⟨m', hm, i + 1, H', (I'.unpinned (pins := [])).weak hl hk, T.keep _ _ _ st7 fun b hb o e => (pin' b hb o e).1, fun b hb => ?_, w'⟩
        obtain ⟨o, e, _⟩ := T.obj _ _ st7 b hb
        exact (pin' b hb o e).2
      have hl8 : (wipe σ (own.map (·.2))).length = σ8.length := by rw [← hw8, wipe_length]
      have hk8 : ∀ (j : Nat) v, (wipe σ (own.map (·.2)))[j]? = some (some v) → σ8[j]? = some (some v) := fun j v e => by
        rw [← hw8] at e
        exact (wipe_some e).1
      have hk9 : ∀ (j : Nat) v, (wipe σ (own.map (·.2)))[j]? = some (some v) → (wipe σ8 vs1)[j]? = some (some v) := fun j v e => by
        rw [← hw8] at e
        obtain ⟨e1, e2⟩ := wipe_some e
        rw [wipe_out fun z => e2 (hv j z)]
        exact e1
      cases b with
      | false =>
        simp only [Bool.false_eq_true, if_false] at q9 ⊢
        exact fin I9 hl8 hk8 q9
      | true =>
        simp only [if_true] at q9 ⊢
        refine thnF (pi1.run _ s9 σ8 H9 _ I9 q9) fun xv s10 hx => thnF hx fun itv s11 h11 => ?_
        obtain ⟨it1, fp1, tn1, J1, H11, e1, I11, T1, st11, f11, W1, ⟨m1, w1⟩, turn1⟩ := h11
        subst e1
        -- the inner loop
        have stat1 : ∀ {H' : Hp}, (∀ b ∈ fp1, H' b = none) → ∀ b ∈ fp1, FpOk (X.blk s3 H3 scope ce fp) ([] ++ pinsAt fp s7.heap) H' b := fun hn b hb => ⟨hn b hb, (f11 b hb).2⟩
        have loop1 : codeAny (model X.prog X.w) X.A (.compLoop (.SetComp elt [⟨tg, iter, ifs, 0⟩, ⟨tg1, iter1, ifs1, 0⟩] scope pos) 1 (.ref it1) (.ref D) ce)
            (fun r s' => match r with
              | .ok _ => ∃ m, m < n ∧ ∃ i H', Inv (X.blk s3 H3 scope ce fp) [] (wipe σ (own.map (·.2))) H' s' ∧ tn i s'.heap ∧ (∀ b ∈ fp, H' b = none) ∧ W i m H'
              | .error _ => False) s11 := by
          refine scLoop2_in (fun k s' => ∃ j H', Inv (X.blk s3 H3 scope ce fp) ([] ++ pinsAt fp s7.heap) (wipe σ8 vs1) H' s' ∧ tn1 j s'.heap ∧ (∀ b ∈ fp1, H' b = none) ∧ W1 j k H') ?_ m1 ⟨0, H11, I11.weak (wipe_length _ _) (fun j v e => (wipe_some e).1), st11, fun b hb => (f11 b hb).1, w1⟩
          rintro k s12 ⟨j, H12, I12, st12, n12, w12⟩
          rcases turn1 j k H12 w12 with ⟨stop1, nx1⟩ | ⟨go1, Nx1, hNx1, step1⟩
          · refine thnF (T1.done (X.blk s3 H3 scope ce fp) rfl rfl rfl hc j _ s12 (wipe σ8 vs1) H12 (fun _ _ => False) I12 (stat1 n12) st12 stop1) fun r s13 ⟨hr, I13⟩ => ?_
            subst hr
            exact fin I13 (hl8.trans (wipe_length σ8 vs1).symm) hk9 nx1
          · refine thnF (T1.item (X.blk s3 H3 scope ce fp) rfl rfl rfl hc j _ s12 (wipe σ8 vs1) H12 (fun _ _ => False) I12 (stat1 n12) st12 go1) fun r s13 ⟨u1, hr, h13⟩ => ?_
            subst hr
            refine thnF h13 fun _ s14 ⟨x1, H14, I14, r14, y14, st14, n14⟩ => ?_
            have I14' := I14.pinned (stat1 n14) (T1.obj _ _ st14)
            refine thnF (pg1.run _ s14 (wipe σ8 vs1) H14 x1 u1 _ I14' r14 (step1 x1 H14 y14)) fun _ s15 ⟨σ15, H15, I15, hw15, q15⟩ => ?_
            refine thnF (pt1.run _ s15 σ15 H15 _ I15 q15) fun b1 s16 ⟨H16, I16, q16⟩ => ?_
            have fin1 : ∀ {s' : Shared} {H' : Hp}, Inv (X.blk s3 H3 scope ce fp) (([] ++ pinsAt fp s7.heap) ++ pinsAt fp1 s14.heap) σ15 H' s' → Nx1 H' → ∃ m, m < k ∧ ∃ j H', Inv (X.blk s3 H3 scope ce fp) ([] ++ pinsAt fp s7.heap) (wipe σ8 vs1) H' s' ∧ tn1 j s'.heap ∧ (∀ b ∈ fp1, H' b = none) ∧ W1 j m H' := fun {s' H'} I' nx => by
              obtain ⟨m', hm, w'⟩ := hNx1 H' nx
              have pin' : ∀ b ∈ fp1, ∀ o, s14.heap.get? b = some o → s'.heap.get? b = some o ∧ H' b = none := fun b hb o e =>
                let z := I'.pin (b, o) (List.mem_append_right _ (List.mem_append_right _ (mem_pinsAt hb e)))
                ⟨z.1, z.2.1⟩
              refine ⟨m', hm, j + 1, H', I'.unpinned.weak (by rw [← hw15, wipe_length]) (fun j v e => by rw [← hw15] at e; exact (wipe_some e).1), T1.keep _ _ _ st14 fun b hb o e => (pin' b hb o e).1, fun b hb => ?_, w'⟩
              obtain ⟨o, e, _⟩ := T1.obj _ _ st14 b hb
              exact (pin' b hb o e).2
            cases b1 with
            | false =>
              simp only [Bool.false_eq_true, if_false] at q16 ⊢
              exact fin1 I16 q16
            | true =>
              simp only [if_true] at q16 ⊢
              refine thnF (pe.run _ s16 σ15 H16 _ I16 q16) fun z s17 ⟨yv, H17, I17, r17, cb, S0, n0, ey, hD17, hz17, nx⟩ => ?_
              subst ey
              obtain ⟨tk, rfl⟩ := r17
              exact addI_ok (X := X.blk s3 H3 scope ce fp) I17 hD17 hz17 fun s18 I18 => fin1 I18 nx
        exact scStart1_ok loop1 (T1.self X.A 0 _ _ _ st11 loop1)
  exact codeAny_compStart_set loop (T.self X.A 0 _ _ _ st4 loop)
theorem pe_scI2 {elt tg iter tg1 iter1 : Expr} {ifs ifs1 : List Expr} {scope : Scope} {own : List (Str × Nat)} {vs1 : List Nat} {pos : Pos} {wi wi1 : TI} {g g1 : TG} {tt tt1 : TT} {te : TE} (hc : X.calm = true) (hN : X.N.Nodup) (hi : PI X tg iter wi) (ok : BlkOk X.N X.env.scope scope own) (hv : ∀ i ∈ vs1, i ∈ own.map (·.2))
    (hg : ∀ (s : Shared) (H : Hp) (C : Addr) (cl : List (Str × Addr)) (fp : List Addr), PG (X.blk s H scope (compEnvC scope cl C X.env) fp) tg g) (ht : ∀ (s : Shared) (H : Hp) (C : Addr) (cl : List (Str × Addr)) (fp : List Addr), PTs (X.blk s H scope (compEnvC scope cl C X.env) fp) ifs tt)
    (hi1 : ∀ (s : Shared) (H : Hp) (C : Addr) (cl : List (Str × Addr)) (fp : List Addr), PI (X.blk s H scope (compEnvC scope cl C X.env) fp) tg1 iter1 wi1)
    (hg1 : ∀ (s : Shared) (H : Hp) (C : Addr) (cl : List (Str × Addr)) (fp : List Addr), PG (X.blk s H scope (compEnvC scope cl C X.env) fp) tg1 g1) (ht1 : ∀ (s : Shared) (H : Hp) (C : Addr) (cl : List (Str × Addr)) (fp : List Addr), PTs (X.blk s H scope (compEnvC scope cl C X.env) fp) ifs1 tt1)
    (he : ∀ (s : Shared) (H : Hp) (C : Addr) (cl : List (Str × Addr)) (fp : List Addr), PE (X.blk s H scope (compEnvC scope cl C X.env) fp) elt te) (hs : ∀ x, foldedSetIterable iter X.env x = pure x := by intro _; rfl) (hs1 : ∀ env x, foldedSetIterable iter1 env x = pure x := by intro _ _; rfl) :
    PE X (.SetComp elt [⟨tg, iter, ifs, 0⟩, ⟨tg1, iter1, ifs1, 0⟩] scope pos) (tSc2 X.w wi g tt wi1 g1 tt1 te (own.map (·.2)) vs1) := by
  refine ⟨fun pins s σ H Q I h => ?_⟩
  rw [eval_SetComp]
  refine scI2_core hc hN I hi ok hv hg ht he hs hi1 hg1 ht1 hs1 h fun D C s' m H' I' q hn f => ⟨m, hn, fun h'' sb => ?_⟩
  obtain ⟨f0, f1, f2, f3, f4, f5⟩ := f
  exact ⟨.ref D, H', I'.turned (t' := s'.toks) (fun b o hb e => (sb.2 b hb).trans e) f0 f1 f3 f4 f5, rfl, q⟩
end
end MP
set_option Elab.async false
set_option linter.all false
set_option maxRecDepth 100000
set_option maxHeartbeats 4000000
namespace MP
open PySem PySem.Spec PyProof.Rows L2
/-! ### sorted({.. for ..}), ints -/
def SI (w : World) (Da : Addr) (a : List Int × Nat) : HO := SetO w Da (fun j => decide (j ∈ a.1)) a.2
def RI (a : List Int × Nat) (acc : List D) : Prop := acc = a.1.map D.int ∧ a.2 ≤ a.1.length
theorem SI_nil (w : World) (Da : Addr) : SetO w Da (fun _ => false) 0 = SI w Da ([], 0) := by
  unfold SI
  congr 1
theorem SI_add (w : World) (Da : Addr) (a : List Int × Nat) (c : Int) : SetO w Da (fun j => decide (j ∈ a.1) || decide (j = c)) (if decide (c ∈ a.1) = true then a.2 else a.2 + 1) = SI w Da (a.1 ++ [c], if decide (c ∈ a.1) = true then a.2 else a.2 + 1) := by
  unfold SI
  congr 1
  funext j
  by_cases h : j ∈ a.1 <;> by_cases h2 : j = c <;> simp [h, h2]
theorem RI_add {a : List Int × Nat} {acc : List D} (h : RI a acc) (c : Int) : RI (a.1 ++ [c], if decide (c ∈ a.1) = true then a.2 else a.2 + 1) (acc ++ [.int c]) := by
  obtain ⟨h1, h2⟩ := h
  refine ⟨by rw [h1, List.map_append]; rfl, ?_⟩
  by_cases hc : c ∈ a.1
  · simp [hc]
    omega
  · simp [hc]
    omega
theorem mapint_inj : ∀ {a b : List Int}, a.map D.int = b.map D.int → a = b
  | [], [], _ => rfl
  | [], b :: bs, h => by simp at h
  | a :: as, [], h => by simp at h
  | a :: as, b :: bs, h => by
    simp only [List.map_cons, List.cons.injEq, D.int.injEq] at h
    rw [h.1, mapint_inj h.2]
theorem cLoop_pre {vs : List Nat} {g : Xg} {t : Xt} {m : Xp} : ∀ {ds acc xs : List D} {env e : MEnv}, cLoop vs g t m ds acc env = some (xs, e) → ∃ r, xs = acc ++ r
  | [], acc, xs, env, e, h => by
    simp only [cLoop, Option.some.injEq, Prod.mk.injEq] at h
    exact ⟨[], by rw [List.append_nil]; exact h.1.symm⟩
  | d :: ds, acc, xs, env, e, h => by
    unfold cLoop at h
    cases q3 : g d env with
    | none => simp [q3] at h
    | some e3 =>
      simp only [q3] at h
      cases q4 : t e3 with
      | none => simp [q4] at h
      | some pr4 =>
        obtain ⟨b4, e4⟩ := pr4
        cases b4 with
        | false =>
          simp only [q4] at h
          exact cLoop_pre h
        | true =>
          simp only [q4] at h
          cases q6 : m e4 with
          | none => simp [q6] at h
          | some pr6 =>
            obtain ⟨r6, e6⟩ := pr6
            simp only [q6] at h
            cases q7 : esc e6 r6 with
            | none => simp [q7] at h
            | some pr7 =>
              obtain ⟨x, e7⟩ := pr7
              simp only [q7] at h
              by_cases hsz : acc.length < 16777216
              · rw [if_pos hsz] at h
                obtain ⟨r, hr⟩ := cLoop_pre h
                exact ⟨[x] ++ r, by rw [hr, List.append_assoc]⟩
              · rw [if_neg hsz] at h
                cases h
theorem cLoop2_pre {vs vs1 : List Nat} {g g1 : Xg} {t t1 : Xt} {mi1 : Xi} {m : Xp} : ∀ {ds acc xs : List D} {env e : MEnv}, cLoop2 vs g t mi1 vs1 g1 t1 m ds acc env = some (xs, e) → ∃ r, xs = acc ++ r
  | [], acc, xs, env, e, h => by
    simp only [cLoop2, Option.some.injEq, Prod.mk.injEq] at h
    exact ⟨[], by rw [List.append_nil]; exact h.1.symm⟩
  | d :: ds, acc, xs, env, e, h => by
    unfold cLoop2 at h
    cases q3 : g d env with
    | none => simp [q3] at h
    | some e3 =>
      simp only [q3] at h
      cases q4 : t e3 with
      | none => simp [q4] at h
      | some pr4 =>
        obtain ⟨b4, e4⟩ := pr4
        cases b4 with
        | false =>
          simp only [q4] at h
          exact cLoop2_pre h
        | true =>
          simp only [q4] at h
          cases q5 : mi1 e4 with
          | none => simp [q5] at h
          | some pr5 =>
            obtain ⟨ds1, e5⟩ := pr5
            simp only [q5] at h
            cases q6 : cLoop vs1 g1 t1 m ds1 acc (wipeE e5 vs1) with
            | none => simp [q6] at h
            | some pr6 =>
              obtain ⟨acc', e6⟩ := pr6
              simp only [q6] at h
              obtain ⟨r1, h1⟩ := cLoop_pre q6
              obtain ⟨r, hr⟩ := cLoop2_pre h
              exact ⟨r1 ++ r, by rw [hr, h1, List.append_assoc]⟩
/-- what the list of all that is made must be: few ints -/
def fSS (m : Xf) : Xf := fun env => match m env with
  | some (.lst xs, e1) => match intsD xs with
    | some ns => if ns.length < 64 then some (.lst ((srtS ns).map .int), e1) else none
    | none => none
  | _ => none
@[simp] theorem fSS_s (m : Xf) (env : MEnv) : fSS m env = match m env with
  | some (.lst xs, e1) => match intsD xs with
    | some ns => if ns.length < 64 then some (.lst ((srtS ns).map .int), e1) else none
    | none => none
  | _ => none := (rfl)
theorem intsD_at {xs : List D} {ns : List Int} (h : intsD xs = some ns) {acc : List D} {x : D} {r : List D} (e : xs = acc ++ [x] ++ r) : (∃ c, x = .int c) ∧ acc.length < ns.length := by
  have h1 := intsD_eq h
  have hl : acc.length < ns.length := by
    have : xs.length = ns.length := by rw [h1, List.length_map]
    rw [← this, e]
    simp
  refine ⟨⟨ns[acc.length], ?_⟩, hl⟩
  have h2 : xs[acc.length]? = some x := by
    rw [e, List.append_assoc, List.getElem?_append_right (Nat.le_refl _)]
    simp
  rw [h1, List.getElem?_map, List.getElem?_eq_getElem hl] at h2
  exact (Option.some.inj h2).symm
def tSSc (w : World) (t : TE) : TE := tCB (rSortedSet w) (tCons t tNil)
section
variable {X : Cx} {cl : ClM} {tg iter tg1 iter1 elt e : Expr} {ifs ifs1 : List Expr} {vs vs1 : List Nat} {mi mi1 : Xi} {g g1 : Xg} {mt mt1 : Xt} {m : Xp} {scope : Scope}
theorem scI_fr (hi : MI X cl tg iter mi) (hg : BlkAll X scope fun Y => MG Y cl (notIn vs) tg g) (ht : BlkAll X scope fun Y => MTs Y cl ifs mt) (he : BlkAll X scope fun Y => ME Y cl elt m) :
    ∃ wi tgt tt te, PI X tg iter wi ∧ BlkAll X scope (fun Y => PG Y tg tgt) ∧ BlkAll X scope (fun Y => PTs Y ifs tt) ∧ BlkAll X scope (fun Y => PE Y elt te) ∧ FrOk X.K cl (tSSc X.w (tScI X.w wi tgt tt te vs)) (fSS (fComp vs mi g mt m)) := by
  obtain ⟨wi, pi, ki⟩ := hi
  obtain ⟨tgt, pg, kg⟩ := uni_g hg
  obtain ⟨tt, pt, kt⟩ := uni_t ht
  obtain ⟨te, pe, ke⟩ := uni_e he
  refine ⟨wi, tgt, tt, te, pi, pg, pt, pe, fun σ H I env o env' Q gd hm k => ?_⟩
  unfold fSS fComp at hm
  cases q : mi env with
  | none => simp [q] at hm
  | some pr =>
    obtain ⟨ds, e1⟩ := pr
    simp only [q] at hm
    by_cases ok : okW e1 vs = true
    · rw [if_pos ok] at hm
      cases q2 : cLoop vs g mt m ds [] (wipeE e1 vs) with
      | none => simp [q2] at hm
      | some pr2 =>
        obtain ⟨xs, e2⟩ := pr2
        simp only [q2] at hm
        cases qn : intsD xs with
        | none => simp [qn] at hm
        | some nsF =>
        simp only [qn] at hm
        by_cases h64 : nsF.length < 64
        rotate_left
        · rw [if_neg h64] at hm
          cases hm
        rw [if_pos h64] at hm
        simp only [Option.some.injEq, Prod.mk.injEq] at hm
        obtain ⟨rfl, rfl⟩ := hm
        refine ki σ H I env ds e1 _ gd q fun J I1 H1 g1 t1 it => fun Da hD => ?_
        have nfD : ¬ Fp σ e1 Da := nf_fresh g1 hD
        have iD : I1 Da = none := g1.ex.free hD
        have al0 : Al I1 H1 I1 (upd H1 Da (SetO X.w Da (fun _ => false) 0)) := Al.newH g1.ex hD
        refine ⟨fun i j H2 => j = ds.length - i ∧ ∃ I2 env2 acc accV, Gd X.K cl I2 H2 (wipe σ vs) env2 ∧ Tr (Fp σ e1) I1 H1 (Fp (wipe σ vs) env2) I2 H2 ∧ I2 Da = none ∧ H2 Da = some (SI X.w Da accV) ∧ ¬ Fp (wipe σ vs) env2 Da ∧ RI accV acc ∧
            cLoop vs g mt m (ds.drop i) acc env2 = some (xs, e2),
          ⟨ds.length, rfl, I1, wipeE e1 vs, [], ([], 0), (g1.al al0).wipe, ((al0.tr (F := Fp σ e1)).less fun p h => h.wipe), iD, by rw [upd_same, SI_nil], fun h => nfD h.wipe, ⟨rfl, Nat.le_refl _⟩, q2⟩, fun i j H2 ⟨hj, I2, env2, acc, accV, g2, t2, i2, h2, nf2, ra, hw⟩ => ?_⟩
        obtain ⟨hstop, hgo⟩ := it i I2 H2 t2.ext g2.ex
        cases hd : ds[i]? with
        | none =>
          have hle : ds.length ≤ i := List.getElem?_eq_none_iff.mp hd
          rw [List.drop_eq_nil_of_le hle] at hw
          simp only [cLoop, Option.some.injEq, Prod.mk.injEq] at hw
          obtain ⟨rfl, rfl⟩ := hw
          refine .inl ⟨hstop hd, ?_⟩
          have g3 : Gd X.K cl I2 H2 σ (restE e1 env2 vs) := Gd.rest g1 ok t2.ext g2
          have t3 : Tr (Fp σ e1) I1 H1 (Fp σ (restE e1 env2 vs)) I2 H2 := t2.less fun p h => Fp.rest ok h
          have en : accV.1 = nsF := by
            have := ra.1.symm.trans (intsD_eq qn)
            exact mapint_inj this
          have hle2 := ra.2
          refine ⟨Da, _, accV.2, rfl, h2, by rw [en] at hle2; omega, fun ns' b hpw hmem hlen hb => ?_⟩
          have e1' : ns' = srtS nsF := rise_ext hpw (srtS_pw nsF) fun j => by
            rw [srtS_mem, hmem, decide_eq_true_eq, en]
          subst e1'
          have al9 := Al.newH (ho := .lst ((srtS nsF).map V.int)) g3.ex hb
          have hb1 : H1 b = none := by
            cases qq : H1 b with
            | none => rfl
            | some u => exact absurd hb (t3.dom b (by rw [qq]; exact fun z => nomatch z))
          exact k b _ _ _ (g3.al al9) ((t1.trans t3).trans al9.tr) (g3.ex.free hb) upd_same (.lst (RpA.ofInts _)) ((t1.trans t3).back (.inr hb)) (nf_fresh g3 hb)
        | some d =>
          have hlt : i < ds.length := (List.getElem?_eq_some_iff.mp hd).1
          have edr : ds.drop i = d :: ds.drop (i + 1) := by
            rw [List.drop_eq_getElem_cons hlt]
            congr 1
            exact (List.getElem?_eq_some_iff.mp hd).2
          rw [edr] at hw
          obtain ⟨go, yld⟩ := hgo d hd
          refine .inr ⟨go, fun H4 => ∃ I4 env4 acc4 accV4, Gd X.K cl I4 H4 (wipe σ vs) env4 ∧ Tr (Fp σ e1) I1 H1 (Fp (wipe σ vs) env4) I4 H4 ∧ I4 Da = none ∧ H4 Da = some (SI X.w Da accV4) ∧ ¬ Fp (wipe σ vs) env4 Da ∧ RI accV4 acc4 ∧
            cLoop vs g mt m (ds.drop (i + 1)) acc4 env4 = some (xs, e2), fun H4 h4 => ⟨ds.length - (i + 1), by omega, rfl, h4⟩, fun v H3 hy => ?_⟩
          obtain ⟨I3, al, rv⟩ := yld v H3 hy
          have g3 := g2.al al
          have t3 := t2.trans (al.tr (F := Fp (wipe σ vs) env2))
          have hDa2 : H2 Da ≠ none := by
            rw [h2]
            exact fun z => nomatch z
          have i3 : I3 Da = none := al.nofr Da hDa2 i2
          have h3 : H3 Da = some (SI X.w Da accV) := al.exH _ _ h2
          unfold cLoop at hw
          cases q3 : g d env2 with
          | none => simp [q3] at hw
          | some e3 =>
            simp only [q3] at hw
            refine kg (wipe σ vs) H3 I3 env2 d e3 v _ g3 rv q3 fun σ4 I4 H4 g4 t4 r4 l4 => ?_
            have ew : wipe σ4 vs = wipe σ vs := (wipe_eq l4 fun i hi => r4 i (notIn_t hi)).trans (wipe_eq (wipe_length _ _) fun i hi => wipe_out hi)
            refine ⟨ew, ?_⟩
            have t34 := t3.trans t4
            have hDa3 : H3 Da ≠ none := by
              rw [h3]
              exact fun z => nomatch z
            have i4 : I4 Da = none := t4.nofr Da hDa3 nf2 i3
            have h4 : H4 Da = some (SI X.w Da accV) := t4.frame _ _ h3 nf2
            have nf4 : ¬ Fp σ4 e3 Da := t4.notin hDa3 nf2
            cases q4 : mt e3 with
            | none => simp [q4] at hw
            | some pr4 =>
              obtain ⟨b4, e4⟩ := pr4
              refine kt σ4 H4 I4 e3 b4 e4 _ g4 q4 fun I5 H5 g5 t5 => ?_
              have hDa4 : H4 Da ≠ none := by
                rw [h4]
                exact fun z => nomatch z
              have i5 : I5 Da = none := t5.nofr Da hDa4 nf4 i4
              have h5 : H5 Da = some (SI X.w Da accV) := t5.frame _ _ h4 nf4
              have nf5 : ¬ Fp σ4 e4 Da := t5.notin hDa4 nf4
              have t45 := t34.trans t5
              cases b4 with
              | false =>
                simp only [q4] at hw
                show ∃ I4 env4 acc4 accV4, _
                refine ⟨I5, wipeE e4 vs, acc, accV, ?_, ?_, i5, h5, ?_, ra, hw⟩
                · rw [← ew]
                  exact g5.wipe
                · rw [← ew]
                  exact t45.less fun p h => h.wipe
                · rw [← ew]
                  exact fun h => nf5 h.wipe
              | true =>
                simp only [q4] at hw
                show te σ4 H5 _
                cases q6 : m e4 with
                | none => simp [q6] at hw
                | some pr6 =>
                  obtain ⟨r6, e6⟩ := pr6
                  simp only [q6] at hw
                  cases q7 : esc e6 r6 with
                  | none => simp [q7] at hw
                  | some pr7 =>
                    obtain ⟨x, e7⟩ := pr7
                    simp only [q7] at hw
                    by_cases hsz : acc.length < 16777216
                    · rw [if_pos hsz] at hw
                      refine ke σ4 H5 I5 e4 r6 e6 _ g5 q6 fun y I6 H6 g6 t6 r6' => ?_
                      obtain ⟨I7, g7, t7, r7⟩ := esc_ok g6 r6' q7
                      have t67 := t6.trans t7
                      have hDa5 : H5 Da ≠ none := by
                        rw [h5]
                        exact fun z => nomatch z
                      have i7 : I7 Da = none := t67.nofr Da hDa5 nf5 i5
                      have h7 : H6 Da = some (SI X.w Da accV) := t67.frame _ _ h5 nf5
                      have nf7 : ¬ Fp σ4 e7 Da := t67.notin hDa5 nf5
                      obtain ⟨rr, hrr⟩ := cLoop_pre hw
                      obtain ⟨⟨c, rfl⟩, hll⟩ := intsD_at qn hrr
                      cases r7
                      have hle2 := ra.2
                      have hal : acc.length = accV.1.length := by rw [ra.1, List.length_map]
                      refine ⟨c, _, accV.2, rfl, h7, by unfold scanBound; omega, I7, wipeE e7 vs, acc ++ [.int c], (accV.1 ++ [c], if decide (c ∈ accV.1) = true then accV.2 else accV.2 + 1), ?_, ?_, i7, by rw [upd_same, SI_add], ?_, RI_add ra c, hw⟩
                      · rw [← ew]
                        exact (g7.updH i7 nf7).wipe
                      · rw [← ew]
                        exact ((t45.trans t67).updN (.inr hD)).less fun p h => h.wipe
                      · rw [← ew]
                        exact fun h => nf7 h.wipe
                    · rw [if_neg hsz] at hw
                      cases hw
    · rw [if_neg ok] at hm
      cases hm
theorem scI2_fr (hvs : ∀ i ∈ vs1, i ∈ vs) (hi : MI X cl tg iter mi) (hg : BlkAll X scope fun Y => MG Y cl (notIn vs) tg g) (ht : BlkAll X scope fun Y => MTs Y cl ifs mt)
    (hi1 : BlkAll X scope fun Y => MI Y cl tg1 iter1 mi1) (hg1 : BlkAll X scope fun Y => MG Y cl (notIn vs1) tg1 g1) (ht1 : BlkAll X scope fun Y => MTs Y cl ifs1 mt1) (he : BlkAll X scope fun Y => ME Y cl elt m) :
    ∃ wi tgt tt wi1 tgt1 tt1 te, PI X tg iter wi ∧ BlkAll X scope (fun Y => PG Y tg tgt) ∧ BlkAll X scope (fun Y => PTs Y ifs tt) ∧ BlkAll X scope (fun Y => PI Y tg1 iter1 wi1) ∧ BlkAll X scope (fun Y => PG Y tg1 tgt1) ∧ BlkAll X scope (fun Y => PTs Y ifs1 tt1) ∧ BlkAll X scope (fun Y => PE Y elt te) ∧
      FrOk X.K cl (tSSc X.w (tSc2 X.w wi tgt tt wi1 tgt1 tt1 te vs vs1)) (fSS (fComp2 vs mi g mt mi1 vs1 g1 mt1 m)) := by
  obtain ⟨wi, pi, ki⟩ := hi
  obtain ⟨tgt, pg, kg⟩ := uni_g hg
  obtain ⟨tt, pt, kt⟩ := uni_t ht
  obtain ⟨wi1, pi1, ki1⟩ := uni_i hi1
  obtain ⟨tgt1, pg1, kg1⟩ := uni_g hg1
  obtain ⟨tt1, pt1, kt1⟩ := uni_t ht1
  obtain ⟨te, pe, ke⟩ := uni_e he
  refine ⟨wi, tgt, tt, wi1, tgt1, tt1, te, pi, pg, pt, pi1, pg1, pt1, pe, fun σ H I env o env' Q gd hm k => ?_⟩
  unfold fSS fComp2 at hm
  cases q : mi env with
  | none => simp [q] at hm
  | some pr =>
    obtain ⟨ds, e1⟩ := pr
    simp only [q] at hm
    by_cases ok : okW e1 vs = true
    · rw [if_pos ok] at hm
      cases q2 : cLoop2 vs g mt mi1 vs1 g1 mt1 m ds [] (wipeE e1 vs) with
      | none => simp [q2] at hm
      | some pr2 =>
        obtain ⟨xs, e2⟩ := pr2
        simp only [q2] at hm
        cases qn : intsD xs with
        | none => simp [qn] at hm
        | some nsF =>
        simp only [qn] at hm
        by_cases h64 : nsF.length < 64
        rotate_left
        · rw [if_neg h64] at hm
          cases hm
        rw [if_pos h64] at hm
        simp only [Option.some.injEq, Prod.mk.injEq] at hm
        obtain ⟨rfl, rfl⟩ := hm
        refine ki σ H I env ds e1 _ gd q fun J I1 H1 g1' t1 it => fun Da hD => ?_
        have nfD : ¬ Fp σ e1 Da := nf_fresh g1' hD
        have iD : I1 Da = none := g1'.ex.free hD
        have al0 : Al I1 H1 I1 (upd H1 Da (SetO X.w Da (fun _ => false) 0)) := Al.newH g1'.ex hD
        refine ⟨fun i j H2 => j = ds.length - i ∧ ∃ I2 env2 acc accV, Gd X.K cl I2 H2 (wipe σ vs) env2 ∧ Tr (Fp σ e1) I1 H1 (Fp (wipe σ vs) env2) I2 H2 ∧ I2 Da = none ∧ H2 Da = some (SI X.w Da accV) ∧ ¬ Fp (wipe σ vs) env2 Da ∧ RI accV acc ∧
            cLoop2 vs g mt mi1 vs1 g1 mt1 m (ds.drop i) acc env2 = some (xs, e2),
          ⟨ds.length, rfl, I1, wipeE e1 vs, [], ([], 0), (g1'.al al0).wipe, ((al0.tr (F := Fp σ e1)).less fun p h => h.wipe), iD, by rw [upd_same, SI_nil], fun h => nfD h.wipe, ⟨rfl, Nat.le_refl _⟩, q2⟩, fun i j H2 ⟨hj, I2, env2, acc, accV, g2, t2, i2, h2, nf2, ra, hw⟩ => ?_⟩
        obtain ⟨hstop, hgo⟩ := it i I2 H2 t2.ext g2.ex
        cases hd : ds[i]? with
        | none =>
          have hle : ds.length ≤ i := List.getElem?_eq_none_iff.mp hd
          rw [List.drop_eq_nil_of_le hle] at hw
          simp only [cLoop2, Option.some.injEq, Prod.mk.injEq] at hw
          obtain ⟨rfl, rfl⟩ := hw
          refine .inl ⟨hstop hd, ?_⟩
          have g3 : Gd X.K cl I2 H2 σ (restE e1 env2 vs) := Gd.rest g1' ok t2.ext g2
          have t3 : Tr (Fp σ e1) I1 H1 (Fp σ (restE e1 env2 vs)) I2 H2 := t2.less fun p h => Fp.rest ok h
          have en : accV.1 = nsF := by
            have := ra.1.symm.trans (intsD_eq qn)
            exact mapint_inj this
          have hle2 := ra.2
          refine ⟨Da, _, accV.2, rfl, h2, by rw [en] at hle2; omega, fun ns' b hpw hmem hlen hb => ?_⟩
          have e1' : ns' = srtS nsF := rise_ext hpw (srtS_pw nsF) fun j => by
            rw [srtS_mem, hmem, decide_eq_true_eq, en]
          subst e1'
          have al9 := Al.newH (ho := .lst ((srtS nsF).map V.int)) g3.ex hb
          have hb1 : H1 b = none := by
            cases qq : H1 b with
            | none => rfl
            | some u => exact absurd hb (t3.dom b (by rw [qq]; exact fun z => nomatch z))
          exact k b _ _ _ (g3.al al9) ((t1.trans t3).trans al9.tr) (g3.ex.free hb) upd_same (.lst (RpA.ofInts _)) ((t1.trans t3).back (.inr hb)) (nf_fresh g3 hb)
        | some d =>
          have hlt : i < ds.length := (List.getElem?_eq_some_iff.mp hd).1
          have edr : ds.drop i = d :: ds.drop (i + 1) := by
            rw [List.drop_eq_getElem_cons hlt]
            congr 1
            exact (List.getElem?_eq_some_iff.mp hd).2
          rw [edr] at hw
          obtain ⟨go, yld⟩ := hgo d hd
          refine .inr ⟨go, fun H4 => ∃ I4 env4 acc4 accV4, Gd X.K cl I4 H4 (wipe σ vs) env4 ∧ Tr (Fp σ e1) I1 H1 (Fp (wipe σ vs) env4) I4 H4 ∧ I4 Da = none ∧ H4 Da = some (SI X.w Da accV4) ∧ ¬ Fp (wipe σ vs) env4 Da ∧ RI accV4 acc4 ∧
            cLoop2 vs g mt mi1 vs1 g1 mt1 m (ds.drop (i + 1)) acc4 env4 = some (xs, e2), fun H4 h4 => ⟨ds.length - (i + 1), by omega, rfl, h4⟩, fun v H3 hy => ?_⟩
          obtain ⟨I3, al, rv⟩ := yld v H3 hy
          have g3 := g2.al al
          have t3 := t2.trans (al.tr (F := Fp (wipe σ vs) env2))
          have hDa2 : H2 Da ≠ none := by
            rw [h2]
            exact fun z => nomatch z
          have i3 : I3 Da = none := al.nofr Da hDa2 i2
          have h3 : H3 Da = some (SI X.w Da accV) := al.exH _ _ h2
          unfold cLoop2 at hw
          cases q3 : g d env2 with
          | none => simp [q3] at hw
          | some e3 =>
            simp only [q3] at hw
            refine kg (wipe σ vs) H3 I3 env2 d e3 v _ g3 rv q3 fun σ4 I4 H4 g4 t4 r4 l4 => ?_
            have ew : wipe σ4 vs = wipe σ vs := (wipe_eq l4 fun i hi => r4 i (notIn_t hi)).trans (wipe_eq (wipe_length _ _) fun i hi => wipe_out hi)
            refine ⟨ew, ?_⟩
            have t34 := t3.trans t4
            have hDa3 : H3 Da ≠ none := by
              rw [h3]
              exact fun z => nomatch z
            have i4 : I4 Da = none := t4.nofr Da hDa3 nf2 i3
            have h4 : H4 Da = some (SI X.w Da accV) := t4.frame _ _ h3 nf2
            have nf4 : ¬ Fp σ4 e3 Da := t4.notin hDa3 nf2
            cases q4 : mt e3 with
            | none => simp [q4] at hw
            | some pr4 =>
              obtain ⟨b4, e4⟩ := pr4
              refine kt σ4 H4 I4 e3 b4 e4 _ g4 q4 fun I5 H5 g5 t5 => ?_
              have hDa4 : H4 Da ≠ none := by
                rw [h4]
                exact fun z => nomatch z
              have i5 : I5 Da = none := t5.nofr Da hDa4 nf4 i4
              have h5 : H5 Da = some (SI X.w Da accV) := t5.frame _ _ h4 nf4
              have nf5 : ¬ Fp σ4 e4 Da := t5.notin hDa4 nf4
              have t45 := t34.trans t5
              cases b4 with
              | false =>
                simp only [q4] at hw
                show ∃ I4 env4 acc4 accV4, _
                refine ⟨I5, wipeE e4 vs, acc, accV, ?_, ?_, i5, h5, ?_, ra, hw⟩
                · rw [← ew]
                  exact g5.wipe
                · rw [← ew]
                  exact t45.less fun p h => h.wipe
                · rw [← ew]
                  exact fun h => nf5 h.wipe
              | true =>
                simp only [q4] at hw
                show wi1 σ4 H5 _
                cases q5 : mi1 e4 with
                | none => simp [q5] at hw
                | some pr5 =>
                  obtain ⟨ds1, e5⟩ := pr5
                  simp only [q5] at hw
                  cases q6 : cLoop vs1 g1 mt1 m ds1 acc (wipeE e5 vs1) with
                  | none => simp [q6] at hw
                  | some pr6 =>
                    obtain ⟨acc', e6⟩ := pr6
                    simp only [q6] at hw
                    refine ki1 σ4 H5 I5 e4 ds1 e5 _ g5 q5 fun J1 I6 H6 g6 t6 it6 => ?_
                    have hDa5 : H5 Da ≠ none := by
                      rw [h5]
                      exact fun z => nomatch z
                    have i6 : I6 Da = none := t6.nofr Da hDa5 nf5 i5
                    have h6 : H6 Da = some (SI X.w Da accV) := t6.frame _ _ h5 nf5
                    have nf6 : ¬ Fp σ4 e5 Da := t6.notin hDa5 nf5
                    have t46 := t45.trans t6
                    have ra6 : RI accV acc := ra
                    refine ⟨fun j k H7 => k = ds1.length - j ∧ ∃ I7 env7 acc7 accV7, Gd X.K cl I7 H7 (wipe σ4 vs1) env7 ∧ Tr (Fp σ e1) I1 H1 (Fp (wipe σ4 vs1) env7) I7 H7 ∧ I7 Da = none ∧ H7 Da = some (SI X.w Da accV7) ∧ ¬ Fp (wipe σ4 vs1) env7 Da ∧ RI accV7 acc7 ∧ Same I6 I7 ∧
                        cLoop vs1 g1 mt1 m (ds1.drop j) acc7 env7 = some (acc', e6),
                      ⟨ds1.length, rfl, I6, wipeE e5 vs1, acc, accV, g6.wipe, t46.less fun p h => h.wipe, i6, h6, fun h => nf6 h.wipe, ra6, fun _ _ h => h, q6⟩, fun j k H7 ⟨hk, I7, env7, acc7, accV7, g7, t7, i7, h7, nf7, ra7, e67, hw7⟩ => ?_⟩
                    obtain ⟨hstop1, hgo1⟩ := it6 j I7 H7 e67 g7.ex
                    cases hd1 : ds1[j]? with
                    | none =>
                      have hle : ds1.length ≤ j := List.getElem?_eq_none_iff.mp hd1
                      rw [List.drop_eq_nil_of_le hle] at hw7
                      simp only [cLoop, Option.some.injEq, Prod.mk.injEq] at hw7
                      obtain ⟨rfl, rfl⟩ := hw7
                      refine .inl ⟨hstop1 hd1, ?_⟩
                      have ew1 : wipe (wipe σ4 vs1) vs = wipe σ vs := (wipe_sub hvs).trans ew
                      refine ⟨I7, wipeE env7 vs, acc7, accV7, ?_, ?_, i7, h7, ?_, ra7, hw⟩
                      · rw [← ew1]
                        exact g7.wipe
                      · rw [← ew1]
                        exact t7.less fun p h => h.wipe
                      · rw [← ew1]
                        exact fun h => nf7 h.wipe
                    | some d1 =>
                      have hlt1 : j < ds1.length := (List.getElem?_eq_some_iff.mp hd1).1
                      have edr1 : ds1.drop j = d1 :: ds1.drop (j + 1) := by
                        rw [List.drop_eq_getElem_cons hlt1]
                        congr 1
                        exact (List.getElem?_eq_some_iff.mp hd1).2
                      rw [edr1] at hw7
                      obtain ⟨go1, yld1⟩ := hgo1 d1 hd1
                      refine .inr ⟨go1, fun H8 => ∃ I7 env7 acc7 accV7, Gd X.K cl I7 H8 (wipe σ4 vs1) env7 ∧ Tr (Fp σ e1) I1 H1 (Fp (wipe σ4 vs1) env7) I7 H8 ∧ I7 Da = none ∧ H8 Da = some (SI X.w Da accV7) ∧ ¬ Fp (wipe σ4 vs1) env7 Da ∧ RI accV7 acc7 ∧ Same I6 I7 ∧
                        cLoop vs1 g1 mt1 m (ds1.drop (j + 1)) acc7 env7 = some (acc', e6), fun H8 h8 => ⟨ds1.length - (j + 1), by omega, rfl, h8⟩, fun v1 H8 hy1 => ?_⟩
                      obtain ⟨I8, al8, rv8⟩ := yld1 v1 H8 hy1
                      have g8 := g7.al al8
                      have t8 := t7.trans (al8.tr (F := Fp (wipe σ4 vs1) env7))
                      have hDa7 : H7 Da ≠ none := by
                        rw [h7]
                        exact fun z => nomatch z
                      have i8 : I8 Da = none := al8.nofr Da hDa7 i7
                      have h8 : H8 Da = some (SI X.w Da accV7) := al8.exH _ _ h7
                      unfold cLoop at hw7
                      cases q8 : g1 d1 env7 with
                      | none => simp [q8] at hw7
                      | some e8 =>
                        simp only [q8] at hw7
                        refine kg1 (wipe σ4 vs1) H8 I8 env7 d1 e8 v1 _ g8 rv8 q8 fun σ9 I9 H9 g9 t9 r9 l9 => ?_
                        have ew9 : wipe σ9 vs1 = wipe σ4 vs1 := (wipe_eq l9 fun i hi => r9 i (notIn_t hi)).trans (wipe_eq (wipe_length _ _) fun i hi => wipe_out hi)
                        refine ⟨ew9, ?_⟩
                        have t89 := t8.trans t9
                        have hDa8 : H8 Da ≠ none := by
                          rw [h8]
                          exact fun z => nomatch z
                        have i9 : I9 Da = none := t9.nofr Da hDa8 nf7 i8
                        have h9 : H9 Da = some (SI X.w Da accV7) := t9.frame _ _ h8 nf7
                        have nf9 : ¬ Fp σ9 e8 Da := t9.notin hDa8 nf7
                        cases q9 : mt1 e8 with
                        | none => simp [q9] at hw7
                        | some pr9 =>
                          obtain ⟨b9, e9⟩ := pr9
                          refine kt1 σ9 H9 I9 e8 b9 e9 _ g9 q9 fun Ia Ha ga ta => ?_
                          have hDa9 : H9 Da ≠ none := by
                            rw [h9]
                            exact fun z => nomatch z
                          have ia : Ia Da = none := ta.nofr Da hDa9 nf9 i9
                          have ha : Ha Da = some (SI X.w Da accV7) := ta.frame _ _ h9 nf9
                          have nfa : ¬ Fp σ9 e9 Da := ta.notin hDa9 nf9
                          have t9a := t89.trans ta
                          have ext9 := (al8.ext.trans t9.ext).trans ta.ext
                          cases b9 with
                          | false =>
                            simp only [q9] at hw7
                            show ∃ I7 env7 acc7 accV7, _
                            refine ⟨Ia, wipeE e9 vs1, acc7, accV7, ?_, ?_, ia, ha, ?_, ra7, e67.trans ext9, hw7⟩
                            · rw [← ew9]
                              exact ga.wipe
                            · rw [← ew9]
                              exact t9a.less fun p h => h.wipe
                            · rw [← ew9]
                              exact fun h => nfa h.wipe
                          | true =>
                            simp only [q9] at hw7
                            show te σ9 Ha _
                            cases qb : m e9 with
                            | none => simp [qb] at hw7
                            | some prb =>
                              obtain ⟨rb, eb⟩ := prb
                              simp only [qb] at hw7
                              cases qc : esc eb rb with
                              | none => simp [qc] at hw7
                              | some prc =>
                                obtain ⟨x, ec⟩ := prc
                                simp only [qc] at hw7
                                by_cases hsz : acc7.length < 16777216
                                · rw [if_pos hsz] at hw7
                                  refine ke σ9 Ha Ia e9 rb eb _ ga qb fun y Ib Hb gb tb rb' => ?_
                                  obtain ⟨Ic, gc, tc, rc⟩ := esc_ok gb rb' qc
                                  have tbc := tb.trans tc
                                  have hDaa : Ha Da ≠ none := by
                                    rw [ha]
                                    exact fun z => nomatch z
                                  have ic : Ic Da = none := tbc.nofr Da hDaa nfa ia
                                  have hc : Hb Da = some (SI X.w Da accV7) := tbc.frame _ _ ha nfa
                                  have nfc : ¬ Fp σ9 ec Da := tbc.notin hDaa nfa
                                  obtain ⟨rr, hrr⟩ := cLoop_pre hw7
                                  obtain ⟨rr2, hrr2⟩ := cLoop2_pre hw
                                  obtain ⟨⟨c, rfl⟩, hll⟩ := intsD_at qn (r := rr ++ rr2) (by rw [hrr2, hrr, List.append_assoc])
                                  cases rc
                                  have hle2 := ra7.2
                                  have hal : acc7.length = accV7.1.length := by rw [ra7.1, List.length_map]
                                  refine ⟨c, _, accV7.2, rfl, hc, by unfold scanBound; omega, Ic, wipeE ec vs1, acc7 ++ [.int c], (accV7.1 ++ [c], if decide (c ∈ accV7.1) = true then accV7.2 else accV7.2 + 1), ?_, ?_, ic, by rw [upd_same, SI_add], ?_, RI_add ra7 c, e67.trans (ext9.trans tbc.ext), hw7⟩
                                  · rw [← ew9]
                                    exact (gc.updH ic nfc).wipe
                                  · rw [← ew9]
                                    exact ((t9a.trans tbc).updN (.inr hD)).less fun p h => h.wipe
                                  · rw [← ew9]
                                    exact fun h => nfc h.wipe
                                · rw [if_neg hsz] at hw7
                                  cases hw7
    · rw [if_neg ok] at hm
      cases hm
theorem mf_sc (hi : MI X cl tg iter mi) (hg : BlkAll X scope fun Y => MG Y cl (notIn vs) tg g) (ht : BlkAll X scope fun Y => MTs Y cl ifs mt) (he : BlkAll X scope fun Y => ME Y cl elt m)
    (hp : ∀ wi tgt tt te, PI X tg iter wi → BlkAll X scope (fun Y => PG Y tg tgt) → BlkAll X scope (fun Y => PTs Y ifs tt) → BlkAll X scope (fun Y => PE Y elt te) → PE X e (tSSc X.w (tScI X.w wi tgt tt te vs))) : MF X cl e (fSS (fComp vs mi g mt m)) := by
  obtain ⟨wi, tgt, tt, te, pi, pg, pt, pe, fr⟩ := scI_fr hi hg ht he
  exact ⟨_, hp wi tgt tt te pi pg pt pe, fr⟩
theorem mf_sc2 (hvs : ∀ i ∈ vs1, i ∈ vs) (hi : MI X cl tg iter mi) (hg : BlkAll X scope fun Y => MG Y cl (notIn vs) tg g) (ht : BlkAll X scope fun Y => MTs Y cl ifs mt)
    (hi1 : BlkAll X scope fun Y => MI Y cl tg1 iter1 mi1) (hg1 : BlkAll X scope fun Y => MG Y cl (notIn vs1) tg1 g1) (ht1 : BlkAll X scope fun Y => MTs Y cl ifs1 mt1) (he : BlkAll X scope fun Y => ME Y cl elt m)
    (hp : ∀ wi tgt tt wi1 tgt1 tt1 te, PI X tg iter wi → BlkAll X scope (fun Y => PG Y tg tgt) → BlkAll X scope (fun Y => PTs Y ifs tt) → BlkAll X scope (fun Y => PI Y tg1 iter1 wi1) → BlkAll X scope (fun Y => PG Y tg1 tgt1) → BlkAll X scope (fun Y => PTs Y ifs1 tt1) → BlkAll X scope (fun Y => PE Y elt te) →
      PE X e (tSSc X.w (tSc2 X.w wi tgt tt wi1 tgt1 tt1 te vs vs1))) : MF X cl e (fSS (fComp2 vs mi g mt mi1 vs1 g1 mt1 m)) := by
  obtain ⟨wi, tgt, tt, wi1, tgt1, tt1, te, pi, pg, pt, pi1, pg1, pt1, pe, fr⟩ := scI2_fr hvs hi hg ht hi1 hg1 ht1 he
  exact ⟨_, hp wi tgt tt wi1 tgt1 tt1 te pi pg pt pi1 pg1 pt1 pe, fr⟩
end
end MP
set_option Elab.async false
set_option linter.all false
set_option maxRecDepth 100000
set_option maxHeartbeats 4000000
namespace MP
open PySem PySem.Spec PyProof.Rows L2
/-! ### methods of a list or of a tuple that are only read: t.count(x), t.index(x) -/
def tBMS (K : PySem.W.Frag) (rl rt : V → List V → Hp → VK → Prop) (to : TE) (t : TA) : TE := fun σ H Q => to σ H fun x H1 =>
  ((∃ p xs, x = .ref p ∧ SqL K H1 p xs) ∧ t σ H1 fun xs H2 => rl x xs H2 Q) ∨ ((∃ p xs, x = .ref p ∧ TupIn K H1 p xs ∧ plV xs = false) ∧ t σ H1 fun xs H2 => rt x xs H2 Q)
theorem pe_bmS {X : Cx} {o e : Expr} {es : List Expr} {to : TE} {t : TA} {name : Str} {apos cpos : Pos} {idl idt : String} {rl rt : V → List V → Hp → VK → Prop}
    (sl : PySem.Slot "list" name idl) (hl : typeOf (.builtin idl) = pure (.type "method_descriptor")) (ml : MtR X idl rl)
    (st : PySem.Slot "tuple" name idt) (ht : typeOf (.builtin idt) = pure (.type "method_descriptor")) (mt : MtR X idt rt)
    (ho : PE X o to) (ha : PA X (e :: es) t) (hbase : attributeBase o name X.env (eval o X.env) = eval o X.env := by rfl)
    (hfew : ((((backTo cpos (starEach (e :: es) X.env)).all fun x => !x.1) && (backToKw cpos (keywordEach [] X.env)).all fun x => x.1.isSome) && decide (((e :: es).length + ([] : List Keyword).length + if ([] : List Keyword).isEmpty = true then 0 else 1) < 30)) = true := by rfl)
    (hline : (apos.endLine == cpos.line) = true := by rfl) (hs : starEach (e :: es) X.env = (false, eval e X.env) :: starEach es X.env := by rfl)
    (hplain : ((backTo cpos (starEach es X.env)).any fun x => x.1) = false := by rfl) : PE X (.Call (.Attribute o name apos) (e :: es) [] cpos) (tBMS X.K rl rt to t) where
  run := fun pins s σ H Q I h => by
    have fin : ∀ {id : String} {r : V → List V → Hp → VK → Prop} (hm : MtR X id r) (x : V) (v : Value) (s1 : Shared) (H1 : Hp), Inv X pins σ H1 s1 → RelV x v → (t σ H1 fun xs H2 => r x xs H2 Q) →
        wpAny (model X.prog X.w) X.A (callWith cpos (.builtin id) [v] (backTo cpos (starEach (e :: es) X.env)) []) (EP X pins σ Q) X.xe s1 := fun {id r} hm x v s1 H1 I1 r1 q1 => by
      have hA := ha.run cpos pins s1 σ H1 (fun xs H2 => r x xs H2 Q) I1 q1
      rw [hs] at hA ⊢
      refine Calls.callWith_builtin ?_ (Calls.evalArgs_plain (thn hA fun us s2 ⟨vs, H2, I2, r2, q2⟩ => hm pins s2 σ H2 x vs v us Q I2 r1 r2 q2))
      show (false || _) = false
      rw [Bool.false_or]
      exact hplain
    refine wpAny_Call_method_late hbase hfew hline rfl (thn (ho.run pins s σ H _ I h) fun v s1 hx => ?_)
    obtain ⟨x, H1, I1, r1, q1⟩ := hx
    rcases q1 with ⟨⟨p, xs, rfl, hp⟩, q1⟩ | ⟨⟨p, xs, rfl, hp, hpl⟩, q1⟩
    · obtain ⟨h1, h2⟩ := tyV_is (T := "list") I1 r1 (.inl ⟨rfl, xs, hp⟩)
      exact ⟨"list", idl, F.plainAttrs_list, sl, hl, h1, h2, fin ml _ v s1 H1 I1 r1 q1⟩
    · rcases hp with ⟨us, hp⟩ | hp
      · rw [xT_ex hpl] at hp
        cases r1
        obtain ⟨ho1, _, its, _, hT⟩ := I1.hok _ _ hp
        exact ⟨"tuple", idt, F.plainAttrs_tuple, st, ht, hT.typeIs, fun a ea => by
          cases ea
          exact ⟨_, ho1, rfl⟩, fin mt (.ref p) _ s1 H1 I1 rfl q1⟩
      · obtain ⟨_, o, its, n, k1, k2, k3, k4, k5, k6⟩ := hp
        obtain ⟨h1, h2⟩ := tyV_is (T := "tuple") I1 r1 (.inr (.inl ⟨rfl, o, k1, k2, k3⟩))
        exact ⟨"tuple", idt, F.plainAttrs_tuple, st, ht, h1, h2, fin mt _ v s1 H1 I1 r1 q1⟩
def rCntX (K : PySem.W.Frag) : V → List V → Hp → VK → Prop := fun x xs H Q => ∃ p ns k, x = V.ref p ∧ xs = [V.int k] ∧ SqT K H p (List.map V.int ns) ∧ Q (V.int ↑(List.count k ns)) H
theorem mt_tcount {X : Cx} : MtR X "tuple.count" (rCntX X.K) := by
  rintro pins s σ H x xs v us Q I rx rxs ⟨p, ns, k, rfl, rfl, hs, q⟩
  cases rx
  obtain ⟨u, rfl, ru⟩ := rxs.one
  obtain ⟨t, rfl⟩ := ru
  obtain ⟨its, rv, ⟨⟨cls, dd, data, sl⟩, ho, hc, n, hd⟩, hz⟩ := I.tuple hs
  simp only at hc hd
  subst hc hd
  have hi := ints_of_vals rv
  refine call_meets F.slot_tuple_count ⟨_, ho, rfl⟩ F.entry_tuple_count (F.args_tuple_count_2 _ _) (SeqAt.tuple_countAt p its.toArray n dd sl (.int k t) (eqk k)) ⟨ho, fun y hy => (eqk_gives hi y (by simpa using hy)).at X.A.in1 s, ?_⟩
  exact ⟨.int (List.count k ns : Nat), H, I.tok (s.toks + 1), ⟨s.toks, by rw [eqk_count hi]⟩, q⟩
def eMw (g : List D → List D → Option D) (m : Xp) (ms : Xa) : Xp := fun env => match m env with
  | none => none
  | some (r, e1) => match vw e1 r with
    | some (.lst _) => match ms e1 with
      | none => none
      | some (rs, e2) => match vw e2 r, vwL e2 rs with
        | some (.lst xs), some ds => match g xs ds with
          | some z => some (.d z, e2)
          | none => none
        | _, _ => none
    | some (.tup xs) => if plD xs = true then none else match ms e1 with
      | none => none
      | some (rs, e2) => match vwL e2 rs with
        | some ds => match g xs ds with
          | some z => some (.d z, e2)
          | none => none
        | _ => none
    | _ => none
@[simp] theorem eMw_s (g : List D → List D → Option D) (m : Xp) (ms : Xa) (env : MEnv) : eMw g m ms env = match m env with
  | none => none
  | some (r, e1) => match vw e1 r with
    | some (.lst _) => match ms e1 with
      | none => none
      | some (rs, e2) => match vw e2 r, vwL e2 rs with
        | some (.lst xs), some ds => match g xs ds with
          | some z => some (.d z, e2)
          | none => none
        | _, _ => none
    | some (.tup xs) => if plD xs = true then none else match ms e1 with
      | none => none
      | some (rs, e2) => match vwL e2 rs with
        | some ds => match g xs ds with
          | some z => some (.d z, e2)
          | none => none
        | _ => none
    | _ => none := (rfl)
def MvT (X : Cx) (cl : ClM) (r : V → List V → Hp → VK → Prop) (g : List D → List D → Option D) : Prop := ∀ (I H : Hp) (p : Addr) (vs ws : List V) (xs ds : List D) (z : D) (Q : VK), Same I H → SqT X.K H p vs → RpA X.K cl I vs xs → VwA X.K cl I H ws ds → g xs ds = some z →
  (∀ u I' H', Al I H I' H' → Rp X.K cl I' u z → Q u H') → r (.ref p) ws H Q
theorem me_mw {X : Cx} {cl : ClM} {e o : Expr} {es : List Expr} {m : Xp} {ms : Xa} {g : List D → List D → Option D} {rl rt : V → List V → Hp → VK → Prop} (hr : MvL X cl rl g) (hr2 : MvT X cl rt g) (ho : ME X cl o m) (hm : MA X cl es ms)
    (hp : ∀ to t, PE X o to → PA X es t → PE X e (tBMS X.K rl rt to t)) : ME X cl e (eMw g m ms) := by
  obtain ⟨to, po, ko⟩ := ho
  obtain ⟨t, p, k⟩ := hm
  refine ⟨_, hp to t po p, fun σ H I env r' env' Q gd hme kk => ?_⟩
  unfold eMw at hme
  cases q : m env with
  | none => simp [q] at hme
  | some pr =>
    obtain ⟨r1, e1⟩ := pr
    simp only [q] at hme
    split at hme
    · rename_i xs0 q2
      cases q3 : ms e1 with
      | none => simp [q3] at hme
      | some pr3 =>
        obtain ⟨rs, e2⟩ := pr3
        simp only [q3] at hme
        split at hme
        · rename_i xs ds q4 q5
          cases q6 : g xs ds with
          | none => simp [q6] at hme
          | some z =>
            simp only [q6, Option.some.injEq, Prod.mk.injEq] at hme
            obtain ⟨rfl, rfl⟩ := hme
            refine ko σ H I env r1 e1 _ gd q fun v I1 H1 g1 t1 rv => ?_
            obtain ⟨a, ws, rfl, hs, _⟩ := (vw_ok g1 rv q2).lst g1.ex
            refine .inl ⟨⟨_, _, rfl, SqL.of hs⟩, ?_⟩
            refine k σ H1 I1 e1 rs e2 _ g1 q3 fun us I2 H2 g2 t2 r2 => ?_
            exact hr I2 H2 _ us xs ds z Q g2.ex (vw_ok g2 (rv.mono t2.ext) q4) (vwL_ok g2 r2 q5) q6 fun u I3 H3 al ru => kk u I3 H3 (g2.al al) ((t1.trans t2).trans al.tr) ru
        · cases hme
    · rename_i xs q2
      by_cases hpl : plD xs = true
      · rw [if_pos hpl] at hme
        cases hme
      rw [if_neg hpl] at hme
      cases q3 : ms e1 with
      | none => simp [q3] at hme
      | some pr3 =>
        obtain ⟨rs, e2⟩ := pr3
        simp only [q3] at hme
        split at hme
        · rename_i ds q5
          cases q6 : g xs ds with
          | none => simp [q6] at hme
          | some z =>
            simp only [q6, Option.some.injEq, Prod.mk.injEq] at hme
            obtain ⟨rfl, rfl⟩ := hme
            refine ko σ H I env r1 e1 _ gd q fun v I1 H1 g1 t1 rv => ?_
            have hv := vw_ok g1 rv q2
            rcases hv with hh | hh
            · cases hh with
              | @tup a vs _ s2 rr =>
                refine .inr ⟨⟨_, _, rfl, s2.mono g1.ex, plD_V rr hpl⟩, ?_⟩
                refine k σ H1 I1 e1 rs e2 _ g1 q3 fun us I2 H2 g2 t2 r2 => ?_
                exact hr2 I2 H2 a vs us xs ds z Q g2.ex ((s2.mono t2.ext).mono g2.ex).sq (rr.mono t2.ext) (vwL_ok g2 r2 q5) q6 fun u I3 H3 al ru => kk u I3 H3 (g2.al al) ((t1.trans t2).trans al.tr) ru
            · obtain ⟨p, ho, o, _, _, _, rO, ed⟩ := hh
              cases rO <;> cases ed
        · cases hme
    · cases hme
theorem mvt_count {X : Cx} {cl : ClM} : MvT X cl (rCntX X.K) gCount := by
  intro I H p vs ws xs ds z Q ex hs r hws hg k
  unfold gCount at hg
  split at hg
  · rename_i d ns q
    cases Option.some.inj hg
    obtain ⟨y, rfl, hy⟩ := hws.one
    cases hy.int
    rw [intsD_eq q] at r
    have e := r.ints
    subst e
    exact ⟨p, ns, _, rfl, rfl, hs, k _ I H (Al.refl ex) (.int _)⟩
  · cases hg
theorem me_count {X : Cx} {cl : ClM} {e o : Expr} {es : List Expr} {m : Xp} {ms : Xa} (ho : ME X cl o m) (hm : MA X cl es ms) (hp : ∀ to t, PE X o to → PA X es t → PE X e (tBMS X.K (rCntI X.K) (rCntX X.K) to t)) : ME X cl e (eMw gCount m ms) := me_mw mv_count mvt_count ho hm hp
end MP
set_option Elab.async false
set_option linter.all false
set_option maxRecDepth 100000
set_option maxHeartbeats 4000000
namespace MP
open PySem PySem.Spec PyProof.Rows L2
/-! ### range(i, j, -1) -/
def rgDn (lo : Int) (n : Nat) : List D := (List.range n).map fun (i : Nat) => D.int (lo - (i : Nat))
theorem rgDn_get {lo : Int} {n i : Nat} : (rgDn lo n)[i]? = if i < n then some (D.int (lo - (i : Nat))) else none := by
  unfold rgDn
  rw [List.getElem?_map]
  by_cases h : i < n
  · rw [if_pos h, List.getElem?_range h]
    rfl
  · rw [if_neg h, List.getElem?_eq_none_iff.mpr (by rw [List.length_range]; omega)]
    rfl
theorem itc_ok {cl : ClM} {K : PySem.W.Frag} {I : Hp} {lo : Int} {n : Nat} : ItOk K cl I (Itc lo (-1) n) (rgDn lo n) := by
  intro i I1 H1 s1 s2
  rw [rgDn_get]
  by_cases h : i < n
  · rw [if_pos h]
    refine ⟨fun z => (nomatch z), fun d hd => ⟨h, fun v H2 ⟨e1, e2⟩ => ?_⟩⟩
    subst e1
    subst e2
    cases hd
    rw [show lo + (i : Int) * -1 = lo - (i : Nat) by omega]
    exact ⟨I1, Al.refl s2, .int _⟩
  · rw [if_neg h]
    exact ⟨fun _ => Nat.le_of_not_lt h, fun d hd => nomatch hd⟩
theorem rgSz (i j : Int) : PySem.Builtin.Range.rangeSize i j (-1) = (i - j).toNat := by
  unfold PySem.Builtin.Range.rangeSize
  rw [if_neg (by decide)]
  by_cases h : i > j
  · rw [if_pos h, show (-(-1) : Int) = 1 by decide, Int.ediv_one]
    omega
  · rw [if_neg h]
    omega
theorem fits {x : Int} (h : -(2 ^ 63) ≤ x ∧ x < 2 ^ 63) : PySem.Builtin.Range.rangeFitsLong x = true := by
  unfold PySem.Builtin.Range.rangeFitsLong
  simp
  omega
theorem rgC_dn {i j : Int} (hi : -(2 ^ 62) ≤ i ∧ i < 2 ^ 62) (hj : -(2 ^ 62) ≤ j ∧ j < 2 ^ 62) : RgC i j (-1) (i - j).toNat := by
  refine ⟨by decide, by decide, ?_, rgSz i j⟩
  unfold PySem.Builtin.Range.small
  rw [rgSz, fits (x := i) (by omega), fits (x := j) (by omega), fits (x := -1) (by omega), fits (x := ((i - j).toNat : Int)) (by omega), if_neg (by decide), fits (x := j + (-1 + 1)) (by omega)]
  simp
def iR3 (ms : Xa) : Xi := fun env => match ms env with
  | some ([r, r', r2], e1) => match vw e1 r, vw e1 r', vw e1 r2 with
    | some (.int i), some (.int j), some (.int c) => if okR i && okR j && decide (c = -1) then some (rgDn i (i - j).toNat, e1) else none
    | _, _, _ => none
  | _ => none
@[simp] theorem iR3_s (ms : Xa) (env : MEnv) : iR3 ms env = match ms env with
  | some ([r, r', r2], e1) => match vw e1 r, vw e1 r', vw e1 r2 with
    | some (.int i), some (.int j), some (.int c) => if okR i && okR j && decide (c = -1) then some (rgDn i (i - j).toNat, e1) else none
    | _, _, _ => none
  | _ => none := (rfl)
theorem mi_r3 {X : Cx} {cl : ClM} {e a b c tg : Expr} {ms : Xa} (h : MA X cl [a, b, c] ms) (hp : ∀ ta, PA X [a, b, c] ta → PI X tg e (iRng3 ta)) : MI X cl tg e (iR3 ms) := by
  obtain ⟨t, p, k⟩ := h
  refine ⟨_, hp t p, fun σ H I env ds env' Rr g hm kk => ?_⟩
  unfold iR3 at hm
  split at hm
  · rename_i r r' r2 e1 q
    split at hm
    · rename_i i j cc q2 q3 q4
      by_cases ok : (okR i && okR j && decide (cc = -1)) = true
      · rw [if_pos ok] at hm
        simp only [Option.some.injEq, Prod.mk.injEq] at hm
        obtain ⟨rfl, rfl⟩ := hm
        rw [Bool.and_eq_true, Bool.and_eq_true] at ok
        have ec := of_decide_eq_true ok.2
        subst ec
        refine k σ H I env _ e1 _ g q fun vs I1 H1 g1 t1 r1 => ?_
        cases r1 with
        | cons rv rn =>
          cases rn with
          | cons rv2 rn2 =>
            cases rn2 with
            | cons rv3 rn3 =>
              cases rn3
              have ev := (vw_ok g1 rv q2).int
              have ev2 := (vw_ok g1 rv2 q3).int
              have ev3 := (vw_ok g1 rv3 q4).int
              subst ev
              subst ev2
              subst ev3
              exact ⟨i, j, -1, _, rfl, rgC_dn (okR_ok ok.1.1) (okR_ok ok.1.2), kk _ I1 H1 g1 t1 itc_ok⟩
      · rw [if_neg ok] at hm
        cases hm
    · cases hm
  · cases hm
end MP
set_option Elab.async false
set_option linter.all false
set_option maxRecDepth 100000
set_option maxHeartbeats 4000000
namespace MP
open PySem PySem.Spec PyProof.Rows L2
/-! ### tuples written at the top: what they are -/
theorem rp_kt {K : PySem.W.Frag} {cl : ClM} {I : Hp} {a : Addr} {us : Array Value} {n : Nat} {sl : Array (Option Value)} {vs : List V} {ds : List D} (l : List.lookup a K = some ⟨.type "tuple", none, .seq us n, sl⟩) (hz : Nat.ble us.size 1000 = true) (v : Vals vs us.toList) (r : RpA K cl I vs ds) (hp : plD ds = false) : Rp K cl I (.ref a) (.tup ds) :=
  .tup (.inr ⟨plD_V r (by rw [hp]; decide), _, us, n, l, rfl, rfl, rfl, Nat.le_trans (Nat.le_of_ble_eq_true hz) (by rw [sizeLine_eq]; decide), v⟩) r
theorem rp_ktp {K : PySem.W.Frag} {cl : ClM} {I : Hp} {a : Addr} {us : Array Value} {n : Nat} {sl : Array (Option Value)} {vs : List V} {ds : List D} (l : List.lookup a K = some ⟨.type "tuple", none, .seq us n, sl⟩) (hz : Nat.ble us.size 1000 = true) (v : Vals vs us.toList) (r : RpA K cl I vs ds) : Rp K cl I (.ref a) (.ktp ds) :=
  .ktp ⟨_, us, n, l, rfl, rfl, rfl, Nat.le_trans (Nat.le_of_ble_eq_true hz) (by rw [sizeLine_eq]; decide), v⟩ r
end MP
set_option Elab.async false
set_option linter.all false
set_option maxRecDepth 100000
set_option maxHeartbeats 4000000
namespace MP
open PySem PySem.Spec PyProof.Rows L2
/-! ### t.index(x) -/
def rIndexX (K : PySem.W.Frag) : V → List V → Hp → VK → Prop := fun x xs H Q => ∃ a y d ds vs, x = V.ref a ∧ xs = [y] ∧ SqT K H a vs ∧ DpAll K H vs ds ∧ Dp K H y d ∧ SeqAt.shaped (.tuple ds) = true ∧ SeqAt.shaped d = true ∧
  true ∈ ds.map (fun z => z.eqv d) ∧ Q (V.int ↑((ds.map fun z => z.eqv d).idxOf true)) H
theorem mt_tindex {X : Cx} (hu : X.A.units + 65 < cLine) : MtR X "tuple.index" (rIndexX X.K) := by
  rintro pins s σ H x xs v us Q I rx rxs ⟨a, y, d, ds, vs, rfl, rfl, hs, hds, hy, s1, s2, hin, q⟩
  cases rx
  obtain ⟨u, rfl, ru⟩ := rxs.one
  obtain ⟨bs, r1⟩ := Dp.reads I d y u hy ru
  obtain ⟨its, rv, ht, hz⟩ := I.tuple hs
  obtain ⟨as, h4⟩ := Dp.readsAll I ds vs its hds rv
  have hxs : PyData.canLayAll0 ds = true := SeqAt.canLay_of_shaped s1
  have hroom := room_in_shaped (A := X.A) (xs := ds) s2 hu
  have hmap := SeqAt.readsAll_map ds its as hxs h4
  have hln := SeqAt.ReadsAll.length ds its as h4
  refine SeqAt.call_tuple_index (ks := ds.map fun z => z.eqv d) (k := true) ht ⟨by rw [List.length_map, hln], fun j h1 h2 => ?_⟩ hin ⟨.int ↑((ds.map fun z => z.eqv d).idxOf true), H, I.tok (s.toks + 1), ⟨s.toks, rfl⟩, q⟩
  have := SeqAt.items_eqAt (A := X.A) (vs := its.toArray) h4 r1 hxs (SeqAt.canLay_of_shaped s2) hroom its[j] (by simp)
  have e : SeqAt.readOf s.heap its[j] = ds[j]'(by rw [← hln]; exact h1) := by
    have := congrArg (fun l => l[j]?) hmap
    simpa [h1, hln ▸ h1] using this
  rw [e] at this
  simpa using this
theorem pyDs_eqv (d : D) (hd : layD d = true) : ∀ {xs : List D}, layDs xs = true → (pyDs xs).map (fun z => z.eqv (pyD d)) = xs.map fun z => eqD z d
  | [], _ => by simp [pyDs]
  | x :: xs, h => by
    simp only [layDs, Bool.and_eq_true] at h
    simp only [pyDs, List.map_cons, pyDs_eqv d hd h.2, eq_py x d h.1 hd]
theorem idx_true (f : D → Bool) : ∀ {xs : List D} {j : Nat}, xs.findIdx? f = some j → true ∈ xs.map f ∧ (xs.map f).idxOf true = j
  | [], j, h => by simp at h
  | x :: xs, j, h => by
    rw [List.findIdx?_cons] at h
    by_cases c : f x = true
    · rw [if_pos c] at h
      cases h
      simp [c]
    · rw [if_neg c] at h
      have cf : f x = false := by simpa using c
      obtain ⟨i, h1, rfl⟩ := Option.map_eq_some_iff.1 h
      obtain ⟨a, b⟩ := idx_true f h1
      exact ⟨List.mem_cons_of_mem _ a, by rw [List.map_cons, cf, List.idxOf_cons, b]; rfl⟩
theorem mvt_index {X : Cx} {cl : ClM} : MvT X cl (rIndexX X.K) gIndex := by
  intro I H p vs ws xs ds z Q ex hs r hws hg k
  unfold gIndex at hg
  split at hg
  · rename_i d
    by_cases hc : (shD (.lst xs) && shD d) = true
    · rw [if_pos hc] at hg
      rw [Bool.and_eq_true] at hc
      split at hg
      · rename_i j q
        cases Option.some.inj hg
        obtain ⟨y, rfl, hy⟩ := hws.one
        have hl : layDs xs = true := by
          have := lay_sh hc.1
          simpa only [layD] using this
        have s1 : shD (.tup xs) = true := hc.1
        obtain ⟨m1, m2⟩ := idx_true (fun z => eqD z d) q
        have e := pyDs_eqv d (lay_sh hc.2) hl
        refine ⟨p, y, pyD d, pyDs xs, vs, rfl, rfl, hs, RpA.dp ex r hl, hy.dp ex (lay_sh hc.2), ?_, sh_py hc.2, by rw [e]; exact m1, ?_⟩
        · have := sh_py s1
          simpa only [pyD] using this
        · rw [e, m2]
          exact k _ I H (Al.refl ex) (.int _)
      · cases hg
    · rw [if_neg hc] at hg
      cases hg
  · cases hg
theorem me_index {X : Cx} {cl : ClM} {e o : Expr} {es : List Expr} {m : Xp} {ms : Xa} (hu : X.A.units + 65 < cLine) (ho : ME X cl o m) (hm : MA X cl es ms) (hp : ∀ to t, PE X o to → PA X es t → PE X e (tBMS X.K (rIndexD X.K) (rIndexX X.K) to t)) : ME X cl e (eMw gIndex m ms) := me_mw (mv_index hu) mvt_index ho hm hp
end MP
set_option linter.all false
set_option maxRecDepth 100000
namespace MP
open PySem L2
/-! the mirrors' words unfolded by simp -/
section
variable (env : MEnv) (i j k n : Nat) (m m' m'' : Xp) (ms : Xa) (mf : Xf) (t t' : Xt) (s s' : Xs)
@[simp] theorem eVar_s : eVar i env = match env[i]? with | some (.val d) => some (.d d, env) | some (.own _) => some (.sl i, env) | _ => none := (rfl)
@[simp] theorem eK_s (d : D) : eK d env = some (.d d, env) := (rfl)
@[simp] theorem vw_d (d : D) : vw env (.d d) = some d := (rfl)
@[simp] theorem vw_sl : vw env (.sl i) = match env[i]? with | some (.val d) => some d | some (.own o) => some (so2d o) | _ => none := (rfl)
@[simp] theorem esc_d (d : D) : esc env (.d d) = some (d, env) := (rfl)
@[simp] theorem esc_sl : esc env (.sl i) = match env[i]? with | some (.val d) => some (d, env) | some (.own o) => some (so2d o, env.set i (.val (so2d o))) | _ => none := (rfl)
@[simp] theorem so2d_lst (xs : List D) : so2d (.lst xs) = .lst xs := (rfl)
@[simp] theorem so2d_dct (b : Bool) (xs : List (D × D)) : so2d (.dct b xs) = .dct b xs := (rfl)
@[simp] theorem so2d_ins (c : Nat) (xs : List D) : so2d (.ins c xs) = .obj c xs := (rfl)
@[simp] theorem eBin_s (g : D → D → Option D) : eBin g m m' env = match m env with
  | none => none
  | some (r1, e1) => match m' e1 with
    | none => none
    | some (r2, e2) => match vw e2 r1, vw e2 r2 with
      | some x, some y => match g x y with
        | some z => some (.d z, e2)
        | none => none
      | _, _ => none := (rfl)
@[simp] theorem fBin_s (g : D → D → Option SO) : fBin g m m' env = match m env with
  | none => none
  | some (r1, e1) => match m' e1 with
    | none => none
    | some (r2, e2) => match vw e2 r1, vw e2 r2 with
      | some x, some y => match g x y with
        | some z => some (z, e2)
        | none => none
      | _, _ => none := (rfl)
@[simp] theorem eUn_s (g : D → Option D) : eUn g m env = match m env with
  | none => none
  | some (r, e1) => match vw e1 r with
    | none => none
    | some d => match g d with
      | some z => some (.d z, e1)
      | none => none := (rfl)
@[simp] theorem eChain_s (g g' : D → D → Option D) : eChain g g' m m' m'' env = match m env with
  | none => none
  | some (r1, e1) => match m' e1 with
    | none => none
    | some (r2, e2) => match vw e2 r1, vw e2 r2 with
      | some x, some y => match g x y with
        | some (.bl true) => match m'' e2 with
          | none => none
          | some (r3, e3) => match vw e3 r2, vw e3 r3 with
            | some y', some z => match g' y' z with
              | some w => some (.d w, e3)
              | none => none
            | _, _ => none
        | some (.bl false) => some (.d (.bl false), e2)
        | _ => none
      | _, _ => none := (rfl)
@[simp] theorem tOfB_s : tOfB m env = match m env with | some (.d (.bl b), e) => some (b, e) | _ => none := (rfl)
@[simp] theorem tTru_s : tTru m env = match m env with
  | none => none
  | some (r, e) => match vw e r with
    | none => none
    | some d => match truD d with
      | none => none
      | some b => some (b, e) := (rfl)
@[simp] theorem tAn_s : tAn t t' env = match t env with | some (true, e1) => t' e1 | some (false, e1) => some (false, e1) | none => none := (rfl)
@[simp] theorem tO_s : tO t t' env = match t env with | some (true, e1) => some (true, e1) | some (false, e1) => t' e1 | none => none := (rfl)
@[simp] theorem tNo_s : tNo t env = match t env with | some (b, e1) => some (!b, e1) | none => none := (rfl)
@[simp] theorem tYs_s : tYs env = some (true, env) := (rfl)
@[simp] theorem eOfT_s : eOfT t env = match t env with | some (b, e) => some (.d (.bl b), e) | none => none := (rfl)
@[simp] theorem eAndV_s : eAndV m m' env = match tOfB m env with | some (true, e1) => m' e1 | some (false, e1) => some (.d (.bl false), e1) | none => none := (rfl)
@[simp] theorem eOrV_s : eOrV m m' env = match tOfB m env with | some (true, e1) => some (.d (.bl true), e1) | some (false, e1) => m' e1 | none => none := (rfl)
@[simp] theorem eIf_s : eIf t m m' env = match t env with | some (true, e1) => m e1 | some (false, e1) => m' e1 | none => none := (rfl)
@[simp] theorem aL_nil : aL [] env = some ([], env) := (rfl)
@[simp] theorem aL_cons (l : List Xp) : aL (m :: l) env = match m env with
  | none => none
  | some (r, e1) => match aL l e1 with
    | none => none
    | some (rs, e2) => some (r :: rs, e2) := (rfl)
@[simp] theorem vwL_nil : vwL env [] = some [] := (rfl)
@[simp] theorem vwL_cons (r : Rv) (rs : List Rv) : vwL env (r :: rs) = match vw env r, vwL env rs with | some d, some ds => some (d :: ds) | _, _ => none := (rfl)
@[simp] theorem escL_nil : escL env [] = some ([], env) := (rfl)
@[simp] theorem escL_cons (r : Rv) (rs : List Rv) : escL env (r :: rs) = match esc env r with
  | none => none
  | some (d, e1) => match escL e1 rs with
    | none => none
    | some (ds, e2) => some (d :: ds, e2) := (rfl)
@[simp] theorem eTup_s : eTup ms env = match ms env with
  | none => none
  | some (rs, e1) => match escL e1 rs with
    | none => none
    | some (ds, e2) => some (.d (.tup ds), e2) := (rfl)
@[simp] theorem fLst_s : fLst ms env = match ms env with
  | none => none
  | some (rs, e1) => match escL e1 rs with
    | none => none
    | some (ds, e2) => some (.lst ds, e2) := (rfl)
@[simp] theorem eFrz_s : eFrz mf env = match mf env with | none => none | some (o, e1) => some (.d (so2d o), e1) := (rfl)
@[simp] theorem eCB_s (g : List D → Option D) : eCB g ms env = match ms env with
  | none => none
  | some (rs, e1) => match vwL e1 rs with
    | none => none
    | some ds => match g ds with
      | some z => some (.d z, e1)
      | none => none := (rfl)
@[simp] theorem fCB_s (g : List D → Option SO) : fCB g ms env = match ms env with
  | none => none
  | some (rs, e1) => match vwL e1 rs with
    | none => none
    | some ds => match g ds with
      | some z => some (z, e1)
      | none => none := (rfl)
@[simp] theorem oNo_s : oNo env = some (none, env) := (rfl)
@[simp] theorem oSm_s : oSm m env = match m env with
  | none => none
  | some (r, e1) => match vw e1 r with
    | some (.int i) => some (some i, e1)
    | _ => none := (rfl)
@[simp] theorem eSl_s (ml mh : Xo) : eSl m ml mh env = match m env with
  | none => none
  | some (r, e1) => match ml e1 with
    | none => none
    | some (lo, e2) => match mh e2 with
      | none => none
      | some (hi, e3) => match vw e3 r with
        | none => none
        | some d => match gSl d lo hi with
          | some z => some (.d z, e3)
          | none => none := (rfl)
@[simp] theorem fSl_s (ml mh : Xo) : fSl m ml mh env = match m env with
  | none => none
  | some (r, e1) => match ml e1 with
    | none => none
    | some (lo, e2) => match mh e2 with
      | none => none
      | some (hi, e3) => match vw e3 r with
        | some (.lst xs) => some (.lst (cutD xs lo hi), e3)
        | _ => none := (rfl)
@[simp] theorem gSl_l (xs : List D) (lo hi : Option Int) : gSl (.lst xs) lo hi = some (.lst (cutD xs lo hi)) := (rfl)
@[simp] theorem gSl_t (xs : List D) (lo hi : Option Int) : gSl (.tup xs) lo hi = some (.tup (cutD xs lo hi)) := (rfl)
@[simp] theorem eCall_s (f : Fn) : eCall f ms env = match ms env with
  | none => none
  | some (rs, e1) => match escL e1 rs with
    | none => none
    | some (ds, e2) => match f (ds.map .val) with
      | some (.d d, _) => some (.d d, e2)
      | some (.o o, _) => some (.d (so2d o), e2)
      | none => none := (rfl)
@[simp] theorem eCall0_s (f : Fn) : eCall0 f env = eCall f (aL []) env := (rfl)
@[simp] theorem fCall0_s (f : Fn) : fCall0 f env = fCall f (aL []) env := (rfl)
@[simp] theorem fCall_s (f : Fn) : fCall f ms env = match ms env with
  | none => none
  | some (rs, e1) => match escL e1 rs with
    | none => none
    | some (ds, e2) => match f (ds.map .val) with
      | some (.o o, _) => some (o, e2)
      | _ => none := (rfl)
@[simp] theorem cR_s (f : Fn) : cR f ms env = match ms env with
  | some (.sl i :: rs, e1) => match escL e1 rs with
    | none => none
    | some (ds, e2) => match e2[i]? with
      | some (.own o) => match f (.own o :: ds.map .val) with
        | some (rv, s :: _) => some (rv, e2.set i s)
        | _ => none
      | _ => none
  | _ => none := (rfl)
@[simp] theorem eCallR_s (f : Fn) : eCallR f ms env = match cR f ms env with
  | some (.d d, e) => some (.d d, e)
  | some (.o o, e) => some (.d (so2d o), e)
  | none => none := (rfl)
@[simp] theorem fCallR_s (f : Fn) : fCallR f ms env = match cR f ms env with
  | some (.o o, e) => some (o, e)
  | _ => none := (rfl)
@[simp] theorem eCallB_s (f : Fn) : eCallB f ms env = match ms env with
  | none => none
  | some (rs, e1) => match vwL e1 rs with
    | none => none
    | some ds => match f (ds.map .val) with
      | some (.d d, _) => if flatD d then some (.d d, e1) else none
      | _ => none := (rfl)
@[simp] theorem fMove_s : fMove i env = match env[i]? with | some (.own o) => some (o, env.set i .none) | _ => none := (rfl)
@[simp] theorem sSeq_s : sSeq s s' env = match s env with | some (.nx, e1) => s' e1 | r => r := (rfl)
@[simp] theorem sNext_s : sNext env = some (.nx, env) := (rfl)
@[simp] theorem sNo_s : sNo env = none := (rfl)
@[simp] theorem sBrk_s : sBrk env = some (.bk, env) := (rfl)
@[simp] theorem sCnt_s : sCnt env = some (.ct, env) := (rfl)
@[simp] theorem sIf_s : sIf t s s' env = match t env with | some (true, e1) => s e1 | some (false, e1) => s' e1 | none => none := (rfl)
@[simp] theorem sExp_s : sExp m env = match m env with | some (_, e1) => some (.nx, e1) | none => none := (rfl)
@[simp] theorem sRet_s : sRet m env = match m env with
  | none => none
  | some (r, e1) => match esc e1 r with
    | none => none
    | some (d, e2) => some (.ret (.d d), e2) := (rfl)
@[simp] theorem sRetN_s : sRetN env = some (.ret (.d .non), env) := (rfl)
@[simp] theorem sRetF_s : sRetF mf env = match mf env with | none => none | some (o, e1) => some (.ret (.o o), e1) := (rfl)
@[simp] theorem gNm_s (d : D) : gNm i d env = if i < env.length then some (env.set i (.val d)) else none := (rfl)
@[simp] theorem gsNil_s : gsNil [] env = some env := (rfl)
@[simp] theorem gsCons_s (g : Xg) (gs : List D → MEnv → Option MEnv) (d : D) (r : List D) : gsCons g gs (d :: r) env = match g d env with | some e1 => gs r e1 | none => none := (rfl)
@[simp] theorem gTp_s (gs : List D → MEnv → Option MEnv) (ds : List D) : gTp n gs (.tup ds) env = if ds.length = n then gs ds env else none := (rfl)
@[simp] theorem sAsg_s (g : Xg) : sAsg m g env = match m env with
  | none => none
  | some (r, e1) => match esc e1 r with
    | none => none
    | some (d, e2) => match g d e2 with
      | none => none
      | some e3 => some (.nx, e3) := (rfl)
@[simp] theorem sOwn_s : sOwn mf i env = match mf env with
  | none => none
  | some (o, e1) => if i < e1.length then some (.nx, e1.set i (.own o)) else none := (rfl)
@[simp] theorem sPar_s : sPar i j ms env = match ms env with
  | none => none
  | some (rs, e1) => match escL e1 rs with
    | some ([d, d'], e2) => if i < e2.length ∧ j < e2.length then some (.nx, (e2.set i (.val d)).set j (.val d')) else none
    | _ => none := (rfl)
@[simp] theorem ownL_s : ownL env i = match env[i]? with | some (.own (.lst xs)) => some xs | _ => none := (rfl)
@[simp] theorem sSetIx_s : sSetIx i m m' env = match m env with
  | none => none
  | some (r, e1) => match esc e1 r with
    | none => none
    | some (d, e2) => match ownL e2 i with
      | none => none
      | some _ => match m' e2 with
        | none => none
        | some (ri, e3) => match vw e3 ri with
          | some (.int k) => match ownL e3 i with
            | none => none
            | some xs => match ixN xs.length k with
              | none => none
              | some j => some (.nx, e3.set i (.own (.lst (xs.set j d))))
          | _ => none := (rfl)
@[simp] theorem eMt_s (g : gMt) : eMt g i ms env = match ownL env i with
  | none => none
  | some _ => match ms env with
    | none => none
    | some (rs, e1) => match escL e1 rs with
      | none => none
      | some (args, e2) => match ownL e2 i with
        | none => none
        | some xs => match g xs args with
          | none => none
          | some (res, xs') => some (.d res, e2.set i (.own (.lst xs'))) := (rfl)
@[simp] theorem sFor_s (mi : Xi) (g : Xg) : sFor mi g s env = match mi env with
  | none => none
  | some (ds, e1) => sLoop g s ds e1 := (rfl)
@[simp] theorem fComp_s (vs : List Nat) (mi : Xi) (g : Xg) : fComp vs mi g t m env = match mi env with
  | none => none
  | some (ds, e1) => if okW e1 vs then match cLoop vs g t m ds [] (wipeE e1 vs) with
    | none => none
    | some (xs, e2) => some (.lst xs, restE e1 e2 vs)
    else none := (rfl)
@[simp] theorem iSq_s : iSq m env = match m env with
  | none => none
  | some (r, e1) => match esc e1 r with
    | some (.lst ds, e2) => some (ds, e2)
    | some (.tup ds, e2) => some (ds, e2)
    | _ => none := (rfl)
@[simp] theorem iEn_s : iEn ms env = match ms env with
  | some ([r], e1) => match esc e1 r with
    | some (.tup ds, e2) => some (enumD 0 ds, e2)
    | _ => none
  | _ => none := (rfl)
@[simp] theorem iZp_s : iZp ms env = match ms env with
  | some ([r, r'], e1) => match escL e1 [r, r'] with
    | some ([.lst xs, .lst ys], e2) => some (zipD xs ys, e2)
    | some ([.tup xs, .tup ys], e2) => some (zipD xs ys, e2)
    | _ => none
  | _ => none := (rfl)
@[simp] theorem iR1_s : iR1 ms env = match ms env with
  | some ([r], e1) => match vw e1 r with
    | some (.int j) => if okR j then some (rgD 0 j.toNat, e1) else none
    | _ => none
  | _ => none := (rfl)
@[simp] theorem iR2_s : iR2 ms env = match ms env with
  | some ([r, r'], e1) => match vw e1 r, vw e1 r' with
    | some (.int i), some (.int j) => if okR i && okR j then some (rgD i (j - i).toNat, e1) else none
    | _, _ => none
  | _ => none := (rfl)
@[simp] theorem wipeE_nil : wipeE env [] = env := (rfl)
@[simp] theorem wipeE_cons (v : Nat) (vs : List Nat) : wipeE env (v :: vs) = (wipeE env vs).set v .none := (rfl)
@[simp] theorem restE_nil (e0 : MEnv) : restE e0 env [] = env := (rfl)
@[simp] theorem restE_cons (e0 : MEnv) (v : Nat) (vs : List Nat) : restE e0 env (v :: vs) = (restE e0 env vs).set v (e0.getD v .none) := (rfl)
@[simp] theorem okW_nil : okW env [] = true := (rfl)
@[simp] theorem okW_cons (v : Nat) (vs : List Nat) : okW env (v :: vs) = ((match env[v]? with | some (.own _) => false | _ => true) && okW env vs) := (rfl)
end
/-! operations on known shapes -/
section
variable (a b : Int) (x y : Bool) (xs ys : List D)
@[simp] theorem gAdd_i : gAdd (.int a) (.int b) = some (.int (a + b)) := (rfl)
@[simp] theorem gAdd_l : gAdd (.lst xs) (.lst ys) = if xs.length + ys.length ≤ 16777216 then some (.lst (xs ++ ys)) else none := (rfl)
@[simp] theorem gAdd_t : gAdd (.tup xs) (.tup ys) = if xs.length + ys.length ≤ 16777216 then some (.tup (xs ++ ys)) else none := (rfl)
@[simp] theorem gSub_i : gSub (.int a) (.int b) = some (.int (a - b)) := (rfl)
@[simp] theorem gMul_i : gMul (.int a) (.int b) = if mulOk a b then some (.int (a * b)) else none := (rfl)
@[simp] theorem gMul_t : gMul (.tup xs) (.int b) = if okK b && (decide (b < 2) || xs.isEmpty || (decide (b ≤ 1000) && decide (xs.length ≤ 1000))) then some (.tup (List.replicate b.toNat xs).flatten) else none := (rfl)
@[simp] theorem gMul_l : gMul (.lst xs) (.int b) = if okK b && decide (xs.length * b.toNat ≤ 16777216) then some (.lst (List.replicate b.toNat xs).flatten) else none := (rfl)
@[simp] theorem fgMul_l : fgMul (.lst xs) (.int b) = if okK b ∧ xs.length * b.toNat ≤ 16777216 then some (.lst (List.replicate b.toNat xs).flatten) else none := (rfl)
@[simp] theorem fgAdd_l : fgAdd (.lst xs) (.lst ys) = if xs.length + ys.length ≤ 16777216 then some (.lst (xs ++ ys)) else none := (rfl)
@[simp] theorem gMod_i : gMod (.int a) (.int b) = if 0 < b then some (.int (a % b)) else none := (rfl)
@[simp] theorem gFdiv_i : gFdiv (.int a) (.int b) = if 0 < b ∧ b.natAbs.log2 < 9000 then some (.int (a / b)) else none := (rfl)
@[simp] theorem gPow_i : gPow (.int a) (.int b) = if 0 ≤ b ∧ b ≤ 1000000 ∧ a.natAbs < 2 ^ 64 then some (.int (a ^ b.toNat)) else none := (rfl)
@[simp] theorem gLt_i : gLt (.int a) (.int b) = some (.bl (decide (a < b))) := (rfl)
@[simp] theorem gLe_i : gLe (.int a) (.int b) = some (.bl (decide (a ≤ b))) := (rfl)
@[simp] theorem gGt_i : gGt (.int a) (.int b) = some (.bl (decide (b < a))) := (rfl)
@[simp] theorem gGe_i : gGe (.int a) (.int b) = some (.bl (decide (b ≤ a))) := (rfl)
@[simp] theorem gEq_i : gEq (.int a) (.int b) = some (.bl (decide (a = b))) := (rfl)
@[simp] theorem gNe_i : gNe (.int a) (.int b) = some (.bl (!decide (a = b))) := (rfl)
@[simp] theorem gEq_b : gEq (.bl x) (.bl y) = some (.bl (x == y)) := by simp [gEq, shD, layD, depD, eqD]
@[simp] theorem gNe_b : gNe (.bl x) (.bl y) = some (.bl (!(x == y))) := by simp [gNe, shD, layD, depD, eqD]
@[simp] theorem gNeg_i : gNeg (.int a) = some (.int (-a)) := (rfl)
@[simp] theorem gRev_l : gRev (.lst xs) = some (.lst xs.reverse) := (rfl)
@[simp] theorem gRev_t : gRev (.tup xs) = some (.tup xs.reverse) := (rfl)
@[simp] theorem gIx_l : gIx (.lst xs) (.int a) = atI xs a := (rfl)
@[simp] theorem gIx_t : gIx (.tup xs) (.int a) = atI xs a := (rfl)
@[simp] theorem gLen_l : gLen [.lst xs] = some (.int xs.length) := (rfl)
@[simp] theorem gLen_t : gLen [.tup xs] = some (.int xs.length) := (rfl)
@[simp] theorem gInt_i : gInt [.int a] = some (.int a) := (rfl)
@[simp] theorem gInt_b : gInt [.bl x] = some (.int (if x then 1 else 0)) := (rfl)
@[simp] theorem gAbs_i : gAbs [.int a] = some (.int (if a < 0 then -a else a)) := (rfl)
@[simp] theorem gTuple_l : gTuple [.lst xs] = some (.tup xs) := (rfl)
@[simp] theorem gTuple_t : gTuple [.tup xs] = some (.tup xs) := (rfl)
@[simp] theorem fgList_l : fgList [.lst xs] = some (.lst xs) := (rfl)
@[simp] theorem fgList_t : fgList [.tup xs] = some (.lst xs) := (rfl)
@[simp] theorem fgList_s : fgList [.scr xs] = some (.lst xs) := (rfl)
@[simp] theorem gSum_i (ns : List Int) : gSum [.lst (ns.map D.int)] = some (.int ns.sum) := by
  show (match intsD (ns.map D.int) with | some ns => some (D.int ns.sum) | none => none) = _
  rw [intsD_map]
@[simp] theorem gAppend_1 (d : D) : gAppend xs [d] = if xs.length < 16777216 then some (.non, xs ++ [d]) else none := (rfl)
@[simp] theorem truD_i : truD (.int a) = some (a != 0) := (rfl)
@[simp] theorem truD_b : truD (.bl x) = some x := (rfl)
theorem okR_iff (h : -(2 ^ 62) ≤ a ∧ a < 2 ^ 62) : okR a = true := okR_of h
theorem okR_nat (n : Nat) (h : n < 2 ^ 62) : okR (n : Int) = true := okR_iff _ ⟨by omega, by omega⟩
theorem okK_iff (h : -(2 ^ 63) ≤ a ∧ a < 2 ^ 63) : okK a = true := okK_of h
theorem mulOk_l (h : a.natAbs < 2 ^ 64) : mulOk a b = true := by
  unfold mulOk
  rw [decide_eq_true h]
  rfl
theorem mulOk_r (h : b.natAbs < 2 ^ 64) : mulOk a b = true := by
  unfold mulOk
  rw [decide_eq_true h, Bool.or_true]
  rfl
end
theorem atI_map {α β : Type} (f : α → β) (xs : List α) (i : Int) : atI (xs.map f) i = (atI xs i).map f := by
  unfold atI
  rw [List.length_map]
  cases ixN xs.length i with
  | none => rfl
  | some j => simp
theorem atI_nn {α : Type} [Inhabited α] {xs : List α} {i : Int} (h0 : 0 ≤ i) (h1 : i < xs.length) : atI xs i = some (xs.getD i.toNat default) := by
  unfold atI ixN
  rw [if_pos h0, if_pos h1]
  have h2 : i.toNat < xs.length := by omega
  show xs[i.toNat]? = _
  rw [List.getD_eq_getElem?_getD, List.getElem?_eq_getElem h2]
  rfl
theorem ixN_nn {n : Nat} {i : Int} (h0 : 0 ≤ i) (h1 : i < n) : ixN n i = some i.toNat := by
  unfold ixN
  rw [if_pos h0, if_pos h1]
/-! loops -/
theorem sSeq_nx {a b : Xs} {env e1 : MEnv} (h : a env = some (.nx, e1)) : sSeq a b env = b e1 := by
  unfold sSeq
  rw [h]
theorem sLoop_nil (g : Xg) (s : Xs) (env : MEnv) : sLoop g s [] env = some (.nx, env) := (rfl)
theorem sLoop_cons {g : Xg} {s : Xs} {d : D} {ds : List D} {env e1 e2 : MEnv} (h1 : g d env = some e1) (h2 : s e1 = some (.nx, e2)) : sLoop g s (d :: ds) env = sLoop g s ds e2 := by
  show (match g d env with | none => none | some e1 => match s e1 with | none => none | some (.nx, e2) => sLoop g s ds e2 | some (.ct, e2) => sLoop g s ds e2 | some (.bk, e2) => some (.nx, e2) | some (.ret r, e2) => some (.ret r, e2)) = _
  rw [h1]
  simp only
  rw [h2]
/-- a loop that goes through, by an invariant -/
theorem sLoop_inv {g : Xg} {s : Xs} (P : Nat → MEnv → Prop) : ∀ (ds : List D) (k : Nat) (env : MEnv), P k env → (∀ i d env, ds[i]? = some d → P (k + i) env → ∃ e1 e2, g d env = some e1 ∧ s e1 = some (.nx, e2) ∧ P (k + i + 1) e2) → ∃ env', sLoop g s ds env = some (.nx, env') ∧ P (k + ds.length) env'
  | [], k, env, h0, _ => ⟨env, rfl, h0⟩
  | d :: ds, k, env, h0, hs => by
    obtain ⟨e1, e2, h1, h2, h3⟩ := hs 0 d env rfl h0
    obtain ⟨env', h4, h5⟩ := sLoop_inv P ds (k + 1) e2 h3 fun i d' env' hd hp => by
      have := hs (i + 1) d' env' (by simpa using hd) (by rw [show k + (i + 1) = k + 1 + i by omega]; exact hp)
      rw [show k + (i + 1) + 1 = k + 1 + i + 1 by omega] at this
      exact this
    refine ⟨env', ?_, by rw [List.length_cons, show k + (ds.length + 1) = k + 1 + ds.length by omega]; exact h5⟩
    rw [sLoop_cons h1 h2]
    exact h4
theorem cLoop_inv {vs : List Nat} {g : Xg} {t : Xt} {m : Xp} (P : Nat → List D → MEnv → Prop) : ∀ (ds : List D) (k : Nat) (acc : List D) (env : MEnv), P k acc env →
    (∀ i d acc env, ds[i]? = some d → P (k + i) acc env → ∃ e1 e2 r e3 x e4, g d env = some e1 ∧ t e1 = some (true, e2) ∧ m e2 = some (r, e3) ∧ esc e3 r = some (x, e4) ∧ acc.length < 16777216 ∧ P (k + i + 1) (acc ++ [x]) (wipeE e4 vs)) →
    ∃ acc' env', cLoop vs g t m ds acc env = some (acc', env') ∧ P (k + ds.length) acc' env'
  | [], k, acc, env, h0, _ => ⟨acc, env, rfl, h0⟩
  | d :: ds, k, acc, env, h0, hs => by
    obtain ⟨e1, e2, r, e3, x, e4, h1, h2, h3, h4, hl, h5⟩ := hs 0 d acc env rfl h0
    obtain ⟨acc', env', h6, h7⟩ := cLoop_inv P ds (k + 1) (acc ++ [x]) (wipeE e4 vs) h5 fun i d' acc' env' hd hp => by
      have := hs (i + 1) d' acc' env' (by simpa using hd) (by rw [show k + (i + 1) = k + 1 + i by omega]; exact hp)
      rw [show k + (i + 1) + 1 = k + 1 + i + 1 by omega] at this
      exact this
    refine ⟨acc', env', ?_, by rw [List.length_cons, show k + (ds.length + 1) = k + 1 + ds.length by omega]; exact h7⟩
    unfold cLoop
    rw [h1]
    simp only
    rw [h2]
    simp only
    rw [h3]
    simp only
    rw [h4]
    simp only
    rw [if_pos hl]
    exact h6
/-- a comprehension without tests over items that leaves its environment as it is: a map -/
theorem cLoop_map {vs : List Nat} {g : Xg} {m : Xp} {env : MEnv} (f : D → D) : ∀ (ds acc : List D), (∀ d ∈ ds, ∃ e1 r e3 e4, g d env = some e1 ∧ m e1 = some (r, e3) ∧ esc e3 r = some (f d, e4) ∧ wipeE e4 vs = env) → acc.length + ds.length ≤ 16777216 →
    cLoop vs g tYs m ds acc env = some (acc ++ ds.map f, env)
  | [], acc, _, _ => by simp [cLoop]
  | d :: ds, acc, h, hl => by
    obtain ⟨e1, r, e3, e4, h1, h2, h3, h4⟩ := h d List.mem_cons_self
    have hl' : acc.length < 16777216 := by
      rw [List.length_cons] at hl
      omega
    have ih := cLoop_map f ds (acc ++ [f d]) (fun d' hd' => h d' (List.mem_cons_of_mem _ hd')) (by
      rw [List.length_append]
      rw [List.length_cons] at hl
      show acc.length + 1 + ds.length ≤ _
      omega)
    unfold cLoop
    rw [h1]
    simp only [tYs_s]
    rw [h2]
    simp only
    rw [h3]
    simp only
    rw [if_pos hl', h4, ih, List.map_cons, List.append_assoc]
    rfl
end MP
set_option linter.all false
set_option maxRecDepth 100000
namespace MP
open PySem L2
theorem atI_cast {α : Type} (xs : List α) (n : Nat) : atI xs (n : Int) = xs[n]? := by
  unfold atI ixN
  rw [if_pos (by omega)]
  by_cases h : n < xs.length
  · rw [if_pos (by omega)]
    rfl
  · rw [if_neg (by omega), List.getElem?_eq_none (by omega)]
    rfl
@[simp] theorem atI_lit {α : Type} (xs : List α) (n : Nat) : atI xs (no_index (OfNat.ofNat n)) = xs[n]? := atI_cast xs n
theorem ixN_cast (k n : Nat) : ixN k (n : Int) = if n < k then some n else none := by
  unfold ixN
  rw [if_pos (by omega)]
  by_cases h : n < k
  · rw [if_pos (by omega), if_pos h]
    rfl
  · rw [if_neg (by omega), if_neg h]
@[simp] theorem ixN_lit (k n : Nat) : ixN k (no_index (OfNat.ofNat n)) = if n < k then some n else none := ixN_cast k n
theorem cLoop_mapT {α : Type} (enc f : α → D) {vs : List Nat} {g : Xg} {m : Xp} {env : MEnv} : ∀ (ls : List α) (acc : List D), (∀ a ∈ ls, ∃ e1 r e3 e4, g (enc a) env = some e1 ∧ m e1 = some (r, e3) ∧ esc e3 r = some (f a, e4) ∧ wipeE e4 vs = env) → acc.length + ls.length ≤ 16777216 →
    cLoop vs g tYs m (ls.map enc) acc env = some (acc ++ ls.map f, env)
  | [], acc, _, _ => by simp [cLoop]
  | a :: ls, acc, h, hl => by
    obtain ⟨e1, r, e3, e4, h1, h2, h3, h4⟩ := h a List.mem_cons_self
    have hl' : acc.length < 16777216 := by
      rw [List.length_cons] at hl
      omega
    have ih := cLoop_mapT enc f ls (acc ++ [f a]) (fun d' hd' => h d' (List.mem_cons_of_mem _ hd')) (by
      rw [List.length_append]
      rw [List.length_cons] at hl
      show acc.length + 1 + ls.length ≤ _
      omega)
    rw [List.map_cons]
    unfold cLoop
    rw [h1]
    simp only [tYs_s]
    rw [h2]
    simp only
    rw [h3]
    simp only
    rw [if_pos hl', h4, ih, List.map_cons, List.append_assoc]
    rfl
theorem cLoop_mapV {α : Type} (enc f : α → D) {vs : List Nat} {g : Xg} {m : Xp} {env : MEnv} (ls : List α) (acc : List D) (h : ∀ a ∈ ls, ∃ e1, g (enc a) env = some e1 ∧ m e1 = some (.d (f a), e1) ∧ wipeE e1 vs = env) (hl : acc.length + ls.length ≤ 16777216) :
    cLoop vs g tYs m (ls.map enc) acc env = some (acc ++ ls.map f, env) := cLoop_mapT enc f ls acc (fun a ha => by
  obtain ⟨e1, h1, h2, h3⟩ := h a ha
  exact ⟨e1, _, _, _, h1, h2, rfl, h3⟩) hl
theorem enumD_zip : ∀ (xs : List D) (k : Nat), enumD k xs = (xs.zipIdx k).map fun p => .tup [.int (p.2 : Nat), p.1]
  | [], _ => rfl
  | x :: xs, k => by rw [List.zipIdx_cons, List.map_cons, ← enumD_zip xs (k + 1)]; rfl
/-! the pool of a law's script -/
def m_law_pool (N : Nat) : Xs :=
    (sRetF (fLst (aL [(eFrz (fCB fgList (aL [(eVar 0)]))), (eK (.int 0)), (eK (.int 0)), (eK (.int 1)), (eK (.int 0)), (eVar 1)])))
def f_law_pool (N : Nat) : Fn := runD 2 (m_law_pool N)
def m_law_draw (N : Nat) : Xs :=
    (sSeq (sIf (tAn (tOfB (eBin gLe (eBin gIx (eVar 0) (eK (.int 2))) (eK (.int 0)))) (tAn (tOfB (eBin gLe (eBin gIx (eVar 0) (eK (.int 4))) (eK (.int 0)))) (tOfB (eBin gLt (eBin gIx (eVar 0) (eK (.int 1))) (eCB gLen (aL [(eBin gIx (eVar 0) (eK (.int 0)))])))))) (sSeq (sAsg (eBin gIx (eBin gIx (eVar 0) (eK (.int 0))) (eBin gIx (eVar 0) (eK (.int 1)))) (gNm 2))
    (sSeq (sSetIx 0 (eBin gAdd (eBin gIx (eVar 0) (eK (.int 1))) (eK (.int 1))) (eK (.int 1)))
    (sSeq (sSetIx 0 (eBin gMod (eCB gInt (aL [(eBin gAdd (eBin gMul (eBin gIx (eVar 0) (eK (.int 3))) (eK (.int 31))) (eVar 2))])) (eK (.int 2147483647))) (eK (.int 3)))
    (sSeq (sSetIx 0 (eK (.int 7)) (eK (.int 4)))
    (sIf (tOfB (eBin gGe (eVar 2) (eBin gPow (eK (.int 10)) (eK (.int 18))))) (sSetIx 0 (eVar 2) (eK (.int 2))) sNext))))) sNext)
    (sSeq (sIf (tOfB (eBin gGt (eBin gIx (eVar 0) (eK (.int 2))) (eK (.int 0)))) (sSeq (sAsg (eBin gMod (eCB gInt (aL [(eBin gIx (eVar 0) (eK (.int 2)))])) (eVar 1)) (gNm 3))
    (sSeq (sSetIx 0 (eBin gFdiv (eBin gIx (eVar 0) (eK (.int 2))) (eVar 1)) (eK (.int 2)))
    (sSeq (sSetIx 0 (eK (.int 0)) (eK (.int 4)))
    (sRet (eVar 3))))) sNext)
    (sSeq (sSetIx 0 (eBin gSub (eBin gIx (eVar 0) (eK (.int 4))) (eK (.int 1))) (eK (.int 4)))
    (sSeq (sSetIx 0 (eBin gMod (eCB gInt (aL [(eBin gAdd (eBin gMul (eBin gIx (eVar 0) (eK (.int 3))) (eK (.int 48271))) (eK (.int 12345)))])) (eK (.int 2147483647))) (eK (.int 3)))
    (sRet (eBin gMod (eBin gMod (eCB gInt (aL [(eBin gAdd (eBin gMul (eBin gIx (eVar 0) (eK (.int 3))) (eK (.int 69621))) (eK (.int 7919)))])) (eK (.int 2147483647))) (eVar 1)))))))
def f_law_draw (N : Nat) : Fn := runD 4 (m_law_draw N)

@[simp] theorem log2_small {b : Nat} (h : b < 18446744073709551616) : b.log2 < 9000 := by
  rcases Nat.eq_zero_or_pos b with h0 | h0
  · subst h0
    decide
  · have := (Nat.log2_lt (by omega) : b.log2 < 64 ↔ _).2 (by omega)
    omega
structure Pl where
  ns : List Int
  i : Int
  big : Int
  seed : Int
  left : Int
  bud : Int
def Pl.so (p : Pl) : SO := .lst [.lst (p.ns.map .int), .int p.i, .int p.big, .int p.seed, .int p.left, .int p.bud]
def Pl.load (p : Pl) : Pl := if p.big ≤ 0 ∧ p.left ≤ 0 ∧ p.i < p.ns.length then { p with
    i := p.i + 1
    big := if 1000000000000000000 ≤ p.ns.getD p.i.toNat 0 then p.ns.getD p.i.toNat 0 else p.big
    seed := (p.seed * 31 + p.ns.getD p.i.toNat 0) % 2147483647
    left := 7 } else p
def Pl.val (p : Pl) (size : Int) : Int := if 0 < p.load.big then p.load.big % size else ((p.load.seed * 48271 + 12345) % 2147483647 * 69621 + 7919) % 2147483647 % size
def Pl.nxt (p : Pl) (size : Int) : Pl := if 0 < p.load.big then { p.load with big := p.load.big / size, left := 0 } else { p.load with left := p.load.left - 1, seed := (p.load.seed * 48271 + 12345) % 2147483647 }
theorem ifOk {b : Int} (h : 0 < b) (h2 : b < 2 ^ 64) : (0 < b ∧ b.natAbs.log2 < 9000) := by
  refine ⟨h, ?_⟩
  have : b.natAbs < 2 ^ 64 := by omega
  rcases Nat.eq_zero_or_pos b.natAbs with h0 | h0
  · omega
  · have := (Nat.log2_lt (by omega) : b.natAbs.log2 < 64 ↔ _).2 this
    omega
theorem Pl.val_nn (p : Pl) {size : Int} (h : 0 < size) : 0 ≤ p.val size := by
  unfold Pl.val
  split <;> exact Int.emod_nonneg _ (by omega)
theorem Pl.val_lt (p : Pl) {size : Int} (h : 0 < size) : p.val size < size := by
  unfold Pl.val
  split <;> exact Int.emod_lt_of_pos _ h
theorem Pl.load_nn {p : Pl} (h : 0 ≤ p.i) : 0 ≤ p.load.i := by
  unfold Pl.load
  split
  · show 0 ≤ p.i + 1
    omega
  · exact h
theorem Pl.nxt_nn {p : Pl} (h : 0 ≤ p.i) (size : Int) : 0 ≤ (p.nxt size).i := by
  unfold Pl.nxt
  have := Pl.load_nn h
  split <;> exact this
theorem pool_ok (N : Nat) (ns : List Int) (b : Int) : f_law_pool N [.val (.scr (ns.map D.int)), .val (.int b)] = some (.o (Pl.so ⟨ns, 0, 0, 1, 0, b⟩), [.val (.scr (ns.map D.int)), .val (.int b)]) := by
  unfold f_law_pool runD m_law_pool
  simp [outsOf, Pl.so]
theorem draw_ok (N : Nat) (p : Pl) (size : Int) (h0 : 0 ≤ p.i) (hs : 0 < size) (hs2 : size < 2 ^ 64) :
    f_law_draw N [.own p.so, .val (.int size)] = some (.d (.int (p.val size)), [.own (p.nxt size).so, .val (.int size)]) := by
  have hk := ifOk hs hs2
  obtain ⟨ns, i, big, seed, left, bud⟩ := p
  unfold f_law_draw runD m_law_draw
  by_cases h1 : big ≤ 0
  · have h1' : ¬ 0 < big := by omega
    by_cases h2 : left ≤ 0
    · by_cases h3 : i < ns.length
      · obtain ⟨k, rfl⟩ : ∃ k : Nat, i = k := ⟨i.toNat, (Int.toNat_of_nonneg h0).symm⟩
        have h3' : k < ns.length := by omega
        by_cases h4 : 1000000000000000000 ≤ ns[k]
        · have h5 : 0 < ns[k] := by omega
          have hl : Pl.load ⟨ns, k, big, seed, left, bud⟩ = ⟨ns, k + 1, ns[k], (seed * 31 + ns[k]) % 2147483647, 7, bud⟩ := by
            simp [Pl.load, h1, h2, h3', h4]
          simp [Pl.so, Pl.val, Pl.nxt, hl, h1, h2, h3', h1', mulOk_r, atI_cast, h4, h5, hk, outsOf]
        · have hl : Pl.load ⟨ns, k, big, seed, left, bud⟩ = ⟨ns, k + 1, big, (seed * 31 + ns[k]) % 2147483647, 7, bud⟩ := by
            simp [Pl.load, h1, h2, h3', h4]
          simp [Pl.so, Pl.val, Pl.nxt, hl, h1, h2, h3', h1', mulOk_r, atI_cast, h4, hk, outsOf]
      · have hl : Pl.load ⟨ns, i, big, seed, left, bud⟩ = ⟨ns, i, big, seed, left, bud⟩ := by
          simp [Pl.load, h1, h2, h3]
        simp [Pl.so, Pl.val, Pl.nxt, hl, h1, h2, h3, h1', mulOk_r, hk, outsOf]
    · have hl : Pl.load ⟨ns, i, big, seed, left, bud⟩ = ⟨ns, i, big, seed, left, bud⟩ := by
        simp [Pl.load, h1, h2]
      simp [Pl.so, Pl.val, Pl.nxt, hl, h1, h2, h1', mulOk_r, hk, outsOf]
  · have h1' : 0 < big := by omega
    have hl : Pl.load ⟨ns, i, big, seed, left, bud⟩ = ⟨ns, i, big, seed, left, bud⟩ := by
      simp [Pl.load, h1]
    simp [Pl.so, Pl.val, Pl.nxt, hl, h1, h1', mulOk_r, hk, outsOf]

/-- the items that a law draws one after the other -/
structure Drw (iP : Nat) (m : Xp) (P : Int → Prop) : Prop where
  step : ∀ (env : MEnv) (p : Pl), env[iP]? = some (.own p.so) → 0 ≤ p.i → ∃ (x : Int) (q : Pl), P x ∧ 0 ≤ q.i ∧ m env = some (.d (.int x), env.set iP (.own q.so))
theorem set_back {env : MEnv} {i j : Nat} (hij : i ≠ j) (v w : Slot) (h : env[j]? = some .none) : ((env.set j v).set i w).set j .none = env.set i w := by
  refine List.ext_getElem? fun k => ?_
  simp only [List.getElem?_set, List.length_set]
  by_cases c : j = k
  · subst c
    rw [if_pos rfl, if_neg hij, h]
    have := List.getElem?_eq_some_iff.1 h
    rw [if_pos this.1]
  · rw [if_neg c, if_neg c]
theorem draws {iP iK : Nat} (hne : iP ≠ iK) {m : Xp} {P : Int → Prop} (hm : Drw iP m P) : ∀ (ds acc : List D) (env : MEnv) (p : Pl), env[iP]? = some (.own p.so) → env[iK]? = some .none → 0 ≤ p.i → acc.length + ds.length ≤ 16777216 →
    ∃ (xs : List Int) (q : Pl), 0 ≤ q.i ∧ xs.length = ds.length ∧ (∀ x ∈ xs, P x) ∧ cLoop [iK] (gNm iK) tYs m ds acc env = some (acc ++ xs.map .int, env.set iP (.own q.so))
  | [], acc, env, p, h1, _, h3, _ => ⟨[], p, h3, rfl, by simp, by
    have : env.set iP (.own p.so) = env := by
      refine List.ext_getElem? fun k => ?_
      rw [List.getElem?_set]
      split
      · rename_i c
        subst c
        rw [h1]
        have := List.getElem?_eq_some_iff.1 h1
        rw [if_pos this.1]
      · rfl
    simp [cLoop, this]⟩
  | d :: ds, acc, env, p, h1, h2, h3, hl => by
    obtain ⟨x, q, hx, hq, he⟩ := hm.step (env.set iK (.val d)) p (by rw [List.getElem?_set_ne (Ne.symm hne)]; exact h1) h3
    have hlen := (List.getElem?_eq_some_iff.1 h2).1
    have hlen1 := (List.getElem?_eq_some_iff.1 h1).1
    obtain ⟨xs, q', hq', hxl, hP, hr⟩ := draws hne hm ds (acc ++ [.int x]) (env.set iP (.own q.so)) q (by rw [List.getElem?_set_self hlen1]) (by rw [List.getElem?_set_ne hne]; exact h2) hq (by rw [List.length_append]; rw [List.length_cons] at hl; show acc.length + 1 + ds.length ≤ _; omega)
    refine ⟨x :: xs, q', hq', by rw [List.length_cons, List.length_cons, hxl], fun y hy => ?_, ?_⟩
    · rcases List.mem_cons.1 hy with rfl | hy
      · exact hx
      · exact hP y hy
    · unfold cLoop
      have hl' : acc.length < 16777216 := by
        rw [List.length_cons] at hl
        omega
      simp only [gNm_s, if_pos hlen, tYs_s, he, esc_d, if_pos hl', wipeE_cons, wipeE_nil]
      rw [set_back hne _ _ h2, hr, List.set_set]
      simp
theorem drw_1 {N iP : Nat} {S : Int} (hS : 0 < S) (hS2 : S < 2 ^ 64) : Drw iP (eCallR (f_law_draw N) (aL [(eVar iP), (eK (.int S))])) fun x => 0 ≤ x ∧ x < S where
  step env p h h0 := ⟨p.val S, p.nxt S, ⟨p.val_nn hS, p.val_lt hS⟩, Pl.nxt_nn h0 S, by simp [h, draw_ok N p S h0 hS hS2]⟩
theorem drw_sub {N iP : Nat} {S C : Int} (hS : 0 < S) (hS2 : S < 2 ^ 64) : Drw iP (eBin gSub (eCallR (f_law_draw N) (aL [(eVar iP), (eK (.int S))])) (eK (.int C))) fun x => -C ≤ x ∧ x < S - C where
  step env p h h0 := ⟨p.val S - C, p.nxt S, by have := p.val_nn hS; have := p.val_lt hS; omega, Pl.nxt_nn h0 S, by simp [h, draw_ok N p S h0 hS hS2]⟩
theorem drw_add {N iP : Nat} {S C : Int} (hS : 0 < S) (hS2 : S < 2 ^ 64) : Drw iP (eBin gAdd (eK (.int C)) (eCallR (f_law_draw N) (aL [(eVar iP), (eK (.int S))]))) fun x => C ≤ x ∧ x < C + S where
  step env p h h0 := ⟨C + p.val S, p.nxt S, by have := p.val_nn hS; have := p.val_lt hS; omega, Pl.nxt_nn h0 S, by simp [h, draw_ok N p S h0 hS hS2]⟩
/-! the end of a law, step by step -/
def Yes (o : Option (Fl × MEnv)) : Prop := ∃ e : MEnv, o = some (.ret (.d (.bl true)), e) ∧ 1 ≤ e.length
theorem stp {s1 s2 : Xs} {env e1 : MEnv} (h1 : s1 env = some (.nx, e1)) (h2 : Yes (s2 e1)) : Yes (sSeq s1 s2 env) := by
  rw [sSeq_nx h1]
  exact h2
theorem yes_of {n : Nat} {s : Xs} {d : D} (h : Yes (s ([.val d] ++ List.replicate (n - 1) .none))) : ∃ outs, runD n s [.val d] = some (.d (.bl true), outs) := by
  obtain ⟨e, h1, h2⟩ := h
  refine ⟨outsOf [.val d] e, ?_⟩
  unfold runD
  rw [List.length_cons, List.length_nil, h1]
  simp only [if_pos h2]
theorem yes_ret {m : Xp} {env e1 : MEnv} (h : m env = some (.d (.bl true), e1)) (hl : 1 ≤ e1.length) : Yes (sRet m env) := ⟨e1, by simp [h], hl⟩

/-! == and != on lists of numbers -/
theorem layDs_int : ∀ xs : List Int, layDs (xs.map D.int) = true
  | [] => by simp [layDs]
  | x :: xs => by simp [layDs, layD, layDs_int xs]
theorem depDs_int : ∀ xs : List Int, depDs (xs.map D.int) = 0
  | [] => by simp [depDs]
  | x :: xs => by simp [depDs, depD, depDs_int xs]
theorem eqDs_int : ∀ xs ys : List Int, eqDs (xs.map D.int) (ys.map D.int) = decide (xs = ys)
  | [], [] => by simp [eqDs]
  | [], y :: ys => by simp [eqDs]
  | x :: xs, [] => by simp [eqDs]
  | x :: xs, y :: ys => by
    simp [eqDs, eqD, eqDs_int xs ys]
    rfl
theorem gEq_sh {x y : D} (hx : shD x = true) (hy : shD y = true) : gEq x y = some (.bl (eqD x y)) := by
  unfold gEq
  split
  · simp [eqD]
  · simp [hx, hy]
theorem gNe_sh {x y : D} (hx : shD x = true) (hy : shD y = true) : gNe x y = some (.bl (!eqD x y)) := by
  unfold gNe
  split
  · simp [eqD]
  · simp [hx, hy]
theorem shD_ti (xs : List Int) : shD (.tup (xs.map D.int)) = true := by simp [shD, layD, depD, layDs_int, depDs_int]
theorem shD_li (xs : List Int) : shD (.lst (xs.map D.int)) = true := by simp [shD, layD, depD, layDs_int, depDs_int]
@[simp] theorem gEq_ti (xs ys : List Int) : gEq (.tup (xs.map D.int)) (.tup (ys.map D.int)) = some (.bl (decide (xs = ys))) := by
  rw [gEq_sh (shD_ti _) (shD_ti _), eqD, eqDs_int]
@[simp] theorem gNe_ti (xs ys : List Int) : gNe (.tup (xs.map D.int)) (.tup (ys.map D.int)) = some (.bl (!decide (xs = ys))) := by
  rw [gNe_sh (shD_ti _) (shD_ti _), eqD, eqDs_int]
@[simp] theorem gEq_li (xs ys : List Int) : gEq (.lst (xs.map D.int)) (.lst (ys.map D.int)) = some (.bl (decide (xs = ys))) := by
  rw [gEq_sh (shD_li _) (shD_li _), eqD, eqDs_int]
@[simp] theorem gNe_li (xs ys : List Int) : gNe (.lst (xs.map D.int)) (.lst (ys.map D.int)) = some (.bl (!decide (xs = ys))) := by
  rw [gNe_sh (shD_li _) (shD_li _), eqD, eqDs_int]
end MP
set_option linter.all false
set_option maxRecDepth 100000
namespace MP
open PySem L2
/-! more of the mirrors' words unfolded -/
section
variable (env : MEnv) (i j c k n : Nat) (m m' m'' m''' : Xp) (ms : Xa) (mf : Xf) (t : Xt)
@[simp] theorem fMake_s (f : Fn) : fMake c f ms env = match ms env with
  | none => none
  | some (rs, e1) => match escL e1 rs with
    | none => none
    | some (ds, e2) => match f (.own (.ins c []) :: ds.map .val) with
      | some (.d .non, .own o :: _) => some (o, e2)
      | _ => none := (rfl)
@[simp] theorem ownI_s : ownI env i = match env[i]? with
  | some (.own (.ins c fs)) => some (c, fs)
  | _ => none := (rfl)
@[simp] theorem sFldSet_s : sFldSet i c j m env = match m env with
  | none => none
  | some (r, e1) => match esc e1 r with
    | none => none
    | some (d, e2) => match ownI e2 i with
      | none => none
      | some (c', fs) => if c' = c then (if j < fs.length then some (.nx, e2.set i (.own (.ins c (fs.set j d)))) else if j = fs.length then some (.nx, e2.set i (.own (.ins c (fs ++ [d])))) else none) else none := (rfl)
@[simp] theorem gFld_s (fs : List D) : gFld c j (.obj k fs) = if k = c then fs[j]? else none := (rfl)
@[simp] theorem aMth_s : aMth c m ms env = match m env with
  | none => none
  | some (r, e1) => match vw e1 r with
    | some (.obj c' _) => if c' = c then match ms e1 with
      | none => none
      | some (rs, e2) => some (r :: rs, e2)
      else none
    | _ => none := (rfl)
@[simp] theorem fComp2_s (vs vs1 : List Nat) (mi mi1 : Xi) (g g1 : Xg) (t1 : Xt) : fComp2 vs mi g t mi1 vs1 g1 t1 m env = match mi env with
  | none => none
  | some (ds, e1) => if okW e1 vs then match cLoop2 vs g t mi1 vs1 g1 t1 m ds [] (wipeE e1 vs) with
    | none => none
    | some (xs, e2) => some (.lst xs, restE e1 e2 vs)
    else none := (rfl)
@[simp] theorem eChain3_s (g g' g'' : D → D → Option D) : eChain3 g g' g'' m m' m'' m''' env = match m env with
  | none => none
  | some (r1, e1) => match m' e1 with
    | none => none
    | some (r2, e2) => match vw e2 r1, vw e2 r2 with
      | some x, some y => match g x y with
        | some (.bl true) => match m'' e2 with
          | none => none
          | some (r3, e3) => match vw e3 r2, vw e3 r3 with
            | some y', some z => match g' y' z with
              | some (.bl true) => match m''' e3 with
                | none => none
                | some (r4, e4) => match vw e4 r3, vw e4 r4 with
                  | some z', some u => match g'' z' u with
                    | some w => some (.d w, e4)
                    | none => none
                  | _, _ => none
              | some (.bl false) => some (.d (.bl false), e3)
              | _ => none
            | _, _ => none
        | some (.bl false) => some (.d (.bl false), e2)
        | _ => none
      | _, _ => none := (rfl)
end
section
variable (n : String) (a b : Int) (x : Bool) (xs ys : List D) (ks : List (D × D)) (fs : List D) (c : Nat) (s : Str)
@[simp] theorem gIsi_non : gIsi n .non = some (.bl (n == "NoneType")) := (rfl)
@[simp] theorem gIsi_bl : gIsi n (.bl x) = some (.bl (n == "bool" || n == "int")) := (rfl)
@[simp] theorem gIsi_int : gIsi n (.int a) = some (.bl (n == "int")) := (rfl)
@[simp] theorem gIsi_str : gIsi n (.str s) = some (.bl (n == "str")) := (rfl)
@[simp] theorem gIsi_tup : gIsi n (.tup xs) = some (.bl (n == "tuple")) := (rfl)
@[simp] theorem gIsi_lst : gIsi n (.lst xs) = some (.bl (n == "list")) := (rfl)
@[simp] theorem gMax2_i : gMax2 [.int a, .int b] = some (.int (max a b)) := by
  unfold gMax2
  have : (if b > a then b else a) = max a b := by
    split <;> omega
  simp only [this]
@[simp] theorem gMin2_i : gMin2 [.int a, .int b] = some (.int (min a b)) := by
  unfold gMin2
  have : (if b < a then b else a) = min a b := by
    split <;> omega
  simp only [this]
@[simp] theorem gAll_b (bs : List Bool) : gAll [.lst (bs.map D.bl)] = some (.bl (bs.all id)) := by
  unfold gAll
  simp only [boolsD_map]
@[simp] theorem gAny_b (bs : List Bool) : gAny [.lst (bs.map D.bl)] = some (.bl (bs.any id)) := by
  unfold gAny
  simp only [boolsD_map]
theorem gAll_m {α : Type} (f : α → Bool) (ls : List α) : gAll [.lst (ls.map fun a => D.bl (f a))] = some (.bl (ls.all f)) := by
  have := gAll_b (ls.map f)
  rw [List.map_map, List.all_map] at this
  exact this
theorem gAny_m {α : Type} (f : α → Bool) (ls : List α) : gAny [.lst (ls.map fun a => D.bl (f a))] = some (.bl (ls.any f)) := by
  have := gAny_b (ls.map f)
  rw [List.map_map, List.any_map] at this
  exact this
theorem gSum_m {α : Type} (f : α → Int) (ls : List α) : gSum [.lst (ls.map fun a => D.int (f a))] = some (.int (ls.map f).sum) := by
  have := gSum_i (ls.map f)
  rw [List.map_map] at this
  exact this
@[simp] theorem gSumA_l (ns : List Int) : gSumA [.lst (ns.map D.int)] = some (.int ns.sum) := by
  unfold gSumA
  simp only [intsD_map]
@[simp] theorem gSumA_t (ns : List Int) : gSumA [.tup (ns.map D.int)] = some (.int ns.sum) := by
  unfold gSumA
  simp only [intsD_map]
@[simp] theorem gIsN_s (neg : Bool) (d : D) : gIsN neg d .non = some (.bl (if neg then !isN d else isN d)) := (rfl)
@[simp] theorem isN_non : isN .non = true := (rfl)
@[simp] theorem isN_bl : isN (.bl x) = false := (rfl)
@[simp] theorem isN_int : isN (.int a) = false := (rfl)
@[simp] theorem isN_tup : isN (.tup xs) = false := (rfl)
@[simp] theorem isN_lst : isN (.lst xs) = false := (rfl)
theorem anyEq_int (a : Int) (bs : List Int) : anyEq (.int a) (bs.map D.int) = decide (a ∈ bs) := by
  unfold anyEq
  rw [List.any_map]
  induction bs with
  | nil => rfl
  | cons b bs ih =>
    rw [List.any_cons, ih]
    by_cases h : a = b
    · subst h
      simp [eqD]
    · have h' : ¬ b = a := fun z => h z.symm
      simp [eqD, h, h']
@[simp] theorem gIn_ti (bs : List Int) : gIn false (.int a) (.tup (bs.map D.int)) = some (.bl (decide (a ∈ bs))) := by
  simp [gIn, shD, layD, depD, layDs_int, anyEq_int]
@[simp] theorem gIn_li (bs : List Int) : gIn false (.int a) (.lst (bs.map D.int)) = some (.bl (decide (a ∈ bs))) := by
  simp [gIn, shD, layD, depD, layDs_int, anyEq_int]
@[simp] theorem gNin_ti (bs : List Int) : gIn true (.int a) (.tup (bs.map D.int)) = some (.bl (!decide (a ∈ bs))) := by
  simp [gIn, shD, layD, depD, layDs_int, anyEq_int]
@[simp] theorem gNin_li (bs : List Int) : gIn true (.int a) (.lst (bs.map D.int)) = some (.bl (!decide (a ∈ bs))) := by
  simp [gIn, shD, layD, depD, layDs_int, anyEq_int]
@[simp] theorem gIn_2 (b c : Int) : gIn false (.int a) (.tup [.int b, .int c]) = some (.bl (decide (a = b ∨ a = c))) := by
  have := gIn_ti a [b, c]
  simpa using this
end
theorem atI_neg {α : Type} (xs : List α) (k : Nat) (h0 : 0 < k) (h : k ≤ xs.length) : atI xs (-(k : Int)) = xs[xs.length - k]? := by
  unfold atI ixN
  rw [if_neg (by omega), if_pos (by omega)]
  show xs[(-(k : Int) + xs.length).toNat]? = _
  congr 1
  omega
theorem cLoop_filtV {α : Type} (enc f : α → D) (b : α → Bool) {vs : List Nat} {g : Xg} {t : Xt} {m : Xp} {env : MEnv} : ∀ (ls : List α) (acc : List D), (∀ a ∈ ls, ∃ e1, g (enc a) env = some e1 ∧ t e1 = some (b a, e1) ∧ (b a = true → m e1 = some (.d (f a), e1)) ∧ wipeE e1 vs = env) → acc.length + ls.length ≤ 16777216 →
    cLoop vs g t m (ls.map enc) acc env = some (acc ++ (ls.filter b).map f, env)
  | [], acc, _, _ => by simp [cLoop]
  | a :: ls, acc, h, hl => by
    obtain ⟨e1, h1, h2, h3, h4⟩ := h a List.mem_cons_self
    have hl' : acc.length < 16777216 := by
      rw [List.length_cons] at hl
      omega
    rw [List.map_cons]
    unfold cLoop
    rw [h1]
    simp only
    rw [h2]
    cases hb : b a with
    | false =>
      have ih := cLoop_filtV enc f b ls acc (fun d' hd' => h d' (List.mem_cons_of_mem _ hd')) (by rw [List.length_cons] at hl; omega)
      simp only [h4]
      rw [ih, List.filter_cons_of_neg (by simp [hb])]
    | true =>
      have ih := cLoop_filtV enc f b ls (acc ++ [f a]) (fun d' hd' => h d' (List.mem_cons_of_mem _ hd')) (by
        rw [List.length_append]
        rw [List.length_cons] at hl
        show acc.length + 1 + ls.length ≤ _
        omega)
      simp only
      rw [h3 hb]
      simp only [esc_d, if_pos hl', h4]
      rw [ih, List.filter_cons_of_pos hb, List.map_cons, List.append_assoc]
      rfl
end MP
set_option linter.all false
set_option maxRecDepth 100000
namespace MP
open PySem L2
/-! dicts' words unfolded -/
section
variable (env : MEnv) (i : Nat) (m m' : Xp) (t : Bool) (kv : List (D × D)) (k : D)
@[simp] theorem fDict_s : fDict t env = some (.dct t [], env) := (rfl)
@[simp] theorem ownD_s : ownD env i = match env[i]? with
  | some (.own (.dct t kv)) => some (t, kv)
  | _ => none := (rfl)
@[simp] theorem sDPut_s : MP.sDPut i m m' env = match m' env with
  | none => none
  | some (r, e1) => match esc e1 r with
    | none => none
    | some (d, e2) => match ownD e2 i with
      | none => none
      | some _ => match m e2 with
        | none => none
        | some (rk, e3) => match vw e3 rk with
          | none => none
          | some k => match ownD e3 i with
            | none => none
            | some (t, kv) => if okKy t k && decide (kv.length < 16777216) then some (.nx, e3.set i (.own (.dct t (dPut kv k d)))) else none := (rfl)
@[simp] theorem gDix_d : gDix (.dct t kv) k = if okKy t k then dFind kv k else none := (rfl)
@[simp] theorem gDin_f : gDin false k (.dct t kv) = if okKy t k then some (.bl (dHas kv k)) else none := (rfl)
@[simp] theorem gDin_t : gDin true k (.dct t kv) = if okKy t k then some (.bl (!dHas kv k)) else none := (rfl)
@[simp] theorem okKy_i (j : Int) : okKy false (.int j) = true := (rfl)
@[simp] theorem gLenD_d : gLenD [.dct t kv] = some (.int kv.length) := (rfl)
end
@[simp] theorem eCallL_s (f : Fn) (ms : Xa) (env : MEnv) : eCallL f ms env = match ms env with
  | none => none
  | some (rs, e1) => match vwL e1 rs with
    | none => none
    | some ds => match f (ds.map .val) with
      | some (.o (.lst xs), _) => if flatDs xs then some (.d (.lst xs), e1) else none
      | _ => none := (rfl)
@[simp] theorem rg1_s (m : Xp) (env : MEnv) : rg1 m env = match m env with
  | none => none
  | some (r, e1) => match vw e1 r with
    | some (.int n) => some (0, n, e1)
    | _ => none := (rfl)
@[simp] theorem fLrg_s (m : Xr) (env : MEnv) : fLrg m env = match m env with
  | none => none
  | some (a, b, e1) => if okRg a b then some (.lst (rgD a (b - a).toNat), e1) else none := (rfl)
@[simp] theorem eTrg_s (m : Xr) (env : MEnv) : eTrg m env = match m env with
  | none => none
  | some (a, b, e1) => if okRg a b then some (.d (.tup (rgD a (b - a).toNat)), e1) else none := (rfl)
/-! while, one turn -/
theorem sWhile_nx {n : Nat} {t : Xt} {s : Xs} {env e1 e2 : MEnv} (h1 : t env = some (true, e1)) (h2 : s e1 = some (.nx, e2)) : sWhile (n + 1) t s env = sWhile n t s e2 := by
  show (_ : Option (Fl × MEnv)) = _
  rw [sWhile]
  simp only [h1, h2]
theorem sWhile_ret {n : Nat} {t : Xt} {s : Xs} {env e1 e2 : MEnv} {r : RetV} (h1 : t env = some (true, e1)) (h2 : s e1 = some (.ret r, e2)) : sWhile (n + 1) t s env = some (.ret r, e2) := by
  show (_ : Option (Fl × MEnv)) = _
  rw [sWhile]
  simp only [h1, h2]
theorem sWhile_no {n : Nat} {t : Xt} {s : Xs} {env e1 : MEnv} (h1 : t env = some (false, e1)) : sWhile (n + 1) t s env = some (.nx, e1) := by
  show (_ : Option (Fl × MEnv)) = _
  rw [sWhile]
  simp only [h1]
theorem sLoop_ret {g : Xg} {s : Xs} {d : D} {ds : List D} {env e1 e2 : MEnv} {r : RetV} (h1 : g d env = some e1) (h2 : s e1 = some (.ret r, e2)) : sLoop g s (d :: ds) env = some (.ret r, e2) := by
  show (match g d env with | none => none | some e1 => match s e1 with | none => none | some (.nx, e2) => sLoop g s ds e2 | some (.ct, e2) => sLoop g s ds e2 | some (.bk, e2) => some (.nx, e2) | some (.ret r, e2) => some (.ret r, e2)) = _
  rw [h1]
  simp only
  rw [h2]
/-! dicts whose keys are numbers from 0 on -/
theorem eqKy_n (a b : Nat) : eqKy (.int a) (.int b) = decide (a = b) := by
  show decide ((a : Int) = b) = _
  rw [decide_eq_decide]
  omega
def mkD {α : Type} (key : α → Nat) (val : α → D) (L : List α) : List (D × D) := L.map fun e => (.int (key e), val e)
def has {α : Type} (key : α → Nat) (L : List α) (v : Nat) : Prop := ∃ e ∈ L, key e = v
section
variable {α : Type} (key : α → Nat) (val : α → D)
theorem dHas_iff (v : Nat) (L : List α) : dHas (mkD key val L) (.int v) = true ↔ has key L v := by
  unfold dHas mkD has
  rw [List.any_map, List.any_eq_true]
  constructor
  · rintro ⟨e, he, h⟩
    exact ⟨e, he, of_decide_eq_true ((eqKy_n _ _).symm.trans h)⟩
  · rintro ⟨e, he, h⟩
    exact ⟨e, he, (eqKy_n _ _).trans (decide_eq_true h)⟩
theorem dHas_y {v : Nat} {L : List α} (h : has key L v) : dHas (mkD key val L) (.int v) = true := (dHas_iff key val v L).2 h
theorem dHas_no {v : Nat} {L : List α} (h : ¬ has key L v) : dHas (mkD key val L) (.int v) = false := by
  cases q : dHas (mkD key val L) (.int v) with
  | false => rfl
  | true => exact absurd ((dHas_iff key val v L).1 q) h
theorem dFind_n (v : Nat) : ∀ L : List α, dFind (mkD key val L) (.int v) = (L.find? fun e => decide (key e = v)).map val
  | [] => by simp [dFind, mkD]
  | e :: L => by
    have ih := dFind_n v L
    unfold dFind mkD at ih ⊢
    rw [List.map_cons, List.find?_cons, List.find?_cons, eqKy_n]
    by_cases c : key e = v
    · simp [c]
    · simp only [decide_eq_false c]
      exact ih
theorem dPut_n {v : Nat} {d : D} {L : List α} (h : ¬ has key L v) (e : α) (he : key e = v) (hd : val e = d) : dPut (mkD key val L) (.int v) d = mkD key val (L ++ [e]) := by
  unfold dPut
  rw [dHas_no key val h]
  unfold mkD
  rw [if_neg (by simp), List.map_append, List.map_singleton, he, hd]
theorem find_n {L : List α} (nd : (L.map key).Nodup) {e : α} (he : e ∈ L) : L.find? (fun x => decide (key x = key e)) = some e := by
  induction L with
  | nil => cases he
  | cons x L ih =>
    rw [List.map_cons, List.nodup_cons] at nd
    rw [List.find?_cons]
    rcases List.mem_cons.1 he with rfl | he
    · simp
    · have : key x ≠ key e := fun z => nd.1 (z ▸ List.mem_map.2 ⟨e, he, rfl⟩)
      simp only [decide_eq_false this]
      exact ih nd.2 he
end
/-! draws, for whatever else stands around -/
structure DrwU (iP : Nat) (m : Xp) (P : Int → Prop) : Prop where
  step : ∀ (p : Pl), 0 ≤ p.i → ∃ (x : Int) (q : Pl), P x ∧ 0 ≤ q.i ∧ ∀ env : MEnv, env[iP]? = some (.own p.so) → m env = some (.d (.int x), env.set iP (.own q.so))
theorem drawsU' {iP iK : Nat} (hne : iP ≠ iK) {m : Xp} {P : Int → Prop} (hm : DrwU iP m P) : ∀ (ds : List D) (p : Pl), 0 ≤ p.i → ∃ (xs : List Int) (q : Pl), 0 ≤ q.i ∧ xs.length = ds.length ∧ (∀ x ∈ xs, P x) ∧
    ∀ (env : MEnv) (acc : List D), env[iP]? = some (.own p.so) → env[iK]? = some .none → acc.length + ds.length ≤ 16777216 → cLoop [iK] (gNm iK) tYs m ds acc env = some (acc ++ xs.map .int, env.set iP (.own q.so))
  | [], p, h3 => ⟨[], p, h3, rfl, by simp, fun env acc h1 _ _ => by
    have : env.set iP (.own p.so) = env := set_self _ _ _ h1
    simp [cLoop, this]⟩
  | d :: ds, p, h3 => by
    obtain ⟨x, q, hx, hq, he⟩ := hm.step p h3
    obtain ⟨xs, q', hq', hxl, hP, hr⟩ := drawsU' (iK := iK) hne hm ds q hq
    refine ⟨x :: xs, q', hq', by rw [List.length_cons, List.length_cons, hxl], fun y hy => ?_, fun env acc h1 h2 ha => ?_⟩
    · rcases List.mem_cons.1 hy with rfl | hy
      · exact hx
      · exact hP y hy
    · have he' := he (env.set iK (.val d)) (by rw [List.getElem?_set_ne (Ne.symm hne)]; exact h1)
      have hlen := (List.getElem?_eq_some_iff.1 h2).1
      have hlen1 := (List.getElem?_eq_some_iff.1 h1).1
      rw [List.length_cons] at ha
      have hl' : acc.length < 16777216 := by omega
      unfold cLoop
      simp only [gNm_s, if_pos hlen, tYs_s, he', esc_d, if_pos hl', wipeE_cons, wipeE_nil]
      rw [set_back hne _ _ h2, hr (env.set iP (.own q.so)) (acc ++ [D.int x]) (by rw [List.getElem?_set_self hlen1]) (by rw [List.getElem?_set_ne hne]; exact h2) (by rw [List.length_append]; show acc.length + 1 + ds.length ≤ _; omega), List.set_set]
      simp
theorem drawsU {iP iK : Nat} (hne : iP ≠ iK) {m : Xp} {P : Int → Prop} (hm : DrwU iP m P) (ds : List D) (p : Pl) (h3 : 0 ≤ p.i) (hl : ds.length ≤ 10000) : ∃ (xs : List Int) (q : Pl), 0 ≤ q.i ∧ xs.length = ds.length ∧ (∀ x ∈ xs, P x) ∧
    ∀ (env : MEnv), env[iP]? = some (.own p.so) → env[iK]? = some .none → cLoop [iK] (gNm iK) tYs m ds [] env = some (xs.map .int, env.set iP (.own q.so)) := by
  obtain ⟨xs, q, a, b, c, d⟩ := drawsU' hne hm ds p h3
  exact ⟨xs, q, a, b, c, fun env h1 h2 => by
    have := d env [] h1 h2 (by simp; omega)
    simpa using this⟩
theorem drwU_1 {N iP : Nat} {S : Int} (hS : 0 < S) (hS2 : S < 2 ^ 64) : DrwU iP (eCallR (f_law_draw N) (aL [(eVar iP), (eK (.int S))])) fun x => 0 ≤ x ∧ x < S where
  step p h0 := ⟨p.val S, p.nxt S, ⟨p.val_nn hS, p.val_lt hS⟩, Pl.nxt_nn h0 S, fun env h => by simp [h, draw_ok N p S h0 hS hS2]⟩
theorem drwU_sub {N iP : Nat} {S C : Int} (hS : 0 < S) (hS2 : S < 2 ^ 64) : DrwU iP (eBin gSub (eCallR (f_law_draw N) (aL [(eVar iP), (eK (.int S))])) (eK (.int C))) fun x => -C ≤ x ∧ x < S - C where
  step p h0 := ⟨p.val S - C, p.nxt S, by have := p.val_nn hS; have := p.val_lt hS; omega, Pl.nxt_nn h0 S, fun env h => by simp [h, draw_ok N p S h0 hS hS2]⟩
theorem drwU_add {N iP : Nat} {S C : Int} (hS : 0 < S) (hS2 : S < 2 ^ 64) : DrwU iP (eBin gAdd (eK (.int C)) (eCallR (f_law_draw N) (aL [(eVar iP), (eK (.int S))]))) fun x => C ≤ x ∧ x < C + S where
  step p h0 := ⟨C + p.val S, p.nxt S, by have := p.val_nn hS; have := p.val_lt hS; omega, Pl.nxt_nn h0 S, fun env h => by simp [h, draw_ok N p S h0 hS hS2]⟩
theorem drwU_vote {N iP : Nat} : DrwU iP (eBin gSub (eK (.int 1)) (eBin gMul (eK (.int 2)) (eCallR (f_law_draw N) (aL [(eVar iP), (eK (.int 2))])))) fun x => x = 1 ∨ x = -1 where
  step p h0 := ⟨1 - 2 * p.val 2, p.nxt 2, by
    have h1 := p.val_nn (size := 2) (by decide)
    have h2 := p.val_lt (size := 2) (by decide)
    omega, Pl.nxt_nn h0 2, fun env h => by
    have hm := mulOk_l 2 (p.val 2) (by decide)
    simp [h, draw_ok N p 2 h0 (by decide) (by decide), hm]⟩
/-! a comprehension over one name -/
theorem comp1 {α : Type} (enc f : α → D) {k : Nat} {m : Xp} (ls : List α) (env : MEnv) (h : env[k]? = some .none) (hl : ls.length ≤ 16777216)
    (hm : ∀ a ∈ ls, m (env.set k (.val (enc a))) = some (.d (f a), env.set k (.val (enc a)))) : cLoop [k] (gNm k) tYs m (ls.map enc) [] env = some (ls.map f, env) := by
  have hl2 := (List.getElem?_eq_some_iff.1 h).1
  have c1 := cLoop_mapV (vs := [k]) (g := gNm k) (m := m) (env := env) enc f ls [] (fun a ha => ⟨env.set k (.val (enc a)), by simp [hl2], hm a ha, by
    simp only [wipeE_cons, wipeE_nil, List.set_set]
    exact set_self _ _ _ h⟩) (by simpa using hl)
  rw [List.nil_append] at c1
  exact c1
theorem comp1r (f : Nat → D) {k n : Nat} {m : Xp} (env : MEnv) (h : env[k]? = some .none) (hl : n ≤ 16777216)
    (hm : ∀ v, v < n → m (env.set k (.val (.int v))) = some (.d (f v), env.set k (.val (.int v)))) : cLoop [k] (gNm k) tYs m (rgD 0 n) [] env = some ((List.range n).map f, env) := by
  have hz : rgD 0 n = (List.range n).map fun (i : Nat) => D.int i := by simp [rgD]
  rw [hz]
  exact comp1 (fun (i : Nat) => D.int i) f (List.range n) env h (by simpa using hl) fun v hv => hm v (List.mem_range.1 hv)
theorem comp1f {α : Type} (enc f : α → D) (b : α → Bool) {k : Nat} {t : Xt} {m : Xp} (ls : List α) (env : MEnv) (h : env[k]? = some .none) (hl : ls.length ≤ 16777216)
    (ht : ∀ a ∈ ls, t (env.set k (.val (enc a))) = some (b a, env.set k (.val (enc a))))
    (hm : ∀ a ∈ ls, b a = true → m (env.set k (.val (enc a))) = some (.d (f a), env.set k (.val (enc a)))) : cLoop [k] (gNm k) t m (ls.map enc) [] env = some ((ls.filter b).map f, env) := by
  have hl2 := (List.getElem?_eq_some_iff.1 h).1
  have c1 := cLoop_filtV (vs := [k]) (g := gNm k) (t := t) (m := m) (env := env) enc f b ls [] (fun a ha => ⟨env.set k (.val (enc a)), by simp [hl2], ht a ha, hm a ha, by
    simp only [wipeE_cons, wipeE_nil, List.set_set]
    exact set_self _ _ _ h⟩) (by simpa using hl)
  rw [List.nil_append] at c1
  exact c1
theorem comp1fr (f : Nat → D) (b : Nat → Bool) {k n : Nat} {t : Xt} {m : Xp} (env : MEnv) (h : env[k]? = some .none) (hl : n ≤ 16777216)
    (ht : ∀ v, v < n → t (env.set k (.val (.int v))) = some (b v, env.set k (.val (.int v))))
    (hm : ∀ v, v < n → b v = true → m (env.set k (.val (.int v))) = some (.d (f v), env.set k (.val (.int v)))) : cLoop [k] (gNm k) t m (rgD 0 n) [] env = some (((List.range n).filter b).map f, env) := by
  have hz : rgD 0 n = (List.range n).map fun (i : Nat) => D.int i := by simp [rgD]
  rw [hz]
  exact comp1f (fun (i : Nat) => D.int i) f b (List.range n) env h (by simpa using hl) (fun v hv => ht v (List.mem_range.1 hv)) fun v hv => hm v (List.mem_range.1 hv)
/-- numbers from 0 on, as a list of values -/
abbrev nL (l : List Nat) : List D := l.map fun (u : Nat) => D.int u
theorem nL_int (l : List Nat) : nL l = (l.map fun (u : Nat) => (u : Int)).map D.int := by
  rw [List.map_map]
  rfl
theorem mem_cast (v : Nat) (l : List Nat) : ((v : Int) ∈ l.map fun (u : Nat) => (u : Int)) ↔ v ∈ l := by
  rw [List.mem_map]
  constructor
  · rintro ⟨u, hu, e⟩
    have : u = v := by omega
    exact this ▸ hu
  · exact fun h => ⟨v, h, rfl⟩
theorem in_nL (v : Nat) (l : List Nat) : gIn false (.int v) (.lst (nL l)) = some (.bl (decide (v ∈ l))) := by
  rw [nL_int, gIn_li]
  simp only [mem_cast]
theorem nin_nL (v : Nat) (l : List Nat) : gIn true (.int v) (.lst (nL l)) = some (.bl (!decide (v ∈ l))) := by
  rw [nL_int, gNin_li]
  simp only [mem_cast]
theorem in_nT (v : Nat) (l : List Nat) : gIn false (.int v) (.tup (nL l)) = some (.bl (decide (v ∈ l))) := by
  rw [nL_int, gIn_ti]
  simp only [mem_cast]
theorem nin_nT (v : Nat) (l : List Nat) : gIn true (.int v) (.tup (nL l)) = some (.bl (!decide (v ∈ l))) := by
  rw [nL_int, gNin_ti]
  simp only [mem_cast]
theorem nL_eq (l m : List Nat) : ((l.map fun (u : Nat) => (u : Int)) = (m.map fun (u : Nat) => (u : Int))) ↔ l = m := by
  constructor
  · intro h
    have := congrArg (List.map Int.toNat) h
    rw [List.map_map, List.map_map] at this
    have e : (Int.toNat ∘ fun (u : Nat) => (u : Int)) = id := funext fun u => Int.toNat_natCast u
    rw [e, List.map_id, List.map_id] at this
    exact this
  · rintro rfl
    rfl
theorem gEq_nL (l m : List Nat) : gEq (.lst (nL l)) (.lst (nL m)) = some (.bl (decide (l = m))) := by
  rw [nL_int, nL_int, gEq_li]
  simp only [nL_eq]
theorem gNe_nL (l m : List Nat) : gNe (.lst (nL l)) (.lst (nL m)) = some (.bl (!decide (l = m))) := by
  rw [nL_int, nL_int, gNe_li]
  simp only [nL_eq]
theorem gEq_nT (l m : List Nat) : gEq (.tup (nL l)) (.tup (nL m)) = some (.bl (decide (l = m))) := by
  rw [nL_int, nL_int, gEq_ti]
  simp only [nL_eq]
theorem gNe_nT (l m : List Nat) : gNe (.tup (nL l)) (.tup (nL m)) = some (.bl (!decide (l = m))) := by
  rw [nL_int, nL_int, gNe_ti]
  simp only [nL_eq]
theorem asc_int {l : List Nat} (h : l.Pairwise (· < ·)) : (l.map fun (u : Nat) => (u : Int)).Pairwise (· < ·) := by
  rw [List.pairwise_map]
  exact h.imp fun h => by omega
theorem ss_nT {l : List Nat} (h : l.Pairwise (· < ·)) (hl : l.length < 64) : fgSS [.tup (nL l)] = some (.lst (nL l)) := by
  rw [nL_int, fgSS_t, if_pos (by simpa using hl), srtS_id (asc_int h)]
theorem nL_len (l : List Nat) : (nL l).length = l.length := List.length_map _
theorem nL_nat (l : List Int) (h : ∀ x ∈ l, 0 ≤ x) : l.map D.int = nL (l.map Int.toNat) := by
  unfold nL
  rw [List.map_map]
  refine List.map_congr_left fun x hx => ?_
  show D.int x = D.int (x.toNat : Nat)
  rw [Int.toNat_of_nonneg (h x hx)]
theorem flat_nL : ∀ l : List Nat, flatDs (nL l) = true
  | [] => by simp [flatDs]
  | a :: l => by
    have := flat_nL l
    simp only [nL, List.map_cons, flatDs, flatD, Bool.true_and]
    exact this
end MP
set_option Elab.async false
set_option linter.all false
set_option maxRecDepth 100000
set_option maxHeartbeats 4000000
namespace MP
open PySem PySem.Spec PyProof.Rows L2
section
variable {X : Cx} {cl : ClM} {R : Nat → Bool}
/-- a, b, c = e, f, g, all local -/
def sPar3 (i j l : Nat) (ms : Xa) : Xs := fun env => match ms env with
  | none => none
  | some (rs, e1) => match escL e1 rs with
    | some ([d, d', d''], e2) => if i < e2.length ∧ j < e2.length ∧ l < e2.length then some (.nx, ((e2.set i (.val d)).set j (.val d')).set l (.val d'')) else none
    | _ => none
theorem ms_par3 {st : Stmt} {es : List Expr} {i j l : Nat} {ms : Xa} (h : MA X cl es ms) (hp : ∀ t, PA X es t → PS X st (tPar3 i j l t)) (h1 : R i = false) (h2 : R j = false) (h3 : R l = false) : MS X cl R st (sPar3 i j l ms) := by
  obtain ⟨t, p, k⟩ := h
  refine ⟨_, hp t p, fun σ H I env fl env' Dn g hm kk => ?_⟩
  unfold sPar3 at hm
  cases q : ms env with
  | none => simp [q] at hm
  | some pr =>
    obtain ⟨rs, e1⟩ := pr
    simp only [q] at hm
    refine k σ H I env rs e1 _ g q fun vs I1 H1 g1 t1 r1 => ?_
    cases q2 : escL e1 rs with
    | none => simp [q2] at hm
    | some p2 =>
      obtain ⟨ds, e2⟩ := p2
      obtain ⟨I2, g2, t2, r2⟩ := escL_ok g1 r1 q2
      cases r2 with
      | nil => simp [q2] at hm
      | cons ra r2 =>
        cases r2 with
        | nil => simp [q2] at hm
        | cons rb r2 =>
          cases r2 with
          | nil => simp [q2] at hm
          | cons rc r2 =>
            cases r2 with
            | cons _ _ => simp [q2] at hm
            | nil =>
              rename_i v d v' d' v'' d''
              simp only [q2] at hm
              by_cases hl : i < e2.length ∧ j < e2.length ∧ l < e2.length
              · rw [if_pos hl] at hm
                simp only [Option.some.injEq, Prod.mk.injEq] at hm
                obtain ⟨rfl, rfl⟩ := hm
                refine ⟨v, v', v'', rfl, kk _ I2 H1 (((g2.setVal ra).setVal rb).setVal rc) ((t1.trans t2).less fun p h => h.setVal.setVal.setVal) fun a ha => ?_⟩
                rw [List.getElem?_set_ne, List.getElem?_set_ne, List.getElem?_set_ne]
                · rintro rfl
                  rw [h1] at ha
                  cases ha
                · rintro rfl
                  rw [h2] at ha
                  cases ha
                · rintro rfl
                  rw [h3] at ha
                  cases ha
              · rw [if_neg hl] at hm
                cases hm
end
@[simp] theorem sPar3_s (i j l : Nat) (ms : Xa) (env : MEnv) : sPar3 i j l ms env = match ms env with
  | none => none
  | some (rs, e1) => match escL e1 rs with
    | some ([d, d', d''], e2) => if i < e2.length ∧ j < e2.length ∧ l < e2.length then some (.nx, ((e2.set i (.val d)).set j (.val d')).set l (.val d'')) else none
    | _ => none := (rfl)
end MP
set_option linter.all false
set_option maxRecDepth 100000
namespace K93
open PySem MP
def m_multiplied (N : Nat) : Xs :=
    (sRet (eFrz (fComp [2] (iSq (eVar 0)) (gNm 2) tYs (eFrz (fComp [3] (iR1 (aL [(eCB gLen (aL [(eBin gIx (eVar 1) (eK (.int 0)))]))])) (gNm 3) tYs (eCB gSum (aL [(eFrz (fComp [4] (iR1 (aL [(eCB gLen (aL [(eVar 1)]))])) (gNm 4) tYs (eBin gMul (eBin gIx (eVar 2) (eVar 4)) (eBin gIx (eBin gIx (eVar 1) (eVar 4)) (eVar 3)))))])))))))
def f_multiplied (N : Nat) : Fn := runD 5 (m_multiplied N)
def m_checked_word (N : Nat) : Xs :=
    (sSeq (sAsg (eCB gTuple (aL [(eVar 1)])) (gNm 1))
    (sSeq (sIf (tNo (tTru (eCB gAll (aL [(eFrz (fComp [2] (iSq (eVar 1)) (gNm 2) tYs (eChain gLe gLt (eK (.int 0)) (eVar 2) (eCB gLen (aL [(eUn (gFld 0 0) (eVar 0))])))))])))) sNo sNext)
    (sRet (eVar 1))))
def f_checked_word (N : Nat) : Fn := runD 3 (m_checked_word N)
def m_table (N : Nat) : Xs :=
    (sSeq (sAsg (eCB gLen (aL [(eUn (gFld 0 0) (eVar 0))])) (gNm 1))
    (sRet (eFrz (fComp [2] (iSq (eUn (gFld 0 0) (eVar 0))) (gNm 2) tYs (eFrz (fComp [3] (iR1 (aL [(eVar 1)])) (gNm 3) tYs (eMw gCount (eVar 2) (aL [(eVar 3)]))))))))
def f_table (N : Nat) : Fn := runD 4 (m_table N)
def m_letters_in (N : Nat) : Xs :=
    (sRet (eCB gTuple (aL [(eFrz (fSS (fComp2 [2, 3] (iSq (eVar 1)) (gNm 2) tYs (iSq (eBin gIx (eUn (gFld 0 0) (eVar 0)) (eVar 2))) [3] (gNm 3) tYs (eVar 3))))])))
def f_letters_in (N : Nat) : Fn := runD 4 (m_letters_in N)
def m_are_among (N : Nat) : Xs :=
    (sRet (eCB gAll (aL [(eFrz (fComp [2] (iSq (eVar 0)) (gNm 2) tYs (eBin (gIn false) (eVar 2) (eVar 1))))])))
def f_are_among (N : Nat) : Fn := runD 3 (m_are_among N)
def m_Growth_init (N : Nat) : Xs :=
    (sSeq (sFldSet 0 0 0 (eCB gTuple (aL [(eFrz (fComp [2] (iSq (eVar 1)) (gNm 2) tYs (eCB gTuple (aL [(eVar 2)]))))])))
    (sSeq (sIf (tNo (tOfB (eChain gLe gLe (eK (.int 1)) (eCB gLen (aL [(eUn (gFld 0 0) (eVar 0))])) (eK (.int 6))))) sNo sNext)
    (sSeq (sIf (tNo (tTru (eCB gAll (aL [(eFrz (fComp [2] (iSq (eUn (gFld 0 0) (eVar 0))) (gNm 2) tYs (eChain gLe gLe (eK (.int 1)) (eCB gLen (aL [(eVar 2)])) (eK (.int 12)))))])))) sNo sNext)
    (sIf (tNo (tTru (eCB gAll (aL [(eFrz (fComp2 [2, 3] (iSq (eUn (gFld 0 0) (eVar 0))) (gNm 2) tYs (iSq (eVar 2)) [3] (gNm 3) tYs (eChain gLe gLt (eK (.int 0)) (eVar 3) (eCB gLen (aL [(eUn (gFld 0 0) (eVar 0))])))))])))) sNo sNext))))
def f_Growth_init (N : Nat) : Fn := runD 4 (m_Growth_init N)
def m_grown (N : Nat) : Xs :=
    (sSeq (sAsg (eCall (f_checked_word N) (aL [(eVar 0), (eVar 1)])) (gNm 1))
    (sSeq (sFor (iR1 (aL [(eVar 2)])) (gNm 3) (sSeq (sAsg (eCB gTuple (aL [(eFrz (fComp2 [4, 5] (iSq (eVar 1)) (gNm 4) tYs (iSq (eBin gIx (eUn (gFld 0 0) (eVar 0)) (eVar 4))) [5] (gNm 5) tYs (eVar 5)))])) (gNm 1))
    (sIf (tOfB (eBin gGt (eCB gLen (aL [(eVar 1)])) (eK (.int 20000)))) sNo sNext)))
    (sRet (eVar 1))))
def f_grown (N : Nat) : Fn := runD 6 (m_grown N)
def m_counts_of (N : Nat) : Xs :=
    (sSeq (sAsg (eCall (f_checked_word N) (aL [(eVar 0), (eVar 1)])) (gNm 1))
    (sRet (eCB gTuple (aL [(eFrz (fComp [2] (iR1 (aL [(eCB gLen (aL [(eUn (gFld 0 0) (eVar 0))]))])) (gNm 2) tYs (eMw gCount (eVar 1) (aL [(eVar 2)]))))]))))
def f_counts_of (N : Nat) : Fn := runD 3 (m_counts_of N)
def m_letter_at (N : Nat) : Xs :=
    (sSeq (sExp (eCall (f_checked_word N) (aL [(eVar 0), (eTup (aL [(eVar 1)]))])))
    (sSeq (sIf (tNo (tOfB (eChain gLe gLe (eK (.int 0)) (eVar 2) (eK (.int 2000))))) sNo sNext)
    (sSeq (sOwn (fLst (aL [(eBin gMul (eFrz (fLst (aL [(eK (.int 1))]))) (eCB gLen (aL [(eUn (gFld 0 0) (eVar 0))])))])) 4)
    (sSeq (sFor (iR1 (aL [(eVar 2)])) (gNm 5) (sExp (eMt gAppend 4 (aL [(eFrz (fComp [8] (iSq (eUn (gFld 0 0) (eVar 0))) (gNm 8) tYs (eCB gSum (aL [(eFrz (fComp [7] (iSq (eVar 8)) (gNm 7) tYs (eBin gIx (eBin gIx (eVar 4) (eUn gNeg (eK (.int 1)))) (eVar 7))))]))))]))))
    (sSeq (sIf (tNo (tOfB (eChain gLe gLt (eK (.int 0)) (eVar 3) (eBin gIx (eBin gIx (eVar 4) (eVar 2)) (eVar 1))))) sNo sNext)
    (sSeq (sFor (iR3 (aL [(eBin gSub (eVar 2) (eK (.int 1))), (eUn gNeg (eK (.int 1))), (eUn gNeg (eK (.int 1)))])) (gNm 6) (sSeq (sFor (iSq (eBin gIx (eUn (gFld 0 0) (eVar 0)) (eVar 1))) (gNm 7) (sSeq (sIf (tOfB (eBin gLt (eVar 3) (eBin gIx (eBin gIx (eVar 4) (eVar 6)) (eVar 7)))) sBrk sNext)
    (sAsg (eBin gSub (eVar 3) (eBin gIx (eBin gIx (eVar 4) (eVar 6)) (eVar 7))) (gNm 3))))
    (sAsg (eVar 7) (gNm 1))))
    (sRet (eVar 1))))))))
def f_letter_at (N : Nat) : Fn := runD 9 (m_letter_at N)
def m_classes (N : Nat) : Xs :=
    (sSeq (sAsg (eCB gLen (aL [(eUn (gFld 0 0) (eVar 0))])) (gNm 1))
    (sSeq (sAsg (eTup (aL [(eK (.int 0))])) (gNm 2))
    (sSeq (sOwn (fDict true) 3)
    (sSeq (sWhile N (tOfB (eBin (gDin true) (eVar 2) (eVar 3))) (sSeq (sDPut 3 (eVar 2) (eCB gLenD (aL [(eVar 3)])))
    (sAsg (eCall (f_letters_in N) (aL [(eVar 0), (eVar 2)])) (gNm 2))))
    (sSeq (sAsg (eBin gSub (eCB gLenD (aL [(eVar 3)])) (eBin gDix (eVar 3) (eVar 2))) (gNm 4))
    (sSeq (sOwn (fLst (aL [])) 5)
    (sSeq (sFor (iR1 (aL [(eVar 4)])) (gNm 6) (sSeq (sExp (eMt gAppend 5 (aL [(eVar 2)])))
    (sAsg (eCall (f_letters_in N) (aL [(eVar 0), (eVar 2)])) (gNm 2))))
    (sSeq (sIf (tOfB (eBin gNe (eFrz (fCB fgSI (aL [(eFrz (fComp2 [8, 9] (iSq (eVar 5)) (gNm 8) tYs (iSq (eVar 8)) [9] (gNm 9) tYs (eVar 9)))]))) (eFrz (fLrg (rg1 (eVar 1)))))) (sRet (eK .non)) sNext)
    (sSeq (sAsg (eMw gIndex (eFrz (fComp [8] (iSq (eVar 5)) (gNm 8) tYs (eBin (gIn false) (eK (.int 0)) (eVar 8)))) (aL [(eK (.bl true))])) (gNm 7))
    (sRet (eCB gTuple (aL [(eBin gAdd (eSl (eVar 5) (oSm (eVar 7)) oNo) (eSl (eVar 5) oNo (oSm (eVar 7))))]))))))))))))
def f_classes (N : Nat) : Fn := runD 10 (m_classes N)
def m_law_some (N : Nat) : Xs :=
    (sSeq (sAsg (eCallR (f_law_draw N) (aL [(eVar 0), (eK (.int 8))])) (gNm 1))
    (sSeq (sIf (tOfB (eBin gLt (eVar 1) (eK (.int 4)))) (sRet (eCallR (f_law_draw N) (aL [(eVar 0), (eK (.int 40))]))) sNext)
    (sSeq (sIf (tOfB (eBin gLt (eVar 1) (eK (.int 6)))) (sRet (eCallR (f_law_draw N) (aL [(eVar 0), (eK (.int 3000))]))) sNext)
    (sSeq (sIf (tOfB (eBin gEq (eVar 1) (eK (.int 6)))) (sRet (eCallR (f_law_draw N) (aL [(eVar 0), (eBin gPow (eK (.int 10)) (eK (.int 6)))]))) sNext)
    (sRet (eCallR (f_law_draw N) (aL [(eVar 0), (eBin gPow (eK (.int 10)) (eK (.int 10)))])))))))
def f_law_some (N : Nat) : Fn := runD 2 (m_law_some N)
def m_counts_after (N : Nat) : Xs :=
    (sSeq (sIf (tOfB (eBin gGt (eVar 2) (eK (.int 2000)))) sNo sNext)
    (sSeq (sAsg (eFrz (fLst (aL [(eFrz (fCB fgList (aL [(eCall (f_counts_of N) (aL [(eVar 0), (eVar 1)]))])))]))) (gNm 3))
    (sSeq (sAsg (eCall (f_table N) (aL [(eVar 0)])) (gNm 4))
    (sSeq (sFor (iR1 (aL [(eVar 2)])) (gNm 5) (sAsg (eCall (f_multiplied N) (aL [(eVar 3), (eVar 4)])) (gNm 3)))
    (sRet (eCB gTuple (aL [(eBin gIx (eVar 3) (eK (.int 0)))])))))))
def f_counts_after (N : Nat) : Fn := runD 6 (m_counts_after N)
def m_counts_by (N : Nat) : Xs :=
    (sSeq (sIf (tO (tOfB (eBin gLt (eVar 3) (eK (.int 1)))) (tOfB (eBin gLt (eVar 2) (eK (.int 0))))) sNo sNext)
    (sSeq (sAsg (eFrz (fLst (aL [(eFrz (fCB fgList (aL [(eCall (f_counts_of N) (aL [(eVar 0), (eVar 1)]))])))]))) (gNm 4))
    (sSeq (sAsg (eCall (f_table N) (aL [(eVar 0)])) (gNm 5))
    (sSeq (sWhile N (tOfB (eBin gGt (eVar 2) (eK (.int 0)))) (sSeq (sIf (tOfB (eBin gEq (eBin gMod (eVar 2) (eK (.int 2))) (eK (.int 1)))) (sAsg (eFrz (fComp [6] (iSq (eCall (f_multiplied N) (aL [(eVar 4), (eVar 5)]))) (gNm 6) tYs (eFrz (fComp [7] (iSq (eVar 6)) (gNm 7) tYs (eBin gMod (eVar 7) (eVar 3)))))) (gNm 4)) sNext)
    (sSeq (sAsg (eFrz (fComp [6] (iSq (eCall (f_multiplied N) (aL [(eVar 5), (eVar 5)]))) (gNm 6) tYs (eFrz (fComp [7] (iSq (eVar 6)) (gNm 7) tYs (eBin gMod (eVar 7) (eVar 3)))))) (gNm 5))
    (sAsg (eBin gFdiv (eVar 2) (eK (.int 2))) (gNm 2)))))
    (sRet (eCB gTuple (aL [(eFrz (fComp [7] (iSq (eBin gIx (eVar 4) (eK (.int 0)))) (gNm 7) tYs (eBin gMod (eVar 7) (eVar 3))))])))))))
def f_counts_by (N : Nat) : Fn := runD 8 (m_counts_by N)
def m_mixes (N : Nat) : Xs :=
    (sSeq (sAsg (eCB gLen (aL [(eUn (gFld 0 0) (eVar 0))])) (gNm 1))
    (sSeq (sAsg (eTrg (rg1 (eVar 1))) (gNm 2))
    (sSeq (sFor (iR1 (aL [(eVar 1)])) (gNm 3) (sSeq (sAsg (eTup (aL [(eVar 3)])) (gNm 4))
    (sSeq (sWhile N (tNo (tTru (eCall (f_are_among N) (aL [(eCall (f_letters_in N) (aL [(eVar 0), (eVar 4)])), (eVar 4)])))) (sAsg (eCB gTuple (aL [(eFrz (fCB fgSS (aL [(eBin gAdd (eVar 4) (eCall (f_letters_in N) (aL [(eVar 0), (eVar 4)])))])))])) (gNm 4)))
    (sIf (tOfB (eBin gNe (eVar 4) (eVar 2))) (sRet (eTup (aL [(eK (.str (Str.ofString "closed"))), (eVar 0), (eVar 4)]))) sNext))))
    (sSeq (sAsg (eFrz (fComp [3] (iR1 (aL [(eVar 1)])) (gNm 3) tYs (eTup (aL [(eVar 3)])))) (gNm 5))
    (sSeq (sFor (iR2 (aL [(eK (.int 1)), (eBin gAdd (eBin gMul (eVar 1) (eVar 1)) (eK (.int 2)))])) (gNm 6) (sSeq (sAsg (eFrz (fComp [7] (iSq (eVar 5)) (gNm 7) tYs (eCall (f_letters_in N) (aL [(eVar 0), (eVar 7)])))) (gNm 5))
    (sIf (tTru (eCB gAll (aL [(eFrz (fComp [7] (iSq (eVar 5)) (gNm 7) tYs (eBin gEq (eVar 7) (eVar 2))))]))) (sRet (eTup (aL [(eK (.str (Str.ofString "mixes"))), (eVar 0), (eVar 6)]))) sNext)))
    (sRet (eTup (aL [(eK (.str (Str.ofString "turning"))), (eVar 0), (eCall (f_classes N) (aL [(eVar 0)]))]))))))))
def f_mixes (N : Nat) : Fn := runD 8 (m_mixes N)
def m_law (N : Nat) : Xs :=
    (sSeq (sOwn (fCall (f_law_pool N) (aL [(eVar 0), (eK (.int 0))])) 1)
    (sSeq (sAsg (eBin gAdd (eK (.int 1)) (eCallR (f_law_draw N) (aL [(eVar 1), (eK (.int 4))]))) (gNm 2))
    (sSeq (sAsg (eCB gTuple (aL [(eFrz (fComp [10] (iR1 (aL [(eVar 2)])) (gNm 10) tYs (eCB gTuple (aL [(eFrz (fComp [15] (iR1 (aL [(eBin gAdd (eK (.int 1)) (eCallR (f_law_draw N) (aL [(eVar 1), (eK (.int 3))])))])) (gNm 15) tYs (eCallR (f_law_draw N) (aL [(eVar 1), (eVar 2)]))))]))))])) (gNm 3))
    (sSeq (sIf (tOfB (eBin gEq (eCallR (f_law_draw N) (aL [(eVar 1), (eK (.int 3))])) (eK (.int 0)))) (sAsg (eCB gTuple (aL [(eFrz (fComp [10] (iR1 (aL [(eVar 2)])) (gNm 10) tYs (eBin gMul (eTup (aL [(eBin gMod (eCB gInt (aL [(eBin gAdd (eVar 10) (eK (.int 1)))])) (eVar 2))])) (eBin gAdd (eK (.int 1)) (eCallR (f_law_draw N) (aL [(eVar 1), (eK (.int 2))]))))))])) (gNm 3)) sNext)
    (sSeq (sAsg (eFrz (fMake 0 (f_Growth_init N) (aL [(eVar 3)]))) (gNm 4))
    (sSeq (sAsg (eFrz (fMake 0 (f_Growth_init N) (aL [(eFrz (fComp [10] (iR1 (aL [(eVar 2)])) (gNm 10) tYs (eCall (f_grown N) (aL [(eVar 4), (eTup (aL [(eVar 10)])), (eK (.int 2))]))))]))) (gNm 5))
    (sSeq (sAsg (eCB gTuple (aL [(eFrz (fComp [15] (iR1 (aL [(eBin gAdd (eK (.int 1)) (eCallR (f_law_draw N) (aL [(eVar 1), (eK (.int 4))])))])) (gNm 15) tYs (eCallR (f_law_draw N) (aL [(eVar 1), (eVar 2)]))))])) (gNm 6))
    (sSeq (sAsg (eCallR (f_law_draw N) (aL [(eVar 1), (eK (.int 4))])) (gNm 7))
    (sSeq (sIf (tO (tOfB (eBin gNe (eCall (f_grown N) (aL [(eVar 5), (eVar 6), (eVar 7)])) (eCall (f_grown N) (aL [(eVar 4), (eVar 6), (eBin gMul (eK (.int 2)) (eVar 7))])))) (tOfB (eBin gNe (eCall (f_counts_after N) (aL [(eVar 5), (eVar 6), (eK (.int 20))])) (eCall (f_counts_after N) (aL [(eVar 4), (eVar 6), (eK (.int 40))]))))) (sRet (eK (.bl false))) sNext)
    (sSeq (sAsg (eBin gAdd (eK (.int 1)) (eCallR (f_law_some N) (aL [(eVar 1)]))) (gNm 8))
    (sSeq (sAsg (eCallR (f_law_draw N) (aL [(eVar 1), (eBin gPow (eK (.int 10)) (eK (.int 9)))])) (gNm 9))
    (sSeq (sIf (tOfB (eBin gNe (eCall (f_counts_by N) (aL [(eVar 5), (eVar 6), (eVar 9), (eVar 8)])) (eCall (f_counts_by N) (aL [(eVar 4), (eVar 6), (eBin gMul (eK (.int 2)) (eVar 9)), (eVar 8)])))) (sRet (eK (.bl false))) sNext)
    (sSeq (sAsg (eBin gIx (eVar 6) (eK (.int 0))) (gNm 10))
    (sSeq (sAsg (eCB gSumA (aL [(eCall (f_counts_after N) (aL [(eVar 4), (eTup (aL [(eVar 10)])), (eK (.int 12))]))])) (gNm 11))
    (sSeq (sAsg (eCallR (f_law_draw N) (aL [(eVar 1), (eVar 11)])) (gNm 12))
    (sSeq (sIf (tOfB (eBin gNe (eCall (f_letter_at N) (aL [(eVar 5), (eVar 10), (eK (.int 6)), (eVar 12)])) (eCall (f_letter_at N) (aL [(eVar 4), (eVar 10), (eK (.int 12)), (eVar 12)])))) (sRet (eK (.bl false))) sNext)
    (sSeq (sOwn (fLrg (rg1 (eVar 2))) 13)
    (sSeq (sOwn (fLst (aL [])) 14)
    (sSeq (sFor (iR1 (aL [(eVar 2)])) (gNm 15) (sExp (eMt gAppend 14 (aL [(eMt gPopAt 13 (aL [(eCallR (f_law_draw N) (aL [(eVar 1), (eCB gLen (aL [(eVar 13)]))]))]))]))))
    (sSeq (sAsg (eFrz (fMake 0 (f_Growth_init N) (aL [(eFrz (fComp [10] (iR1 (aL [(eVar 2)])) (gNm 10) tYs (eCB gTuple (aL [(eFrz (fComp [21] (iSq (eBin gIx (eVar 3) (eMw gIndex (eVar 14) (aL [(eVar 10)])))) (gNm 21) tYs (eBin gIx (eVar 14) (eVar 21))))]))))]))) (gNm 16))
    (sSeq (sIf (tOfB (eBin gNe (eCall (f_grown N) (aL [(eVar 16), (eCB gTuple (aL [(eFrz (fComp [21] (iSq (eVar 6)) (gNm 21) tYs (eBin gIx (eVar 14) (eVar 21))))])), (eVar 7)])) (eCB gTuple (aL [(eFrz (fComp [21] (iSq (eCall (f_grown N) (aL [(eVar 4), (eVar 6), (eVar 7)]))) (gNm 21) tYs (eBin gIx (eVar 14) (eVar 21))))])))) (sRet (eK (.bl false))) sNext)
    (sSeq (sPar3 17 18 19 (aL [(eCall (f_mixes N) (aL [(eVar 4)])), (eCall (f_mixes N) (aL [(eVar 5)])), (eCall (f_mixes N) (aL [(eVar 16)]))]))
    (sSeq (sIf (tO (tOfB (eBin gNe (eBin gIx (eVar 19) (eK (.int 0))) (eBin gIx (eVar 17) (eK (.int 0))))) (tAn (tOfB (eBin gEq (eBin gIx (eVar 17) (eK (.int 0))) (eK (.str (Str.ofString "mixes"))))) (tOfB (eBin gNe (eBin gIx (eVar 19) (eK (.int 2))) (eBin gIx (eVar 17) (eK (.int 2))))))) (sRet (eK (.bl false))) sNext)
    (sSeq (sIf (tAn (tOfB (eBin gEq (eBin gIx (eVar 17) (eK (.int 0))) (eK (.str (Str.ofString "mixes"))))) (tO (tOfB (eBin gNe (eBin gIx (eVar 18) (eK (.int 0))) (eK (.str (Str.ofString "mixes"))))) (tOfB (eBin gNe (eBin gIx (eVar 18) (eK (.int 2))) (eBin gFdiv (eBin gAdd (eBin gIx (eVar 17) (eK (.int 2))) (eK (.int 1))) (eK (.int 2))))))) (sRet (eK (.bl false))) sNext)
    (sSeq (sIf (tOfB (eBin gEq (eBin gIx (eVar 17) (eK (.int 0))) (eK (.str (Str.ofString "turning"))))) (sSeq (sAsg (eCB gLen (aL [(eBin gIx (eVar 17) (eK (.int 2)))])) (gNm 20))
    (sSeq (sIf (tO (tAn (tOfB (eBin gEq (eBin gMod (eCB gInt (aL [(eVar 20)])) (eK (.int 2))) (eK (.int 0)))) (tOfB (eBin gNe (eBin gIx (eVar 18) (eK (.int 0))) (eK (.str (Str.ofString "closed")))))) (tAn (tOfB (eBin gEq (eBin gMod (eCB gInt (aL [(eVar 20)])) (eK (.int 2))) (eK (.int 1)))) (tO (tOfB (eBin gNe (eBin gIx (eVar 18) (eK (.int 0))) (eK (.str (Str.ofString "turning"))))) (tOfB (eBin gNe (eCB gLen (aL [(eBin gIx (eVar 18) (eK (.int 2)))])) (eVar 20)))))) (sRet (eK (.bl false))) sNext)
    (sIf (tOfB (eBin gNe (eCB gLen (aL [(eBin gIx (eVar 19) (eK (.int 2)))])) (eVar 20))) (sRet (eK (.bl false))) sNext))) sNext)
    (sSeq (sIf (tAn (tOfB (eBin gEq (eBin gIx (eVar 17) (eK (.int 0))) (eK (.str (Str.ofString "closed"))))) (tOfB (eBin gNe (eBin gIx (eVar 18) (eK (.int 0))) (eK (.str (Str.ofString "closed")))))) (sRet (eK (.bl false))) sNext)
    (sRet (eK (.bl true)))))))))))))))))))))))))))))
def f_law (N : Nat) : Fn := runD 22 (m_law N)
end K93
set_option linter.all false
set_option maxRecDepth 100000
namespace K93
/-! ### growths, plainly -/
abbrev Gr := List (List Nat)
def img (G : Gr) (l : Nat) : List Nat := G.getD l []
def len (G : Gr) : Nat → Nat → Nat
  | 0, _ => 1
  | s + 1, l => ((img G l).map (len G s)).sum
/-- which one of some letters, and how far in it -/
def pk (f : Nat → Nat) : List Nat → Nat → Nat → Nat × Nat
  | [], own, a => (own, a)
  | o :: r, _, a => if a < f o then (o, a) else pk f r o (a - f o)
def lt (G : Gr) : Nat → Nat → Nat → Nat
  | 0, l, _ => l
  | s + 1, l, a => lt G s (pk (len G s) (img G l) 0 a).1 (pk (len G s) (img G l) 0 a).2
def sg (G : Gr) (w : List Nat) : List Nat := w.flatMap (img G)
def gw (G : Gr) : Nat → List Nat → List Nat
  | 0, w => w
  | s + 1, w => gw G s (sg G w)
theorem sg_app (G : Gr) (u v : List Nat) : sg G (u ++ v) = sg G u ++ sg G v := List.flatMap_append
theorem gw_app (G : Gr) : ∀ (s : Nat) (u v : List Nat), gw G s (u ++ v) = gw G s u ++ gw G s v
  | 0, _, _ => rfl
  | s + 1, u, v => by rw [gw, sg_app, gw_app G s, gw, gw]
theorem gw_nil (G : Gr) : ∀ s, gw G s [] = []
  | 0 => rfl
  | s + 1 => by rw [gw, show sg G [] = [] from rfl, gw_nil G s]
theorem sg_one (G : Gr) (l : Nat) : sg G [l] = img G l := by simp [sg]
theorem gw_one (G : Gr) (s l : Nat) : gw G (s + 1) [l] = gw G s (img G l) := by rw [gw, sg_one]
theorem gw_add (G : Gr) : ∀ (s t : Nat) (w : List Nat), gw G (s + t) w = gw G t (gw G s w)
  | 0, t, w => by rw [Nat.zero_add, gw]
  | s + 1, t, w => by rw [show s + 1 + t = (s + t) + 1 by omega, gw, gw_add G s t, gw]
theorem gw_len (G : Gr) : ∀ (s : Nat), (∀ l, (gw G s [l]).length = len G s l) ∧ ∀ w : List Nat, (gw G s w).length = (w.map (len G s)).sum := by
  intro s
  have step : (∀ l, (gw G s [l]).length = len G s l) → ∀ w : List Nat, (gw G s w).length = (w.map (len G s)).sum := by
    intro h w
    induction w with
    | nil => rw [gw_nil]; rfl
    | cons l w ih =>
      have : gw G s (l :: w) = gw G s [l] ++ gw G s w := gw_app G s [l] w
      rw [this, List.length_append, h l, ih]
      rfl
  have one : ∀ l, (gw G s [l]).length = len G s l := by
    induction s with
    | zero => intro l; rfl
    | succ s ih =>
      intro l
      have step2 : ∀ w : List Nat, (gw G s w).length = (w.map (len G s)).sum := by
        intro w
        induction w with
        | nil => rw [gw_nil]; rfl
        | cons l w ihw =>
          have : gw G s (l :: w) = gw G s [l] ++ gw G s w := gw_app G s [l] w
          rw [this, List.length_append, ih (fun h w => by
            induction w with
            | nil => rw [gw_nil]; rfl
            | cons x w ihx =>
              have : gw G s (x :: w) = gw G s [x] ++ gw G s w := gw_app G s [x] w
              rw [this, List.length_append, h x, ihx]
              rfl) l, ihw]
          rfl
      rw [gw_one, step2, len]
  exact ⟨one, step one⟩
/-- the letter that is picked -/
theorem pk_gw (G : Gr) (s : Nat) : ∀ (r : List Nat) (o a : Nat), a < (r.map (len G s)).sum → (pk (len G s) r o a).1 ∈ r ∧ (pk (len G s) r o a).2 < len G s (pk (len G s) r o a).1 ∧ (gw G s r)[a]? = (gw G s [(pk (len G s) r o a).1])[(pk (len G s) r o a).2]?
  | [], o, a, h => by simp at h
  | x :: r, o, a, h => by
    have e : gw G s (x :: r) = gw G s [x] ++ gw G s r := gw_app G s [x] r
    have hx := (gw_len G s).1 x
    rw [pk]
    by_cases c : a < len G s x
    · rw [if_pos c]
      exact ⟨List.mem_cons_self, c, by rw [e, List.getElem?_append_left (by rw [hx]; exact c)]⟩
    · rw [if_neg c]
      rw [List.map_cons, List.sum_cons] at h
      obtain ⟨h1, h2, h3⟩ := pk_gw G s r x (a - len G s x) (by omega)
      refine ⟨List.mem_cons_of_mem _ h1, h2, ?_⟩
      rw [← h3, e, List.getElem?_append_right (by rw [hx]; omega), hx]
theorem lt_gw (G : Gr) : ∀ (s l a : Nat), a < len G s l → (gw G s [l])[a]? = some (lt G s l a)
  | 0, l, a, h => by
    have : a = 0 := by
      rw [len] at h
      omega
    subst this
    rfl
  | s + 1, l, a, h => by
    rw [len] at h
    obtain ⟨h1, h2, h3⟩ := pk_gw G s (img G l) 0 a h
    rw [gw_one, h3, lt_gw G s _ _ h2, lt]
structure Good (G : Gr) : Prop where
  n1 : 1 ≤ G.length
  n6 : G.length ≤ 6
  ne : ∀ r ∈ G, r ≠ [] ∧ r.length ≤ 12
  lt : ∀ r ∈ G, ∀ v ∈ r, v < G.length
theorem img_mem {G : Gr} {l : Nat} (h : l < G.length) : img G l ∈ G := by
  unfold img
  rw [List.getD_eq_getElem?_getD, List.getElem?_eq_getElem h]
  exact List.getElem_mem _
theorem sg_lt {G : Gr} (h : Good G) {w : List Nat} (hw : ∀ v ∈ w, v < G.length) : ∀ v ∈ sg G w, v < G.length := by
  intro v hv
  obtain ⟨l, hl, hv⟩ := List.mem_flatMap.1 hv
  exact h.lt _ (img_mem (hw l hl)) v hv
theorem gw_lt {G : Gr} (h : Good G) : ∀ (s : Nat) {w : List Nat}, (∀ v ∈ w, v < G.length) → ∀ v ∈ gw G s w, v < G.length
  | 0, w, hw => hw
  | s + 1, w, hw => gw_lt h s (sg_lt h hw)
/-! two steps at once -/
def two (G : Gr) : Gr := (List.range G.length).map fun l => gw G 2 [l]
theorem two_img {G : Gr} {l : Nat} (h : l < G.length) : img (two G) l = gw G 2 [l] := by
  unfold img two
  rw [List.getD_eq_getElem?_getD, List.getElem?_map, List.getElem?_range h]
  rfl
theorem two_len (G : Gr) : (two G).length = G.length := by simp [two]
theorem two_sg {G : Gr} : ∀ {w : List Nat}, (∀ v ∈ w, v < G.length) → sg (two G) w = gw G 2 w
  | [], _ => by rw [gw_nil]; rfl
  | l :: w, h => by
    have e : gw G 2 (l :: w) = gw G 2 [l] ++ gw G 2 w := gw_app G 2 [l] w
    rw [e, ← two_sg fun v hv => h v (List.mem_cons_of_mem _ hv), ← two_img (h l List.mem_cons_self)]
    rfl
theorem two_gw {G : Gr} (hG : Good G) : ∀ (s : Nat) {w : List Nat}, (∀ v ∈ w, v < G.length) → gw (two G) s w = gw G (2 * s) w
  | 0, w, _ => rfl
  | s + 1, w, h => by
    rw [gw, two_sg h, two_gw hG s (gw_lt hG 2 h), show 2 * (s + 1) = 2 + 2 * s by omega, gw_add]
theorem two_lt {G : Gr} (hG : Good G) {s l a : Nat} (hl : l < G.length) (ha : a < len G (2 * s) l) : a < len (two G) s l ∧ lt (two G) s l a = lt G (2 * s) l a := by
  have e := two_gw hG s (w := [l]) (by simpa using hl)
  have h1 : len (two G) s l = len G (2 * s) l := by rw [← (gw_len (two G) s).1, e, (gw_len G (2 * s)).1]
  have ha' : a < len (two G) s l := by rw [h1]; exact ha
  have h2 := lt_gw (two G) s l a ha'
  rw [e, lt_gw G (2 * s) l a ha] at h2
  exact ⟨ha', (Option.some.inj h2).symm⟩
theorem sum_le {f : Nat → Nat} {c : Nat} : ∀ {w : List Nat}, (∀ v ∈ w, f v ≤ c) → (w.map f).sum ≤ w.length * c
  | [], _ => by simp
  | v :: w, h => by
    have h1 := sum_le (w := w) fun x hx => h x (List.mem_cons_of_mem _ hx)
    have h2 := h v List.mem_cons_self
    rw [List.map_cons, List.sum_cons, List.length_cons, Nat.succ_mul]
    omega
theorem sg_len {G : Gr} {c : Nat} (hc : ∀ r ∈ G, r.length ≤ c) {w : List Nat} (hw : ∀ v ∈ w, v < G.length) : (sg G w).length ≤ w.length * c := by
  unfold sg
  rw [List.length_flatMap]
  exact sum_le fun v hv => hc _ (img_mem (hw v hv))
/-! ### counts -/
def cnt (n : Nat) (w : List Nat) : List Nat := (List.range n).map fun j => w.count j
theorem cnt_at {n j : Nat} (w : List Nat) (h : j < n) : (cnt n w).getD j 0 = w.count j := by
  unfold cnt
  rw [List.getD_eq_getElem?_getD, List.getElem?_map, List.getElem?_range h]
  rfl
/-- a sum over the letters -/
def sm : Nat → (Nat → Nat) → Nat
  | 0, _ => 0
  | n + 1, f => sm n f + f n
theorem sm_range (f : Nat → Nat) : ∀ n, ((List.range n).map f).sum = sm n f
  | 0 => rfl
  | n + 1 => by
    rw [List.range_succ, List.map_append, List.sum_append, sm_range f n]
    simp [sm]
theorem sm_congr {f g : Nat → Nat} : ∀ {n : Nat}, (∀ k, k < n → f k = g k) → sm n f = sm n g
  | 0, _ => rfl
  | n + 1, h => by rw [sm, sm, sm_congr fun k hk => h k (by omega), h n (by omega)]
theorem sm_zero : ∀ n, sm n (fun _ => 0) = 0
  | 0 => rfl
  | n + 1 => by rw [sm, sm_zero n]
theorem sm_add (f g : Nat → Nat) : ∀ n, sm n (fun k => f k + g k) = sm n f + sm n g
  | 0 => rfl
  | n + 1 => by
    simp only [sm, sm_add f g n]
    omega
theorem sm_ind (f : Nat → Nat) (l : Nat) : ∀ n, sm n (fun k => (if k = l then 1 else 0) * f k) = if l < n then f l else 0
  | 0 => rfl
  | n + 1 => by
    rw [sm, sm_ind f l n]
    by_cases c : n = l
    · subst c
      simp
    · by_cases c2 : l < n
      · simp [c, c2, show l < n + 1 by omega]
      · simp [c, c2, show ¬ l < n + 1 by omega]
/-- counts of a grown word -/
theorem cnt_step (G : Gr) (s j : Nat) : ∀ {w : List Nat}, (∀ v ∈ w, v < G.length) → sm G.length (fun k => w.count k * (gw G s [k]).count j) = (gw G s w).count j
  | [], _ => by
    rw [gw_nil]
    have : (fun k => ([] : List Nat).count k * (gw G s [k]).count j) = fun _ => 0 := by
      funext k
      simp
    rw [this, sm_zero]
    rfl
  | l :: w, h => by
    have ih := cnt_step G s j (w := w) fun v hv => h v (List.mem_cons_of_mem _ hv)
    have e : gw G s (l :: w) = gw G s [l] ++ gw G s w := gw_app G s [l] w
    have e2 : (fun k => (l :: w).count k * (gw G s [k]).count j) = fun k => (if k = l then 1 else 0) * (gw G s [k]).count j + w.count k * (gw G s [k]).count j := by
      funext k
      rw [List.count_cons]
      by_cases c : k = l
      · subst c
        simp [Nat.add_mul]
        omega
      · have c2 : ¬ l = k := fun z => c z.symm
        simp [c, c2]
    rw [e, List.count_append, ← ih, e2, sm_add, sm_ind, if_pos (h l List.mem_cons_self)]
/-- counts modulo m: what a row times a power tells -/
theorem sm_mod (m : Nat) (f g f' g' : Nat → Nat) : ∀ n, (∀ k, k < n → f k % m = f' k % m ∧ g k % m = g' k % m) → sm n (fun k => f k * g k) % m = sm n (fun k => f' k * g' k) % m
  | 0, _ => rfl
  | n + 1, h => by
    rw [sm, sm, Nat.add_mod, sm_mod m f g f' g' n fun k hk => h k (by omega), Nat.mul_mod, (h n (by omega)).1, (h n (by omega)).2, ← Nat.mul_mod, ← Nat.add_mod]
/-! ### letters with other names -/
theorem sg_named {G H : Gr} {φ : Nat → Nat} (h : ∀ l, l < G.length → img H (φ l) = (img G l).map φ) : ∀ {w : List Nat}, (∀ v ∈ w, v < G.length) → sg H (w.map φ) = (sg G w).map φ
  | [], _ => rfl
  | l :: w, hw => by
    have ih := sg_named h (w := w) fun v hv => hw v (List.mem_cons_of_mem _ hv)
    unfold sg at *
    rw [List.map_cons, List.flatMap_cons, List.flatMap_cons, List.map_append, ih, h l (hw l List.mem_cons_self)]
theorem gw_named {G H : Gr} (hG : Good G) {φ : Nat → Nat} (h : ∀ l, l < G.length → img H (φ l) = (img G l).map φ) : ∀ (s : Nat) {w : List Nat}, (∀ v ∈ w, v < G.length) → gw H s (w.map φ) = (gw G s w).map φ
  | 0, w, _ => rfl
  | s + 1, w, hw => by rw [gw, sg_named h hw, gw_named hG h s (sg_lt hG hw), gw]
end K93
set_option linter.all false
set_option maxRecDepth 100000
namespace K93
open PySem L2 MP
abbrev tN (l : List Nat) : D := .tup (nL l)
def gD (G : Gr) : D := .obj 0 [.tup (G.map tN)]
theorem all_y {α : Type} (l : List α) : gAll [.lst (l.map fun _ => D.bl true)] = some (.bl true) := by
  have := MP.gAll_m (fun _ : α => true) l
  rw [this]
  simp
theorem checked80 {N : Nat} {G : Gr} (hG : Good G) {w : List Nat} (hw : ∀ v ∈ w, v < G.length) (hl : w.length ≤ 20000) : f_checked_word N [.val (gD G), .val (.tup (nL w))] = some (.d (.tup (nL w)), [.val (gD G), .val (.tup (nL w))]) := by
  have c1 := comp1 (fun (u : Nat) => D.int u) (fun _ => D.bl true) (k := 2) (m := eChain gLe gLt (eK (.int 0)) (eVar 2) (eCB gLen (aL [(eUn (gFld 0 0) (eVar 0))]))) w [.val (gD G), .val (.tup (nL w)), .none] rfl (by omega) (fun v hv => by
    have h := hw v hv
    simp [gD, h])
  have a1 := all_y w
  unfold f_checked_word runD m_checked_word
  unfold gD at *
  unfold nL at *
  simp [-List.map_map, c1, a1, outsOf]
/-! tables of lengths -/
def lrow (G : Gr) (s : Nat) : List D := (List.range G.length).map fun l => D.int (len G s l : Nat)
def rows (G : Gr) (m : Nat) : List D := (List.range m).map fun s => D.lst (lrow G s)
theorem lrow_at {G : Gr} (s : Nat) {l : Nat} (h : l < G.length) : atI (lrow G s) (l : Int) = some (.int (len G s l : Nat)) := by
  rw [atI_cast]
  unfold lrow
  simp [h]
theorem rows_at (G : Gr) {m s : Nat} (h : s < m) : atI (rows G m) (s : Int) = some (.lst (lrow G s)) := by
  rw [atI_cast]
  unfold rows
  simp [h]
theorem rows_last (G : Gr) (m : Nat) : atI (rows G (m + 1)) (-1) = some (.lst (lrow G m)) := by
  have := atI_neg (rows G (m + 1)) 1 (by decide) (by simp [rows])
  rw [show (-((1 : Nat) : Int)) = -1 from rfl] at this
  rw [this]
  unfold rows
  simp
theorem sum_cast {α : Type} (f : α → Nat) : ∀ l : List α, (l.map fun a => (f a : Int)).sum = ((l.map f).sum : Nat)
  | [] => rfl
  | a :: l => by
    simp only [List.map_cons, List.sum_cons, sum_cast f l]
    omega
theorem map_getD (G : Gr) (f : List Nat → D) : G.map f = (List.range G.length).map fun l => f (img G l) := by
  refine List.ext_getElem (by simp) fun i h1 h2 => ?_
  simp only [List.length_map] at h1
  simp [img, h1]
abbrev lB1 : Xs := sExp (eMt gAppend 4 (aL [(eFrz (fComp [8] (iSq (eUn (gFld 0 0) (eVar 0))) (gNm 8) tYs (eCB gSum (aL [(eFrz (fComp [7] (iSq (eVar 8)) (gNm 7) tYs (eBin gIx (eBin gIx (eVar 4) (eUn gNeg (eK (.int 1)))) (eVar 7))))]))))]))
theorem lB1_ok {G : Gr} (hG : Good G) (l st a : D) (m : Nat) (hm : m ≤ 1000) (s5 : MP.Slot) : lB1 [.val (gD G), .val l, .val st, .val a, .own (.lst (rows G (m + 1))), s5, .none, .none, .none] = some (.nx, [.val (gD G), .val l, .val st, .val a, .own (.lst (rows G (m + 2))), s5, .none, .none, .none]) := by
  have c8 := comp1 tN (fun r => D.int ((r.map (len G m)).sum : Nat)) (k := 8) (m := eCB gSum (aL [(eFrz (fComp [7] (iSq (eVar 8)) (gNm 7) tYs (eBin gIx (eBin gIx (eVar 4) (eUn gNeg (eK (.int 1)))) (eVar 7))))])) G [.val (gD G), .val l, .val st, .val a, .own (.lst (rows G (m + 1))), s5, .none, .none, .none] rfl (by have := hG.n6; omega) (fun r hr => by
    have c7 := comp1 (fun (u : Nat) => D.int u) (fun u => D.int (len G m u : Nat)) (k := 7) (m := eBin gIx (eBin gIx (eVar 4) (eUn gNeg (eK (.int 1)))) (eVar 7)) r [.val (gD G), .val l, .val st, .val a, .own (.lst (rows G (m + 1))), s5, .none, .none, .val (tN r)] rfl (by have := (hG.ne r hr).2; omega) (fun u hu => by
      have h1 := rows_last G m
      have h2 := lrow_at (G := G) m (hG.lt r hr u hu)
      simp [h1, h2])
    have hs := gSum_m (fun u => (len G m u : Int)) r
    rw [sum_cast] at hs
    unfold nL at *
    simp [-List.map_map, c7, hs])
  have e : rows G (m + 2) = rows G (m + 1) ++ [.lst (lrow G (m + 1))] := by
    unfold rows
    rw [show m + 2 = (m + 1) + 1 from rfl, List.range_succ (n := m + 1), List.map_append]
    rfl
  have e2 : (G.map fun r => D.int ((r.map (len G m)).sum : Nat)) = lrow G (m + 1) := by
    rw [map_getD]
    rfl
  have hl : (rows G (m + 1)).length = m + 1 := by simp [rows]
  rw [e2] at c8
  rw [e]
  unfold lB1
  unfold gD at *
  generalize rows G (m + 1) = R at *
  generalize lrow G (m + 1) = L at *
  have hl2 : R.length < 16777216 := by omega
  simp [-List.map_map, c8, hl2]
/-! the walk down -/
def dn : Nat → List D
  | 0 => []
  | s + 1 => .int (s : Nat) :: dn s
theorem dn_eq : ∀ s : Nat, rgDn ((s : Int) - 1) s = dn s := by
  intro s
  refine List.ext_getElem? fun i => ?_
  rw [rgDn_get]
  induction s generalizing i with
  | zero => simp [dn]
  | succ s ih =>
    cases i with
    | zero =>
      simp [dn]
    | succ i =>
      rw [dn, List.getElem?_cons_succ, ← ih i]
      by_cases h : i < s
      · rw [if_pos h, if_pos (by omega)]
        congr 2
        omega
      · rw [if_neg h, if_neg (by omega)]
abbrev lB2 : Xs := sSeq (sIf (tOfB (eBin gLt (eVar 3) (eBin gIx (eBin gIx (eVar 4) (eVar 6)) (eVar 7)))) sBrk sNext)
    (sAsg (eBin gSub (eVar 3) (eBin gIx (eBin gIx (eVar 4) (eVar 6)) (eVar 7))) (gNm 3))
theorem sLoop_brk {g : Xg} {s : Xs} {d : D} {ds : List D} {env e1 e2 : MEnv} (h1 : g d env = some e1) (h2 : s e1 = some (.bk, e2)) : sLoop g s (d :: ds) env = some (.nx, e2) := by
  show (match g d env with | none => none | some e1 => match s e1 with | none => none | some (.nx, e2) => sLoop g s ds e2 | some (.ct, e2) => sLoop g s ds e2 | some (.bk, e2) => some (.nx, e2) | some (.ret r, e2) => some (.ret r, e2)) = _
  rw [h1]
  simp only
  rw [h2]
theorem in_loop {G : Gr} {m s : Nat} (hs : s < m) (gd l st : MP.Slot) (s5 : MP.Slot) : ∀ (r : List Nat) (o a : Nat), (∀ v ∈ r, v < G.length) →
    sLoop (gNm 7) lB2 (nL r) [gd, l, st, .val (.int a), .own (.lst (rows G m)), s5, .val (.int s), .val (.int o), .none] =
      some (.nx, [gd, l, st, .val (.int (pk (len G s) r o a).2), .own (.lst (rows G m)), s5, .val (.int s), .val (.int (pk (len G s) r o a).1), .none])
  | [], o, a, _ => rfl
  | v :: r, o, a, h => by
    have h1 := rows_at G hs
    have h2 := lrow_at (G := G) s (h v List.mem_cons_self)
    rw [show nL (v :: r) = D.int (v : Nat) :: nL r from rfl]
    generalize hR : rows G m = R at *
    generalize lrow G s = L at *
    by_cases c : a < len G s v
    · rw [sLoop_brk (e1 := [gd, l, st, .val (.int a), .own (.lst R), s5, .val (.int s), .val (.int v), .none]) (e2 := [gd, l, st, .val (.int a), .own (.lst R), s5, .val (.int s), .val (.int v), .none]) (by simp) (by simp [h1, h2, c])]
      rw [pk, if_pos c]
    · have e : ((a : Int) - (len G s v : Nat)) = ((a - len G s v : Nat) : Int) := by omega
      rw [sLoop_cons (e1 := [gd, l, st, .val (.int a), .own (.lst R), s5, .val (.int s), .val (.int v), .none]) (e2 := [gd, l, st, .val (.int ((a - len G s v : Nat) : Int)), .own (.lst R), s5, .val (.int s), .val (.int v), .none]) (by simp) (by simp [h1, h2, c, e])]
      rw [pk, if_neg c, ← hR]
      exact in_loop hs gd l st s5 r v _ fun x hx => h x (List.mem_cons_of_mem _ hx)
theorem in_loop0 {G : Gr} {m s : Nat} (hs : s < m) (gd l st : MP.Slot) (s5 s7 : MP.Slot) {r : List Nat} (hr : r ≠ []) (a : Nat) (h : ∀ v ∈ r, v < G.length) (h7 : ∀ o, s7 ≠ .own o) :
    sLoop (gNm 7) lB2 (nL r) [gd, l, st, .val (.int a), .own (.lst (rows G m)), s5, .val (.int s), s7, .none] =
      some (.nx, [gd, l, st, .val (.int (pk (len G s) r 0 a).2), .own (.lst (rows G m)), s5, .val (.int s), .val (.int (pk (len G s) r 0 a).1), .none]) := by
  rw [← in_loop hs gd l st s5 r 0 a h]
  cases r with
  | nil => exact absurd rfl hr
  | cons v r =>
    simp only [List.map_cons, sLoop, gNm_s, List.length_cons, List.length_nil, List.set_cons_succ, List.set_cons_zero]
theorem out_loop {G : Gr} (hG : Good G) {m : Nat} (st : MP.Slot) (s5 : MP.Slot) : ∀ (s l a : Nat) (s6 s7 : MP.Slot), s ≤ m → l < G.length → (∀ o, s7 ≠ .own o) → ∃ (a' : Nat) (s6' s7' : MP.Slot), lt G s l a < G.length ∧
    sLoop (gNm 6) (sSeq (sFor (iSq (eBin gIx (eUn (gFld 0 0) (eVar 0)) (eVar 1))) (gNm 7) lB2) (sAsg (eVar 7) (gNm 1))) (dn s) [.val (gD G), .val (.int l), st, .val (.int a), .own (.lst (rows G m)), s5, s6, s7, .none] =
      some (.nx, [.val (gD G), .val (.int (lt G s l a)), st, .val (.int a'), .own (.lst (rows G m)), s5, s6', s7', .none])
  | 0, l, a, s6, s7, _, hl, _ => ⟨a, s6, s7, hl, rfl⟩
  | s + 1, l, a, s6, s7, hs, hl, h7 => by
    have hm := img_mem hl
    have hin := in_loop0 (G := G) (m := m) (s := s) hs (.val (gD G)) (.val (.int l)) st s5 s7 (hG.ne _ hm).1 a (hG.lt _ hm) h7
    have hp : ∀ (r : List Nat) (o a : Nat), (∀ v ∈ r, v < G.length) → o < G.length → (pk (len G s) r o a).1 < G.length := by
      intro r
      induction r with
      | nil => intro o a _ ho; exact ho
      | cons v r ih =>
        intro o a h ho
        rw [pk]
        by_cases c : a < len G s v
        · rw [if_pos c]; exact h v List.mem_cons_self
        · rw [if_neg c]; exact ih v _ (fun x hx => h x (List.mem_cons_of_mem _ hx)) (h v List.mem_cons_self)
    have hpl := hp (img G l) 0 a (hG.lt _ hm) (by have := hG.n1; omega)
    obtain ⟨a', s6', s7', h1, h2⟩ := out_loop hG (m := m) st s5 s (pk (len G s) (img G l) 0 a).1 (pk (len G s) (img G l) 0 a).2 (.val (.int s)) (.val (.int (pk (len G s) (img G l) 0 a).1)) (by omega) hpl (by simp)
    refine ⟨a', s6', s7', h1, ?_⟩
    rw [lt, ← h2, dn]
    have hx : atI (G.map tN) (l : Int) = some (tN (img G l)) := by
      rw [atI_cast, List.getElem?_map]
      simp [img, hl]
    refine sLoop_cons (e1 := [.val (gD G), .val (.int l), st, .val (.int a), .own (.lst (rows G m)), s5, .val (.int s), s7, .none]) (by simp) ?_
    rw [sSeq_nx (e1 := [.val (gD G), .val (.int l), st, .val (.int (pk (len G s) (img G l) 0 a).2), .own (.lst (rows G m)), s5, .val (.int s), .val (.int (pk (len G s) (img G l) 0 a).1), .none]) (by
      rw [← hin]
      unfold gD at *
      generalize rows G m = R at *
      unfold lB2
      generalize G.map tN = GT at *
      simp only [sFor_s, iSq_s, eBin_s, eUn_s, eVar_s, List.getElem?_cons_zero, List.getElem?_cons_succ, vw_d, gFld_s, gIx_t, hx, esc_d]
      simp [hx])]
    simp
theorem row0 (G : Gr) : (List.replicate G.length [D.int 1]).flatten = lrow G 0 := by
  unfold lrow
  have : ∀ n : Nat, (List.replicate n [D.int 1]).flatten = (List.range n).map fun l => D.int (len G 0 l : Nat) := by
    intro n
    induction n with
    | zero => rfl
    | succ n ih =>
      rw [List.range_succ, List.map_append, ← ih, List.replicate_succ', List.flatten_append]
      rfl
  exact this _
theorem b1_loop {G : Gr} (hG : Good G) (l st a : D) : ∀ (ds : List Nat) (k : Nat) (s5 : MP.Slot), k + ds.length ≤ 500 → ∃ s5', sLoop (gNm 5) lB1 (nL ds) [.val (gD G), .val l, .val st, .val a, .own (.lst (rows G (k + 1))), s5, .none, .none, .none] = some (.nx, [.val (gD G), .val l, .val st, .val a, .own (.lst (rows G (k + ds.length + 1))), s5', .none, .none, .none])
  | [], k, s5, _ => ⟨s5, rfl⟩
  | d :: ds, k, s5, h => by
    rw [List.length_cons] at h
    obtain ⟨s5', h1⟩ := b1_loop hG l st a ds (k + 1) (.val (.int d)) (by omega)
    refine ⟨s5', ?_⟩
    rw [show nL (d :: ds) = D.int (d : Nat) :: nL ds from rfl, List.length_cons, show k + (ds.length + 1) + 1 = k + 1 + ds.length + 1 by omega, ← h1]
    exact sLoop_cons (by simp) (lB1_ok hG l st a k (by omega) _)
theorem letter80 {N : Nat} {G : Gr} (hG : Good G) {l st a : Nat} (hl : l < G.length) (hs : st ≤ 400) (ha : a < len G st l) : ∃ o, f_letter_at N [.val (gD G), .val (.int l), .val (.int st), .val (.int a)] = some (.d (.int (lt G st l a)), o) := by
  have hc := checked80 (N := N) hG (w := [l]) (by simpa using hl) (by simp)
  obtain ⟨s5, h1⟩ := b1_loop hG (.int l) (.int st) (.int a) (List.range st) 0 .none (by simp; omega)
  simp only [List.length_range, Nat.zero_add] at h1
  have er : rgD 0 st = nL (List.range st) := by simp [rgD, nL]
  rw [← er] at h1
  obtain ⟨a', s6', s7', h2, h3⟩ := out_loop hG (m := st + 1) (.val (.int st)) s5 st l a .none .none (by omega) hl (by simp)
  rw [← dn_eq] at h3
  have r1 : rows G 1 = [.lst (lrow G 0)] := rfl
  rw [r1] at h1
  have r2 := rows_at G (m := st + 1) (s := st) (by omega)
  have r3 := lrow_at (G := G) st hl
  have hn6 := hG.n6
  have rr := row0 G
  have ok1 : okK (G.length : Int) = true := okK_iff _ ⟨by omega, by omega⟩
  have ok3 : okR ((st : Int) - 1) = true := okR_iff _ ⟨by omega, by omega⟩
  have hst : ((st : Int) - 1 - -1).toNat = st := by omega
  have hst2 : (st : Int) ≤ 2000 := by omega
  have hlt : (G.map tN).length = G.length := List.length_map _
  have main : m_letter_at N [.val (gD G), .val (.int l), .val (.int st), .val (.int a), .none, .none, .none, .none, .none] = some (.ret (.d (.int (lt G st l a))), [.val (gD G), .val (.int (lt G st l a)), .val (.int st), .val (.int a'), .own (.lst (rows G (st + 1))), s5, s6', s7', .none]) := by
    unfold m_letter_at
    unfold gD at *
    rw [show nL [l] = [D.int (l : Nat)] from rfl] at hc
    generalize rows G (st + 1) = R at *
    generalize lrow G 0 = L0 at *
    generalize lrow G st = L1 at *
    generalize G.map tN = GT at *
    have ok1' : okK (GT.length : Int) = true := by rw [hlt]; exact ok1
    rw [← hlt] at rr hn6
    have sz : GT.length ≤ 16777216 := by omega
    rw [sSeq_nx (e1 := [.val (.obj 0 [.tup GT]), .val (.int l), .val (.int st), .val (.int a), .none, .none, .none, .none, .none]) (by simp [hc])]
    rw [sSeq_nx (e1 := [.val (.obj 0 [.tup GT]), .val (.int l), .val (.int st), .val (.int a), .none, .none, .none, .none, .none]) (by simp [hst2])]
    rw [sSeq_nx (e1 := [.val (.obj 0 [.tup GT]), .val (.int l), .val (.int st), .val (.int a), .own (.lst [.lst L0]), .none, .none, .none, .none]) (by simp [ok1', sz, rr])]
    rw [sSeq_nx (e1 := [.val (.obj 0 [.tup GT]), .val (.int l), .val (.int st), .val (.int a), .own (.lst R), s5, .none, .none, .none]) (by
      rw [← h1]
      simp [okR_nat st (by omega)])]
    rw [sSeq_nx (e1 := [.val (.obj 0 [.tup GT]), .val (.int l), .val (.int st), .val (.int a), .own (.lst R), s5, .none, .none, .none]) (by simp [r2, r3, ha])]
    rw [sSeq_nx (e1 := [.val (.obj 0 [.tup GT]), .val (.int (lt G st l a)), .val (.int st), .val (.int a'), .own (.lst R), s5, s6', s7', .none]) (by
      rw [← h3]
      simp [ok3, hst, show okR (-1) = true from rfl])]
    simp
  refine ⟨outsOf [.val (gD G), .val (.int l), .val (.int st), .val (.int a)] [.val (gD G), .val (.int (lt G st l a)), .val (.int st), .val (.int a'), .own (.lst (rows G (st + 1))), s5, s6', s7', .none], ?_⟩
  unfold f_letter_at runD
  have e : ([.val (gD G), .val (.int l), .val (.int st), .val (.int a)] ++ List.replicate (9 - [MP.Slot.val (gD G), .val (.int l), .val (.int st), .val (.int a)].length) MP.Slot.none) = [.val (gD G), .val (.int l), .val (.int st), .val (.int a), .none, .none, .none, .none, .none] := rfl
  rw [e, main]
  simp
theorem cLoop2_map {α : Type} (enc : α → D) (res : α → List D) {vs vs1 : List Nat} {g g1 : Xg} {t t1 : Xt} {mi1 : Xi} {m : Xp} {env : MEnv} : ∀ (ls : List α) (acc : List D),
    (∀ a ∈ ls, ∃ e1 ds1 e3 e4, g (enc a) env = some e1 ∧ t e1 = some (true, e1) ∧ mi1 e1 = some (ds1, e3) ∧ (∀ acc : List D, acc.length + (res a).length ≤ 16777216 → cLoop vs1 g1 t1 m ds1 acc (wipeE e3 vs1) = some (acc ++ res a, e4)) ∧ wipeE e4 vs = env) →
    acc.length + (ls.flatMap res).length ≤ 16777216 → cLoop2 vs g t mi1 vs1 g1 t1 m (ls.map enc) acc env = some (acc ++ ls.flatMap res, env)
  | [], acc, _, _ => by simp [cLoop2]
  | a :: ls, acc, h, hl => by
    obtain ⟨e1, ds1, e3, e4, h1, h2, h3, h4, h5⟩ := h a List.mem_cons_self
    rw [List.flatMap_cons, List.length_append] at hl
    have ih := cLoop2_map enc res ls (acc ++ res a) (fun b hb => h b (List.mem_cons_of_mem _ hb)) (by rw [List.length_append]; omega)
    rw [List.map_cons]
    unfold cLoop2
    rw [h1]
    simp only
    rw [h2]
    simp only
    rw [h3]
    simp only
    rw [h4 acc (by omega)]
    simp only
    rw [h5, ih, List.flatMap_cons, List.append_assoc]

theorem cast_sum {α : Type} (f : α → Nat) (l : List α) : (l.map fun a => (f a : Int)).sum = ((l.map f).sum : Nat) := sum_cast f l
theorem growth_init {N : Nat} {G : Gr} (hG : Good G) {d : D} (hd : d = .lst (G.map tN) ∨ d = .tup (G.map tN)) : f_Growth_init N [.own (.ins 0 []), .val d] = some (.d .non, [.own (.ins 0 [.tup (G.map tN)]), .val d]) := by
  have hn6 := hG.n6
  have hn1 := hG.n1
  have c1 := comp1 tN tN (k := 2) (m := eCB gTuple (aL [(eVar 2)])) G [.own (.ins 0 []), .val d, .none, .none] rfl (by omega) (fun r _ => by
    simp [gTuple])
  have c2 := comp1 tN (fun _ => D.bl true) (k := 2) (m := eChain gLe gLe (eK (.int 1)) (eCB gLen (aL [(eVar 2)])) (eK (.int 12))) G [.own (.ins 0 [.tup (G.map tN)]), .val d, .none, .none] rfl (by omega) (fun r hr => by
    have h := hG.ne r hr
    have h1 : 1 ≤ r.length := List.length_pos_iff.2 h.1
    have hl := nL_len r
    have l1 : 1 ≤ r.length := by omega
    have l2 : r.length ≤ 12 := by omega
    have l3 : (1 : Int) ≤ r.length := by omega
    have l4 : (r.length : Int) ≤ 12 := by omega
    simp [hl, l1, l2, l3, l4])
  have c3 := cLoop2_map (vs := [2, 3]) (vs1 := [3]) (g := gNm 2) (g1 := gNm 3) (t := tYs) (t1 := tYs) (mi1 := iSq (eVar 2)) (m := eChain gLe gLt (eK (.int 0)) (eVar 3) (eCB gLen (aL [(eUn (gFld 0 0) (eVar 0))]))) (env := [.own (.ins 0 [.tup (G.map tN)]), .val d, .none, .none]) tN (fun r => r.map fun _ => D.bl true) G [] (fun r hr => by
    refine ⟨[.own (.ins 0 [.tup (G.map tN)]), .val d, .val (tN r), .none], nL r, [.own (.ins 0 [.tup (G.map tN)]), .val d, .val (tN r), .none], [.own (.ins 0 [.tup (G.map tN)]), .val d, .val (tN r), .none], by simp, by simp, by simp, fun acc hacc => ?_, by simp⟩
    have c := cLoop_mapV (vs := [3]) (g := gNm 3) (m := eChain gLe gLt (eK (.int 0)) (eVar 3) (eCB gLen (aL [(eUn (gFld 0 0) (eVar 0))]))) (env := [.own (.ins 0 [.tup (G.map tN)]), .val d, .val (tN r), .none]) (fun (u : Nat) => D.int u) (fun _ => D.bl true) r acc (fun v hv => ⟨[.own (.ins 0 [.tup (G.map tN)]), .val d, .val (tN r), .val (.int v)], by simp, by
      have h := hG.lt r hr v hv
      have hl : (G.map tN).length = G.length := List.length_map _
      generalize G.map tN = GT at *
      have h2 : (v : Int) < GT.length := by omega
      have h3 : v < GT.length := by omega
      simp [h2, h3], by simp⟩) (by rw [List.length_map] at hacc; exact hacc)
    simpa [nL] using c) (by
      have : ∀ (M : List (List Nat)), (∀ r ∈ M, r.length ≤ 12) → (M.flatMap fun r => r.map fun _ => D.bl true).length ≤ M.length * 12 := by
        intro M
        induction M with
        | nil => intro _; simp
        | cons r M ih =>
          intro hM
          have h1 := ih fun x hx => hM x (List.mem_cons_of_mem _ hx)
          have h2 := hM r List.mem_cons_self
          rw [List.flatMap_cons, List.length_append, List.length_map, List.length_cons, Nat.succ_mul]
          omega
      have := this G fun r hr => (hG.ne r hr).2
      rw [List.length_nil]
      omega)
  have a1 := all_y G
  have a2 : gAll [.lst (G.flatMap fun r => r.map fun _ => D.bl true)] = some (.bl true) := by
    have : (G.flatMap fun r => r.map fun _ => D.bl true) = (G.flatMap id).map fun _ => D.bl true := by
      rw [List.map_flatMap]
      rfl
    rw [this]
    exact all_y _
  rw [List.nil_append] at c3
  have hl : (G.map tN).length = G.length := List.length_map _
  unfold f_Growth_init runD m_Growth_init
  generalize (G.map fun _ => D.bl true) = Y1 at *
  generalize (G.flatMap fun r => r.map fun _ => D.bl true) = Y2 at *
  generalize G.map tN = GT at *
  have n1 : (1 : Int) ≤ GT.length := by omega
  have n2 : (GT.length : Int) ≤ 6 := by omega
  have n3 : 1 ≤ GT.length := by omega
  have n4 : GT.length ≤ 6 := by omega
  rcases hd with rfl | rfl <;> simp [c1, c2, c3, a1, a2, n1, n2, n3, n4, gTuple, truD, outsOf]
/-! grown -/
theorem ix_G {G : Gr} {l : Nat} (h : l < G.length) : gIx (.tup (G.map tN)) (.int l) = some (tN (img G l)) := by
  show atI (G.map tN) (l : Int) = _
  rw [atI_cast, List.getElem?_map]
  simp [img, h]
theorem grow_body {G : Gr} (hG : Good G) {w : List Nat} (hw : ∀ v ∈ w, v < G.length) (hl : (sg G w).length ≤ 20000) (s2 s3 : MP.Slot) :
    (sSeq (sAsg (eCB gTuple (aL [(eFrz (fComp2 [4, 5] (iSq (eVar 1)) (gNm 4) tYs (iSq (eBin gIx (eUn (gFld 0 0) (eVar 0)) (eVar 4))) [5] (gNm 5) tYs (eVar 5)))])) (gNm 1))
    (sIf (tOfB (eBin gGt (eCB gLen (aL [(eVar 1)])) (eK (.int 20000)))) sNo sNext)) [.val (gD G), .val (tN w), s2, s3, .none, .none] = some (.nx, [.val (gD G), .val (tN (sg G w)), s2, s3, .none, .none]) := by
  have c := cLoop2_map (vs := [4, 5]) (vs1 := [5]) (g := gNm 4) (g1 := gNm 5) (t := tYs) (t1 := tYs) (mi1 := iSq (eBin gIx (eUn (gFld 0 0) (eVar 0)) (eVar 4))) (m := eVar 5) (env := [.val (gD G), .val (tN w), s2, s3, .none, .none]) (fun (u : Nat) => D.int u) (fun l => nL (img G l)) w [] (fun l hlw => by
    have hi := ix_G (hw l hlw)
    refine ⟨[.val (gD G), .val (tN w), s2, s3, .val (.int l), .none], nL (img G l), [.val (gD G), .val (tN w), s2, s3, .val (.int l), .none], [.val (gD G), .val (tN w), s2, s3, .val (.int l), .none], by simp, by simp, ?_, fun acc hacc => ?_, by simp⟩
    · unfold gD
      generalize G.map tN = GT at *
      generalize nL w = W at *
      simp [hi]
    · have c := cLoop_mapV (vs := [5]) (g := gNm 5) (m := eVar 5) (env := [.val (gD G), .val (tN w), s2, s3, .val (.int l), .none]) (fun (u : Nat) => D.int u) (fun (u : Nat) => D.int u) (img G l) acc (fun v _ => ⟨[.val (gD G), .val (tN w), s2, s3, .val (.int l), .val (.int v)], by simp, by simp, by simp⟩) (by rw [nL_len] at hacc; exact hacc)
      simpa [nL] using c) (by
      rw [show (w.flatMap fun l => nL (img G l)) = nL (sg G w) by
        unfold nL sg
        rw [List.map_flatMap], nL_len, List.length_nil]
      omega)
  rw [show (w.flatMap fun l => nL (img G l)) = nL (sg G w) by
    unfold nL sg
    rw [List.map_flatMap], List.nil_append, show w.map (fun (u : Nat) => D.int u) = nL w from rfl] at c
  have hll := nL_len (sg G w)
  unfold tN at *
  generalize nL (sg G w) = Z at *
  generalize nL w = W at *
  generalize gD G = GD at *
  have l1 : ¬ (20000 : Int) < Z.length := by omega
  have l2 : ¬ 20000 < Z.length := by omega
  simp [c, gTuple, l1, l2]
theorem grow_loop {G : Gr} (hG : Good G) (s2 : MP.Slot) : ∀ (k i : Nat) {w : List Nat} (s3 : MP.Slot), (∀ v ∈ w, v < G.length) → (∀ j, j ≤ k → (gw G j w).length ≤ 20000) → ∃ s3', sLoop (gNm 3) (sSeq (sAsg (eCB gTuple (aL [(eFrz (fComp2 [4, 5] (iSq (eVar 1)) (gNm 4) tYs (iSq (eBin gIx (eUn (gFld 0 0) (eVar 0)) (eVar 4))) [5] (gNm 5) tYs (eVar 5)))])) (gNm 1))
    (sIf (tOfB (eBin gGt (eCB gLen (aL [(eVar 1)])) (eK (.int 20000)))) sNo sNext)) ((List.range' i k).map fun (v : Nat) => D.int (0 + (v : Nat))) [.val (gD G), .val (tN w), s2, s3, .none, .none] = some (.nx, [.val (gD G), .val (tN (gw G k w)), s2, s3', .none, .none])
  | 0, i, w, s3, _, _ => ⟨s3, rfl⟩
  | k + 1, i, w, s3, hw, hb => by
    obtain ⟨s3', ih⟩ := grow_loop hG s2 k (i + 1) (w := sg G w) (.val (.int (0 + (i : Nat)))) (sg_lt hG hw) (fun j hj => hb (j + 1) (by omega))
    refine ⟨s3', ?_⟩
    rw [gw, ← ih, List.range'_succ, List.map_cons]
    exact sLoop_cons (e1 := [.val (gD G), .val (tN w), s2, .val (.int (0 + (i : Nat))), .none, .none]) (by simp) (grow_body hG hw (hb 1 (by omega)) _ _)
theorem grown_ok {G : Gr} (hG : Good G) {w : List Nat} (hw : ∀ v ∈ w, v < G.length) {s : Nat} (hs : s ≤ 1000) (hb : ∀ j, j ≤ s → (gw G j w).length ≤ 20000) : ∃ o, f_grown 300 [.val (gD G), .val (tN w), .val (.int s)] = some (.d (tN (gw G s w)), o) := by
  have hc := checked80 (N := 300) hG hw (hb 0 (by omega))
  obtain ⟨s3, lp⟩ := grow_loop hG (.val (.int s)) s 0 (w := w) .none hw hb
  rw [← List.range_eq_range', show (List.range s).map (fun (v : Nat) => D.int (0 + (v : Nat))) = rgD 0 s from rfl] at lp
  unfold f_grown runD m_grown
  unfold tN at *
  generalize nL (gw G s w) = Z at *
  generalize nL w = W at *
  generalize gD G = GD at *
  simp [hc, okR_nat s (by omega)]
  rw [lp]
  simp
end K93
set_option linter.all false
set_option maxRecDepth 100000
namespace K93
open PySem L2 MP
/-! ### matrices -/
def mD (M : List (List Nat)) : D := .lst (M.map fun r => .lst (nL r))
def en (M : List (List Nat)) (k j : Nat) : Nat := (M.getD k []).getD j 0
def mulR (n : Nat) (B : List (List Nat)) (r : List Nat) : List Nat := (List.range n).map fun j => sm n fun k => r.getD k 0 * en B k j
/-- n rows of n small numbers -/
structure Sq (n : Nat) (B : List (List Nat)) : Prop where
  n1 : 1 ≤ n
  n6 : n ≤ 6
  len : B.length = n
  row : ∀ r ∈ B, r.length = n ∧ ∀ x ∈ r, x < 2 ^ 64
theorem getD_mem {α : Type} {R : List α} {d : α} {i : Nat} (h : i < R.length) : R.getD i d ∈ R := by
  rw [List.getD_eq_getElem?_getD, List.getElem?_eq_getElem h]
  exact List.getElem_mem _
theorem ix_m {M : List (List Nat)} {k : Nat} (h : k < M.length) : gIx (mD M) (.int k) = some (.lst (nL (M.getD k []))) := by
  show atI (M.map fun r => D.lst (nL r)) (k : Int) = _
  rw [atI_cast, List.getElem?_map, List.getElem?_eq_getElem h, List.getD_eq_getElem?_getD, List.getElem?_eq_getElem h]
  rfl
theorem ix_l {r : List Nat} {k : Nat} (h : k < r.length) : gIx (.lst (nL r)) (.int k) = some (.int (r.getD k 0 : Nat)) := by
  show atI (nL r) (k : Int) = _
  unfold nL
  rw [atI_cast, List.getElem?_map, List.getElem?_eq_getElem h, List.getD_eq_getElem?_getD, List.getElem?_eq_getElem h]
  rfl
theorem sum_mul (f g : Nat → Nat) (n : Nat) : ((List.range n).map fun k => (f k : Int) * (g k : Int)).sum = (sm n fun k => f k * g k : Nat) := by
  rw [← sm_range, ← sum_cast]
  congr 1
theorem mul_ok {N n : Nat} {A B : List (List Nat)} (hB : Sq n B) (hA : ∀ r ∈ A, r.length = n) (hAl : A.length ≤ 100) : f_multiplied N [.val (mD A), .val (mD B)] = some (.d (mD (A.map (mulR n B))), [.val (mD A), .val (mD B)]) := by
  have n1 := hB.n1
  have n6 := hB.n6
  have i0 := ix_m (M := B) (k := 0) (by rw [hB.len]; omega)
  have r0 := (hB.row _ (getD_mem (R := B) (d := []) (i := 0) (by rw [hB.len]; omega))).1
  rw [show ((0 : Nat) : Int) = 0 from rfl] at i0
  have l0 : (nL (B.getD 0 [])).length = n := by rw [nL_len, r0]
  generalize nL (B.getD 0 []) = B0 at *
  have lB : (B.map fun r => D.lst (nL r)).length = n := by rw [List.length_map, hB.len]
  have okn := okR_nat n (by omega)
  have c := comp1 (fun r => D.lst (nL r)) (fun r => D.lst (nL (mulR n B r))) (k := 2) (m := eFrz (fComp [3] (iR1 (aL [(eCB gLen (aL [(eBin gIx (eVar 1) (eK (.int 0)))]))])) (gNm 3) tYs (eCB gSum (aL [(eFrz (fComp [4] (iR1 (aL [(eCB gLen (aL [(eVar 1)]))])) (gNm 4) tYs (eBin gMul (eBin gIx (eVar 2) (eVar 4)) (eBin gIx (eBin gIx (eVar 1) (eVar 4)) (eVar 3)))))]))))
    A [.val (mD A), .val (mD B), .none, .none, .none] rfl (by omega) (fun r hr => by
      have hrl := hA r hr
      have c3 := comp1r (fun j => D.int ((sm n fun k => r.getD k 0 * en B k j : Nat) : Int)) (k := 3) (n := n) (m := eCB gSum (aL [(eFrz (fComp [4] (iR1 (aL [(eCB gLen (aL [(eVar 1)]))])) (gNm 4) tYs (eBin gMul (eBin gIx (eVar 2) (eVar 4)) (eBin gIx (eBin gIx (eVar 1) (eVar 4)) (eVar 3)))))]))
        [.val (mD A), .val (mD B), .val (.lst (nL r)), .none, .none] rfl (by omega) (fun j hj => by
          have c4 := comp1r (fun k => D.int ((r.getD k 0 : Nat) * (en B k j : Nat) : Int)) (k := 4) (n := n) (m := eBin gMul (eBin gIx (eVar 2) (eVar 4)) (eBin gIx (eBin gIx (eVar 1) (eVar 4)) (eVar 3)))
            [.val (mD A), .val (mD B), .val (.lst (nL r)), .val (.int j), .none] rfl (by omega) (fun k hk => by
              have e1 := ix_l (r := r) (k := k) (by omega)
              have e2 := ix_m (M := B) (k := k) (by rw [hB.len]; exact hk)
              have hrow := hB.row _ (getD_mem (R := B) (d := []) (i := k) (by rw [hB.len]; exact hk))
              have e3 := ix_l (r := B.getD k []) (k := j) (by rw [hrow.1]; exact hj)
              have hx := hrow.2 _ (getD_mem (R := B.getD k []) (d := 0) (i := j) (by rw [hrow.1]; exact hj))
              have ok : mulOk ((r.getD k 0 : Nat) : Int) ((en B k j : Nat) : Int) = true := mulOk_r _ _ (by unfold en; omega)
              unfold en at *
              generalize mD A = MA at *
              generalize mD B = MB at *
              generalize nL (B.getD k []) = BK at *
              generalize nL r = R at *
              generalize (B.getD k []).getD j 0 = y at *
              generalize r.getD k 0 = x at *
              simp [e1, e2, e3, ok])
          have hs := gSum_m (fun k : Nat => ((r.getD k 0 : Nat) : Int) * ((en B k j : Nat) : Int)) (List.range n)
          rw [sum_mul] at hs
          unfold mD at *
          generalize ((List.range n).map fun k => D.int ((r.getD k 0 : Nat) * (en B k j : Nat) : Int)) = S at *
          generalize (sm n fun k => r.getD k 0 * en B k j) = z at *
          generalize (B.map fun r => D.lst (nL r)) = MB at *
          generalize nL r = R at *
          simp [lB, okn, c4, hs])
      rw [show (List.range n).map (fun j => D.int ((sm n fun k => r.getD k 0 * en B k j : Nat) : Int)) = nL (mulR n B r) by
        unfold nL mulR
        rw [List.map_map]
        rfl] at c3
      unfold mD at *
      generalize nL (mulR n B r) = Z at *
      generalize (B.map fun r => D.lst (nL r)) = MB at *
      generalize nL r = R at *
      simp [i0, l0, okn, c3])
  unfold f_multiplied runD m_multiplied
  rw [show A.map (fun r => D.lst (nL (mulR n B r))) = (A.map (mulR n B)).map fun r => .lst (nL r) by
    rw [List.map_map]
    rfl] at c
  unfold mD at *
  generalize ((A.map (mulR n B)).map fun r => D.lst (nL r)) = Z at *
  generalize (A.map fun r => D.lst (nL r)) = MA at *
  generalize (B.map fun r => D.lst (nL r)) = MB at *
  simp [c, outsOf]
/-! counts -/
theorem count_cast (w : List Nat) (j : Nat) : List.count (j : Int) (w.map fun (u : Nat) => (u : Int)) = w.count j := by
  induction w with
  | nil => rfl
  | cons x w ih =>
    rw [List.map_cons, List.count_cons, List.count_cons, ih]
    congr 1
    by_cases c : x = j
    · subst c
      simp
    · have c2 : ¬ (x : Int) = j := by omega
      simp [c, c2]
theorem gCount_n (w : List Nat) (j : Nat) : gCount (nL w) [.int j] = some (.int (w.count j : Nat)) := by
  unfold gCount
  rw [nL_int, intsD_map]
  simp only [count_cast]
theorem counts_of {N : Nat} {G : Gr} (hG : Good G) {w : List Nat} (hw : ∀ v ∈ w, v < G.length) (hl : w.length ≤ 20000) : f_counts_of N [.val (gD G), .val (tN w)] = some (.d (tN (cnt G.length w)), [.val (gD G), .val (tN w)]) := by
  have hc := checked80 (N := N) hG hw hl
  have n6 := hG.n6
  have c := comp1r (fun j => D.int (w.count j : Nat)) (k := 2) (n := G.length) (m := eMw gCount (eVar 1) (aL [(eVar 2)])) [.val (gD G), .val (tN w), .none] rfl (by omega) (fun j _ => by
    have g := gCount_n w j
    have p : plD (nL w) = false := rfl
    unfold tN
    generalize nL w = W at *
    generalize gD G = GD at *
    simp [g, p])
  rw [show (List.range G.length).map (fun j => D.int (w.count j : Nat)) = nL (cnt G.length w) by
    unfold nL cnt
    rw [List.map_map]
    rfl] at c
  have hl2 : (G.map tN).length = G.length := List.length_map _
  have ok := okR_nat G.length (by omega)
  unfold f_counts_of runD m_counts_of
  unfold gD at *
  unfold tN at *
  generalize nL (cnt G.length w) = Z at *
  generalize nL w = W at *
  generalize (G.map fun l => D.tup (nL l)) = GT at *
  rw [← hl2] at c ok
  simp [hc, c, ok, gTuple, outsOf]
def tb (G : Gr) : List (List Nat) := G.map (cnt G.length)
theorem table_ok {N : Nat} {G : Gr} (hG : Good G) : f_table N [.val (gD G)] = some (.d (mD (tb G)), [.val (gD G)]) := by
  have n6 := hG.n6
  have hl2 : (G.map tN).length = G.length := List.length_map _
  have ok := okR_nat G.length (by omega)
  have c := comp1 tN (fun r => D.lst (nL (cnt G.length r))) (k := 2) (m := eFrz (fComp [3] (iR1 (aL [(eVar 1)])) (gNm 3) tYs (eMw gCount (eVar 2) (aL [(eVar 3)])))) G [.val (gD G), .val (.int (G.length : Nat)), .none, .none] rfl (by omega) (fun r hr => by
    have c3 := comp1r (fun j => D.int (r.count j : Nat)) (k := 3) (n := G.length) (m := eMw gCount (eVar 2) (aL [(eVar 3)])) [.val (gD G), .val (.int (G.length : Nat)), .val (tN r), .none] rfl (by omega) (fun j _ => by
      have g := gCount_n r j
      have p : plD (nL r) = false := rfl
      unfold tN
      generalize nL r = W at *
      generalize gD G = GD at *
      simp [g, p])
    rw [show (List.range G.length).map (fun j => D.int (r.count j : Nat)) = nL (cnt G.length r) by
      unfold nL cnt
      rw [List.map_map]
      rfl] at c3
    unfold tN at *
    generalize nL (cnt G.length r) = Z at *
    generalize nL r = W at *
    generalize gD G = GD at *
    simp [ok, c3])
  unfold f_table runD m_table mD tb
  rw [List.map_map]
  rw [show G.map (fun r => D.lst (nL (cnt G.length r))) = G.map ((fun r => D.lst (nL r)) ∘ cnt G.length) from rfl] at c
  generalize G.map ((fun r => D.lst (nL r)) ∘ cnt G.length) = Z at *
  unfold gD at *
  rw [← hl2] at c
  generalize G.map tN = GT at *
  simp [c, outsOf]
theorem tb_at {G : Gr} {k : Nat} (hk : k < G.length) : (tb G).getD k [] = cnt G.length (img G k) := by
  unfold tb img
  simp [List.getD_eq_getElem?_getD, hk]
theorem en_tb {G : Gr} {k j : Nat} (hk : k < G.length) (hj : j < G.length) : en (tb G) k j = (gw G 1 [k]).count j := by
  unfold en
  rw [tb_at hk, cnt_at _ hj, gw_one, gw]
theorem sq_tb {G : Gr} (hG : Good G) : Sq G.length (tb G) := by
  refine ⟨hG.n1, hG.n6, by simp [tb], fun r hr => ?_⟩
  obtain ⟨q, hq, rfl⟩ := List.mem_map.1 hr
  refine ⟨by simp [cnt], fun x hx => ?_⟩
  obtain ⟨j, _, rfl⟩ := List.mem_map.1 hx
  have h1 := List.count_le_length (a := j) (l := q)
  have h2 := (hG.ne q hq).2
  have : (12 : Nat) < 2 ^ 64 := by decide
  omega
theorem mul_cnt {G : Gr} {w : List Nat} (hw : ∀ v ∈ w, v < G.length) : mulR G.length (tb G) (cnt G.length w) = cnt G.length (sg G w) := by
  unfold mulR
  refine List.map_congr_left fun j hj => ?_
  have hj := List.mem_range.1 hj
  exact (sm_congr fun k hk => by rw [cnt_at w hk, en_tb hk hj]).trans (cnt_step G 1 j hw)
/-! counts after many steps -/
theorem ca_loop {G : Gr} (hG : Good G) (s0 s1 s2 : MP.Slot) : ∀ (k i : Nat) {w : List Nat} (s5 : MP.Slot), (∀ v ∈ w, v < G.length) → ∃ s5', sLoop (gNm 5) (sAsg (eCall (f_multiplied 300) (aL [(eVar 3), (eVar 4)])) (gNm 3)) ((List.range' i k).map fun (v : Nat) => D.int (0 + (v : Nat))) [s0, s1, s2, .val (mD [cnt G.length w]), .val (mD (tb G)), s5] =
    some (.nx, [s0, s1, s2, .val (mD [cnt G.length (gw G k w)]), .val (mD (tb G)), s5'])
  | 0, i, w, s5, _ => ⟨s5, rfl⟩
  | k + 1, i, w, s5, hw => by
    obtain ⟨s5', ih⟩ := ca_loop hG s0 s1 s2 k (i + 1) (w := sg G w) (.val (.int (0 + (i : Nat)))) (sg_lt hG hw)
    refine ⟨s5', ?_⟩
    rw [gw, ← ih, List.range'_succ, List.map_cons]
    have m := mul_ok (N := 300) (A := [cnt G.length w]) (sq_tb hG) (fun r hr => by rw [List.mem_singleton.1 hr]; simp [cnt]) (by simp)
    rw [List.map_cons, List.map_nil, mul_cnt hw] at m
    refine sLoop_cons (e1 := [s0, s1, s2, .val (mD [cnt G.length w]), .val (mD (tb G)), .val (.int (0 + (i : Nat)))]) (by simp) ?_
    generalize mD [cnt G.length (sg G w)] = Z at *
    generalize mD [cnt G.length w] = A at *
    generalize mD (tb G) = T at *
    simp [m]
theorem counts_after {G : Gr} (hG : Good G) {w : List Nat} (hw : ∀ v ∈ w, v < G.length) (hl : w.length ≤ 20000) {s : Nat} (hs : s ≤ 1000) : ∃ o, f_counts_after 300 [.val (gD G), .val (tN w), .val (.int s)] = some (.d (tN (cnt G.length (gw G s w))), o) := by
  have hc := counts_of (N := 300) hG hw hl
  have ht := table_ok (N := 300) hG
  obtain ⟨s5, lp⟩ := ca_loop hG (.val (gD G)) (.val (tN w)) (.val (.int s)) s 0 (w := w) .none hw
  rw [← List.range_eq_range', show (List.range s).map (fun (v : Nat) => D.int (0 + (v : Nat))) = rgD 0 s from rfl] at lp
  rw [show mD [cnt G.length w] = .lst [.lst (nL (cnt G.length w))] from rfl, show mD [cnt G.length (gw G s w)] = .lst [.lst (nL (cnt G.length (gw G s w)))] from rfl] at lp
  have h1 : ¬ (2000 : Int) < s := by omega
  have h2 : ¬ 2000 < s := by omega
  have ok := okR_nat s (by omega)
  unfold f_counts_after runD m_counts_after
  unfold tN at *
  generalize nL (cnt G.length (gw G s w)) = Z at *
  generalize nL (cnt G.length w) = C at *
  generalize nL w = W at *
  generalize mD (tb G) = T at *
  generalize gD G = GD at *
  simp [hc, ht, h1, h2, ok]
  rw [lp]
  simp [gTuple]
end K93
set_option linter.all false
set_option maxRecDepth 100000
namespace K93
open PySem L2 MP
/-! ### counts modulo m -/
def md (m : Nat) (M : List (List Nat)) : List (List Nat) := M.map fun r => r.map fun x => x % m
structure RowOk (n m : Nat) (r : List Nat) (u : List Nat) : Prop where
  len : r.length = n
  eq : ∀ j, j < n → r.getD j 0 % m = u.count j % m
structure PowOk (G : Gr) (m : Nat) (P : List (List Nat)) (t : Nat) : Prop where
  sq : Sq G.length P
  eq : ∀ k j, k < G.length → j < G.length → en P k j % m = (gw G t [k]).count j % m
theorem mulR_len (n : Nat) (B : List (List Nat)) (r : List Nat) : (mulR n B r).length = n := by simp [mulR]
theorem mulR_at {n j : Nat} (B : List (List Nat)) (r : List Nat) (h : j < n) : (mulR n B r).getD j 0 = sm n fun k => r.getD k 0 * en B k j := by
  unfold mulR
  rw [List.getD_eq_getElem?_getD, List.getElem?_map, List.getElem?_range h]
  rfl
theorem map_at (m : Nat) (r : List Nat) {j : Nat} (h : j < r.length) : (r.map fun x => x % m).getD j 0 = r.getD j 0 % m := by
  simp [List.getD_eq_getElem?_getD, h]
theorem row_step {G : Gr} {m t : Nat} {r u : List Nat} {P : List (List Nat)} (hr : RowOk G.length m r u) (hP : PowOk G m P t) (hu : ∀ v ∈ u, v < G.length) : RowOk G.length m ((mulR G.length P r).map fun x => x % m) (gw G t u) := by
  refine ⟨by rw [List.length_map, mulR_len], fun j hj => ?_⟩
  rw [map_at m _ (by rw [mulR_len]; exact hj), mulR_at P r hj, Nat.mod_mod]
  rw [sm_mod m _ _ (fun k => u.count k) (fun k => (gw G t [k]).count j) G.length fun k hk => ⟨hr.eq k hk, hP.eq k j hk hj⟩]
  rw [cnt_step G t j hu]
theorem pow_step {G : Gr} (hG : Good G) {m t : Nat} {P : List (List Nat)} (hm : 1 ≤ m) (hm2 : m ≤ 2 ^ 64) (hP : PowOk G m P t) : PowOk G m (md m (P.map (mulR G.length P))) (2 * t) := by
  have hl := hP.sq.len
  refine ⟨⟨hP.sq.n1, hP.sq.n6, by simp [md, hl], fun r hr => ?_⟩, fun k j hk hj => ?_⟩
  · unfold md at hr
    rw [List.map_map] at hr
    obtain ⟨q, hq, rfl⟩ := List.mem_map.1 hr
    refine ⟨by simp [mulR], fun x hx => ?_⟩
    obtain ⟨y, _, rfl⟩ := List.mem_map.1 hx
    have := Nat.mod_lt y hm
    omega
  · have e : (md m (P.map (mulR G.length P))).getD k [] = (mulR G.length P (P.getD k [])).map fun x => x % m := by
      unfold md
      rw [List.map_map]
      simp [List.getD_eq_getElem?_getD, hl, hk]
    unfold en
    rw [e, map_at m _ (by rw [mulR_len]; exact hj), mulR_at P _ hj, Nat.mod_mod]
    rw [show (fun l => (P.getD k []).getD l 0 * en P l j) = fun l => en P k l * en P l j from rfl]
    rw [sm_mod m _ _ (fun l => (gw G t [k]).count l) (fun l => (gw G t [l]).count j) G.length fun l hll => ⟨hP.eq k l hk hll, hP.eq l j hll hj⟩]
    rw [cnt_step G t j (gw_lt hG t (by simpa using hk)), Nat.two_mul, gw_add]
/-- the remainders of a matrix -/
theorem mod_c {m : Nat} (hm : 1 ≤ m) (M : List (List Nat)) (hM : ∀ r ∈ M, r.length ≤ 100) (hl : M.length ≤ 100) (s0 s1 s2 s4 s5 : MP.Slot) :
    cLoop [6] (gNm 6) tYs (eFrz (fComp [7] (iSq (eVar 6)) (gNm 7) tYs (eBin gMod (eVar 7) (eVar 3)))) (M.map fun r => D.lst (nL r)) [] [s0, s1, s2, .val (.int m), s4, s5, .none, .none] =
      some ((md m M).map fun r => D.lst (nL r), [s0, s1, s2, .val (.int m), s4, s5, .none, .none]) := by
  have c := comp1 (fun r => D.lst (nL r)) (fun r => D.lst (nL (r.map fun x => x % m))) (k := 6) (m := eFrz (fComp [7] (iSq (eVar 6)) (gNm 7) tYs (eBin gMod (eVar 7) (eVar 3)))) M [s0, s1, s2, .val (.int m), s4, s5, .none, .none] rfl (by omega) (fun r hr => by
    have c7 := comp1 (fun (u : Nat) => D.int u) (fun u => D.int ((u % m : Nat) : Int)) (k := 7) (m := eBin gMod (eVar 7) (eVar 3)) r [s0, s1, s2, .val (.int m), s4, s5, .val (.lst (nL r)), .none] rfl (by have := hM r hr; omega) (fun u _ => by
      have h1 : 0 < m := hm
      simp [h1])
    rw [show r.map (fun u => D.int ((u % m : Nat) : Int)) = nL (r.map fun x => x % m) by
      unfold nL
      rw [List.map_map]
      rfl, show r.map (fun (u : Nat) => D.int u) = nL r from rfl] at c7
    generalize nL (r.map fun x => x % m) = Z at *
    generalize nL r = R at *
    simp [c7])
  rw [c]
  unfold md
  rw [List.map_map]
  rfl
abbrev cbB : Xs := (sSeq (sIf (tOfB (eBin gEq (eBin gMod (eVar 2) (eK (.int 2))) (eK (.int 1)))) (sAsg (eFrz (fComp [6] (iSq (eCall (f_multiplied 300) (aL [(eVar 4), (eVar 5)]))) (gNm 6) tYs (eFrz (fComp [7] (iSq (eVar 6)) (gNm 7) tYs (eBin gMod (eVar 7) (eVar 3)))))) (gNm 4)) sNext)
    (sSeq (sAsg (eFrz (fComp [6] (iSq (eCall (f_multiplied 300) (aL [(eVar 5), (eVar 5)]))) (gNm 6) tYs (eFrz (fComp [7] (iSq (eVar 6)) (gNm 7) tYs (eBin gMod (eVar 7) (eVar 3)))))) (gNm 5))
    (sAsg (eBin gFdiv (eVar 2) (eK (.int 2))) (gNm 2))))
theorem cb_row {n m : Nat} (hm : 1 ≤ m) {A P : List (List Nat)} (hP : Sq n P) (hA : ∀ r ∈ A, r.length = n) (hAl : A.length ≤ 50) (s0 s1 s2 : MP.Slot) :
    (sAsg (eFrz (fComp [6] (iSq (eCall (f_multiplied 300) (aL [(eVar 4), (eVar 5)]))) (gNm 6) tYs (eFrz (fComp [7] (iSq (eVar 6)) (gNm 7) tYs (eBin gMod (eVar 7) (eVar 3)))))) (gNm 4)) [s0, s1, s2, .val (.int m), .val (mD A), .val (mD P), .none, .none] =
      some (.nx, [s0, s1, s2, .val (.int m), .val (mD (md m (A.map (mulR n P)))), .val (mD P), .none, .none]) := by
  have n6 := hP.n6
  have mu := mul_ok (N := 300) hP hA (by omega)
  have c := mod_c hm (A.map (mulR n P)) (fun r hr => by
    obtain ⟨q, _, rfl⟩ := List.mem_map.1 hr
    rw [mulR_len]
    omega) (by rw [List.length_map]; omega) s0 s1 s2 (.val (mD A)) (.val (mD P))
  unfold mD at *
  generalize ((md m (A.map (mulR n P))).map fun r => D.lst (nL r)) = Z at *
  generalize ((A.map (mulR n P)).map fun r => D.lst (nL r)) = Y at *
  generalize (A.map fun r => D.lst (nL r)) = MA at *
  generalize (P.map fun r => D.lst (nL r)) = MP' at *
  simp [mu, c]
theorem cb_pow {n m : Nat} (hm : 1 ≤ m) {P : List (List Nat)} (hP : Sq n P) (s0 s1 s2 s4 : MP.Slot) :
    (sAsg (eFrz (fComp [6] (iSq (eCall (f_multiplied 300) (aL [(eVar 5), (eVar 5)]))) (gNm 6) tYs (eFrz (fComp [7] (iSq (eVar 6)) (gNm 7) tYs (eBin gMod (eVar 7) (eVar 3)))))) (gNm 5)) [s0, s1, s2, .val (.int m), s4, .val (mD P), .none, .none] =
      some (.nx, [s0, s1, s2, .val (.int m), s4, .val (mD (md m (P.map (mulR n P)))), .none, .none]) := by
  have n6 := hP.n6
  have hl := hP.len
  have mu := mul_ok (N := 300) hP (A := P) (fun r hr => (hP.row r hr).1) (by omega)
  have c := mod_c hm (P.map (mulR n P)) (fun r hr => by
    obtain ⟨q, _, rfl⟩ := List.mem_map.1 hr
    rw [mulR_len]
    omega) (by rw [List.length_map]; omega) s0 s1 s2 s4 (.val (mD P))
  unfold mD at *
  generalize ((md m (P.map (mulR n P))).map fun r => D.lst (nL r)) = Z at *
  generalize ((P.map (mulR n P)).map fun r => D.lst (nL r)) = Y at *
  generalize (P.map fun r => D.lst (nL r)) = MP' at *
  simp [mu, c]
theorem cb_loop {G : Gr} (hG : Good G) {m : Nat} (hm : 1 ≤ m) (hm2 : m ≤ 2 ^ 64) (s0 s1 : MP.Slot) : ∀ (b fuel e : Nat) (r u : List Nat) (P : List (List Nat)) (t : Nat), e < 2 ^ b → b + 1 ≤ fuel → RowOk G.length m r u → (∀ v ∈ u, v < G.length) → PowOk G m P t → ∃ (e' : Int) (r' : List Nat) (P' : List (List Nat)), RowOk G.length m r' (gw G (t * e) u) ∧
    sWhile fuel (tOfB (eBin gGt (eVar 2) (eK (.int 0)))) cbB [s0, s1, .val (.int e), .val (.int m), .val (mD [r]), .val (mD P), .none, .none] = some (.nx, [s0, s1, .val (.int e'), .val (.int m), .val (mD [r']), .val (mD P'), .none, .none])
  | b, 0, e, r, u, P, t, _, hf, _, _, _ => absurd hf (by omega)
  | b, fuel + 1, 0, r, u, P, t, _, _, hr, _, _ => by
    refine ⟨0, r, P, by rw [Nat.mul_zero]; exact hr, ?_⟩
    refine sWhile_no ?_
    generalize mD [r] = A at *
    generalize mD P = B at *
    simp
  | 0, fuel + 1, e + 1, r, u, P, t, he, _, _, _, _ => absurd he (by simp)
  | b + 1, fuel + 1, e + 1, r, u, P, t, he, hf, hr, hu, hP => by
    have hp2 := pow_step hG hm hm2 hP
    have t1 : tOfB (eBin gGt (eVar 2) (eK (.int 0))) [s0, s1, .val (.int ((e + 1 : Nat) : Int)), .val (.int m), .val (mD [r]), .val (mD P), .none, .none] = some (true, [s0, s1, .val (.int ((e + 1 : Nat) : Int)), .val (.int m), .val (mD [r]), .val (mD P), .none, .none]) := by
      have h1 : (0 : Int) < ((e + 1 : Nat) : Int) := by omega
      generalize mD [r] = A at *
      generalize mD P = B at *
      generalize ((e + 1 : Nat) : Int) = z at *
      simp [h1]
    rw [Nat.pow_succ] at he
    have lg : Nat.log2 2 < 9000 := by decide
    by_cases c : (e + 1) % 2 = 1
    · have hr2 := row_step hr hP hu
      obtain ⟨e', r', P', h1, h2⟩ := cb_loop hG hm hm2 s0 s1 b fuel ((e + 1) / 2) _ (gw G t u) _ (2 * t) (by omega) (by omega) hr2 (gw_lt hG t hu) hp2
      refine ⟨e', r', P', ?_, ?_⟩
      · rw [← gw_add] at h1
        have : t + 2 * t * ((e + 1) / 2) = t * (e + 1) := by
          have h3 : e + 1 = 2 * ((e + 1) / 2) + 1 := by omega
          generalize (e + 1) / 2 = q at *
          rw [h3, Nat.mul_add, Nat.mul_one, Nat.add_comm, ← Nat.mul_assoc, Nat.mul_comm t 2]
        rw [this] at h1
        exact h1
      · rw [← h2]
        refine sWhile_nx t1 ?_
        have b1 := cb_row hm hP.sq (A := [r]) (fun q hq => by rw [List.mem_singleton.1 hq]; exact hr.len) (by simp) s0 s1 (.val (.int ((e + 1 : Nat) : Int)))
        have b2 := cb_pow hm hP.sq s0 s1 (.val (.int ((e + 1 : Nat) : Int))) (.val (mD (md m ([r].map (mulR G.length P)))))
        unfold cbB
        rw [sSeq_nx (e1 := [s0, s1, .val (.int ((e + 1 : Nat) : Int)), .val (.int m), .val (mD (md m ([r].map (mulR G.length P)))), .val (mD P), .none, .none]) (by
          rw [← b1, sIf_s]
          have q : ((e + 1 : Nat) : Int) % 2 = 1 := by omega
          have : tOfB (eBin gEq (eBin gMod (eVar 2) (eK (.int 2))) (eK (.int 1))) [s0, s1, .val (.int ((e + 1 : Nat) : Int)), .val (.int m), .val (mD [r]), .val (mD P), .none, .none] = some (true, [s0, s1, .val (.int ((e + 1 : Nat) : Int)), .val (.int m), .val (mD [r]), .val (mD P), .none, .none]) := by
            generalize mD [r] = A at *
            generalize mD P = B at *
            generalize ((e + 1 : Nat) : Int) = z at *
            simp [q]
          rw [this])]
        rw [sSeq_nx b2]
        have q2 : ((e + 1 : Nat) : Int) / 2 = (((e + 1) / 2 : Nat) : Int) := by omega
        rw [show md m ([r].map (mulR G.length P)) = [(mulR G.length P r).map fun x => x % m] from rfl]
        generalize mD [(mulR G.length P r).map fun x => x % m] = A at *
        generalize mD (md m (P.map (mulR G.length P))) = B at *
        generalize ((e + 1 : Nat) : Int) = z at *
        simp [lg, q2]
    · obtain ⟨e', r', P', h1, h2⟩ := cb_loop hG hm hm2 s0 s1 b fuel ((e + 1) / 2) r u _ (2 * t) (by omega) (by omega) hr hu hp2
      refine ⟨e', r', P', ?_, ?_⟩
      · have : 2 * t * ((e + 1) / 2) = t * (e + 1) := by
          have h3 : e + 1 = 2 * ((e + 1) / 2) := by omega
          generalize (e + 1) / 2 = q at *
          rw [h3, ← Nat.mul_assoc, Nat.mul_comm t 2]
        rw [this] at h1
        exact h1
      · rw [← h2]
        refine sWhile_nx t1 ?_
        have b2 := cb_pow hm hP.sq s0 s1 (.val (.int ((e + 1 : Nat) : Int))) (.val (mD [r]))
        unfold cbB
        rw [sSeq_nx (e1 := [s0, s1, .val (.int ((e + 1 : Nat) : Int)), .val (.int m), .val (mD [r]), .val (mD P), .none, .none]) (by
          have q : ¬ ((e + 1 : Nat) : Int) % 2 = 1 := by omega
          generalize mD [r] = A at *
          generalize mD P = B at *
          generalize ((e + 1 : Nat) : Int) = z at *
          simp [q])]
        rw [sSeq_nx b2]
        have q2 : ((e + 1 : Nat) : Int) / 2 = (((e + 1) / 2 : Nat) : Int) := by omega
        generalize mD [r] = A at *
        generalize mD (md m (P.map (mulR G.length P))) = B at *
        generalize ((e + 1 : Nat) : Int) = z at *
        simp [lg, q2]
theorem counts_by {G : Gr} (hG : Good G) {w : List Nat} (hw : ∀ v ∈ w, v < G.length) (hl : w.length ≤ 20000) {e m : Nat} (he : e < 2 ^ 200) (hm : 1 ≤ m) (hm2 : m ≤ 2 ^ 64) : ∃ o, f_counts_by 300 [.val (gD G), .val (tN w), .val (.int e), .val (.int m)] = some (.d (tN ((cnt G.length (gw G e w)).map fun x => x % m)), o) := by
  have hc := counts_of (N := 300) hG hw hl
  have ht := table_ok (N := 300) hG
  obtain ⟨e', r', P', h1, lp⟩ := cb_loop hG hm hm2 (.val (gD G)) (.val (tN w)) 200 300 e (cnt G.length w) w (tb G) 1 he (by omega) ⟨by simp [cnt], fun j hj => by rw [cnt_at w hj]⟩ hw ⟨sq_tb hG, fun k j hk hj => by rw [en_tb hk hj]⟩
  rw [Nat.one_mul] at h1
  have n6 := hG.n6
  have er : r'.map (fun x => x % m) = (cnt G.length (gw G e w)).map fun x => x % m := by
    refine List.ext_getElem (by rw [List.length_map, List.length_map, h1.len]; simp [cnt]) fun j a b => ?_
    rw [List.length_map, h1.len] at a
    have h2 := h1.eq j a
    rw [List.getElem_map, List.getElem_map]
    have e1 : r'.getD j 0 = r'[j]'(by rw [h1.len]; exact a) := by
      rw [List.getD_eq_getElem?_getD, List.getElem?_eq_getElem (by rw [h1.len]; exact a)]
      rfl
    have e2 : (cnt G.length (gw G e w))[j]'(by simp [cnt]; exact a) = (gw G e w).count j := by simp [cnt]
    rw [e2, ← h2, e1]
  have c := comp1 (fun (u : Nat) => D.int u) (fun u => D.int ((u % m : Nat) : Int)) (k := 7) (m := eBin gMod (eVar 7) (eVar 3)) r' [.val (gD G), .val (tN w), .val (.int e'), .val (.int m), .val (mD [r']), .val (mD P'), .none, .none] rfl (by rw [h1.len]; omega) (fun u _ => by
    have h1 : 0 < m := hm
    generalize mD [r'] = A at *
    generalize mD P' = B at *
    simp [h1])
  rw [show r'.map (fun u => D.int ((u % m : Nat) : Int)) = nL (r'.map fun x => x % m) by
    unfold nL
    rw [List.map_map]
    rfl, er, show r'.map (fun (u : Nat) => D.int u) = nL r' from rfl] at c
  rw [show mD [cnt G.length w] = .lst [.lst (nL (cnt G.length w))] from rfl] at lp
  rw [show mD [r'] = .lst [.lst (nL r')] from rfl] at lp c
  have m1 : ¬ (m : Int) < 1 := by omega
  have m2 : ¬ m < 1 := by omega
  have e1 : ¬ (e : Int) < 0 := by omega
  unfold f_counts_by runD m_counts_by
  unfold tN at *
  generalize nL ((cnt G.length (gw G e w)).map fun x => x % m) = Z at *
  generalize nL r' = R at *
  generalize nL (cnt G.length w) = C at *
  generalize nL w = W at *
  generalize mD (tb G) = T at *
  generalize mD P' = PP at *
  generalize gD G = GD at *
  simp [hc, ht, m1, m2, e1]
  rw [lp]
  simp [c, gTuple]
end K93
set_option linter.all false
set_option maxRecDepth 100000
namespace K93
/-! ### who comes from whom, in so many steps -/
structure Wk (n : Nat) (R : Nat → Nat → Nat → Prop) : Prop where
  z : ∀ l v, l < n → (R 0 l v ↔ l = v)
  add : ∀ s t l v, l < n → (R (s + t) l v ↔ ∃ u, R s l u ∧ R t u v)
  tot : ∀ s l, l < n → ∃ v, R s l v
  dom : ∀ s l v, l < n → R s l v → v < n
def Full (n : Nat) (R : Nat → Nat → Nat → Prop) (s : Nat) : Prop := ∀ l v, l < n → v < n → R s l v
def Irr (n : Nat) (R : Nat → Nat → Nat → Prop) : Prop := ∀ l v, l < n → v < n → ∃ s, R s l v
def Per (R : Nat → Nat → Nat → Prop) (z d : Nat) : Prop := ∃ K, ∀ j v, K ≤ j → (R (j + d) z v ↔ R j z v)
structure MinPer (R : Nat → Nat → Nat → Prop) (z d : Nat) : Prop where
  pos : 1 ≤ d
  per : Per R z d
  min : ∀ e, Per R z e → d ∣ e
section
variable {n : Nat} {R : Nat → Nat → Nat → Prop} (W : Wk n R)
include W
theorem Wk.mk1 {s t l u v : Nat} (hl : l < n) (h1 : R s l u) (h2 : R t u v) : R (s + t) l v := (W.add s t l v hl).2 ⟨u, h1, h2⟩
theorem full_up {s : Nat} (h : Full n R s) : ∀ t, Full n R (s + t) := by
  intro t l v hl hv
  rw [Nat.add_comm]
  obtain ⟨u, hu⟩ := W.tot t l hl
  exact W.mk1 hl hu (h u v (W.dom t l u hl hu) hv)
theorem full_ge {s t : Nat} (h : Full n R s) (hst : s ≤ t) : Full n R t := by
  have := full_up W h (t - s)
  rwa [show s + (t - s) = t by omega] at this
theorem full_per {s z : Nat} (hz : z < n) (h : Full n R s) : Per R z 1 := by
  refine ⟨s, fun j v hj => ⟨fun a => ?_, fun a => ?_⟩⟩
  · exact full_ge W h hj z v hz (W.dom _ _ _ hz a)
  · exact full_ge W h (t := j + 1) (by omega) z v hz (W.dom _ _ _ hz a)
omit W in
theorem per_mul {z d K : Nat} (h : ∀ j v, K ≤ j → (R (j + d) z v ↔ R j z v)) : ∀ t j v, K ≤ j → (R (j + d * t) z v ↔ R j z v)
  | 0, j, v, _ => by simp
  | t + 1, j, v, hj => by
    rw [Nat.mul_succ, ← Nat.add_assoc, h (j + d * t) v (by omega), per_mul h t j v hj]
omit W in
theorem per_mod {z d K : Nat} (hd : 1 ≤ d) (h : ∀ j v, K ≤ j → (R (j + d) z v ↔ R j z v)) {x y : Nat} (hx : K ≤ x) (hy : K ≤ y) (e : x % d = y % d) (v : Nat) : R x z v ↔ R y z v := by
  have key : ∀ x y, K ≤ x → x ≤ y → x % d = y % d → (R x z v ↔ R y z v) := by
    intro x y hx hxy e
    have h1 := Nat.div_add_mod x d
    have h2 := Nat.div_add_mod y d
    have h3 : x / d ≤ y / d := Nat.div_le_div_right hxy
    have h4 := per_mul h (y / d - x / d) x v hx
    have h5 : d * (y / d - x / d) = d * (y / d) - d * (x / d) := Nat.mul_sub d _ _
    have h6 : d * (x / d) ≤ d * (y / d) := Nat.mul_le_mul_left d h3
    rw [show x + d * (y / d - x / d) = y by omega] at h4
    exact h4.symm
  rcases Nat.le_total x y with c | c
  · exact key x y hx c e
  · exact (key y x hy c e.symm).symm
theorem loop_up {z m : Nat} (hz : z < n) (h : R m z z) : ∀ t, R (m * t) z z
  | 0 => (W.z z z hz).2 rfl
  | t + 1 => by
    rw [Nat.mul_succ]
    exact W.mk1 hz (loop_up hz h t) h
theorem zero_dvd {z d m : Nat} (hz : z < n) (M : MinPer R z d) (h : R m z z) : d ∣ m := by
  refine M.min m ?_
  obtain ⟨K, hK⟩ := M.per
  have hd := M.pos
  refine ⟨K, fun j v hj => ⟨fun a => ?_, fun a => ?_⟩⟩
  · have h1 := W.mk1 hz (loop_up W hz h (d - 1)) a
    have h2 := (per_mul hK m j v hj).1
    refine h2 ?_
    have e : m * (d - 1) + (j + m) = j + d * m := by
      have : d = (d - 1) + 1 := by omega
      rw [this, Nat.succ_mul, Nat.add_sub_cancel, Nat.mul_comm m]
      omega
    rw [← e]
    exact h1
  · rw [Nat.add_comm]
    exact W.mk1 hz h a
theorem cls {z d : Nat} (hz : z < n) (I : Irr n R) (M : MinPer R z d) {k k' c : Nat} (h : R k z c) (h' : R k' z c) : k % d = k' % d := by
  have hc := W.dom _ _ _ hz h
  obtain ⟨b, hb⟩ := I c z hc hz
  have h1 := zero_dvd W hz M (W.mk1 hz h hb)
  have h2 := zero_dvd W hz M (W.mk1 hz h' hb)
  obtain ⟨p, hp⟩ := h1
  obtain ⟨q, hq⟩ := h2
  have e1 : (k + d * q) % d = k % d := by simp
  have e2 : (k' + d * p) % d = k' % d := by simp
  rw [← e1, ← e2]
  congr 1
  omega
theorem cov {z d K : Nat} (hz : z < n) (I : Irr n R) (hd : 1 ≤ d) (hK : ∀ j v, K ≤ j → (R (j + d) z v ↔ R j z v)) {c : Nat} (hc : c < n) : ∃ k, k < d ∧ R (K + k) z c := by
  obtain ⟨x, hx⟩ := W.tot 1 z hz
  obtain ⟨b, hb⟩ := I x z (W.dom _ _ _ hz hx) hz
  have h0 := W.mk1 hz hx hb
  obtain ⟨a, ha⟩ := I z c hz hc
  have h1 := W.mk1 hz (loop_up W hz h0 K) ha
  have hge : K ≤ (1 + b) * K + a := by
    have : K ≤ (1 + b) * K := Nat.le_mul_of_pos_left K (by omega)
    omega
  generalize (1 + b) * K + a = m at *
  refine ⟨(m - K) % d, Nat.mod_lt _ hd, ?_⟩
  refine (per_mod hd hK (by omega) hge ?_ c).2 h1
  have : m = K + (m - K) := by omega
  rw [this, Nat.add_sub_cancel_left, Nat.add_mod_mod]
/-- another letter to begin with -/
theorem per_other {z c d : Nat} (hz : z < n) (hc : c < n) (I : Irr n R) (M : MinPer R z d) : Per R c d := by
  obtain ⟨K, hK⟩ := M.per
  obtain ⟨a, ha⟩ := I z c hz hc
  obtain ⟨b, hb⟩ := I c z hc hz
  obtain ⟨q, hq⟩ := zero_dvd W hz M (W.mk1 hz ha hb)
  have key : ∀ x y v, K + b ≤ x → K + b ≤ y → x % d = y % d → R x c v → R y c v := by
    intro x y v hx hy e h
    have h1 := W.mk1 hz ha h
    have h2 : R (y - b) z v := by
      refine (per_mod M.pos hK (by omega) (by omega) ?_ v).1 h1
      have e1 : (y - b + d * q) % d = (y - b) % d := by simp
      rw [← e1, ← hq, show y - b + (a + b) = a + y by omega, Nat.add_mod, e, ← Nat.add_mod]
    have := W.mk1 hc hb h2
    rwa [show b + (y - b) = y by omega] at this
  refine ⟨K + b, fun j v hj => ⟨key _ _ v (by omega) hj (by simp), key _ _ v hj (by omega) (by simp)⟩⟩
theorem min_other {z c d e : Nat} (hz : z < n) (hc : c < n) (I : Irr n R) (M : MinPer R z d) (M' : MinPer R c e) : e = d :=
  Nat.dvd_antisymm (M'.min d (per_other W hz hc I M)) (M.min e (per_other W hc hz I M'))
end
/-! ### the three kinds -/
structure Mix (n : Nat) (R : Nat → Nat → Nat → Prop) (k : Nat) : Prop where
  irr : Irr n R
  pos : 1 ≤ k
  le : k ≤ n * n + 1
  full : Full n R k
  least : ∀ s, 1 ≤ s → s < k → ¬ Full n R s
structure Turn (n : Nat) (R : Nat → Nat → Nat → Prop) (d : Nat) : Prop where
  irr : Irr n R
  no : ∀ s, 1 ≤ s → s ≤ n * n + 1 → ¬ Full n R s
  mp : MinPer R 0 d
  ne : d ≠ 1
/-! two steps at once -/
section
variable {n : Nat} {R : Nat → Nat → Nat → Prop} (W : Wk n R) (hn : 1 ≤ n)
include W
theorem wk_two : Wk n fun s => R (2 * s) where
  z l v hl := W.z l v hl
  add s t l v hl := by
    show R (2 * (s + t)) l v ↔ _
    rw [Nat.mul_add]
    exact W.add _ _ l v hl
  tot s l hl := W.tot _ l hl
  dom s l v hl h := W.dom _ l v hl h
omit W in
theorem closed_two (h : ¬ Irr n R) : ¬ Irr n fun s => R (2 * s) := fun I => h fun l v hl hv => by
  obtain ⟨s, hs⟩ := I l v hl hv
  exact ⟨2 * s, hs⟩
theorem mix_two {k : Nat} (h : Mix n R k) : Mix n (fun s => R (2 * s)) ((k + 1) / 2) where
  irr l v hl hv := ⟨k, full_ge W h.full (by omega) l v hl hv⟩
  pos := by have := h.pos; omega
  le := by have := h.le; omega
  full := full_ge W h.full (by omega)
  least s hs hk hf := by
    have hf : Full n R (2 * s) := hf
    by_cases c : 2 * s < k
    · exact h.least (2 * s) (by omega) c hf
    · omega
include hn
theorem turn_even {d : Nat} (h : Turn n R d) (e : d % 2 = 0) : ¬ Irr n fun s => R (2 * s) := by
  intro I
  obtain ⟨c, hc⟩ := W.tot 1 0 hn
  obtain ⟨j, hj⟩ := I 0 c hn (W.dom _ _ _ hn hc)
  have := cls W hn h.irr h.mp hc hj
  obtain ⟨q, rfl⟩ : ∃ q, d = 2 * q := ⟨d / 2, by omega⟩
  have h1 : 1 % (2 * q) % 2 = 2 * j % (2 * q) % 2 := by rw [this]
  rw [Nat.mod_mul_right_mod, Nat.mod_mul_right_mod] at h1
  omega
theorem turn_odd {d : Nat} (mp : ∀ c, c < n → ∃ e, MinPer R c e) (h : Turn n R d) (e : d % 2 = 1) : Turn n (fun s => R (2 * s)) d where
  irr l v hl hv := by
    obtain ⟨s, hs⟩ := h.irr l v hl hv
    obtain ⟨c, M⟩ := mp l hl
    have hcd := min_other W hn hl h.irr h.mp M
    subst hcd
    obtain ⟨K, hK⟩ := M.per
    obtain ⟨k, hk, hv2⟩ := cov W hl h.irr M.pos hK hv
    by_cases q : (K + k) % 2 = 0
    · exact ⟨(K + k) / 2, by
        show R (2 * ((K + k) / 2)) l v
        rw [show 2 * ((K + k) / 2) = K + k by omega]
        exact hv2⟩
    · refine ⟨(K + k + c) / 2, ?_⟩
      show R (2 * ((K + k + c) / 2)) l v
      rw [show 2 * ((K + k + c) / 2) = K + k + c by omega]
      exact (hK (K + k) v (by omega)).2 hv2
  no s h1 h2 hf := by
    have hf : Full n R (2 * s) := hf
    exact h.ne (Nat.dvd_one.1 (h.mp.min 1 (full_per W hn hf)))
  mp := {
    pos := h.mp.pos
    per := by
      obtain ⟨K, hK⟩ := h.mp.per
      refine ⟨K, fun j v hj => ?_⟩
      show R (2 * (j + d)) 0 v ↔ R (2 * j) 0 v
      rw [show 2 * (j + d) = 2 * j + d * 2 by omega]
      exact per_mul hK 2 (2 * j) v (by omega)
    min := fun f ⟨K, hK⟩ => by
      have hd : d ∣ 2 * f := by
        obtain ⟨L, hL⟩ := h.mp.per
        refine h.mp.min (2 * f) ⟨2 * K + L, fun j v hj => ?_⟩
        have k1 : ∀ j v, K ≤ j → (R (2 * j + 2 * f) 0 v ↔ R (2 * j) 0 v) := fun j v hj => by
          have := hK j v hj
          rw [← Nat.mul_add]
          exact this
        by_cases q : j % 2 = 0
        · have := k1 (j / 2) v (by omega)
          rwa [show 2 * (j / 2) = j by omega] at this
        · have := k1 ((j + d) / 2) v (by omega)
          rw [show 2 * ((j + d) / 2) = j + d by omega, hL j v (by omega), show j + d + 2 * f = (j + 2 * f) + d by omega, hL (j + 2 * f) v (by omega)] at this
          exact this
      have hc : Nat.Coprime d 2 := by
        rw [Nat.coprime_comm]
        unfold Nat.Coprime
        rw [Nat.gcd_rec, e]
        decide
      exact hc.dvd_of_dvd_mul_left hd }
  ne := h.ne
end
/-! other names -/
structure Nm (n : Nat) (R S : Nat → Nat → Nat → Prop) (φ : Nat → Nat) : Prop where
  lt : ∀ l, l < n → φ l < n
  onto : ∀ v, v < n → ∃ l, l < n ∧ φ l = v
  eq : ∀ s l v, l < n → v < n → (S s (φ l) (φ v) ↔ R s l v)
section
variable {n : Nat} {R S : Nat → Nat → Nat → Prop} {φ : Nat → Nat} (N : Nm n R S φ)
include N
theorem full_nm (s : Nat) : Full n S s ↔ Full n R s := by
  constructor
  · exact fun h l v hl hv => (N.eq s l v hl hv).1 (h _ _ (N.lt l hl) (N.lt v hv))
  · intro h l v hl hv
    obtain ⟨l', hl', rfl⟩ := N.onto l hl
    obtain ⟨v', hv', rfl⟩ := N.onto v hv
    exact (N.eq s l' v' hl' hv').2 (h l' v' hl' hv')
theorem irr_nm : Irr n S ↔ Irr n R := by
  constructor
  · intro h l v hl hv
    obtain ⟨s, hs⟩ := h _ _ (N.lt l hl) (N.lt v hv)
    exact ⟨s, (N.eq s l v hl hv).1 hs⟩
  · intro h l v hl hv
    obtain ⟨l', hl', rfl⟩ := N.onto l hl
    obtain ⟨v', hv', rfl⟩ := N.onto v hv
    obtain ⟨s, hs⟩ := h l' v' hl' hv'
    exact ⟨s, (N.eq s l' v' hl' hv').2 hs⟩
theorem mix_nm {k : Nat} (h : Mix n R k) : Mix n S k where
  irr := (irr_nm N).2 h.irr
  pos := h.pos
  le := h.le
  full := (full_nm N k).2 h.full
  least s h1 h2 hf := h.least s h1 h2 ((full_nm N s).1 hf)
theorem per_nm (W : Wk n R) (W' : Wk n S) {c d : Nat} (hc : c < n) : Per S (φ c) d ↔ Per R c d := by
  constructor
  · rintro ⟨K, hK⟩
    refine ⟨K, fun j v hj => ⟨fun a => ?_, fun a => ?_⟩⟩
    · have hv := W.dom _ _ _ hc a
      exact (N.eq j c v hc hv).1 ((hK j (φ v) hj).1 ((N.eq _ c v hc hv).2 a))
    · have hv := W.dom _ _ _ hc a
      exact (N.eq _ c v hc hv).1 ((hK j (φ v) hj).2 ((N.eq _ c v hc hv).2 a))
  · rintro ⟨K, hK⟩
    refine ⟨K, fun j v hj => ⟨fun a => ?_, fun a => ?_⟩⟩
    · obtain ⟨v, hv, rfl⟩ := N.onto v (W'.dom _ _ _ (N.lt c hc) a)
      exact (N.eq j c v hc hv).2 ((hK j v hj).1 ((N.eq _ c v hc hv).1 a))
    · obtain ⟨v, hv, rfl⟩ := N.onto v (W'.dom _ _ _ (N.lt c hc) a)
      exact (N.eq _ c v hc hv).2 ((hK j v hj).2 ((N.eq _ c v hc hv).1 a))
theorem turn_nm (W : Wk n R) (W' : Wk n S) (hn : 1 ≤ n) (mp : ∀ c, c < n → ∃ e, MinPer R c e) {d : Nat} (h : Turn n R d) : Turn n S d where
  irr := (irr_nm N).2 h.irr
  no s h1 h2 hf := h.no s h1 h2 ((full_nm N s).1 hf)
  mp := by
    obtain ⟨c, hc, e⟩ := N.onto 0 hn
    obtain ⟨f, M⟩ := mp c hc
    have hfd := min_other W hn hc h.irr h.mp M
    subst hfd
    rw [← e]
    exact ⟨M.pos, (per_nm N W W' hc).2 M.per, fun g hg => M.min g ((per_nm N W W' hc).1 hg)⟩
  ne := h.ne
end
end K93
set_option linter.all false
set_option maxRecDepth 100000
namespace K93
/-! ### letters met, as rising lists -/
def lin (G : Gr) (w : List Nat) : List Nat := (List.range G.length).filter fun v => decide (v ∈ sg G w)
def X (G : Gr) (l : Nat) : Nat → List Nat
  | 0 => [l]
  | j + 1 => lin G (X G l j)
def RG (G : Gr) (s l v : Nat) : Prop := v ∈ gw G s [l]
theorem mem_gw (G : Gr) (s v : Nat) : ∀ w : List Nat, v ∈ gw G s w ↔ ∃ u ∈ w, v ∈ gw G s [u]
  | [] => by rw [gw_nil]; simp
  | u :: w => by
    have e : gw G s (u :: w) = gw G s [u] ++ gw G s w := gw_app G s [u] w
    rw [e, List.mem_append, mem_gw G s v w]
    simp
theorem sg_mem {G : Gr} {w u : List Nat} (h : ∀ x, x ∈ w ↔ x ∈ u) (v : Nat) : v ∈ sg G w ↔ v ∈ sg G u := by
  unfold sg
  simp only [List.mem_flatMap, h]
theorem mem_lin {G : Gr} (hG : Good G) {w : List Nat} (hw : ∀ x ∈ w, x < G.length) (v : Nat) : v ∈ lin G w ↔ v ∈ sg G w := by
  unfold lin
  rw [List.mem_filter, List.mem_range, decide_eq_true_eq]
  exact ⟨fun h => h.2, fun h => ⟨sg_lt hG hw v h, h⟩⟩
theorem lin_lt {G : Gr} (w : List Nat) : ∀ v ∈ lin G w, v < G.length := fun v hv => List.mem_range.1 (List.mem_filter.1 hv).1
theorem lin_asc {G : Gr} (w : List Nat) : (lin G w).Pairwise (· < ·) := List.Pairwise.filter _ List.pairwise_lt_range
theorem lin_len {G : Gr} (w : List Nat) : (lin G w).length ≤ G.length := by
  have := List.length_filter_le (fun v => decide (v ∈ sg G w)) (List.range G.length)
  rwa [List.length_range] at this
theorem X_lt {G : Gr} {l : Nat} (hl : l < G.length) : ∀ j, ∀ v ∈ X G l j, v < G.length
  | 0, v, hv => by rw [List.mem_singleton.1 hv]; exact hl
  | j + 1, v, hv => lin_lt _ v hv
theorem X_asc {G : Gr} {l : Nat} : ∀ j, (X G l j).Pairwise (· < ·)
  | 0 => List.pairwise_singleton _ _
  | j + 1 => lin_asc _
theorem X_len {G : Gr} {l : Nat} (hl : l < G.length) : ∀ j, (X G l j).length ≤ G.length
  | 0 => by show 1 ≤ _; omega
  | j + 1 => lin_len _
theorem gw_suc (G : Gr) (j : Nat) (w : List Nat) : gw G (j + 1) w = sg G (gw G j w) := by
  rw [gw_add]
  rfl
theorem mem_X {G : Gr} (hG : Good G) {l : Nat} (hl : l < G.length) : ∀ j v, v ∈ X G l j ↔ RG G j l v
  | 0, v => Iff.rfl
  | j + 1, v => by
    unfold RG
    rw [gw_suc]
    show v ∈ lin G (X G l j) ↔ _
    rw [mem_lin hG (X_lt hl j)]
    exact sg_mem (fun x => mem_X hG hl j x) v
theorem asc_ext : ∀ {l m : List Nat}, l.Pairwise (· < ·) → m.Pairwise (· < ·) → (∀ j, j ∈ l ↔ j ∈ m) → l = m
  | [], [], _, _, _ => rfl
  | [], b :: m, _, _, h => absurd ((h b).2 List.mem_cons_self) (by simp)
  | a :: l, [], _, _, h => absurd ((h a).1 List.mem_cons_self) (by simp)
  | a :: l, b :: m, h1, h2, h => by
    rw [List.pairwise_cons] at h1 h2
    have hab : a = b := by
      rcases List.mem_cons.1 ((h a).1 List.mem_cons_self) with e | e
      · exact e
      · rcases List.mem_cons.1 ((h b).2 List.mem_cons_self) with e2 | e2
        · exact e2.symm
        · have := h1.1 b e2
          have := h2.1 a e
          omega
    subst hab
    rw [asc_ext h1.2 h2.2 fun j => ?_]
    have n1 : j ∈ l → j ≠ a := fun hj e => by
      have := h1.1 j hj
      omega
    have n2 : j ∈ m → j ≠ a := fun hj e => by
      have := h2.1 j hj
      omega
    have hj := h j
    simp only [List.mem_cons] at hj
    constructor
    · exact fun z => (hj.1 (.inr z)).resolve_left (n1 z)
    · exact fun z => (hj.2 (.inr z)).resolve_left (n2 z)
theorem X_eq {G : Gr} (hG : Good G) {l : Nat} (hl : l < G.length) (j k : Nat) : X G l j = X G l k ↔ ∀ v, RG G j l v ↔ RG G k l v := by
  constructor
  · intro e v
    rw [← mem_X hG hl, ← mem_X hG hl, e]
  · intro h
    exact asc_ext (X_asc j) (X_asc k) fun v => by rw [mem_X hG hl, mem_X hG hl, h]
theorem wk_G {G : Gr} (hG : Good G) : Wk G.length (RG G) where
  z l v _ := by
    unfold RG
    rw [gw, List.mem_singleton]
    exact eq_comm
  add s t l v _ := by
    unfold RG
    rw [gw_add, mem_gw]
  tot s l hl := by
    have : ∀ s, gw G s [l] ≠ [] := by
      intro s
      induction s with
      | zero => simp [gw]
      | succ s ih =>
        rw [gw_suc]
        intro h
        obtain ⟨u, r, e⟩ := List.exists_cons_of_ne_nil ih
        have hu : u < G.length := gw_lt hG s (w := [l]) (by simpa using hl) u (by rw [e]; exact List.mem_cons_self)
        rw [e] at h
        unfold sg at h
        rw [List.flatMap_cons] at h
        exact (hG.ne _ (img_mem hu)).1 (List.append_eq_nil_iff.1 h).1
    obtain ⟨v, r, e⟩ := List.exists_cons_of_ne_nil (this s)
    exact ⟨v, by unfold RG; rw [e]; exact List.mem_cons_self⟩
  dom s l v hl h := gw_lt hG s (w := [l]) (by simpa using hl) v h
/-! ### the first state that comes again -/
structure FR {α : Type} (f : Nat → α) (n i : Nat) : Prop where
  lt : i < n
  eq : f i = f n
  ne : ∀ j k, j < k → k < n → f j ≠ f k
theorem sub_len : ∀ {l m : List Nat}, l.Nodup → (∀ x ∈ l, x ∈ m) → l.length ≤ m.length
  | [], m, _, _ => Nat.zero_le _
  | a :: l, m, nd, h => by
    rw [List.nodup_cons] at nd
    have ha := h a List.mem_cons_self
    have := sub_len (l := l) (m := m.erase a) nd.2 fun x hx => by
      have hne : x ≠ a := fun z => nd.1 (z ▸ hx)
      exact (List.mem_erase_of_ne hne).2 (h x (List.mem_cons_of_mem _ hx))
    rw [List.length_erase_of_mem ha] at this
    have hp : 0 < m.length := List.length_pos_iff.2 fun z => by rw [z] at ha; cases ha
    rw [List.length_cons]
    omega
theorem fr_step {α : Type} [DecidableEq α] (f : Nat → α) : ∀ n, (∃ m i, m ≤ n ∧ FR f m i) ∨ ∀ j k, j < k → k ≤ n → f j ≠ f k
  | 0 => .inr fun j k h1 h2 => by omega
  | n + 1 => by
    rcases fr_step f n with ⟨m, i, h1, h2⟩ | h
    · exact .inl ⟨m, i, by omega, h2⟩
    · by_cases c : ∃ i, i < n + 1 ∧ f i = f (n + 1)
      · obtain ⟨i, hi, e⟩ := c
        exact .inl ⟨n + 1, i, Nat.le_refl _, hi, e, fun j k hj hk => h j k hj (by omega)⟩
      · refine .inr fun j k hj hk => ?_
        by_cases ck : k = n + 1
        · subst ck
          exact fun z => c ⟨j, hj, z⟩
        · exact h j k hj (by omega)
theorem fr_ex {α : Type} [DecidableEq α] (f : Nat → α) {M : Nat} (c : α → Nat) (hc : ∀ k, c (f k) < M) (inj : ∀ j k, c (f j) = c (f k) → f j = f k) : ∃ n i, n ≤ M ∧ FR f n i := by
  rcases fr_step f M with ⟨m, i, h1, h2⟩ | h
  · exact ⟨m, i, h1, h2⟩
  · exfalso
    have := sub_len (l := (List.range (M + 1)).map fun k => c (f k)) (m := List.range M) (by
      refine List.pairwise_map.2 (List.pairwise_lt_range.imp_of_mem fun {j k} hj hk hjk e => ?_)
      have hk := List.mem_range.1 hk
      exact h j k hjk (by omega) (inj j k e)) (fun x hx => by
      obtain ⟨k, _, rfl⟩ := List.mem_map.1 hx
      exact List.mem_range.2 (hc k))
    simp at this
    omega
def cd : Nat → List Nat → Nat
  | 0, _ => 0
  | k + 1, w => 2 * cd k w + if k ∈ w then 1 else 0
theorem cd_lt (w : List Nat) : ∀ n, cd n w < 2 ^ n
  | 0 => by simp [cd]
  | n + 1 => by
    have := cd_lt w n
    rw [cd, Nat.pow_succ]
    split <;> omega
theorem cd_inj {w u : List Nat} : ∀ {n : Nat}, cd n w = cd n u → ∀ v, v < n → (v ∈ w ↔ v ∈ u)
  | 0, _, v, hv => absurd hv (by omega)
  | n + 1, h, v, hv => by
    rw [cd, cd] at h
    by_cases c1 : n ∈ w <;> by_cases c2 : n ∈ u <;> simp only [c1, c2, if_true, if_false] at h
    · by_cases e : v = n
      · subst e; simp [c1, c2]
      · exact cd_inj (n := n) (by omega) v (by omega)
    · omega
    · omega
    · by_cases e : v = n
      · subst e; simp [c1, c2]
      · exact cd_inj (n := n) (by omega) v (by omega)
theorem fr_X {G : Gr} {l : Nat} (hl : l < G.length) : ∃ m i, m ≤ 2 ^ G.length ∧ FR (X G l) m i := by
  refine fr_ex (X G l) (cd G.length) (fun k => cd_lt _ _) fun j k e => ?_
  refine asc_ext (X_asc j) (X_asc k) fun v => ⟨fun h => ?_, fun h => ?_⟩
  · exact (cd_inj e v (X_lt hl j v h)).1 h
  · exact (cd_inj e v (X_lt hl k v h)).2 h
theorem X_shift {G : Gr} {l i m : Nat} (e : X G l i = X G l m) : ∀ t, X G l (i + t) = X G l (m + t)
  | 0 => e
  | t + 1 => by
    show lin G (X G l (i + t)) = lin G (X G l (m + t))
    rw [X_shift e t]
theorem fr_per {G : Gr} (hG : Good G) {l : Nat} (hl : l < G.length) {m i : Nat} (h : FR (X G l) m i) : ∀ j v, i ≤ j → (RG G (j + (m - i)) l v ↔ RG G j l v) := by
  intro j v hj
  have h1 := X_shift h.eq (j - i)
  have := h.lt
  rw [show i + (j - i) = j by omega, show m + (j - i) = j + (m - i) by omega] at h1
  exact ((X_eq hG hl _ _).1 h1 v).symm
theorem fr_min {G : Gr} (hG : Good G) {l : Nat} (hl : l < G.length) {m i : Nat} (h : FR (X G l) m i) : MinPer (RG G) l (m - i) where
  pos := by have := h.lt; omega
  per := ⟨i, fr_per hG hl h⟩
  min := fun e ⟨K, hK⟩ => by
    have hd := h.lt
    have hp := fr_per hG hl h
    have he := Nat.div_add_mod e (m - i)
    have hr := Nat.mod_lt e (show 0 < m - i by omega)
    refine Nat.dvd_of_mod_eq_zero ?_
    refine Classical.byContradiction fun hne => ?_
    refine h.ne i (i + e % (m - i)) (by omega) (by omega) ?_
    rw [X_eq hG hl]
    intro v
    have hKd : K ≤ (m - i) * K := Nat.le_mul_of_pos_left K (by omega)
    rw [← per_mod (by omega) hp (x := i + (m - i) * K) (y := i) (by omega) (by omega) (by simp)]
    rw [← hK _ v (by omega)]
    refine per_mod (by omega) hp (by omega) (by omega) ?_ v
    rw [Nat.add_right_comm, Nat.add_mul_mod_self_left, ← Nat.add_mod_mod]
theorem mp_G {G : Gr} (hG : Good G) : ∀ c, c < G.length → ∃ e, MinPer (RG G) c e := fun c hc => by
  obtain ⟨m, i, _, h⟩ := fr_X hc
  exact ⟨_, fr_min hG hc h⟩
theorem one_full {G : Gr} (hG : Good G) (h4 : G.length ≤ 4) (I : Irr G.length (RG G)) (M : MinPer (RG G) 0 1) : Full G.length (RG G) (G.length * G.length + 1) := by
  intro c v hc hv
  have n1 := hG.n1
  obtain ⟨m, i, hm, h⟩ := fr_X hc
  have e := min_other (wk_G hG) (by omega) hc I M (fr_min hG hc h)
  have hp := fr_per hG hc h
  rw [e] at hp
  obtain ⟨k, hk, hv2⟩ := cov (wk_G hG) hc I (by omega) hp hv
  have hb : i ≤ G.length * G.length + 1 := by
    have hl := h.lt
    have : ∀ n, n ≤ 4 → 2 ^ n ≤ n * n + 2 := by decide
    have := this _ h4
    omega
  refine (per_mod (by omega) hp (x := i + k) (by omega) hb ?_ v).1 hv2
  rw [Nat.mod_one, Nat.mod_one]
theorem least_ex {P : Nat → Prop} : ∀ b, (∃ s, 1 ≤ s ∧ s ≤ b ∧ P s ∧ ∀ t, 1 ≤ t → t < s → ¬ P t) ∨ ∀ s, 1 ≤ s → s ≤ b → ¬ P s
  | 0 => .inr fun s h1 h2 => by omega
  | b + 1 => by
    rcases least_ex (P := P) b with ⟨s, h1, h2, h3⟩ | h
    · exact .inl ⟨s, h1, by omega, h3⟩
    · by_cases c : P (b + 1)
      · exact .inl ⟨b + 1, by omega, by omega, c, fun t h1 h2 => h t h1 (by omega)⟩
      · refine .inr fun s h1 h2 => ?_
        by_cases e : s = b + 1
        · subst e; exact c
        · exact h s h1 (by omega)
theorem kinds {G : Gr} (hG : Good G) (h4 : G.length ≤ 4) : ¬ Irr G.length (RG G) ∨ (∃ k, Mix G.length (RG G) k) ∨ ∃ d, Turn G.length (RG G) d := by
  by_cases I : Irr G.length (RG G)
  · refine .inr ?_
    rcases least_ex (P := Full G.length (RG G)) (G.length * G.length + 1) with ⟨s, h1, h2, h3, h4⟩ | h
    · exact .inl ⟨s, I, h1, h2, h3, h4⟩
    · refine .inr ?_
      obtain ⟨d, M⟩ := mp_G hG 0 hG.n1
      refine ⟨d, I, h, M, fun e => ?_⟩
      subst e
      exact h _ (by omega) (Nat.le_refl _) (one_full hG h4 I M)
  · exact .inl I
/-- two steps at once -/
theorem nm_two {G : Gr} (hG : Good G) : Nm G.length (fun s => RG G (2 * s)) (RG (two G)) id where
  lt l hl := hl
  onto v hv := ⟨v, hv, rfl⟩
  eq s l v hl hv := by
    show v ∈ gw (two G) s [l] ↔ v ∈ gw G (2 * s) [l]
    rw [two_gw hG s (by simpa using hl)]
/-- other names -/
theorem nm_named {G H : Gr} (hG : Good G) {φ : Nat → Nat} (lt : ∀ l, l < G.length → φ l < G.length) (onto : ∀ v, v < G.length → ∃ l, l < G.length ∧ φ l = v) (inj : ∀ a b, a < G.length → b < G.length → φ a = φ b → a = b) (h : ∀ l, l < G.length → img H (φ l) = (img G l).map φ) : Nm G.length (RG G) (RG H) φ where
  lt := lt
  onto := onto
  eq s l v hl hv := by
    have e := gw_named hG h s (w := [l]) (by simpa using hl)
    unfold RG
    rw [show [φ l] = [l].map φ from rfl, e, List.mem_map]
    constructor
    · rintro ⟨u, hu, e⟩
      have := inj u v (gw_lt hG s (w := [l]) (by simpa using hl) u hu) hv e
      exact this ▸ hu
    · exact fun h => ⟨v, h, rfl⟩
/-! ### the closure of a letter -/
def clos (w u : List Nat) (n : Nat) : List Nat := (List.range n).filter fun v => decide (v ∈ w ∨ v ∈ u)
end K93
set_option linter.all false
set_option maxRecDepth 100000
namespace K93
open PySem L2 MP
structure Sml (G : Gr) : Prop where
  good : Good G
  n4 : G.length ≤ 4
  r9 : ∀ r ∈ G, r.length ≤ 9
theorem mem_nc (v : Nat) (l : List Nat) : ((v : Int) ∈ l.map fun (u : Nat) => (u : Int)) ↔ v ∈ l := mem_cast v l
theorem srt_nat {l m : List Nat} (hm : m.Pairwise (· < ·)) (h : ∀ v, v ∈ m ↔ v ∈ l) : (srtS (l.map fun (u : Nat) => (u : Int))).map D.int = nL m := by
  rw [nL_int]
  congr 1
  refine rise_ext (srtS_pw _) (asc_int hm) fun j => ?_
  rw [srtS_mem, List.mem_map, List.mem_map]
  constructor
  · rintro ⟨u, hu, e⟩
    exact ⟨u, (h u).2 hu, e⟩
  · rintro ⟨u, hu, e⟩
    exact ⟨u, (h u).1 hu, e⟩
theorem letters_in {N : Nat} {G : Gr} (hS : Sml G) {w : List Nat} (hw : ∀ v ∈ w, v < G.length) (hl : w.length ≤ 4) : ∃ o, f_letters_in N [.val (gD G), .val (tN w)] = some (.d (tN (lin G w)), o) := by
  have hs : (sg G w).length < 64 := by
    have := sg_len hS.r9 hw
    omega
  have c := cLoop2_map (vs := [2, 3]) (vs1 := [3]) (g := gNm 2) (g1 := gNm 3) (t := tYs) (t1 := tYs) (mi1 := iSq (eBin gIx (eUn (gFld 0 0) (eVar 0)) (eVar 2))) (m := eVar 3) (env := [.val (gD G), .val (tN w), .none, .none]) (fun (u : Nat) => D.int u) (fun l => nL (img G l)) w [] (fun l hlw => by
    have hi := ix_G (hw l hlw)
    refine ⟨[.val (gD G), .val (tN w), .val (.int l), .none], nL (img G l), [.val (gD G), .val (tN w), .val (.int l), .none], [.val (gD G), .val (tN w), .val (.int l), .none], by simp, by simp, ?_, fun acc hacc => ?_, by simp⟩
    · unfold gD
      generalize G.map tN = GT at *
      generalize nL w = W at *
      simp [hi]
    · have c := cLoop_mapV (vs := [3]) (g := gNm 3) (m := eVar 3) (env := [.val (gD G), .val (tN w), .val (.int l), .none]) (fun (u : Nat) => D.int u) (fun (u : Nat) => D.int u) (img G l) acc (fun v _ => ⟨[.val (gD G), .val (tN w), .val (.int l), .val (.int v)], by simp, by simp, by simp⟩) (by rw [nL_len] at hacc; exact hacc)
      simpa [nL] using c) (by
      rw [show (w.flatMap fun l => nL (img G l)) = nL (sg G w) by
        unfold nL sg
        rw [List.map_flatMap], nL_len, List.length_nil]
      omega)
  rw [show (w.flatMap fun l => nL (img G l)) = nL (sg G w) by
    unfold nL sg
    rw [List.map_flatMap], List.nil_append, show w.map (fun (u : Nat) => D.int u) = nL w from rfl, nL_int (sg G w)] at c
  have e := srt_nat (lin_asc (G := G) w) fun v => mem_lin hS.good hw v
  have hs2 : ((sg G w).map fun (u : Nat) => (u : Int)).length < 64 := by rw [List.length_map]; exact hs
  unfold f_letters_in runD m_letters_in
  unfold tN at *
  generalize nL (lin G w) = Z at *
  generalize nL w = W at *
  generalize gD G = GD at *
  generalize (sg G w).map (fun (u : Nat) => (u : Int)) = S at *
  simp [c, intsD_map, hs2, e, gTuple, -List.length_map]
theorem are_among {N : Nat} {a b : List Nat} (hl : a.length ≤ 100) : ∃ o, f_are_among N [.val (tN a), .val (tN b)] = some (.d (.bl (a.all fun v => decide (v ∈ b))), o) := by
  have c := comp1 (fun (u : Nat) => D.int u) (fun v => D.bl (decide (v ∈ b))) (k := 2) (m := eBin (gIn false) (eVar 2) (eVar 1)) a [.val (tN a), .val (tN b), .none] rfl (by omega) (fun v _ => by
    have h := in_nT v b
    unfold tN
    generalize nL b = B at *
    generalize nL a = A at *
    simp [h])
  have g := MP.gAll_m (fun v => decide (v ∈ b)) a
  rw [show a.map (fun (u : Nat) => D.int u) = nL a from rfl] at c
  unfold f_are_among runD m_are_among
  unfold tN at *
  generalize (a.map fun v => D.bl (decide (v ∈ b))) = Y at *
  generalize nL a = A at *
  generalize nL b = B at *
  simp [c, g]
/-! ### the closure -/
theorem clos_asc (w u : List Nat) (n : Nat) : (clos w u n).Pairwise (· < ·) := List.Pairwise.filter _ List.pairwise_lt_range
theorem mem_clos {w u : List Nat} {n : Nat} (h1 : ∀ v ∈ w, v < n) (h2 : ∀ v ∈ u, v < n) (v : Nat) : v ∈ clos w u n ↔ v ∈ w ++ u := by
  unfold clos
  rw [List.mem_filter, List.mem_range, decide_eq_true_eq, List.mem_append]
  exact ⟨fun h => h.2, fun h => ⟨h.elim (h1 v) (h2 v), h⟩⟩
structure Cl (G : Gr) (l : Nat) (w : List Nat) : Prop where
  asc : w.Pairwise (· < ·)
  lt : ∀ v ∈ w, v < G.length
  has : l ∈ w
  from_ : ∀ v ∈ w, ∃ s, RG G s l v
theorem asc_nodup {l : List Nat} (h : l.Pairwise (· < ·)) : l.Nodup := h.imp fun h => by omega
theorem Cl.len {G : Gr} {l : Nat} {w : List Nat} (h : Cl G l w) : w.length ≤ G.length := by
  have := sub_len (asc_nodup h.asc) (m := List.range G.length) fun x hx => List.mem_range.2 (h.lt x hx)
  rwa [List.length_range] at this
theorem Cl.step {G : Gr} (hG : Good G) {l : Nat} (hl : l < G.length) {w : List Nat} (h : Cl G l w) : Cl G l (clos w (lin G w) G.length) where
  asc := clos_asc _ _ _
  lt v hv := by
    unfold clos at hv
    exact List.mem_range.1 (List.mem_filter.1 hv).1
  has := (mem_clos h.lt (lin_lt w) l).2 (List.mem_append_left _ h.has)
  from_ v hv := by
    rcases List.mem_append.1 ((mem_clos h.lt (lin_lt w) v).1 hv) with hv | hv
    · exact h.from_ v hv
    · obtain ⟨u, hu, hv⟩ := List.mem_flatMap.1 ((mem_lin hG h.lt v).1 hv)
      obtain ⟨s, hs⟩ := h.from_ u hu
      refine ⟨s + 1, ?_⟩
      unfold RG
      rw [gw_suc]
      exact List.mem_flatMap.2 ⟨u, hs, hv⟩
abbrev clT : Xt := tNo (tTru (eCall (f_are_among 300) (aL [(eCall (f_letters_in 300) (aL [(eVar 0), (eVar 4)])), (eVar 4)])))
abbrev clB : Xs := sAsg (eCB gTuple (aL [(eFrz (fCB fgSS (aL [(eBin gAdd (eVar 4) (eCall (f_letters_in 300) (aL [(eVar 0), (eVar 4)])))])))])) (gNm 4)
theorem cl_loop {G : Gr} (hS : Sml G) {l : Nat} (hl : l < G.length) (s1 s2 s3 s5 s6 s7 : MP.Slot) : ∀ (fuel : Nat) (w : List Nat), Cl G l w → G.length + 1 ≤ fuel + w.length → ∃ w', Cl G l w' ∧ (∀ v ∈ lin G w', v ∈ w') ∧
    sWhile fuel clT clB [.val (gD G), s1, s2, s3, .val (tN w), s5, s6, s7] = some (.nx, [.val (gD G), s1, s2, s3, .val (tN w'), s5, s6, s7])
  | 0, w, h, hf => by
    have := h.len
    omega
  | fuel + 1, w, h, hf => by
    have hlen := h.len
    have n4 := hS.n4
    obtain ⟨o1, e1⟩ := letters_in (N := 300) hS h.lt (by omega)
    have hll := lin_len (G := G) w
    obtain ⟨o2, e2⟩ := are_among (N := 300) (a := lin G w) (b := w) (by omega)
    have t : clT [.val (gD G), s1, s2, s3, .val (tN w), s5, s6, s7] = some (!(lin G w).all fun v => decide (v ∈ w), [.val (gD G), s1, s2, s3, .val (tN w), s5, s6, s7]) := by
      unfold clT
      generalize tN (lin G w) = L at *
      generalize tN w = W at *
      generalize gD G = GD at *
      simp [e1, e2, truD]
    by_cases c : (lin G w).all (fun v => decide (v ∈ w)) = true
    · rw [c] at t
      refine ⟨w, h, fun v hv => of_decide_eq_true (List.all_eq_true.1 c v hv), ?_⟩
      exact sWhile_no t
    · rw [Bool.not_eq_true] at c
      rw [c] at t
      have hg : fgSS [.tup (nL (w ++ lin G w))] = some (.lst (nL (clos w (lin G w) G.length))) := by
        rw [nL_int (w ++ lin G w), fgSS_t, if_pos (by rw [List.length_map, List.length_append]; omega), srt_nat (clos_asc w (lin G w) G.length) (mem_clos h.lt (lin_lt w))]
      have b : clB [.val (gD G), s1, s2, s3, .val (tN w), s5, s6, s7] = some (.nx, [.val (gD G), s1, s2, s3, .val (tN (clos w (lin G w) G.length)), s5, s6, s7]) := by
        have a1 := nL_len w
        have a2 := nL_len (lin G w)
        have a3 : nL (w ++ lin G w) = nL w ++ nL (lin G w) := List.map_append
        rw [a3] at hg
        unfold clB
        unfold tN at *
        generalize nL (clos w (lin G w) G.length) = Z at *
        generalize nL (lin G w) = L at *
        generalize nL w = W at *
        generalize gD G = GD at *
        have a4 : W.length + L.length ≤ 16777216 := by omega
        simp [e1, hg, gTuple, a4]
      rw [sWhile_nx t b]
      have hstep := h.step hS.good hl
      refine cl_loop hS hl s1 s2 s3 s5 s6 s7 fuel _ hstep ?_
      obtain ⟨v, hv1, hv2⟩ : ∃ v, v ∈ lin G w ∧ v ∉ w := by
        refine Classical.byContradiction fun hne => ?_
        have : (lin G w).all (fun v => decide (v ∈ w)) = true := List.all_eq_true.2 fun v hv => decide_eq_true (Classical.byContradiction fun z => hne ⟨v, hv, z⟩)
        rw [this] at c
        cases c
      have := sub_len (l := v :: w) (m := clos w (lin G w) G.length) (List.nodup_cons.2 ⟨hv2, asc_nodup h.asc⟩) fun x hx => by
        rcases List.mem_cons.1 hx with rfl | hx
        · exact (mem_clos h.lt (lin_lt w) x).2 (List.mem_append_right _ hv1)
        · exact (mem_clos h.lt (lin_lt w) x).2 (List.mem_append_left _ hx)
      rw [List.length_cons] at this
      omega
theorem cl_all {G : Gr} (hG : Good G) {l : Nat} {w : List Nat} (h : Cl G l w) (hc : ∀ v ∈ lin G w, v ∈ w) : ∀ s v, RG G s l v → v ∈ w
  | 0, v, hv => by
    rw [List.mem_singleton.1 hv]
    exact h.has
  | s + 1, v, hv => by
    unfold RG at hv
    rw [gw_suc] at hv
    obtain ⟨u, hu, hv⟩ := List.mem_flatMap.1 hv
    exact hc v ((mem_lin hG h.lt v).2 (List.mem_flatMap.2 ⟨u, cl_all hG h hc s u hu, hv⟩))
/-- whether a letter reaches all -/
theorem cl_every {G : Gr} (hG : Good G) {l : Nat} {w : List Nat} (h : Cl G l w) (hc : ∀ v ∈ lin G w, v ∈ w) : w = List.range G.length ↔ ∀ v, v < G.length → ∃ s, RG G s l v := by
  constructor
  · intro e v hv
    exact h.from_ v (by rw [e]; exact List.mem_range.2 hv)
  · intro hr
    refine asc_ext h.asc List.pairwise_lt_range fun v => ⟨fun hv => List.mem_range.2 (h.lt v hv), fun hv => ?_⟩
    obtain ⟨s, hs⟩ := hr v (List.mem_range.1 hv)
    exact cl_all hG h hc s v hs
end K93
set_option linter.all false
set_option maxRecDepth 100000
namespace K93
open PySem L2 MP
theorem eqKs_n : ∀ r q : List Nat, eqKs (nL r) (nL q) = decide (r = q)
  | [], [] => by simp [eqKs]
  | [], y :: q => by simp [eqKs]
  | x :: r, [] => by simp [eqKs]
  | x :: r, y :: q => by
    have := eqKs_n r q
    unfold nL at *
    have hx : eqKy (.int (x : Int)) (.int (y : Int)) = decide (x = y) := eqKy_n x y
    simp only [List.map_cons, eqKs, hx, this]
    rw [Bool.eq_iff_iff]
    simp
theorem eqKy_N (r q : List Nat) : eqKy (tN r) (tN q) = decide (r = q) := by
  simp only [eqKy, eqKs_n]
theorem nkDs_n : ∀ r : List Nat, nkDs (nL r) = some (r.map fun (u : Nat) => .num u)
  | [] => by simp [nkDs]
  | x :: r => by
    have := nkDs_n r
    unfold nL at *
    simp [nkDs, nkD, this]
theorem noTs_n : ∀ r : List Nat, noTs (r.map fun (u : Nat) => NestedKey.num u) = true
  | [] => by simp [noTs]
  | x :: r => by simp [noTs, noT, noTs_n r]
theorem dep_n : ∀ r : List Nat, NestedKey.depthAll (r.map fun (u : Nat) => NestedKey.num u) = 0
  | [] => by simp [NestedKey.depthAll]
  | x :: r => by simp [NestedKey.depthAll, NestedKey.depth, dep_n r]
theorem okKy_N (r : List Nat) : okKy true (tN r) = true := by
  have h : nkD (tN r) = some (.tup (r.map fun (u : Nat) => .num u)) := by simp [nkD, nkDs_n]
  unfold okKy
  simp only [h]
  unfold okN
  simp only [noT, noTs_n, NestedKey.depth, dep_n]
  decide
/-- what has been met in n steps -/
def met (f : Nat → List Nat) (n : Nat) : List (D × D) := (List.range n).map fun k => (tN (f k), D.int (k : Nat))
theorem met_has (f : Nat → List Nat) (a : List Nat) (n : Nat) : dHas (met f n) (tN a) = decide (∃ k, k < n ∧ f k = a) := by
  unfold dHas met
  rw [List.any_map]
  by_cases c : ∃ k, k < n ∧ f k = a
  · obtain ⟨k, h1, h2⟩ := id c
    rw [decide_eq_true c, List.any_eq_true]
    refine ⟨k, List.mem_range.2 h1, ?_⟩
    simp only [Function.comp_apply, eqKy_N]
    exact decide_eq_true h2
  · rw [decide_eq_false c, List.any_eq_false]
    intro k h1
    simp only [Function.comp_apply, eqKy_N]
    exact fun z => c ⟨k, List.mem_range.1 h1, of_decide_eq_true z⟩
theorem met_put {f : Nat → List Nat} {n : Nat} (h : ∀ k, k < n → f k ≠ f n) : dPut (met f n) (tN (f n)) (.int (n : Nat)) = met f (n + 1) := by
  unfold dPut
  rw [met_has, decide_eq_false fun ⟨k, h1, h2⟩ => h k h1 h2]
  unfold met
  rw [List.range_succ, List.map_append]
  rfl
theorem met_find {f : Nat → List Nat} {n i : Nat} (h : FR f n i) : dFind (met f n) (tN (f n)) = some (.int (i : Nat)) := by
  have key : ∀ (l : List Nat), i ∈ l → (∀ k ∈ l, f k = f n → k = i) → dFind (l.map fun k => (tN (f k), D.int (k : Nat))) (tN (f n)) = some (.int (i : Nat)) := by
    intro l
    induction l with
    | nil => intro hi; cases hi
    | cons a l ih =>
      intro hi hu
      unfold dFind
      rw [List.map_cons, List.find?_cons]
      simp only [eqKy_N]
      by_cases e : f a = f n
      · have := hu a List.mem_cons_self e
        subst this
        simp [e]
      · have hi' : i ∈ l := by
          rcases List.mem_cons.1 hi with rfl | hi
          · exact absurd h.eq e
          · exact hi
        have := ih hi' fun k hk' => hu k (List.mem_cons_of_mem _ hk')
        unfold dFind at this
        rw [decide_eq_false e]
        exact this
  refine key _ (List.mem_range.2 h.lt) fun k hk' e => ?_
  have hk' := List.mem_range.1 hk'
  rcases Nat.lt_trichotomy k i with c | c | c
  · exact absurd (e.trans h.eq.symm) (h.ne k i c h.lt)
  · exact c
  · exact absurd (h.eq.trans e.symm) (h.ne i k c hk')
theorem met_len (f : Nat → List Nat) (n : Nat) : (met f n).length = n := by simp [met]
abbrev mB : Xs := sSeq (sDPut 3 (eVar 2) (eCB gLenD (aL [(eVar 3)]))) (sAsg (eCall (f_letters_in 300) (aL [(eVar 0), (eVar 2)])) (gNm 2))
/-- the loop from step k on -/
theorem met_loop {G : Gr} (hS : Sml G) {n i : Nat} (h : FR (X G 0) n i) (hn : n ≤ 100) (s1 : MP.Slot) : ∀ (m fuel k : Nat), k + m = n → m + 1 ≤ fuel →
    sWhile fuel (tOfB (eBin (gDin true) (eVar 2) (eVar 3))) mB [.val (gD G), s1, .val (tN (X G 0 k)), .own (.dct true (met (X G 0) k)), .none, .none, .none, .none, .none, .none] = some (.nx, [.val (gD G), s1, .val (tN (X G 0 n)), .own (.dct true (met (X G 0) n)), .none, .none, .none, .none, .none, .none])
  | m, 0, k, _, hf => absurd hf (by omega)
  | 0, fuel + 1, k, hkm, hf => by
    have e : k = n := by omega
    subst e
    refine sWhile_no ?_
    have h1 := met_has (X G 0) (X G 0 k) k
    rw [decide_eq_true ⟨i, h.lt, h.eq⟩] at h1
    have h2 := okKy_N (X G 0 k)
    generalize met (X G 0) k = KV at *
    generalize tN (X G 0 k) = P at *
    generalize gD G = GD at *
    simp [h1, h2]
  | m + 1, fuel + 1, k, hkm, hf => by
    have n1 := hS.good.n1
    have n4 := hS.n4
    have hl := X_len (G := G) (l := 0) n1 k
    obtain ⟨o, e1⟩ := letters_in (N := 300) hS (X_lt (G := G) (l := 0) n1 k) (by omega)
    have h2 := okKy_N (X G 0 k)
    have t : tOfB (eBin (gDin true) (eVar 2) (eVar 3)) [.val (gD G), s1, .val (tN (X G 0 k)), .own (.dct true (met (X G 0) k)), .none, .none, .none, .none, .none, .none] = some (true, [.val (gD G), s1, .val (tN (X G 0 k)), .own (.dct true (met (X G 0) k)), .none, .none, .none, .none, .none, .none]) := by
      have h1 := met_has (X G 0) (X G 0 k) k
      rw [decide_eq_false fun ⟨j, hj, e⟩ => h.ne j k hj (by omega) e] at h1
      generalize met (X G 0) k = KV at *
      generalize tN (X G 0 k) = P at *
      generalize gD G = GD at *
      simp [h1, h2]
    have b : mB [.val (gD G), s1, .val (tN (X G 0 k)), .own (.dct true (met (X G 0) k)), .none, .none, .none, .none, .none, .none] = some (.nx, [.val (gD G), s1, .val (tN (X G 0 (k + 1))), .own (.dct true (met (X G 0) (k + 1))), .none, .none, .none, .none, .none, .none]) := by
      have pt := met_put (f := X G 0) (n := k) fun j hj => h.ne j k hj (by omega)
      have ln := met_len (X G 0) k
      rw [show lin G (X G 0 k) = X G 0 (k + 1) from rfl] at e1
      generalize met (X G 0) (k + 1) = KV2 at *
      generalize met (X G 0) k = KV at *
      generalize tN (X G 0 (k + 1)) = P2 at *
      generalize tN (X G 0 k) = P at *
      generalize gD G = GD at *
      have l2 : k < 16777216 := by omega
      unfold mB
      simp [ln, l2, h2, e1, pt]
    rw [sWhile_nx t b]
    exact met_loop hS h hn s1 m fuel (k + 1) (by omega) (by omega)
/-! the classes -/
abbrev kB : Xs := sSeq (sExp (eMt gAppend 5 (aL [(eVar 2)]))) (sAsg (eCall (f_letters_in 300) (aL [(eVar 0), (eVar 2)])) (gNm 2))
def kls (G : Gr) (m d : Nat) : List D := (List.range d).map fun t => tN (X G 0 (m + t))
theorem kls_loop {G : Gr} (hS : Sml G) (m : Nat) (s1 s3 s4 s7 s8 s9 : MP.Slot) : ∀ (ds : List Nat) (k : Nat) (s6 : MP.Slot), k + ds.length ≤ 1000 → ∃ s6', sLoop (gNm 6) kB (nL ds) [.val (gD G), s1, .val (tN (X G 0 (m + k))), s3, s4, .own (.lst (kls G m k)), s6, s7, s8, s9] =
      some (.nx, [.val (gD G), s1, .val (tN (X G 0 (m + (k + ds.length)))), s3, s4, .own (.lst (kls G m (k + ds.length))), s6', s7, s8, s9])
  | [], k, s6, _ => ⟨s6, rfl⟩
  | x :: ds, k, s6, h => by
    rw [List.length_cons] at h
    obtain ⟨s6', ih⟩ := kls_loop hS m s1 s3 s4 s7 s8 s9 ds (k + 1) (.val (.int x)) (by omega)
    refine ⟨s6', ?_⟩
    rw [List.length_cons, show k + (ds.length + 1) = k + 1 + ds.length by omega, ← ih]
    rw [show nL (x :: ds) = D.int (x : Nat) :: nL ds from rfl]
    refine sLoop_cons (e1 := [.val (gD G), s1, .val (tN (X G 0 (m + k))), s3, s4, .own (.lst (kls G m k)), .val (.int x), s7, s8, s9]) (by
      generalize gD G = GD at *
      generalize tN (X G 0 (m + k)) = P at *
      simp) ?_
    have n1 := hS.good.n1
    have n4 := hS.n4
    have hl := X_len (G := G) (l := 0) n1 (m + k)
    obtain ⟨o, e1⟩ := letters_in (N := 300) hS (X_lt (G := G) (l := 0) n1 (m + k)) (by omega)
    have ek : kls G m (k + 1) = kls G m k ++ [tN (X G 0 (m + k))] := by
      unfold kls
      rw [List.range_succ, List.map_append]
      rfl
    have ln : (kls G m k).length = k := by simp [kls]
    rw [show lin G (X G 0 (m + k)) = X G 0 (m + (k + 1)) from rfl] at e1
    rw [ek]
    generalize kls G m k = KV at *
    generalize tN (X G 0 (m + (k + 1))) = P2 at *
    generalize tN (X G 0 (m + k)) = P at *
    generalize gD G = GD at *
    have l2 : k < 16777216 := by omega
    unfold kB
    simp [ln, l2, e1]
def flt (G : Gr) (m d : Nat) : List Nat := (List.range d).flatMap fun t => X G 0 (m + t)
theorem flt_sort {G : Gr} (hG : Good G) {m i : Nat} (h : FR (X G 0) m i) (I : Irr G.length (RG G)) : fgSI [.lst (nL (flt G m (m - i)))] = some (.lst (nL (List.range G.length))) := by
  have n1 := hG.n1
  have M := fr_min hG n1 h
  have hp := fr_per hG n1 h
  have hlt := h.lt
  have nd : (flt G m (m - i)).Nodup := by
    unfold flt
    refine List.pairwise_flatMap.2 ⟨fun t _ => asc_nodup (X_asc _), ?_⟩
    refine List.pairwise_lt_range.imp_of_mem fun {t t'} ht ht' htt x hx y hy e => ?_
    subst e
    have ht' := List.mem_range.1 ht'
    have h1 := cls (wk_G hG) n1 I M ((mem_X hG n1 _ x).1 hx) ((mem_X hG n1 _ x).1 hy)
    have h2 := Nat.sub_mod_eq_zero_of_mod_eq h1.symm
    rw [show m + t' - (m + t) = t' - t by omega, Nat.mod_eq_of_lt (by omega)] at h2
    omega
  have mem : ∀ v, v ∈ flt G m (m - i) ↔ v < G.length := by
    intro v
    unfold flt
    rw [List.mem_flatMap]
    constructor
    · rintro ⟨t, _, hv⟩
      exact X_lt n1 _ v hv
    · intro hv
      obtain ⟨k, hk, hv⟩ := cov (wk_G hG) n1 I (show 1 ≤ m - i by omega) (K := m) (fun j v hj => hp j v (by omega)) hv
      exact ⟨k, List.mem_range.2 hk, (mem_X hG n1 _ v).2 hv⟩
  rw [nL_int (flt G m (m - i)), fgSI_l]
  congr 2
  rw [nL_int]
  congr 1
  have pm := srtI_perm ((flt G m (m - i)).map fun (u : Nat) => (u : Int))
  refine rise_ext ?_ (asc_int List.pairwise_lt_range) fun j => ?_
  · have nd2 : ((flt G m (m - i)).map fun (u : Nat) => (u : Int)).Nodup := List.pairwise_map.2 (nd.imp fun h e => h (by omega))
    have nd3 := pm.nodup_iff.2 nd2
    exact ((srtI_pw _).and nd3).imp fun {a b} h => by
      obtain ⟨h1, h2⟩ := h
      have : a ≠ b := h2
      omega
  · rw [pm.mem_iff, List.mem_map, List.mem_map]
    constructor
    · rintro ⟨u, hu, e⟩
      exact ⟨u, List.mem_range.2 ((mem u).1 hu), e⟩
    · rintro ⟨u, hu, e⟩
      exact ⟨u, (mem u).2 (List.mem_range.1 hu), e⟩
theorem kls_zero {G : Gr} (hG : Good G) {m i : Nat} (h : FR (X G 0) m i) (I : Irr G.length (RG G)) : ∃ k, k < m - i ∧ 0 ∈ X G 0 (m + k) := by
  have n1 := hG.n1
  have hp := fr_per hG n1 h
  have hlt := h.lt
  obtain ⟨k, hk, hv⟩ := cov (wk_G hG) n1 I (show 1 ≤ m - i by omega) (K := m) (fun j v hj => hp j v (by omega)) n1
  exact ⟨k, hk, (mem_X hG n1 _ _).2 hv⟩
theorem bools_lay : ∀ l : List Bool, layDs (l.map D.bl) = true ∧ depDs (l.map D.bl) = 0
  | [] => by simp [layDs, depDs]
  | b :: l => by
    have := bools_lay l
    simp [layDs, depDs, layD, depD, this]
theorem index_true {l : List Bool} (h : true ∈ l) : ∃ j, j < l.length ∧ gIndex (l.map D.bl) [.bl true] = some (.int (j : Nat)) := by
  have key : ∀ l : List Bool, true ∈ l → ∃ j, j < l.length ∧ (l.map D.bl).findIdx? (fun z => eqD z (.bl true)) = some j := by
    intro l
    induction l with
    | nil => intro h; cases h
    | cons b l ih =>
      intro h
      cases b with
      | true => exact ⟨0, by simp, by simp [List.findIdx?_cons, eqD]⟩
      | false =>
        obtain ⟨j, h1, h2⟩ := ih (by simpa using h)
        exact ⟨j + 1, by simp; omega, by simp [List.findIdx?_cons, eqD, h2]⟩
  obtain ⟨j, h1, h2⟩ := key l h
  obtain ⟨a, b⟩ := bools_lay l
  refine ⟨j, h1, ?_⟩
  have s1 : shD (.lst (l.map D.bl)) = true := by simp [shD, layD, depD, a, b]
  have s2 : shD (.bl true) = true := rfl
  unfold gIndex
  simp only [s1, s2, Bool.and_true, if_true, h2]
theorem cut_len {xs : List D} {j : Nat} (h : j < xs.length) : (cutD xs (some (j : Int)) none).length + (cutD xs none (some (j : Int))).length = xs.length := by
  unfold cutD HT.sIx
  have : ¬ (j : Int) < 0 := by omega
  simp only [if_neg this, Int.toNat_natCast]
  simp
  omega
end K93
set_option linter.all false
set_option maxRecDepth 100000
namespace K93
open PySem L2 MP
theorem kls_len (G : Gr) (m d : Nat) : (kls G m d).length = d := by simp [kls]
theorem flt_c {G : Gr} {m d : Nat} (hd : d ≤ 100) (hn : 1 ≤ G.length) (h6 : G.length ≤ 6) (s0 s1 s2 s3 s4 s5 s6 s7 : MP.Slot) : cLoop2 [8, 9] (gNm 8) tYs (iSq (eVar 8)) [9] (gNm 9) tYs (eVar 9) (kls G m d) [] [s0, s1, s2, s3, s4, s5, s6, s7, .none, .none] = some (nL (flt G m d), [s0, s1, s2, s3, s4, s5, s6, s7, .none, .none]) := by
  have hl2 : (flt G m d).length ≤ d * 6 := by
    unfold flt
    rw [List.length_flatMap]
    have := sum_le (f := fun t => (X G 0 (m + t)).length) (c := 6) (w := List.range d) fun t _ => by
      have := X_len (G := G) (l := 0) hn (m + t)
      omega
    rw [List.length_range] at this
    exact this
  have e : ((List.range d).flatMap fun t => nL (X G 0 (m + t))) = nL (flt G m d) := by
    unfold nL flt
    rw [List.map_flatMap]
  have c := cLoop2_map (vs := [8, 9]) (vs1 := [9]) (g := gNm 8) (g1 := gNm 9) (t := tYs) (t1 := tYs) (mi1 := iSq (eVar 8)) (m := eVar 9) (env := [s0, s1, s2, s3, s4, s5, s6, s7, .none, .none]) (fun t => tN (X G 0 (m + t))) (fun t => nL (X G 0 (m + t))) (List.range d) [] (fun t ht => by
    refine ⟨[s0, s1, s2, s3, s4, s5, s6, s7, .val (tN (X G 0 (m + t))), .none], nL (X G 0 (m + t)), [s0, s1, s2, s3, s4, s5, s6, s7, .val (tN (X G 0 (m + t))), .none], [s0, s1, s2, s3, s4, s5, s6, s7, .val (tN (X G 0 (m + t))), .none], by simp, by simp, by simp, fun acc hacc => ?_, by simp⟩
    have c := cLoop_mapV (vs := [9]) (g := gNm 9) (m := eVar 9) (env := [s0, s1, s2, s3, s4, s5, s6, s7, .val (tN (X G 0 (m + t))), .none]) (fun (u : Nat) => D.int u) (fun (u : Nat) => D.int u) (X G 0 (m + t)) acc (fun v _ => ⟨[s0, s1, s2, s3, s4, s5, s6, s7, .val (tN (X G 0 (m + t))), .val (.int v)], by simp, by simp, by simp⟩) (by rw [nL_len] at hacc; exact hacc)
    simpa [nL] using c) (by
    rw [e, nL_len, List.length_nil]
    omega)
  rw [e, List.nil_append] at c
  exact c
theorem zero_c {G : Gr} {m d : Nat} (hd : d ≤ 100) (s0 s1 s2 s3 s4 s5 s6 s7 s9 : MP.Slot) : cLoop [8] (gNm 8) tYs (eBin (gIn false) (eK (.int 0)) (eVar 8)) (kls G m d) [] [s0, s1, s2, s3, s4, s5, s6, s7, .none, s9] = some (((List.range d).map fun t => decide (0 ∈ X G 0 (m + t))).map D.bl, [s0, s1, s2, s3, s4, s5, s6, s7, .none, s9]) := by
  rw [List.map_map]
  exact comp1 (fun t => tN (X G 0 (m + t))) (fun t => D.bl (decide (0 ∈ X G 0 (m + t)))) (k := 8) (m := eBin (gIn false) (eK (.int 0)) (eVar 8)) (List.range d) [s0, s1, s2, s3, s4, s5, s6, s7, .none, s9] rfl (by rw [List.length_range]; omega) fun t _ => by
    have h := in_nT 0 (X G 0 (m + t))
    rw [show ((0 : Nat) : Int) = 0 from rfl] at h
    unfold tN
    generalize nL (X G 0 (m + t)) = Z at *
    simp [h]
theorem classes_ok {G : Gr} (hS : Sml G) {m i : Nat} (h : FR (X G 0) m i) (hm : m ≤ 100) (I : Irr G.length (RG G)) : ∃ (L : List D) (o : List MP.Slot), L.length = m - i ∧ f_classes 300 [.val (gD G)] = some (.d (.tup L), o) := by
  have n1 := hS.good.n1
  have n4 := hS.n4
  have hlt := h.lt
  have lp := met_loop hS h hm (.val (.int G.length)) m 300 0 (by omega) (by omega)
  rw [show tN (X G 0 0) = .tup [.int 0] from rfl, show met (X G 0) 0 = [] from rfl] at lp
  have fd := met_find h
  have ln := met_len (X G 0) m
  have ok := okKy_N (X G 0 m)
  obtain ⟨s6, kl⟩ := kls_loop hS m (.val (.int G.length)) (.own (.dct true (met (X G 0) m))) (.val (.int ((m - i : Nat) : Int))) .none .none .none (List.range (m - i)) 0 .none (by simp; omega)
  rw [show nL (List.range (m - i)) = rgD 0 (m - i) by simp [rgD, nL], List.length_range, Nat.zero_add, Nat.add_zero, show kls G m 0 = [] from rfl] at kl
  have fs := flt_sort hS.good h I
  obtain ⟨k, hk, hz⟩ := kls_zero hS.good h I
  obtain ⟨j, hj, hi⟩ := index_true (l := (List.range (m - i)).map fun t => decide (0 ∈ X G 0 (m + t))) (List.mem_map.2 ⟨k, List.mem_range.2 hk, decide_eq_true hz⟩)
  rw [List.length_map, List.length_range] at hj
  have c1 := flt_c (G := G) (m := m) (d := m - i) (by omega) n1 (by omega)
  have c2 := zero_c (G := G) (m := m) (d := m - i) (by omega)
  have kn := kls_len G m (m - i)
  have cl := cut_len (xs := kls G m (m - i)) (j := j) (by omega)
  have ne := gNe_nL (List.range G.length) (List.range G.length)
  rw [decide_eq_true rfl] at ne
  have rg0 : rgD 0 G.length = nL (List.range G.length) := by simp [rgD, nL]
  have sub : (m : Int) - (i : Int) = ((m - i : Nat) : Int) := by omega
  have okr := okR_nat (m - i) (by omega)
  have okg : okRg 0 (G.length : Int) = true := by
    have : ∀ n, n ≤ 4 → okRg 0 ((n : Nat) : Int) = true := by decide
    exact this _ n4
  have gl : (gD G) = .obj 0 [.tup (G.map tN)] := rfl
  have gll : (G.map tN).length = G.length := List.length_map _
  refine ⟨cutD (kls G m (m - i)) (some (j : Int)) none ++ cutD (kls G m (m - i)) none (some (j : Int)), ?_⟩
  have main : ∃ e, 1 ≤ e.length ∧ m_classes 300 [.val (gD G), .none, .none, .none, .none, .none, .none, .none, .none, .none] = some (.ret (.d (.tup (cutD (kls G m (m - i)) (some (j : Int)) none ++ cutD (kls G m (m - i)) none (some (j : Int))))), e) := by
    have hcl : (cutD (kls G m (m - i)) (some (j : Int)) none).length + (cutD (kls G m (m - i)) none (some (j : Int))).length ≤ 16777216 := by omega
    generalize ((List.range (m - i)).map fun t => decide (0 ∈ X G 0 (m + t))).map D.bl = BL at *
    generalize nL (flt G m (m - i)) = FL at *
    generalize kls G m (m - i) = KL at *
    generalize met (X G 0) m = KV at *
    generalize tN (X G 0 m) = P at *
    generalize tN (X G 0 (m + (m - i))) = P2 at *
    generalize nL (List.range G.length) = RG' at *
    unfold m_classes
    rw [sSeq_nx (e1 := [.val (gD G), .val (.int G.length), .none, .none, .none, .none, .none, .none, .none, .none]) (by
      rw [gl]
      generalize G.map tN = GT at *
      simp [gll])]
    clear gl
    generalize gD G = GD at *
    rw [sSeq_nx (e1 := [.val GD, .val (.int G.length), .val (.tup [.int 0]), .none, .none, .none, .none, .none, .none, .none]) (by simp)]
    rw [sSeq_nx (e1 := [.val GD, .val (.int G.length), .val (.tup [.int 0]), .own (.dct true []), .none, .none, .none, .none, .none, .none]) (by simp)]
    rw [sSeq_nx lp]
    rw [sSeq_nx (e1 := [.val GD, .val (.int G.length), .val P, .own (.dct true KV), .val (.int ((m - i : Nat) : Int)), .none, .none, .none, .none, .none]) (by simp [ln, ok, fd, sub])]
    rw [sSeq_nx (e1 := [.val GD, .val (.int G.length), .val P, .own (.dct true KV), .val (.int ((m - i : Nat) : Int)), .own (.lst []), .none, .none, .none, .none]) (by simp)]
    rw [sSeq_nx (e1 := [.val GD, .val (.int G.length), .val P2, .own (.dct true KV), .val (.int ((m - i : Nat) : Int)), .own (.lst KL), s6, .none, .none, .none]) (by
      rw [← kl]
      have zt : ((m - i : Nat) : Int).toNat = m - i := Int.toNat_natCast _
      generalize ((m - i : Nat) : Int) = z at *
      simp [okr, zt])]
    rw [sSeq_nx (e1 := [.val GD, .val (.int G.length), .val P2, .own (.dct true KV), .val (.int ((m - i : Nat) : Int)), .val (.lst KL), s6, .none, .none, .none]) (by
      generalize ((m - i : Nat) : Int) = z at *
      simp [c1, fs, ne, okg, rg0])]
    rw [sSeq_nx (e1 := [.val GD, .val (.int G.length), .val P2, .own (.dct true KV), .val (.int ((m - i : Nat) : Int)), .val (.lst KL), s6, .val (.int j), .none, .none]) (by
      generalize ((m - i : Nat) : Int) = z at *
      simp [c2, hi])]
    refine ⟨[.val GD, .val (.int G.length), .val P2, .own (.dct true KV), .val (.int ((m - i : Nat) : Int)), .val (.lst KL), s6, .val (.int j), .none, .none], by simp, ?_⟩
    simp [hcl, gTuple]
  obtain ⟨e, hl, he⟩ := main
  refine ⟨outsOf [.val (gD G)] e, by rw [List.length_append, cl, kn], ?_⟩
  unfold f_classes runD
  rw [show ([MP.Slot.val (gD G)] ++ List.replicate (10 - [MP.Slot.val (gD G)].length) MP.Slot.none) = [.val (gD G), .none, .none, .none, .none, .none, .none, .none, .none, .none] from rfl, he]
  simp only
  rw [if_pos (by exact hl)]
end K93
set_option linter.all false
set_option maxRecDepth 100000
namespace K93
open PySem L2 MP
abbrev sD (s : String) : D := .str (Str.ofString s)
/-! the first loop: who reaches whom -/
abbrev oB : Xs := (sSeq (sAsg (eTup (aL [(eVar 3)])) (gNm 4))
    (sSeq (sWhile 300 clT clB)
    (sIf (tOfB (eBin gNe (eVar 4) (eVar 2))) (sRet (eTup (aL [(eK (sD "closed")), (eVar 0), (eVar 4)]))) sNext)))
def Rch (G : Gr) (l : Nat) : Prop := ∀ v, v < G.length → ∃ s, RG G s l v
theorem oB_ok {G : Gr} (hS : Sml G) {l : Nat} (hl : l < G.length) (s1 s4 s5 s6 s7 : MP.Slot) : ∃ w : List Nat, (Rch G l → oB [.val (gD G), s1, .val (tN (List.range G.length)), .val (.int l), s4, s5, s6, s7] = some (.nx, [.val (gD G), s1, .val (tN (List.range G.length)), .val (.int l), .val (tN w), s5, s6, s7])) ∧
    (¬ Rch G l → oB [.val (gD G), s1, .val (tN (List.range G.length)), .val (.int l), s4, s5, s6, s7] = some (.ret (.d (.tup [sD "closed", gD G, tN w])), [.val (gD G), s1, .val (tN (List.range G.length)), .val (.int l), .val (tN w), s5, s6, s7])) := by
  have n4 := hS.n4
  obtain ⟨w, hw, hc, lp⟩ := cl_loop hS hl s1 (.val (tN (List.range G.length))) (.val (.int l)) s5 s6 s7 300 [l] ⟨List.pairwise_singleton _ _, by simpa using hl, List.mem_singleton.2 rfl, fun v hv => ⟨0, by
    rw [List.mem_singleton.1 hv]
    exact List.mem_singleton.2 rfl⟩⟩ (by simp; omega)
  have ev := cl_every hS.good hw hc
  have ne := gNe_nT w (List.range G.length)
  rw [show tN [l] = .tup [.int (l : Nat)] from rfl] at lp
  refine ⟨w, fun h => ?_, fun h => ?_⟩
  · rw [decide_eq_true (ev.2 h)] at ne
    unfold oB
    unfold tN at *
    generalize nL (List.range G.length) = E at *
    generalize nL w = W at *
    generalize gD G = GD at *
    rw [sSeq_nx (e1 := [.val GD, s1, .val (.tup E), .val (.int l), .val (.tup [.int l]), s5, s6, s7]) (by simp), sSeq_nx lp]
    simp [ne]
  · rw [decide_eq_false fun e => h (ev.1 e)] at ne
    unfold oB
    unfold tN at *
    generalize nL (List.range G.length) = E at *
    generalize nL w = W at *
    generalize gD G = GD at *
    rw [sSeq_nx (e1 := [.val GD, s1, .val (.tup E), .val (.int l), .val (.tup [.int l]), s5, s6, s7]) (by simp), sSeq_nx lp]
    simp [ne]
theorem o_loop {G : Gr} (hS : Sml G) (s1 s5 s6 s7 : MP.Slot) : ∀ (ds : List Nat) (d3 : MP.Slot) (s4 : MP.Slot), (∀ l ∈ ds, l < G.length) → (d3 = .none ∨ ∃ d, d3 = .val d) →
    ((∀ l ∈ ds, Rch G l) → ∃ s3 s4', (s3 = .none ∨ ∃ d, s3 = .val d) ∧ sLoop (gNm 3) oB (nL ds) [.val (gD G), s1, .val (tN (List.range G.length)), d3, s4, s5, s6, s7] = some (.nx, [.val (gD G), s1, .val (tN (List.range G.length)), s3, s4', s5, s6, s7])) ∧
    ((¬ ∀ l ∈ ds, Rch G l) → ∃ L e, 1 ≤ e.length ∧ sLoop (gNm 3) oB (nL ds) [.val (gD G), s1, .val (tN (List.range G.length)), d3, s4, s5, s6, s7] = some (.ret (.d (.tup [sD "closed", gD G, L])), e))
  | [], d3, s4, _, h3 => ⟨fun _ => ⟨d3, s4, h3, rfl⟩, fun h => absurd (by simp) h⟩
  | l :: ds, d3, s4, hd, h3 => by
    have hl := hd l List.mem_cons_self
    obtain ⟨w, y, n⟩ := oB_ok hS hl s1 s4 s5 s6 s7
    have hg : gNm 3 (.int (l : Nat)) [.val (gD G), s1, .val (tN (List.range G.length)), d3, s4, s5, s6, s7] = some [.val (gD G), s1, .val (tN (List.range G.length)), .val (.int l), s4, s5, s6, s7] := by
      generalize tN (List.range G.length) = E
      generalize gD G = GD
      simp
    by_cases c : Rch G l
    · obtain ⟨a, b⟩ := o_loop hS s1 s5 s6 s7 ds (.val (.int l)) (.val (tN w)) (fun x hx => hd x (List.mem_cons_of_mem _ hx)) (.inr ⟨_, rfl⟩)
      have st := sLoop_cons (ds := nL ds) hg (y c)
      rw [show nL (l :: ds) = D.int (l : Nat) :: nL ds from rfl, st]
      refine ⟨fun h => a fun x hx => h x (List.mem_cons_of_mem _ hx), fun h => b fun z => h fun x hx => ?_⟩
      rcases List.mem_cons.1 hx with rfl | hx
      · exact c
      · exact z x hx
    · refine ⟨fun h => absurd (h l List.mem_cons_self) c, fun _ => ⟨_, _, ?_, sLoop_ret hg (n c)⟩⟩
      simp
/-! the second loop: when all are there -/
def hD (G : Gr) (s : Nat) : D := .lst ((List.range G.length).map fun l => tN (X G l s))
abbrev qB : Xs := (sSeq (sAsg (eFrz (fComp [7] (iSq (eVar 5)) (gNm 7) tYs (eCall (f_letters_in 300) (aL [(eVar 0), (eVar 7)])))) (gNm 5))
    (sIf (tTru (eCB gAll (aL [(eFrz (fComp [7] (iSq (eVar 5)) (gNm 7) tYs (eBin gEq (eVar 7) (eVar 2))))]))) (sRet (eTup (aL [(eK (sD "mixes")), (eVar 0), (eVar 6)]))) sNext))
theorem X_full {G : Gr} (hG : Good G) (s : Nat) : ((List.range G.length).all fun l => decide (X G l s = List.range G.length)) = true ↔ Full G.length (RG G) s := by
  rw [List.all_eq_true]
  constructor
  · intro h l v hl hv
    have := of_decide_eq_true (h l (List.mem_range.2 hl))
    rw [← mem_X hG hl, this]
    exact List.mem_range.2 hv
  · intro h l hl
    have hl := List.mem_range.1 hl
    refine decide_eq_true (asc_ext (X_asc s) List.pairwise_lt_range fun v => ?_)
    rw [mem_X hG hl, List.mem_range]
    exact ⟨(wk_G hG).dom s l v hl, h l v hl⟩
theorem qB_ok {G : Gr} (hS : Sml G) (s t : Nat) (s1 s3 s4 : MP.Slot) : 
    (Full G.length (RG G) (s + 1) → qB [.val (gD G), s1, .val (tN (List.range G.length)), s3, s4, .val (hD G s), .val (.int t), .none] = some (.ret (.d (.tup [sD "mixes", gD G, .int t])), [.val (gD G), s1, .val (tN (List.range G.length)), s3, s4, .val (hD G (s + 1)), .val (.int t), .none])) ∧
    (¬ Full G.length (RG G) (s + 1) → qB [.val (gD G), s1, .val (tN (List.range G.length)), s3, s4, .val (hD G s), .val (.int t), .none] = some (.nx, [.val (gD G), s1, .val (tN (List.range G.length)), s3, s4, .val (hD G (s + 1)), .val (.int t), .none])) := by
  have n4 := hS.n4
  have c1 := comp1 (fun l => tN (X G l s)) (fun l => tN (X G l (s + 1))) (k := 7) (m := eCall (f_letters_in 300) (aL [(eVar 0), (eVar 7)])) (List.range G.length) [.val (gD G), s1, .val (tN (List.range G.length)), s3, s4, .val (hD G s), .val (.int t), .none] rfl (by rw [List.length_range]; omega) (fun l hl => by
    have hl := List.mem_range.1 hl
    have hx := X_len (G := G) hl s
    obtain ⟨o, e⟩ := letters_in (N := 300) hS (X_lt (G := G) hl s) (by omega)
    rw [show lin G (X G l s) = X G l (s + 1) from rfl] at e
    generalize tN (X G l s) = A at *
    generalize tN (X G l (s + 1)) = B at *
    generalize tN (List.range G.length) = E at *
    generalize gD G = GD at *
    generalize hD G s = H at *
    simp [e])
  have c2 := comp1 (fun l => tN (X G l (s + 1))) (fun l => D.bl (decide (X G l (s + 1) = List.range G.length))) (k := 7) (m := eBin gEq (eVar 7) (eVar 2)) (List.range G.length) [.val (gD G), s1, .val (tN (List.range G.length)), s3, s4, .val (hD G (s + 1)), .val (.int t), .none] rfl (by rw [List.length_range]; omega) (fun l hl => by
    have e := gEq_nT (X G l (s + 1)) (List.range G.length)
    unfold tN
    generalize nL (X G l (s + 1)) = B at *
    generalize nL (List.range G.length) = E at *
    generalize gD G = GD at *
    generalize hD G (s + 1) = H at *
    simp [e])
  have g := MP.gAll_m (fun l => decide (X G l (s + 1) = List.range G.length)) (List.range G.length)
  have xf := X_full hS.good (s + 1)
  unfold hD at *
  generalize ((List.range G.length).map fun l => D.bl (decide (X G l (s + 1) = List.range G.length))) = Y at *
  generalize ((List.range G.length).all fun l => decide (X G l (s + 1) = List.range G.length)) = y at *
  generalize ((List.range G.length).map fun l => tN (X G l s)) = A at *
  generalize ((List.range G.length).map fun l => tN (X G l (s + 1))) = B at *
  generalize tN (List.range G.length) = E at *
  generalize gD G = GD at *
  refine ⟨fun h => ?_, fun h => ?_⟩
  · rw [xf.2 h] at g
    unfold qB
    simp [c1, c2, g, truD]
  · have : y = false := by
      cases y
      · rfl
      · exact absurd (xf.1 rfl) h
    rw [this] at g
    unfold qB
    simp [c1, c2, g, truD]
theorem q_loop {G : Gr} (hS : Sml G) (s1 s3 s4 : MP.Slot) : ∀ (m s : Nat) (s6 : MP.Slot), 
    (∀ k, s < k → k ≤ s + m → Full G.length (RG G) k → (∀ t, s < t → t < k → ¬ Full G.length (RG G) t) → ∃ e, 1 ≤ e.length ∧ sLoop (gNm 6) qB (nL (List.range' (s + 1) m)) [.val (gD G), s1, .val (tN (List.range G.length)), s3, s4, .val (hD G s), s6, .none] = some (.ret (.d (.tup [sD "mixes", gD G, .int k])), e)) ∧
    ((∀ t, s < t → t ≤ s + m → ¬ Full G.length (RG G) t) → ∃ s5' s6', sLoop (gNm 6) qB (nL (List.range' (s + 1) m)) [.val (gD G), s1, .val (tN (List.range G.length)), s3, s4, .val (hD G s), s6, .none] = some (.nx, [.val (gD G), s1, .val (tN (List.range G.length)), s3, s4, s5', s6', .none]))
  | 0, s, s6 => ⟨fun k h1 h2 => by omega, fun _ => ⟨.val (hD G s), s6, rfl⟩⟩
  | m + 1, s, s6 => by
    obtain ⟨a, b⟩ := q_loop hS s1 s3 s4 m (s + 1) (.val (.int ((s + 1 : Nat) : Int)))
    obtain ⟨y, n⟩ := qB_ok hS s (s + 1) s1 s3 s4
    have hg : gNm 6 (.int ((s + 1 : Nat) : Int)) [.val (gD G), s1, .val (tN (List.range G.length)), s3, s4, .val (hD G s), s6, .none] = some [.val (gD G), s1, .val (tN (List.range G.length)), s3, s4, .val (hD G s), .val (.int ((s + 1 : Nat) : Int)), .none] := by
      generalize tN (List.range G.length) = E
      generalize gD G = GD
      generalize hD G s = H
      generalize ((s + 1 : Nat) : Int) = z
      simp
    rw [show List.range' (s + 1) (m + 1) = (s + 1) :: List.range' (s + 1 + 1) m from rfl, show nL ((s + 1) :: List.range' (s + 1 + 1) m) = D.int ((s + 1 : Nat) : Int) :: nL (List.range' (s + 1 + 1) m) from rfl]
    refine ⟨fun k h1 h2 hf hk => ?_, fun h => ?_⟩
    · by_cases c : k = s + 1
      · subst c
        exact ⟨_, by simp, sLoop_ret hg (y hf)⟩
      · rw [sLoop_cons hg (n (hk (s + 1) (by omega) (by omega)))]
        exact a k (by omega) (by omega) hf fun t h1 h2 => hk t (by omega) h2
    · rw [sLoop_cons hg (n (h (s + 1) (by omega) (by omega)))]
      exact b fun t h1 h2 => h t (by omega) (by omega)
end K93
set_option linter.all false
set_option maxRecDepth 100000
namespace K93
open PySem L2 MP
theorem rg0 (n : Nat) : rgD 0 n = nL (List.range n) := by simp [rgD, nL]
theorem rg1' (n : Nat) : rgD 1 n = nL (List.range' 1 n) := by
  refine List.ext_getElem (by simp [rgD, nL]) fun i h1 h2 => ?_
  simp [rgD, nL]
abbrev mx1 : Xs := sFor (iR1 (aL [(eVar 1)])) (gNm 3) oB
theorem mx1_c {G : Gr} (hS : Sml G) (h : ¬ Irr G.length (RG G)) : ∃ L e, 1 ≤ e.length ∧ mx1 [.val (gD G), .val (.int G.length), .val (tN (List.range G.length)), .none, .none, .none, .none, .none] = some (.ret (.d (.tup [sD "closed", gD G, L])), e) := by
  have n4 := hS.n4
  have ok := okR_nat G.length (by omega)
  obtain ⟨_, b⟩ := o_loop hS (.val (.int G.length)) .none .none .none (List.range G.length) .none .none (fun l hl => List.mem_range.1 hl) (.inl rfl)
  obtain ⟨L, e, h1, h2⟩ := b fun z => h fun l v hl hv => z l (List.mem_range.2 hl) v hv
  refine ⟨L, e, h1, ?_⟩
  rw [← h2, ← rg0]
  generalize tN (List.range G.length) = E at *
  generalize gD G = GD at *
  unfold mx1
  simp [ok]
theorem mx1_i {G : Gr} (hS : Sml G) (h : Irr G.length (RG G)) : ∃ s3 s4, (s3 = .none ∨ ∃ d, s3 = .val d) ∧ mx1 [.val (gD G), .val (.int G.length), .val (tN (List.range G.length)), .none, .none, .none, .none, .none] = some (.nx, [.val (gD G), .val (.int G.length), .val (tN (List.range G.length)), s3, s4, .none, .none, .none]) := by
  have n4 := hS.n4
  have ok := okR_nat G.length (by omega)
  obtain ⟨a, _⟩ := o_loop hS (.val (.int G.length)) .none .none .none (List.range G.length) .none .none (fun l hl => List.mem_range.1 hl) (.inl rfl)
  obtain ⟨s3, s4, h1, h2⟩ := a fun l hl v hv => h l v (List.mem_range.1 hl) hv
  refine ⟨s3, s4, h1, ?_⟩
  rw [← h2, ← rg0]
  generalize tN (List.range G.length) = E at *
  generalize gD G = GD at *
  unfold mx1
  simp [ok]
abbrev mx2 : Xs := sAsg (eFrz (fComp [3] (iR1 (aL [(eVar 1)])) (gNm 3) tYs (eTup (aL [(eVar 3)])))) (gNm 5)
theorem mx2_ok {G : Gr} (hS : Sml G) (s2 s3 s4 : MP.Slot) (h : s3 = .none ∨ ∃ d, s3 = .val d) : mx2 [.val (gD G), .val (.int G.length), s2, s3, s4, .none, .none, .none] = some (.nx, [.val (gD G), .val (.int G.length), s2, s3, s4, .val (hD G 0), .none, .none]) := by
  have n4 := hS.n4
  have ok := okR_nat G.length (by omega)
  have c := comp1r (fun l => tN (X G l 0)) (k := 3) (n := G.length) (m := eTup (aL [(eVar 3)])) [.val (gD G), .val (.int G.length), s2, .none, s4, .none, .none, .none] rfl (by omega) (fun v _ => by
    rw [show tN (X G v 0) = .tup [.int (v : Nat)] from rfl]
    generalize gD G = GD at *
    simp)
  unfold hD
  generalize ((List.range G.length).map fun l => tN (X G l 0)) = H at *
  generalize gD G = GD at *
  unfold mx2
  rcases h with rfl | ⟨d, rfl⟩ <;> simp [ok, c]
abbrev mx3 : Xs := sFor (iR2 (aL [(eK (.int 1)), (eBin gAdd (eBin gMul (eVar 1) (eVar 1)) (eK (.int 2)))])) (gNm 6) qB
theorem mx3_s {G : Gr} (hS : Sml G) (s2 s3 s4 s5 : MP.Slot) : mx3 [.val (gD G), .val (.int G.length), s2, s3, s4, s5, .none, .none] = sLoop (gNm 6) qB (nL (List.range' 1 (G.length * G.length + 1))) [.val (gD G), .val (.int G.length), s2, s3, s4, s5, .none, .none] := by
  have n1 := hS.good.n1
  have n4 := hS.n4
  rw [← rg1']
  generalize gD G = GD at *
  generalize G.length = n at *
  have hn : n = 1 ∨ n = 2 ∨ n = 3 ∨ n = 4 := by omega
  rcases hn with rfl | rfl | rfl | rfl <;> rfl
theorem mix_main {G : Gr} (hS : Sml G) {rv : D} {e : MEnv} (he : 1 ≤ e.length) (h : m_mixes 300 [.val (gD G), .none, .none, .none, .none, .none, .none, .none] = some (.ret (.d rv), e)) : ∃ o, f_mixes 300 [.val (gD G)] = some (.d rv, o) := by
  refine ⟨outsOf [.val (gD G)] e, ?_⟩
  unfold f_mixes runD
  rw [show ([MP.Slot.val (gD G)] ++ List.replicate (8 - [MP.Slot.val (gD G)].length) MP.Slot.none) = [.val (gD G), .none, .none, .none, .none, .none, .none, .none] from rfl, h]
  simp only
  rw [if_pos (by exact he)]
theorem sSeq_ret {a b : Xs} {env e : MEnv} {r : RetV} (h : a env = some (.ret r, e)) : sSeq a b env = some (.ret r, e) := by
  unfold sSeq
  rw [h]
theorem mix_head {G : Gr} (hS : Sml G) : ∀ (r : Xs), sSeq (sAsg (eCB gLen (aL [(eUn (gFld 0 0) (eVar 0))])) (gNm 1)) (sSeq (sAsg (eTrg (rg1 (eVar 1))) (gNm 2)) r) [.val (gD G), .none, .none, .none, .none, .none, .none, .none] = r [.val (gD G), .val (.int G.length), .val (tN (List.range G.length)), .none, .none, .none, .none, .none] := by
  intro r
  have n4 := hS.n4
  have okg : okRg 0 (G.length : Int) = true := by
    have : ∀ n, n ≤ 4 → okRg 0 ((n : Nat) : Int) = true := by decide
    exact this _ n4
  have gll : (G.map tN).length = G.length := List.length_map _
  have e := rg0 G.length
  unfold tN at *
  generalize nL (List.range G.length) = E at *
  rw [sSeq_nx (e1 := [.val (gD G), .val (.int G.length), .none, .none, .none, .none, .none, .none]) (by
    unfold gD
    generalize G.map tN = GT at *
    simp [gll])]
  rw [sSeq_nx (e1 := [.val (gD G), .val (.int G.length), .val (.tup E), .none, .none, .none, .none, .none]) (by
    generalize gD G = GD at *
    simp [okg, e])]
theorem mixes_c {G : Gr} (hS : Sml G) (h : ¬ Irr G.length (RG G)) : ∃ L o, f_mixes 300 [.val (gD G)] = some (.d (.tup [sD "closed", gD G, L]), o) := by
  obtain ⟨L, e, h1, h2⟩ := mx1_c hS h
  refine ⟨L, mix_main hS h1 ?_⟩
  unfold m_mixes
  rw [mix_head hS]
  exact sSeq_ret h2
theorem mixes_m {G : Gr} (hS : Sml G) {k : Nat} (h : Mix G.length (RG G) k) : ∃ o, f_mixes 300 [.val (gD G)] = some (.d (.tup [sD "mixes", gD G, .int k]), o) := by
  obtain ⟨s3, s4, h1, h2⟩ := mx1_i hS h.irr
  have h3 := mx2_ok hS (.val (tN (List.range G.length))) s3 s4 h1
  obtain ⟨a, _⟩ := q_loop hS (.val (.int G.length)) s3 s4 (G.length * G.length + 1) 0 .none
  obtain ⟨e, h4, h5⟩ := a k h.pos (by have := h.le; omega) h.full h.least
  refine mix_main hS h4 ?_
  unfold m_mixes
  rw [mix_head hS, sSeq_nx h2, sSeq_nx h3]
  refine sSeq_ret ?_
  rw [← h5]
  exact mx3_s hS _ _ _ _
theorem mixes_t {G : Gr} (hS : Sml G) {d : Nat} (h : Turn G.length (RG G) d) : ∃ (L : List D) (o : List MP.Slot), L.length = d ∧ f_mixes 300 [.val (gD G)] = some (.d (.tup [sD "turning", gD G, .tup L]), o) := by
  have n1 := hS.good.n1
  have n4 := hS.n4
  obtain ⟨s3, s4, h1, h2⟩ := mx1_i hS h.irr
  have h3 := mx2_ok hS (.val (tN (List.range G.length))) s3 s4 h1
  obtain ⟨_, b⟩ := q_loop hS (.val (.int G.length)) s3 s4 (G.length * G.length + 1) 0 .none
  obtain ⟨s5, s6, h5⟩ := b fun t h1 h2 => h.no t h1 (by omega)
  obtain ⟨m, i, hm, hf⟩ := fr_X (G := G) (l := 0) n1
  have m16 : m ≤ 100 := by
    have : ∀ n, n ≤ 4 → 2 ^ n ≤ 100 := by decide
    have := this _ n4
    omega
  obtain ⟨L, o, hL, hc⟩ := classes_ok hS hf m16 h.irr
  have ed := min_other (wk_G hS.good) n1 n1 h.irr h.mp (fr_min hS.good n1 hf)
  refine ⟨L, ?_⟩
  obtain ⟨o2, e2⟩ := mix_main hS (rv := .tup [sD "turning", gD G, .tup L]) (e := [.val (gD G), .val (.int G.length), .val (tN (List.range G.length)), s3, s4, s5, s6, .none]) (by simp) (by
    unfold m_mixes
    rw [mix_head hS, sSeq_nx h2, sSeq_nx h3, sSeq_nx (by rw [← h5]; exact mx3_s hS _ _ _ _)]
    generalize tN (List.range G.length) = E at *
    generalize gD G = GD at *
    simp [hc])
  exact ⟨o2, by rw [hL, ed], e2⟩
end K93
set_option linter.all false
set_option maxRecDepth 100000
namespace K93
open PySem L2 MP
abbrev Sl := MP.Slot
theorem st_pool (ns : List Int) (s1 : Sl) (rest : List Sl) : (sOwn (fCall (f_law_pool 300) (aL [(eVar 0), (eK (.int 0))])) 1) (.val (.scr (ns.map D.int)) :: s1 :: rest) = some (.nx, .val (.scr (ns.map D.int)) :: .own (Pl.mk ns 0 0 1 0 0).so :: rest) := by
  simp [pool_ok]
theorem drw (p : Pl) (hp : 0 ≤ p.i) {S : Nat} (hS : 0 < S) (hS2 : S < 2 ^ 64) : ∃ (x : Nat) (q : Pl), x < S ∧ 0 ≤ q.i ∧ f_law_draw 300 [.own p.so, .val (.int S)] = some (.d (.int x), [.own q.so, .val (.int S)]) := by
  have h0 : (0 : Int) < S := by omega
  have h1 := p.val_nn h0
  have h2 := p.val_lt h0
  have d := draw_ok 300 p S hp h0 (by omega)
  refine ⟨(p.val S).toNat, p.nxt S, by omega, Pl.nxt_nn hp S, ?_⟩
  rw [d, Int.toNat_of_nonneg h1]
/-! draws, one for each of some -/
theorem draws_c {α β : Type} {iP iK : Nat} (hne : iP ≠ iK) {C : MEnv → Prop} (hC : ∀ env i s, (i = iP ∨ i = iK) → C env → C (env.set i s)) {enc : α → D} {encb : β → D} {m : Xp} {P : β → Prop} : ∀ (ls : List α)
    (hm : ∀ a ∈ ls, ∀ p : Pl, 0 ≤ p.i → ∃ (b : β) (q : Pl), P b ∧ 0 ≤ q.i ∧ ∀ env : MEnv, C env → env[iK]? = some (.val (enc a)) → env[iP]? = some (.own p.so) → m env = some (.d (encb b), env.set iP (.own q.so))) (p : Pl), 0 ≤ p.i →
    ∃ (bs : List β) (q : Pl), 0 ≤ q.i ∧ bs.length = ls.length ∧ (∀ b ∈ bs, P b) ∧
    ∀ (env : MEnv) (acc : List D), C env → env[iP]? = some (.own p.so) → env[iK]? = some .none → acc.length + ls.length ≤ 16777216 → cLoop [iK] (gNm iK) tYs m (ls.map enc) acc env = some (acc ++ bs.map encb, env.set iP (.own q.so))
  | [], _, p, h3 => ⟨[], p, h3, rfl, by simp, fun env acc _ h1 _ _ => by
    have : env.set iP (.own p.so) = env := set_self _ _ _ h1
    simp [cLoop, this]⟩
  | d :: ds, hm, p, h3 => by
    obtain ⟨x, q, hx, hq, he⟩ := hm d List.mem_cons_self p h3
    obtain ⟨xs, q', hq', hxl, hP, hr⟩ := draws_c hne hC ds (fun a ha => hm a (List.mem_cons_of_mem _ ha)) q hq
    refine ⟨x :: xs, q', hq', by rw [List.length_cons, List.length_cons, hxl], fun y hy => ?_, fun env acc hc h1 h2 ha => ?_⟩
    · rcases List.mem_cons.1 hy with rfl | hy
      · exact hx
      · exact hP y hy
    · have hlen := (List.getElem?_eq_some_iff.1 h2).1
      have hlen1 := (List.getElem?_eq_some_iff.1 h1).1
      have he' := he (env.set iK (.val (enc d))) (hC env _ _ (.inr rfl) hc) (by rw [List.getElem?_set_self hlen]) (by rw [List.getElem?_set_ne (Ne.symm hne)]; exact h1)
      rw [List.length_cons] at ha
      have hl' : acc.length < 16777216 := by omega
      rw [List.map_cons]
      unfold cLoop
      simp only [gNm_s, if_pos hlen, tYs_s, he', esc_d, if_pos hl', wipeE_cons, wipeE_nil]
      rw [set_back hne _ _ h2, hr (env.set iP (.own q.so)) (acc ++ [encb x]) (hC env _ _ (.inl rfl) hc) (by rw [List.getElem?_set_self hlen1]) (by rw [List.getElem?_set_ne hne]; exact h2) (by rw [List.length_append]; show acc.length + 1 + ds.length ≤ _; omega), List.set_set]
      simp
/-- a row of letters is drawn -/
abbrev rowM (S : Nat) : Xf := fComp [15] (iR1 (aL [(eBin gAdd (eK (.int 1)) (eCallR (f_law_draw 300) (aL [(eVar 1), (eK (.int S))])))])) (gNm 15) tYs (eCallR (f_law_draw 300) (aL [(eVar 1), (eVar 2)]))
structure Rw (n S : Nat) (r : List Nat) : Prop where
  len : 1 ≤ r.length ∧ r.length ≤ S
  lt : ∀ v ∈ r, v < n
theorem row_ok {n S : Nat} (hn : 1 ≤ n) (hn4 : n ≤ 4) (hS : 0 < S) (hS10 : S ≤ 10) (p : Pl) (hp : 0 ≤ p.i) : ∃ (r : List Nat) (q : Pl), Rw n S r ∧ 0 ≤ q.i ∧
    ∀ (s0 s3 s4 s5 s6 s7 s8 s9 s10 s11 s12 s13 s14 : Sl) (rest : List Sl), rowM S (s0 :: .own p.so :: .val (.int n) :: s3 :: s4 :: s5 :: s6 :: s7 :: s8 :: s9 :: s10 :: s11 :: s12 :: s13 :: s14 :: .none :: rest) = some (.lst (nL r), s0 :: .own q.so :: .val (.int n) :: s3 :: s4 :: s5 :: s6 :: s7 :: s8 :: s9 :: s10 :: s11 :: s12 :: s13 :: s14 :: .none :: rest) := by
  obtain ⟨x, p1, hx, hp1, d1⟩ := drw p hp hS (by omega)
  obtain ⟨bs, q, hq, hl, hP, h⟩ := draws_c (iP := 1) (iK := 15) (by decide) (C := fun env => env[2]? = some (.val (.int n))) (by
    intro env i s hi hc
    rcases hi with rfl | rfl
    · rw [List.getElem?_set_ne (by decide)]; exact hc
    · rw [List.getElem?_set_ne (by decide)]; exact hc) (enc := fun (u : Nat) => D.int u) (encb := fun (u : Nat) => D.int u) (m := eCallR (f_law_draw 300) (aL [(eVar 1), (eVar 2)])) (P := fun v => v < n) (List.range (x + 1)) (fun a _ p hp => by
      obtain ⟨y, p2, hy, hp2, d2⟩ := drw p hp (S := n) hn (by omega)
      refine ⟨y, p2, hy, hp2, fun env hc _ h1 => ?_⟩
      simp [hc, h1, d2]) p1 hp1
  rw [List.length_range] at hl
  refine ⟨bs, q, ⟨by omega, hP⟩, hq, fun s0 s3 s4 s5 s6 s7 s8 s9 s10 s11 s12 s13 s14 rest => ?_⟩
  have h2 := h (s0 :: .own p1.so :: .val (.int n) :: s3 :: s4 :: s5 :: s6 :: s7 :: s8 :: s9 :: s10 :: s11 :: s12 :: s13 :: s14 :: .none :: rest) [] rfl rfl rfl (by simp; omega)
  rw [show ((List.range (x + 1)).map fun (u : Nat) => D.int u) = rgD 0 (x + 1) by simp [rgD], List.nil_append] at h2
  have ok := okR_nat (x + 1) (by omega)
  have e : (1 : Int) + (x : Int) = ((x + 1 : Nat) : Int) := by omega
  have zt : ((x + 1 : Nat) : Int).toNat = x + 1 := Int.toNat_natCast _
  generalize ((x + 1 : Nat) : Int) = z at *
  unfold rowM
  simp [d1, e, ok, zt, h2]
/-- the images are drawn -/
structure Im (n c : Nat) (G : Gr) : Prop where
  len : G.length = n
  row : ∀ r ∈ G, Rw n c r
theorem b_images {n : Nat} (hn : 1 ≤ n) (hn4 : n ≤ 4) (p : Pl) (hp : 0 ≤ p.i) (s0 s3 s4 s5 s6 s7 s8 s9 s11 s12 s13 s14 : Sl) (rest : List Sl) : ∃ (G : Gr) (q : Pl), Im n 3 G ∧ 0 ≤ q.i ∧
    (sAsg (eCB gTuple (aL [(eFrz (fComp [10] (iR1 (aL [(eVar 2)])) (gNm 10) tYs (eCB gTuple (aL [(eFrz (rowM 3))]))))])) (gNm 3)) (s0 :: .own p.so :: .val (.int n) :: s3 :: s4 :: s5 :: s6 :: s7 :: s8 :: s9 :: .none :: s11 :: s12 :: s13 :: s14 :: .none :: rest) =
      some (.nx, s0 :: .own q.so :: .val (.int n) :: .val (.tup (G.map tN)) :: s4 :: s5 :: s6 :: s7 :: s8 :: s9 :: .none :: s11 :: s12 :: s13 :: s14 :: .none :: rest) := by
  obtain ⟨G, q, hq, hl, hP, h⟩ := draws_c (iP := 1) (iK := 10) (by decide) (C := fun env => ∃ s0 s1 s3 s4 s5 s6 s7 s8 s9 s10 s11 s12 s13 s14 rest, env = s0 :: s1 :: .val (.int n) :: s3 :: s4 :: s5 :: s6 :: s7 :: s8 :: s9 :: s10 :: s11 :: s12 :: s13 :: s14 :: .none :: rest) (by
    rintro env i s hi ⟨s0, s1, s3, s4, s5, s6, s7, s8, s9, s10, s11, s12, s13, s14, rest, rfl⟩
    rcases hi with rfl | rfl
    · exact ⟨_, _, _, _, _, _, _, _, _, _, _, _, _, _, _, rfl⟩
    · exact ⟨_, _, _, _, _, _, _, _, _, _, _, _, _, _, _, rfl⟩) (enc := fun (u : Nat) => D.int u) (encb := tN) (m := eCB gTuple (aL [(eFrz (rowM 3))])) (P := Rw n 3) (List.range n) (fun a _ p hp => by
      obtain ⟨r, p2, hy, hp2, d2⟩ := row_ok hn hn4 (S := 3) (by decide) (by decide) p hp
      refine ⟨r, p2, hy, hp2, ?_⟩
      rintro env ⟨s0, s1, s3, s4, s5, s6, s7, s8, s9, s10, s11, s12, s13, s14, rest, rfl⟩ _ h1
      have h1 : s1 = .own p.so := by simpa using h1
      subst h1
      have d3 := d2 s0 s3 s4 s5 s6 s7 s8 s9 s10 s11 s12 s13 s14 rest
      unfold tN
      generalize nL r = R at *
      generalize rowM 3 = M at *
      simp [d3, gTuple]) p hp
  rw [List.length_range] at hl
  have h2 := h (s0 :: .own p.so :: .val (.int n) :: s3 :: s4 :: s5 :: s6 :: s7 :: s8 :: s9 :: .none :: s11 :: s12 :: s13 :: s14 :: .none :: rest) [] ⟨_, _, _, _, _, _, _, _, _, _, _, _, _, _, _, rfl⟩ rfl rfl (by simp; omega)
  rw [show ((List.range n).map fun (u : Nat) => D.int u) = rgD 0 n by simp [rgD], List.nil_append] at h2
  refine ⟨G, q, ⟨hl, hP⟩, hq, ?_⟩
  have ok := okR_nat n (by omega)
  generalize G.map tN = GT at *
  generalize rowM 3 = M at *
  simp [ok, h2, gTuple]
/-- a ring of letters, sometimes -/
theorem b_ring {n : Nat} (hn : 1 ≤ n) (hn4 : n ≤ 4) (p : Pl) (hp : 0 ≤ p.i) {G0 : Gr} (h0 : Im n 3 G0) (s0 s4 s5 s6 s7 s8 s9 s11 s12 s13 s14 : Sl) (rest : List Sl) : ∃ (G : Gr) (q : Pl), Im n 3 G ∧ 0 ≤ q.i ∧
    (sIf (tOfB (eBin gEq (eCallR (f_law_draw 300) (aL [(eVar 1), (eK (.int 3))])) (eK (.int 0)))) (sAsg (eCB gTuple (aL [(eFrz (fComp [10] (iR1 (aL [(eVar 2)])) (gNm 10) tYs (eBin gMul (eTup (aL [(eBin gMod (eCB gInt (aL [(eBin gAdd (eVar 10) (eK (.int 1)))])) (eVar 2))])) (eBin gAdd (eK (.int 1)) (eCallR (f_law_draw 300) (aL [(eVar 1), (eK (.int 2))]))))))])) (gNm 3)) sNext) (s0 :: .own p.so :: .val (.int n) :: .val (.tup (G0.map tN)) :: s4 :: s5 :: s6 :: s7 :: s8 :: s9 :: .none :: s11 :: s12 :: s13 :: s14 :: .none :: rest) =
      some (.nx, s0 :: .own q.so :: .val (.int n) :: .val (.tup (G.map tN)) :: s4 :: s5 :: s6 :: s7 :: s8 :: s9 :: .none :: s11 :: s12 :: s13 :: s14 :: .none :: rest) := by
  obtain ⟨x, p1, hx, hp1, d1⟩ := drw p hp (S := 3) (by decide) (by decide)
  rw [show ((3 : Nat) : Int) = 3 from rfl] at d1
  by_cases c : x = 0
  · subst c
    obtain ⟨G, q, hq, hl, hP, h⟩ := draws_c (iP := 1) (iK := 10) (by decide) (C := fun env => env[2]? = some (.val (.int n))) (by
      intro env i s hi hc
      rcases hi with rfl | rfl
      · rw [List.getElem?_set_ne (by decide)]; exact hc
      · rw [List.getElem?_set_ne (by decide)]; exact hc) (enc := fun (u : Nat) => D.int u) (encb := tN) (m := eBin gMul (eTup (aL [(eBin gMod (eCB gInt (aL [(eBin gAdd (eVar 10) (eK (.int 1)))])) (eVar 2))])) (eBin gAdd (eK (.int 1)) (eCallR (f_law_draw 300) (aL [(eVar 1), (eK (.int 2))])))) (P := Rw n 3) (List.range n) (fun a _ p hp => by
        obtain ⟨y, p2, hy, hp2, d2⟩ := drw p hp (S := 2) (by decide) (by decide)
        rw [show ((2 : Nat) : Int) = 2 from rfl] at d2
        refine ⟨List.replicate (1 + y) ((a + 1) % n), p2, ⟨by simp; omega, fun v hv => ?_⟩, hp2, fun env hc hk h1 => ?_⟩
        · rw [List.eq_of_mem_replicate hv]
          exact Nat.mod_lt _ hn
        · have e1 : ((a : Int) + 1) % (n : Int) = (((a + 1) % n : Nat) : Int) := by rw [Int.natCast_emod]; rfl
          have n0 : 0 < n := hn
          have hy2 : y = 0 ∨ y = 1 := by omega
          have e2 : nL (List.replicate (1 + y) ((a + 1) % n)) = List.replicate (1 + y) (D.int (((a + 1) % n : Nat) : Int)) := by simp [nL]
          unfold tN
          rw [e2]
          generalize (((a + 1) % n : Nat) : Int) = z at *
          rcases hy2 with rfl | rfl
          · simp [hc, hk, h1, d2, e1, n0, show okK 1 = true from rfl]
          · simp [hc, hk, h1, d2, e1, n0, show okK 2 = true from rfl]) p1 hp1
    rw [List.length_range] at hl
    have h2 := h (s0 :: .own p1.so :: .val (.int n) :: .val (.tup (G0.map tN)) :: s4 :: s5 :: s6 :: s7 :: s8 :: s9 :: .none :: s11 :: s12 :: s13 :: s14 :: .none :: rest) [] rfl rfl rfl (by simp; omega)
    rw [show ((List.range n).map fun (u : Nat) => D.int u) = rgD 0 n by simp [rgD], List.nil_append] at h2
    refine ⟨G, q, ⟨hl, hP⟩, hq, ?_⟩
    have ok := okR_nat n (by omega)
    generalize G.map tN = GT at *
    generalize G0.map tN = GT0 at *
    simp [ok, d1, h2, gTuple]
  · refine ⟨G0, p1, h0, hp1, ?_⟩
    have c' : ¬ ((x : Int) = 0) := by omega
    generalize G0.map tN = GT0 at *
    simp [d1, c]
end K93
set_option linter.all false
set_option maxRecDepth 100000
namespace K93
open PySem L2 MP
theorem gw_bound {G : Gr} (hG : Good G) {c : Nat} (hc : ∀ r ∈ G, r.length ≤ c) : ∀ (s : Nat) {w : List Nat}, (∀ v ∈ w, v < G.length) → (gw G s w).length ≤ w.length * c ^ s
  | 0, w, _ => by rw [gw, Nat.pow_zero, Nat.mul_one]; exact Nat.le_refl _
  | s + 1, w, hw => by
    rw [gw]
    have h1 := gw_bound hG hc s (sg_lt hG hw)
    have h2 := sg_len hc hw
    have h3 := Nat.mul_le_mul_right (c ^ s) h2
    rw [Nat.pow_succ, Nat.mul_comm (c ^ s), ← Nat.mul_assoc]
    exact Nat.le_trans h1 h3
theorem Im.good {n : Nat} (hn : 1 ≤ n) (hn4 : n ≤ 4) {G : Gr} (h : Im n 3 G) : Good G where
  n1 := by rw [h.len]; exact hn
  n6 := by rw [h.len]; omega
  ne r hr := by
    have h1 := (h.row r hr).len
    refine ⟨fun e => ?_, by omega⟩
    rw [e] at h1
    exact absurd h1.1 (by decide)
  lt r hr := by rw [h.len]; exact (h.row r hr).lt
theorem Im.sml {n : Nat} (hn : 1 ≤ n) (hn4 : n ≤ 4) {G : Gr} (h : Im n 3 G) : Sml G where
  good := h.good hn hn4
  n4 := by rw [h.len]; exact hn4
  r9 r hr := by have := (h.row r hr).len.2; omega
theorem two_row {G : Gr} {r : List Nat} (h : r ∈ two G) : ∃ l, l < G.length ∧ r = gw G 2 [l] := by
  unfold two at h
  obtain ⟨l, hl, rfl⟩ := List.mem_map.1 h
  exact ⟨l, List.mem_range.1 hl, rfl⟩
theorem two_good {G : Gr} (hG : Good G) (h3 : ∀ r ∈ G, r.length ≤ 3) : Good (two G) where
  n1 := by rw [two_len]; exact hG.n1
  n6 := by rw [two_len]; exact hG.n6
  ne r hr := by
    obtain ⟨l, hl, rfl⟩ := two_row hr
    refine ⟨fun e => ?_, ?_⟩
    · obtain ⟨v, hv⟩ := (wk_G hG).tot 2 l hl
      unfold RG at hv
      rw [e] at hv
      cases hv
    · have := gw_bound hG h3 2 (w := [l]) (by simpa using hl)
      have e : [l].length * 3 ^ 2 = 9 := rfl
      omega
  lt r hr v hv := by
    obtain ⟨l, hl, rfl⟩ := two_row hr
    rw [two_len]
    exact gw_lt hG 2 (w := [l]) (by simpa using hl) v hv
theorem two_sml {G : Gr} (hS : Sml G) (h3 : ∀ r ∈ G, r.length ≤ 3) : Sml (two G) where
  good := two_good hS.good h3
  n4 := by rw [two_len]; exact hS.n4
  r9 r hr := by
    obtain ⟨l, hl, rfl⟩ := two_row hr
    have := gw_bound hS.good h3 2 (w := [l]) (by simpa using hl)
    have e : [l].length * 3 ^ 2 = 9 := rfl
    omega
theorem b_size (p : Pl) (hp : 0 ≤ p.i) (s0 s2 : Sl) (rest : List Sl) : ∃ (n : Nat) (q : Pl), 1 ≤ n ∧ n ≤ 4 ∧ 0 ≤ q.i ∧ (sAsg (eBin gAdd (eK (.int 1)) (eCallR (f_law_draw 300) (aL [(eVar 1), (eK (.int 4))]))) (gNm 2)) (s0 :: .own p.so :: s2 :: rest) =
    some (.nx, s0 :: .own q.so :: .val (.int n) :: rest) := by
  obtain ⟨x, q, hx, hq, d⟩ := drw p hp (S := 4) (by decide) (by decide)
  rw [show ((4 : Nat) : Int) = 4 from rfl] at d
  refine ⟨x + 1, q, by omega, by omega, hq, ?_⟩
  have e : (1 : Int) + (x : Int) = ((x + 1 : Nat) : Int) := by omega
  generalize ((x + 1 : Nat) : Int) = z at *
  simp [d, e]
theorem b_one {G : Gr} (hG : Good G) (s0 s1 s2 s4 : Sl) (rest : List Sl) : (sAsg (eFrz (fMake 0 (f_Growth_init 300) (aL [(eVar 3)]))) (gNm 4)) (s0 :: s1 :: s2 :: .val (.tup (G.map tN)) :: s4 :: rest) = some (.nx, s0 :: s1 :: s2 :: .val (.tup (G.map tN)) :: .val (gD G) :: rest) := by
  have h := growth_init (N := 300) hG (d := .tup (G.map tN)) (.inr rfl)
  unfold gD
  generalize G.map tN = GT at *
  simp [h]
theorem b_two {n : Nat} (hn : 1 ≤ n) (hn4 : n ≤ 4) {G : Gr} (hI : Im n 3 G) (s0 s1 s3 s5 s6 s7 s8 s9 : Sl) (rest : List Sl) : (sAsg (eFrz (fMake 0 (f_Growth_init 300) (aL [(eFrz (fComp [10] (iR1 (aL [(eVar 2)])) (gNm 10) tYs (eCall (f_grown 300) (aL [(eVar 4), (eTup (aL [(eVar 10)])), (eK (.int 2))]))))]))) (gNm 5)) (s0 :: s1 :: .val (.int n) :: s3 :: .val (gD G) :: s5 :: s6 :: s7 :: s8 :: s9 :: .none :: rest) =
    some (.nx, s0 :: s1 :: .val (.int n) :: s3 :: .val (gD G) :: .val (gD (two G)) :: s6 :: s7 :: s8 :: s9 :: .none :: rest) := by
  have hG := hI.good hn hn4
  have h3 : ∀ r ∈ G, r.length ≤ 3 := fun r hr => (hI.row r hr).len.2
  have hl := hI.len
  have h := growth_init (N := 300) (two_good hG h3) (d := .lst ((two G).map tN)) (.inl rfl)
  have c := comp1r (fun l => tN (gw G 2 [l])) (k := 10) (n := n) (m := eCall (f_grown 300) (aL [(eVar 4), (eTup (aL [(eVar 10)])), (eK (.int 2))])) (s0 :: s1 :: .val (.int n) :: s3 :: .val (gD G) :: s5 :: s6 :: s7 :: s8 :: s9 :: .none :: rest) rfl (by omega) (fun v hv => by
    have hv1 : ∀ x ∈ [v], x < G.length := by
      rw [hl]
      simpa using hv
    obtain ⟨o, e⟩ := grown_ok hG hv1 (s := 2) (by decide) (fun j hj => by
      have := gw_bound hG h3 j hv1
      have h9 : 3 ^ j ≤ 3 ^ 2 := Nat.pow_le_pow_right (by decide) hj
      have e1 : [v].length * 3 ^ j = 3 ^ j := by simp
      omega)
    rw [show tN [v] = .tup [.int (v : Nat)] from rfl, show ((2 : Nat) : Int) = 2 from rfl] at e
    generalize tN (gw G 2 [v]) = Z at *
    generalize gD G = GD at *
    simp [e])
  have e2 : ((List.range n).map fun l => tN (gw G 2 [l])) = (two G).map tN := by
    unfold two
    rw [List.map_map, hl]
    rfl
  rw [e2] at c
  have ok := okR_nat n (by omega)
  unfold gD at *
  generalize (two G).map tN = T at *
  generalize G.map tN = GT at *
  simp [ok, c, h]
theorem b_word {n : Nat} (hn : 1 ≤ n) (hn4 : n ≤ 4) (p : Pl) (hp : 0 ≤ p.i) (s0 s3 s4 s5 s6 s7 s8 s9 s10 s11 s12 s13 s14 : Sl) (rest : List Sl) : ∃ (w : List Nat) (q : Pl), Rw n 4 w ∧ 0 ≤ q.i ∧
    (sAsg (eCB gTuple (aL [(eFrz (rowM 4))])) (gNm 6)) (s0 :: .own p.so :: .val (.int n) :: s3 :: s4 :: s5 :: s6 :: s7 :: s8 :: s9 :: s10 :: s11 :: s12 :: s13 :: s14 :: .none :: rest) =
      some (.nx, s0 :: .own q.so :: .val (.int n) :: s3 :: s4 :: s5 :: .val (tN w) :: s7 :: s8 :: s9 :: s10 :: s11 :: s12 :: s13 :: s14 :: .none :: rest) := by
  obtain ⟨w, q, h1, hq, h2⟩ := row_ok hn hn4 (S := 4) (by decide) (by decide) p hp
  refine ⟨w, q, h1, hq, ?_⟩
  have h3 := h2 s0 s3 s4 s5 s6 s7 s8 s9 s10 s11 s12 s13 s14 rest
  unfold tN
  generalize nL w = W at *
  generalize rowM 4 = M at *
  simp [h3, gTuple]
theorem b_steps (p : Pl) (hp : 0 ≤ p.i) (s0 s2 s3 s4 s5 s6 s7 : Sl) (rest : List Sl) : ∃ (x : Nat) (q : Pl), x < 4 ∧ 0 ≤ q.i ∧ (sAsg (eCallR (f_law_draw 300) (aL [(eVar 1), (eK (.int 4))])) (gNm 7)) (s0 :: .own p.so :: s2 :: s3 :: s4 :: s5 :: s6 :: s7 :: rest) =
    some (.nx, s0 :: .own q.so :: s2 :: s3 :: s4 :: s5 :: s6 :: .val (.int x) :: rest) := by
  obtain ⟨x, q, hx, hq, d⟩ := drw p hp (S := 4) (by decide) (by decide)
  rw [show ((4 : Nat) : Int) = 4 from rfl] at d
  refine ⟨x, q, hx, hq, ?_⟩
  simp [d]
theorem b_same {one two W A B : D} {st : Nat} {o1 o2 o3 o4 : List Sl} (h1 : f_grown 300 [.val two, .val W, .val (.int st)] = some (.d A, o1)) (h2 : f_grown 300 [.val one, .val W, .val (.int (2 * (st : Int)))] = some (.d A, o2)) (h3 : f_counts_after 300 [.val two, .val W, .val (.int 20)] = some (.d B, o3)) (h4 : f_counts_after 300 [.val one, .val W, .val (.int 40)] = some (.d B, o4))
    (nA : gNe A A = some (.bl false)) (nB : gNe B B = some (.bl false)) (hst : st < 4) (s0 s1 s2 s3 : Sl) (rest : List Sl) :
    (sIf (tO (tOfB (eBin gNe (eCall (f_grown 300) (aL [(eVar 5), (eVar 6), (eVar 7)])) (eCall (f_grown 300) (aL [(eVar 4), (eVar 6), (eBin gMul (eK (.int 2)) (eVar 7))])))) (tOfB (eBin gNe (eCall (f_counts_after 300) (aL [(eVar 5), (eVar 6), (eK (.int 20))])) (eCall (f_counts_after 300) (aL [(eVar 4), (eVar 6), (eK (.int 40))]))))) (sRet (eK (.bl false))) sNext)
      (s0 :: s1 :: s2 :: s3 :: .val one :: .val two :: .val W :: .val (.int st) :: rest) = some (.nx, s0 :: s1 :: s2 :: s3 :: .val one :: .val two :: .val W :: .val (.int st) :: rest) := by
  have hm := mulOk_l 2 (st : Int) (by decide)
  simp [h1, h2, h3, h4, nA, nB, hm]
end K93
set_option linter.all false
set_option maxRecDepth 100000
namespace K93
open PySem L2 MP
theorem some_ok (p : Pl) (hp : 0 ≤ p.i) : ∃ (x : Nat) (q : Pl), x < 10 ^ 10 ∧ 0 ≤ q.i ∧ f_law_some 300 [.own p.so] = some (.d (.int x), [.own q.so]) := by
  obtain ⟨wy, p1, hw, hp1, d1⟩ := drw p hp (S := 8) (by decide) (by decide)
  rw [show ((8 : Nat) : Int) = 8 from rfl] at d1
  have h6 : (10 : Int) ^ 6 = 1000000 := by decide
  have h10 : (10 : Int) ^ 10 = 10000000000 := by decide
  by_cases c1 : wy < 4
  · obtain ⟨x, q, hx, hq, d⟩ := drw p1 hp1 (S := 40) (by decide) (by decide)
    rw [show ((40 : Nat) : Int) = 40 from rfl] at d
    refine ⟨x, q, by omega, hq, ?_⟩
    have : (wy : Int) < 4 := by omega
    unfold f_law_some runD m_law_some
    simp [d1, d, this, c1, outsOf]
  · by_cases c2 : wy < 6
    · obtain ⟨x, q, hx, hq, d⟩ := drw p1 hp1 (S := 3000) (by decide) (by decide)
      rw [show ((3000 : Nat) : Int) = 3000 from rfl] at d
      refine ⟨x, q, by omega, hq, ?_⟩
      have t1 : ¬ (wy : Int) < 4 := by omega
      have t2 : (wy : Int) < 6 := by omega
      unfold f_law_some runD m_law_some
      simp [d1, d, t1, t2, c1, c2, outsOf]
    · by_cases c3 : wy = 6
      · subst c3
        obtain ⟨x, q, hx, hq, d⟩ := drw p1 hp1 (S := 1000000) (by decide) (by decide)
        rw [show ((1000000 : Nat) : Int) = 1000000 from rfl] at d
        refine ⟨x, q, by omega, hq, ?_⟩
        rw [show ((6 : Nat) : Int) = 6 from rfl] at d1
        unfold f_law_some runD m_law_some
        simp [d1, d, h6, outsOf]
      · obtain ⟨x, q, hx, hq, d⟩ := drw p1 hp1 (S := 10000000000) (by decide) (by decide)
        rw [show ((10000000000 : Nat) : Int) = 10000000000 from rfl] at d
        refine ⟨x, q, by omega, hq, ?_⟩
        have t1 : ¬ (wy : Int) < 4 := by omega
        have t2 : ¬ (wy : Int) < 6 := by omega
        have t3 : ¬ (wy : Int) = 6 := by omega
        unfold f_law_some runD m_law_some
        simp [d1, d, h10, t1, t2, t3, c1, c2, c3, outsOf]
theorem b_m (p : Pl) (hp : 0 ≤ p.i) (s0 s2 s3 s4 s5 s6 s7 s8 : Sl) (rest : List Sl) : ∃ (m : Nat) (q : Pl), 1 ≤ m ∧ m ≤ 2 ^ 64 ∧ 0 ≤ q.i ∧ (sAsg (eBin gAdd (eK (.int 1)) (eCallR (f_law_some 300) (aL [(eVar 1)]))) (gNm 8)) (s0 :: .own p.so :: s2 :: s3 :: s4 :: s5 :: s6 :: s7 :: s8 :: rest) =
    some (.nx, s0 :: .own q.so :: s2 :: s3 :: s4 :: s5 :: s6 :: s7 :: .val (.int m) :: rest) := by
  obtain ⟨x, q, hx, hq, d⟩ := some_ok p hp
  refine ⟨x + 1, q, by omega, by omega, hq, ?_⟩
  have e : (1 : Int) + (x : Int) = ((x + 1 : Nat) : Int) := by omega
  generalize ((x + 1 : Nat) : Int) = z at *
  simp [d, e]
theorem b_far (p : Pl) (hp : 0 ≤ p.i) (s0 s2 s3 s4 s5 s6 s7 s8 s9 : Sl) (rest : List Sl) : ∃ (m : Nat) (q : Pl), m < 10 ^ 9 ∧ 0 ≤ q.i ∧ (sAsg (eCallR (f_law_draw 300) (aL [(eVar 1), (eBin gPow (eK (.int 10)) (eK (.int 9)))])) (gNm 9)) (s0 :: .own p.so :: s2 :: s3 :: s4 :: s5 :: s6 :: s7 :: s8 :: s9 :: rest) =
    some (.nx, s0 :: .own q.so :: s2 :: s3 :: s4 :: s5 :: s6 :: s7 :: s8 :: .val (.int m) :: rest) := by
  obtain ⟨x, q, hx, hq, d⟩ := drw p hp (S := 1000000000) (by decide) (by decide)
  rw [show ((1000000000 : Nat) : Int) = 1000000000 from rfl] at d
  have h9 : (10 : Int) ^ 9 = 1000000000 := by decide
  refine ⟨x, q, by omega, hq, ?_⟩
  simp [d, h9]
theorem b_by {one two W A : D} {far m : Nat} {o1 o2 : List Sl} (h1 : f_counts_by 300 [.val two, .val W, .val (.int far), .val (.int m)] = some (.d A, o1)) (h2 : f_counts_by 300 [.val one, .val W, .val (.int (2 * (far : Int))), .val (.int m)] = some (.d A, o2))
    (nA : gNe A A = some (.bl false)) (s0 s1 s2 s3 s7 : Sl) (rest : List Sl) :
    (sIf (tOfB (eBin gNe (eCall (f_counts_by 300) (aL [(eVar 5), (eVar 6), (eVar 9), (eVar 8)])) (eCall (f_counts_by 300) (aL [(eVar 4), (eVar 6), (eBin gMul (eK (.int 2)) (eVar 9)), (eVar 8)])))) (sRet (eK (.bl false))) sNext)
      (s0 :: s1 :: s2 :: s3 :: .val one :: .val two :: .val W :: s7 :: .val (.int m) :: .val (.int far) :: rest) = some (.nx, s0 :: s1 :: s2 :: s3 :: .val one :: .val two :: .val W :: s7 :: .val (.int m) :: .val (.int far) :: rest) := by
  have hm := mulOk_l 2 (far : Int) (by decide)
  simp [h1, h2, nA, hm]
theorem b_letter {w : List Nat} (hw : 1 ≤ w.length) (s0 s1 s2 s3 s4 s5 s7 s8 s9 s10 : Sl) (rest : List Sl) : (sAsg (eBin gIx (eVar 6) (eK (.int 0))) (gNm 10)) (s0 :: s1 :: s2 :: s3 :: s4 :: s5 :: .val (tN w) :: s7 :: s8 :: s9 :: s10 :: rest) =
    some (.nx, s0 :: s1 :: s2 :: s3 :: s4 :: s5 :: .val (tN w) :: s7 :: s8 :: s9 :: .val (.int (w.headD 0 : Nat)) :: rest) := by
  cases w with
  | nil => exact absurd hw (by decide)
  | cons v w =>
    have : atI (D.int (v : Nat) :: nL w) 0 = some (.int (v : Nat)) := by
      have := atI_cast (D.int (v : Nat) :: nL w) 0
      rw [show ((0 : Nat) : Int) = 0 from rfl] at this
      rw [this]
      rfl
    rw [show tN (v :: w) = .tup (D.int (v : Nat) :: nL w) from rfl, show (v :: w).headD 0 = v from rfl]
    generalize nL w = W at *
    simp [this]
theorem sum_cnt (n : Nat) : ∀ {w : List Nat}, (∀ v ∈ w, v < n) → (cnt n w).sum = w.length
  | [], _ => by
    unfold cnt
    rw [sm_range]
    have : (fun j => ([] : List Nat).count j) = fun _ => 0 := by
      funext j
      simp
    rw [this, sm_zero]
    rfl
  | v :: w, h => by
    have ih := sum_cnt n (w := w) fun x hx => h x (List.mem_cons_of_mem _ hx)
    unfold cnt at *
    rw [sm_range] at *
    have e : (fun j => (v :: w).count j) = fun j => (if j = v then 1 else 0) * 1 + w.count j := by
      funext j
      rw [List.count_cons]
      by_cases c : j = v
      · subst c
        simp
        omega
      · have c2 : ¬ v = j := fun z => c z.symm
        simp [c, c2]
    rw [e, sm_add, ih, sm_ind (fun _ => 1), if_pos (h v List.mem_cons_self), List.length_cons]
    omega
theorem b_length {one : D} {c : List Nat} {l t : Nat} {o1 : List Sl} (h1 : f_counts_after 300 [.val one, .val (.tup [.int l]), .val (.int 12)] = some (.d (tN c), o1)) (ht : c.sum = t) (s0 s1 s2 s3 s5 s6 s7 s8 s9 s11 : Sl) (rest : List Sl) :
    (sAsg (eCB gSumA (aL [(eCall (f_counts_after 300) (aL [(eVar 4), (eTup (aL [(eVar 10)])), (eK (.int 12))]))])) (gNm 11)) (s0 :: s1 :: s2 :: s3 :: .val one :: s5 :: s6 :: s7 :: s8 :: s9 :: .val (.int l) :: s11 :: rest) =
    some (.nx, s0 :: s1 :: s2 :: s3 :: .val one :: s5 :: s6 :: s7 :: s8 :: s9 :: .val (.int l) :: .val (.int t) :: rest) := by
  have g := gSumA_t (c.map fun (u : Nat) => (u : Int))
  rw [← nL_int] at g
  have e : (c.map fun (u : Nat) => (u : Int)).sum = (t : Int) := by
    have := sum_cast (fun u : Nat => u) c
    rw [List.map_id'] at this
    rw [this, ht]
  rw [e] at g
  unfold tN at *
  generalize nL c = C at *
  simp [h1, g]
theorem b_at {t : Nat} (ht : 0 < t) (ht2 : t < 2 ^ 64) (p : Pl) (hp : 0 ≤ p.i) (s0 s2 s3 s4 s5 s6 s7 s8 s9 s10 s12 : Sl) (rest : List Sl) : ∃ (x : Nat) (q : Pl), x < t ∧ 0 ≤ q.i ∧ (sAsg (eCallR (f_law_draw 300) (aL [(eVar 1), (eVar 11)])) (gNm 12)) (s0 :: .own p.so :: s2 :: s3 :: s4 :: s5 :: s6 :: s7 :: s8 :: s9 :: s10 :: .val (.int t) :: s12 :: rest) =
    some (.nx, s0 :: .own q.so :: s2 :: s3 :: s4 :: s5 :: s6 :: s7 :: s8 :: s9 :: s10 :: .val (.int t) :: .val (.int x) :: rest) := by
  obtain ⟨x, q, hx, hq, d⟩ := drw p hp ht ht2
  refine ⟨x, q, hx, hq, ?_⟩
  simp [d]
theorem b_at2 {one two : D} {l at_ x : Nat} {o1 o2 : List Sl} (h1 : f_letter_at 300 [.val two, .val (.int l), .val (.int 6), .val (.int at_)] = some (.d (.int x), o1)) (h2 : f_letter_at 300 [.val one, .val (.int l), .val (.int 12), .val (.int at_)] = some (.d (.int x), o2)) (s0 s1 s2 s3 s6 s7 s8 s9 s11 : Sl) (rest : List Sl) :
    (sIf (tOfB (eBin gNe (eCall (f_letter_at 300) (aL [(eVar 5), (eVar 10), (eK (.int 6)), (eVar 12)])) (eCall (f_letter_at 300) (aL [(eVar 4), (eVar 10), (eK (.int 12)), (eVar 12)])))) (sRet (eK (.bl false))) sNext)
      (s0 :: s1 :: s2 :: s3 :: .val one :: .val two :: s6 :: s7 :: s8 :: s9 :: .val (.int l) :: s11 :: .val (.int at_) :: rest) = some (.nx, s0 :: s1 :: s2 :: s3 :: .val one :: .val two :: s6 :: s7 :: s8 :: s9 :: .val (.int l) :: s11 :: .val (.int at_) :: rest) := by
  simp [h1, h2]
/-! an order of the letters -/
theorem b_left {n : Nat} (hn4 : n ≤ 4) (s0 s1 s3 s4 s5 s6 s7 s8 s9 s10 s11 s12 s13 : Sl) (rest : List Sl) : (sOwn (fLrg (rg1 (eVar 2))) 13) (s0 :: s1 :: .val (.int n) :: s3 :: s4 :: s5 :: s6 :: s7 :: s8 :: s9 :: s10 :: s11 :: s12 :: s13 :: rest) =
    some (.nx, s0 :: s1 :: .val (.int n) :: s3 :: s4 :: s5 :: s6 :: s7 :: s8 :: s9 :: s10 :: s11 :: s12 :: .own (.lst (nL (List.range n))) :: rest) := by
  have okg : okRg 0 (n : Int) = true := by
    have : ∀ n, n ≤ 4 → okRg 0 ((n : Nat) : Int) = true := by decide
    exact this _ hn4
  have e := rg0 n
  generalize nL (List.range n) = E at *
  simp [okg, e]
abbrev pB : Xs := (sExp (eMt gAppend 14 (aL [(eMt gPopAt 13 (aL [(eCallR (f_law_draw 300) (aL [(eVar 1), (eCB gLen (aL [(eVar 13)]))]))]))])))
theorem erase_map : ∀ (L : List Nat) (x : Nat), (nL L).eraseIdx x = nL (L.eraseIdx x)
  | [], x => by simp
  | a :: L, 0 => rfl
  | a :: L, x + 1 => by
    have := erase_map L x
    unfold nL at *
    rw [List.map_cons, List.eraseIdx_cons_succ, List.eraseIdx_cons_succ, List.map_cons, this]
theorem pop_at {L : List Nat} {x : Nat} (h : x < L.length) (h4 : L.length ≤ 4) : gPopAt (nL L) [.int x] = some (.int (L.getD x 0 : Nat), nL (L.eraseIdx x)) := by
  have ok : okK (x : Int) = true := okK_iff _ ⟨by omega, by omega⟩
  have e : (nL L)[x]? = some (.int (L.getD x 0 : Nat)) := by
    rw [List.getElem?_map]
    simp [h]
  have e2 : (nL L).eraseIdx x = nL (L.eraseIdx x) := by
    exact erase_map L x
  unfold gPopAt
  simp only [ok, ixN_cast, nL_len, if_pos h, e, e2]
  rfl
theorem erase_perm : ∀ (L : List Nat) (x : Nat), x < L.length → (L.getD x 0 :: L.eraseIdx x).Perm L
  | [], x, h => absurd h (by simp)
  | a :: L, 0, _ => by simp
  | a :: L, x + 1, h => by
    rw [List.length_cons] at h
    have := erase_perm L x (by omega)
    rw [List.eraseIdx_cons_succ, List.getD_cons_succ]
    exact (List.Perm.swap a _ _).trans (this.cons a)
theorem pops {n : Nat} (hn4 : n ≤ 4) : ∀ (ds : List Nat) (L O : List Nat) (p : Pl), 0 ≤ p.i → ds.length = L.length → (L ++ O).Perm (List.range n) → ∃ (O' : List Nat) (q : Pl), 0 ≤ q.i ∧ O'.Perm (List.range n) ∧
    ∀ (s0 s2 s3 s4 s5 s6 s7 s8 s9 s10 s11 s12 s15 : Sl) (rest : List Sl), (∀ o, s15 ≠ .own o) → ∃ s15', (∀ o, s15' ≠ .own o) ∧ sLoop (gNm 15) pB (nL ds) (s0 :: .own p.so :: s2 :: s3 :: s4 :: s5 :: s6 :: s7 :: s8 :: s9 :: s10 :: s11 :: s12 :: .own (.lst (nL L)) :: .own (.lst (nL O)) :: s15 :: rest) =
      some (.nx, s0 :: .own q.so :: s2 :: s3 :: s4 :: s5 :: s6 :: s7 :: s8 :: s9 :: s10 :: s11 :: s12 :: .own (.lst []) :: .own (.lst (nL O')) :: s15' :: rest)
  | [], L, O, p, hp, hl, hP => by
    have : L = [] := List.length_eq_zero_iff.1 hl.symm
    subst this
    exact ⟨O, p, hp, hP, fun s0 s2 s3 s4 s5 s6 s7 s8 s9 s10 s11 s12 s15 rest h => ⟨s15, h, rfl⟩⟩
  | d :: ds, L, O, p, hp, hl, hP => by
    rw [List.length_cons] at hl
    have hlen := hP.length_eq
    rw [List.length_append, List.length_range] at hlen
    obtain ⟨x, p1, hx, hp1, d1⟩ := drw p hp (S := L.length) (by omega) (by omega)
    have pe := erase_perm L x hx
    obtain ⟨O', q, hq, hO, h⟩ := pops hn4 ds (L.eraseIdx x) (O ++ [L.getD x 0]) p1 hp1 (by rw [List.length_eraseIdx, if_pos hx]; omega) (by
      refine List.Perm.trans ?_ hP
      rw [← List.append_assoc]
      refine (List.perm_append_singleton _ _).trans ?_
      rw [← List.cons_append]
      exact pe.append_right O)
    refine ⟨O', q, hq, hO, fun s0 s2 s3 s4 s5 s6 s7 s8 s9 s10 s11 s12 s15 rest hs => ?_⟩
    obtain ⟨s15', h1, h2⟩ := h s0 s2 s3 s4 s5 s6 s7 s8 s9 s10 s11 s12 (.val (.int d)) rest (by simp)
    refine ⟨s15', h1, ?_⟩
    rw [← h2]
    have pa := pop_at hx (by omega)
    have lo := nL_len O
    have ll := nL_len L
    have ea : nL (O ++ [L.getD x 0]) = nL O ++ [.int (L.getD x 0 : Nat)] := List.map_append
    rw [ea]
    rw [show nL (d :: ds) = D.int (d : Nat) :: nL ds from rfl]
    generalize nL (L.eraseIdx x) = L2 at *
    generalize nL O = OO at *
    generalize hLL : nL L = LL at *
    have l2 : OO.length < 16777216 := by omega
    refine sLoop_cons (e1 := s0 :: .own p.so :: s2 :: s3 :: s4 :: s5 :: s6 :: s7 :: s8 :: s9 :: s10 :: s11 :: s12 :: .own (.lst LL) :: .own (.lst OO) :: .val (.int d) :: rest) (by simp) ?_
    have ll2 : (LL.length : Int) = (L.length : Int) := by omega
    unfold pB
    simp [-List.length_map, ll2, d1, pa, l2]
end K93
set_option linter.all false
set_option maxRecDepth 100000
namespace K93
open PySem L2 MP
theorem b_empty (s0 s1 s2 s3 s4 s5 s6 s7 s8 s9 s10 s11 s12 s13 s14 : Sl) (rest : List Sl) : (sOwn (fLst (aL [])) 14) (s0 :: s1 :: s2 :: s3 :: s4 :: s5 :: s6 :: s7 :: s8 :: s9 :: s10 :: s11 :: s12 :: s13 :: s14 :: rest) =
    some (.nx, s0 :: s1 :: s2 :: s3 :: s4 :: s5 :: s6 :: s7 :: s8 :: s9 :: s10 :: s11 :: s12 :: s13 :: .own (.lst []) :: rest) := by
  simp
theorem b_order {n : Nat} (hn4 : n ≤ 4) (p : Pl) (hp : 0 ≤ p.i) (s0 s3 s4 s5 s6 s7 s8 s9 s10 s11 s12 : Sl) (rest : List Sl) : ∃ (O : List Nat) (q : Pl) (s15 : Sl), O.Perm (List.range n) ∧ 0 ≤ q.i ∧ (∀ o, s15 ≠ .own o) ∧
    (sFor (iR1 (aL [(eVar 2)])) (gNm 15) pB) (s0 :: .own p.so :: .val (.int n) :: s3 :: s4 :: s5 :: s6 :: s7 :: s8 :: s9 :: s10 :: s11 :: s12 :: .own (.lst (nL (List.range n))) :: .own (.lst []) :: .none :: rest) =
      some (.nx, s0 :: .own q.so :: .val (.int n) :: s3 :: s4 :: s5 :: s6 :: s7 :: s8 :: s9 :: s10 :: s11 :: s12 :: .own (.lst []) :: .own (.lst (nL O)) :: s15 :: rest) := by
  obtain ⟨O, q, hq, hO, h⟩ := pops hn4 (List.range n) (List.range n) [] p hp rfl (by simp)
  obtain ⟨s15, h1, h2⟩ := h s0 (.val (.int n)) s3 s4 s5 s6 s7 s8 s9 s10 s11 s12 .none rest (by simp)
  refine ⟨O, q, s15, hO, hq, h1, ?_⟩
  rw [← h2]
  have ok := okR_nat n (by omega)
  have e := rg0 n
  rw [show nL [] = [] from rfl]
  generalize nL (List.range n) = E at *
  rw [sFor_s]
  rw [show iR1 (aL [(eVar 2)]) (s0 :: .own p.so :: .val (.int n) :: s3 :: s4 :: s5 :: s6 :: s7 :: s8 :: s9 :: s10 :: s11 :: s12 :: .own (.lst E) :: .own (.lst []) :: .none :: rest) = some (E, s0 :: .own p.so :: .val (.int n) :: s3 :: s4 :: s5 :: s6 :: s7 :: s8 :: s9 :: s10 :: s11 :: s12 :: .own (.lst E) :: .own (.lst []) :: .none :: rest) by simp [ok, e]]
/-! other names -/
def ph (O : List Nat) (l : Nat) : Nat := O.getD l 0
theorem ren_c {n : Nat} {O : List Nat} (hO : O.length = n) {w : List Nat} (hw : ∀ v ∈ w, v < n) (hl : w.length ≤ 20000) (s0 s1 s2 s3 s4 s5 s6 s7 s8 s9 s10 s11 s12 s13 s15 s16 s17 s18 s19 s20 : Sl) :
    cLoop [21] (gNm 21) tYs (eBin gIx (eVar 14) (eVar 21)) (nL w) [] [s0, s1, s2, s3, s4, s5, s6, s7, s8, s9, s10, s11, s12, s13, .own (.lst (nL O)), s15, s16, s17, s18, s19, s20, .none] =
      some (nL (w.map (ph O)), [s0, s1, s2, s3, s4, s5, s6, s7, s8, s9, s10, s11, s12, s13, .own (.lst (nL O)), s15, s16, s17, s18, s19, s20, .none]) := by
  have c := comp1 (fun (u : Nat) => D.int u) (fun u => D.int (ph O u : Nat)) (k := 21) (m := eBin gIx (eVar 14) (eVar 21)) w [s0, s1, s2, s3, s4, s5, s6, s7, s8, s9, s10, s11, s12, s13, .own (.lst (nL O)), s15, s16, s17, s18, s19, s20, .none] rfl (by omega) (fun v hv => by
    have h := hw v hv
    have e : (nL O)[v]? = some (.int (ph O v : Nat)) := by
      unfold ph
      rw [List.getElem?_map]
      simp [hO, h]
    have e2 : atI (nL O) (v : Int) = some (.int (ph O v : Nat)) := by rw [atI_cast, e]
    generalize nL O = OO at *
    simp [e2, e])
  rw [show nL (w.map (ph O)) = w.map fun u => D.int (ph O u : Nat) by
    unfold nL
    rw [List.map_map]
    rfl]
  exact c
def nam (G : Gr) (O : List Nat) : Gr := (List.range G.length).map fun v => (img G (O.idxOf v)).map (ph O)
theorem ints_lay : ∀ l : List Nat, layDs (nL l) = true ∧ depDs (nL l) = 0
  | [] => by simp [layDs, depDs]
  | b :: l => by
    have := ints_lay l
    unfold nL at *
    simp [layDs, depDs, layD, depD, this]
theorem index_nat {O : List Nat} {v : Nat} (h : v ∈ O) : gIndex (nL O) [.int v] = some (.int (O.idxOf v : Nat)) := by
  have key : ∀ l : List Nat, v ∈ l → (nL l).findIdx? (fun z => eqD z (.int v)) = some (l.idxOf v) := by
    intro l
    induction l with
    | nil => intro h; cases h
    | cons b l ih =>
      intro h
      unfold nL at *
      rw [List.map_cons, List.findIdx?_cons, List.idxOf_cons]
      by_cases c : b = v
      · subst c
        simp [eqD]
      · have c2 : ¬ ((b : Int) = (v : Int)) := by omega
        have hm : v ∈ l := by
          rcases List.mem_cons.1 h with e | e
          · exact absurd e.symm c
          · exact e
        have := ih hm
        have q : (b == v) = false := by simpa using c
        simp [eqD, c, q, this]
        exact c2
  obtain ⟨a, b⟩ := ints_lay O
  have s1 : shD (.lst (nL O)) = true := by simp [shD, layD, depD, a, b]
  have s2 : shD (.int (v : Int)) = true := rfl
  unfold gIndex
  simp only [s1, s2, Bool.and_true, if_true, key O h]
structure Od (n : Nat) (O : List Nat) : Prop where
  perm : O.Perm (List.range n)
theorem Od.len {n : Nat} {O : List Nat} (h : Od n O) : O.length = n := by
  have := h.perm.length_eq
  rwa [List.length_range] at this
theorem Od.mem {n : Nat} {O : List Nat} (h : Od n O) (v : Nat) : v ∈ O ↔ v < n := by rw [h.perm.mem_iff, List.mem_range]
theorem Od.nd {n : Nat} {O : List Nat} (h : Od n O) : O.Nodup := h.perm.nodup_iff.2 List.nodup_range
theorem Od.ph_lt {n : Nat} {O : List Nat} (h : Od n O) {l : Nat} (hl : l < n) : ph O l < n := by
  unfold ph
  have hl2 : l < O.length := by rw [h.len]; exact hl
  rw [List.getD_eq_getElem?_getD, List.getElem?_eq_getElem hl2]
  exact (h.mem _).1 (List.getElem_mem hl2)
theorem Od.idx_lt {n : Nat} {O : List Nat} (h : Od n O) {v : Nat} (hv : v < n) : O.idxOf v < n := by
  have := List.idxOf_lt_length_iff.2 ((h.mem v).2 hv)
  rwa [h.len] at this
theorem Od.ph_idx {n : Nat} {O : List Nat} (h : Od n O) {v : Nat} (hv : v < n) : ph O (O.idxOf v) = v := by
  have h1 := List.idxOf_lt_length_iff.2 ((h.mem v).2 hv)
  unfold ph
  rw [List.getD_eq_getElem?_getD, List.getElem?_eq_getElem h1]
  exact List.getElem_idxOf h1
theorem Od.idx_ph {n : Nat} {O : List Nat} (h : Od n O) {l : Nat} (hl : l < n) : O.idxOf (ph O l) = l := by
  have hl2 : l < O.length := by rw [h.len]; exact hl
  unfold ph
  rw [List.getD_eq_getElem?_getD, List.getElem?_eq_getElem hl2]
  show O.idxOf O[l] = l
  exact h.nd.idxOf_getElem l hl2
theorem nam_len (G : Gr) (O : List Nat) : (nam G O).length = G.length := by simp [nam]
theorem nam_img {n : Nat} {G : Gr} (hl : G.length = n) {O : List Nat} (h : Od n O) {l : Nat} (hln : l < n) : img (nam G O) (ph O l) = (img G l).map (ph O) := by
  unfold img nam
  rw [List.getD_eq_getElem?_getD, List.getElem?_map, List.getElem?_range (by rw [hl]; exact h.ph_lt hln)]
  show (img G (O.idxOf (ph O l))).map (ph O) = _
  rw [h.idx_ph hln]
  rfl
theorem nam_im {n : Nat} {G : Gr} (hI : Im n 3 G) {O : List Nat} (h : Od n O) : Im n 3 (nam G O) where
  len := by rw [nam_len, hI.len]
  row r hr := by
    unfold nam at hr
    obtain ⟨v, hv, rfl⟩ := List.mem_map.1 hr
    have hv := List.mem_range.1 hv
    rw [hI.len] at hv
    have h2 := hI.row _ (img_mem (G := G) (l := O.idxOf v) (by rw [hI.len]; exact h.idx_lt hv))
    refine ⟨by rw [List.length_map]; exact h2.len, fun x hx => ?_⟩
    obtain ⟨y, hy, rfl⟩ := List.mem_map.1 hx
    exact h.ph_lt (h2.lt y hy)
theorem nam_nm {n : Nat} (hn : 1 ≤ n) (hn4 : n ≤ 4) {G : Gr} (hI : Im n 3 G) {O : List Nat} (h : Od n O) : Nm n (RG G) (RG (nam G O)) (ph O) := by
  have hl := hI.len
  have := nm_named (G := G) (H := nam G O) (φ := ph O) (hI.good hn hn4) (by rw [hl]; exact fun l hl => h.ph_lt hl) (by
    rw [hl]
    exact fun v hv => ⟨O.idxOf v, h.idx_lt hv, h.ph_idx hv⟩) (by
    rw [hl]
    intro a b ha hb e
    rw [← h.idx_ph ha, e, h.idx_ph hb]) (by
    rw [hl]
    exact fun l hln => nam_img hl h hln)
  rwa [hl] at this
theorem b_named {n : Nat} (hn : 1 ≤ n) (hn4 : n ≤ 4) {G : Gr} (hI : Im n 3 G) {O : List Nat} (h : Od n O) (d10 : D) (s0 s1 s4 s5 s6 s7 s8 s9 s11 s12 s13 s15 s16 s17 s18 s19 s20 : Sl) :
    (sAsg (eFrz (fMake 0 (f_Growth_init 300) (aL [(eFrz (fComp [10] (iR1 (aL [(eVar 2)])) (gNm 10) tYs (eCB gTuple (aL [(eFrz (fComp [21] (iSq (eBin gIx (eVar 3) (eMw gIndex (eVar 14) (aL [(eVar 10)])))) (gNm 21) tYs (eBin gIx (eVar 14) (eVar 21))))]))))]))) (gNm 16)) [s0, s1, .val (.int n), .val (.tup (G.map tN)), s4, s5, s6, s7, s8, s9, .val d10, s11, s12, s13, .own (.lst (nL O)), s15, s16, s17, s18, s19, s20, .none] =
      some (.nx, [s0, s1, .val (.int n), .val (.tup (G.map tN)), s4, s5, s6, s7, s8, s9, .val d10, s11, s12, s13, .own (.lst (nL O)), s15, .val (gD (nam G O)), s17, s18, s19, s20, .none]) := by
  have hl := hI.len
  have hg := growth_init (N := 300) ((nam_im hI h).good hn hn4) (d := .lst ((nam G O).map tN)) (.inl rfl)
  have c := comp1r (fun v => tN ((img G (O.idxOf v)).map (ph O))) (k := 10) (n := n) (m := eCB gTuple (aL [(eFrz (fComp [21] (iSq (eBin gIx (eVar 3) (eMw gIndex (eVar 14) (aL [(eVar 10)])))) (gNm 21) tYs (eBin gIx (eVar 14) (eVar 21))))])) [s0, s1, .val (.int n), .val (.tup (G.map tN)), s4, s5, s6, s7, s8, s9, .none, s11, s12, s13, .own (.lst (nL O)), s15, s16, s17, s18, s19, s20, .none] rfl (by omega) (fun v hv => by
    have hi := index_nat ((h.mem v).2 hv)
    have hx := ix_G (G := G) (l := O.idxOf v) (by rw [hl]; exact h.idx_lt hv)
    have hr := hI.row _ (img_mem (G := G) (l := O.idxOf v) (by rw [hl]; exact h.idx_lt hv))
    have c2 := ren_c h.len (w := img G (O.idxOf v)) hr.lt (by have := hr.len.2; omega) s0 s1 (.val (.int n)) (.val (.tup (G.map tN))) s4 s5 s6 s7 s8 s9 (.val (.int v)) s11 s12 s13 s15 s16 s17 s18 s19 s20
    unfold tN at *
    generalize nL ((img G (O.idxOf v)).map (ph O)) = Z at *
    generalize nL (img G (O.idxOf v)) = Y at *
    generalize ((O.idxOf v : Nat) : Int) = j at *
    generalize nL O = OO at *
    generalize (G.map fun l => D.tup (nL l)) = GT at *
    have hx' : atI GT j = some (.tup Y) := hx
    simp [hi, hx', c2, gTuple])
  have e2 : ((List.range n).map fun v => tN ((img G (O.idxOf v)).map (ph O))) = (nam G O).map tN := by
    unfold nam
    rw [List.map_map, hl]
    rfl
  rw [e2] at c
  have ok := okR_nat n (by omega)
  unfold gD at *
  generalize (nam G O).map tN = T at *
  generalize G.map tN = GT at *
  generalize nL O = OO at *
  simp [ok, c, hg]
theorem b_ren {n : Nat} {one nmd : D} {O w g : List Nat} (hO : O.length = n) (hw : ∀ v ∈ w, v < n) (hwl : w.length ≤ 20000) (hg : ∀ v ∈ g, v < n) (hgl : g.length ≤ 20000) {st : Nat} {o1 o2 : List Sl} (h1 : f_grown 300 [.val nmd, .val (tN (w.map (ph O))), .val (.int st)] = some (.d (tN (g.map (ph O))), o1)) (h2 : f_grown 300 [.val one, .val (tN w), .val (.int st)] = some (.d (tN g), o2)) (s0 s1 s2 s3 s5 s8 s9 s10 s11 s12 s13 s15 s17 s18 s19 s20 : Sl) :
    (sIf (tOfB (eBin gNe (eCall (f_grown 300) (aL [(eVar 16), (eCB gTuple (aL [(eFrz (fComp [21] (iSq (eVar 6)) (gNm 21) tYs (eBin gIx (eVar 14) (eVar 21))))])), (eVar 7)])) (eCB gTuple (aL [(eFrz (fComp [21] (iSq (eCall (f_grown 300) (aL [(eVar 4), (eVar 6), (eVar 7)]))) (gNm 21) tYs (eBin gIx (eVar 14) (eVar 21))))])))) (sRet (eK (.bl false))) sNext)
      [s0, s1, s2, s3, .val one, s5, .val (tN w), .val (.int st), s8, s9, s10, s11, s12, s13, .own (.lst (nL O)), s15, .val nmd, s17, s18, s19, s20, .none] =
      some (.nx, [s0, s1, s2, s3, .val one, s5, .val (tN w), .val (.int st), s8, s9, s10, s11, s12, s13, .own (.lst (nL O)), s15, .val nmd, s17, s18, s19, s20, .none]) := by
  have c1 := ren_c hO hw hwl s0 s1 s2 s3 (.val one) s5 (.val (tN w)) (.val (.int st)) s8 s9 s10 s11 s12 s13 s15 (.val nmd) s17 s18 s19 s20
  have c2 := ren_c hO hg hgl s0 s1 s2 s3 (.val one) s5 (.val (tN w)) (.val (.int st)) s8 s9 s10 s11 s12 s13 s15 (.val nmd) s17 s18 s19 s20
  have ne := gNe_nT (g.map (ph O)) (g.map (ph O))
  rw [decide_eq_true rfl] at ne
  unfold tN at *
  generalize nL (g.map (ph O)) = Z at *
  generalize nL (w.map (ph O)) = Y at *
  generalize nL g = A at *
  generalize nL w = B at *
  generalize nL O = OO at *
  simp [c1, c2, ne, h1, h2, gTuple]
theorem b_three {one two nmd A B C : D} {o1 o2 o3 : List Sl} (h1 : f_mixes 300 [.val one] = some (.d A, o1)) (h2 : f_mixes 300 [.val two] = some (.d B, o2)) (h3 : f_mixes 300 [.val nmd] = some (.d C, o3)) (s0 s1 s2 s3 s6 s7 s8 s9 s10 s11 s12 s13 s14 s15 s17 s18 s19 : Sl) (rest : List Sl) :
    (sPar3 17 18 19 (aL [(eCall (f_mixes 300) (aL [(eVar 4)])), (eCall (f_mixes 300) (aL [(eVar 5)])), (eCall (f_mixes 300) (aL [(eVar 16)]))])) (s0 :: s1 :: s2 :: s3 :: .val one :: .val two :: s6 :: s7 :: s8 :: s9 :: s10 :: s11 :: s12 :: s13 :: s14 :: s15 :: .val nmd :: s17 :: s18 :: s19 :: rest) =
      some (.nx, s0 :: s1 :: s2 :: s3 :: .val one :: .val two :: s6 :: s7 :: s8 :: s9 :: s10 :: s11 :: s12 :: s13 :: s14 :: s15 :: .val nmd :: .val A :: .val B :: .val C :: rest) := by
  simp [h1, h2, h3]
end K93
set_option linter.all false
set_option maxRecDepth 100000
namespace K93
open PySem L2 MP
theorem gEq_str {x y : Str} (h1 : PyData.strOk x = true) (h2 : PyData.strOk y = true) : gEq (.str x) (.str y) = some (.bl (x == y)) := by
  show (if shD (.str x) && shD (.str y) then some (D.bl (eqD (.str x) (.str y))) else none) = _
  simp [shD, layD, depD, eqD, h1, h2]
theorem gNe_str {x y : Str} (h1 : PyData.strOk x = true) (h2 : PyData.strOk y = true) : gNe (.str x) (.str y) = some (.bl (!(x == y))) := by
  show (if shD (.str x) && shD (.str y) then some (D.bl (!eqD (.str x) (.str y))) else none) = _
  simp [shD, layD, depD, eqD, h1, h2]
theorem so_closed : PyData.strOk (Str.ofString "closed") = true := by decide +kernel
theorem so_mixes : PyData.strOk (Str.ofString "mixes") = true := by decide +kernel
theorem so_turning : PyData.strOk (Str.ofString "turning") = true := by decide +kernel
theorem e_closed_closed : gEq (sD "closed") (sD "closed") = some (.bl true) := by
  rw [gEq_str so_closed so_closed, show (Str.ofString "closed" == Str.ofString "closed") = true by decide +kernel]
theorem n_closed_closed : gNe (sD "closed") (sD "closed") = some (.bl false) := by
  rw [gNe_str so_closed so_closed, show (Str.ofString "closed" == Str.ofString "closed") = true by decide +kernel]
  rfl
theorem e_closed_mixes : gEq (sD "closed") (sD "mixes") = some (.bl false) := by
  rw [gEq_str so_closed so_mixes, show (Str.ofString "closed" == Str.ofString "mixes") = false by decide +kernel]
theorem n_closed_mixes : gNe (sD "closed") (sD "mixes") = some (.bl true) := by
  rw [gNe_str so_closed so_mixes, show (Str.ofString "closed" == Str.ofString "mixes") = false by decide +kernel]
  rfl
theorem e_closed_turning : gEq (sD "closed") (sD "turning") = some (.bl false) := by
  rw [gEq_str so_closed so_turning, show (Str.ofString "closed" == Str.ofString "turning") = false by decide +kernel]
theorem n_closed_turning : gNe (sD "closed") (sD "turning") = some (.bl true) := by
  rw [gNe_str so_closed so_turning, show (Str.ofString "closed" == Str.ofString "turning") = false by decide +kernel]
  rfl
theorem e_mixes_closed : gEq (sD "mixes") (sD "closed") = some (.bl false) := by
  rw [gEq_str so_mixes so_closed, show (Str.ofString "mixes" == Str.ofString "closed") = false by decide +kernel]
theorem n_mixes_closed : gNe (sD "mixes") (sD "closed") = some (.bl true) := by
  rw [gNe_str so_mixes so_closed, show (Str.ofString "mixes" == Str.ofString "closed") = false by decide +kernel]
  rfl
theorem e_mixes_mixes : gEq (sD "mixes") (sD "mixes") = some (.bl true) := by
  rw [gEq_str so_mixes so_mixes, show (Str.ofString "mixes" == Str.ofString "mixes") = true by decide +kernel]
theorem n_mixes_mixes : gNe (sD "mixes") (sD "mixes") = some (.bl false) := by
  rw [gNe_str so_mixes so_mixes, show (Str.ofString "mixes" == Str.ofString "mixes") = true by decide +kernel]
  rfl
theorem e_mixes_turning : gEq (sD "mixes") (sD "turning") = some (.bl false) := by
  rw [gEq_str so_mixes so_turning, show (Str.ofString "mixes" == Str.ofString "turning") = false by decide +kernel]
theorem n_mixes_turning : gNe (sD "mixes") (sD "turning") = some (.bl true) := by
  rw [gNe_str so_mixes so_turning, show (Str.ofString "mixes" == Str.ofString "turning") = false by decide +kernel]
  rfl
theorem e_turning_closed : gEq (sD "turning") (sD "closed") = some (.bl false) := by
  rw [gEq_str so_turning so_closed, show (Str.ofString "turning" == Str.ofString "closed") = false by decide +kernel]
theorem n_turning_closed : gNe (sD "turning") (sD "closed") = some (.bl true) := by
  rw [gNe_str so_turning so_closed, show (Str.ofString "turning" == Str.ofString "closed") = false by decide +kernel]
  rfl
theorem e_turning_mixes : gEq (sD "turning") (sD "mixes") = some (.bl false) := by
  rw [gEq_str so_turning so_mixes, show (Str.ofString "turning" == Str.ofString "mixes") = false by decide +kernel]
theorem n_turning_mixes : gNe (sD "turning") (sD "mixes") = some (.bl true) := by
  rw [gNe_str so_turning so_mixes, show (Str.ofString "turning" == Str.ofString "mixes") = false by decide +kernel]
  rfl
theorem e_turning_turning : gEq (sD "turning") (sD "turning") = some (.bl true) := by
  rw [gEq_str so_turning so_turning, show (Str.ofString "turning" == Str.ofString "turning") = true by decide +kernel]
theorem n_turning_turning : gNe (sD "turning") (sD "turning") = some (.bl false) := by
  rw [gNe_str so_turning so_turning, show (Str.ofString "turning" == Str.ofString "turning") = true by decide +kernel]
  rfl
abbrev tailS : Xs := (sSeq (sIf (tO (tOfB (eBin gNe (eBin gIx (eVar 19) (eK (.int 0))) (eBin gIx (eVar 17) (eK (.int 0))))) (tAn (tOfB (eBin gEq (eBin gIx (eVar 17) (eK (.int 0))) (eK (sD "mixes")))) (tOfB (eBin gNe (eBin gIx (eVar 19) (eK (.int 2))) (eBin gIx (eVar 17) (eK (.int 2))))))) (sRet (eK (.bl false))) sNext)
    (sSeq (sIf (tAn (tOfB (eBin gEq (eBin gIx (eVar 17) (eK (.int 0))) (eK (sD "mixes")))) (tO (tOfB (eBin gNe (eBin gIx (eVar 18) (eK (.int 0))) (eK (sD "mixes")))) (tOfB (eBin gNe (eBin gIx (eVar 18) (eK (.int 2))) (eBin gFdiv (eBin gAdd (eBin gIx (eVar 17) (eK (.int 2))) (eK (.int 1))) (eK (.int 2))))))) (sRet (eK (.bl false))) sNext)
    (sSeq (sIf (tOfB (eBin gEq (eBin gIx (eVar 17) (eK (.int 0))) (eK (sD "turning")))) (sSeq (sAsg (eCB gLen (aL [(eBin gIx (eVar 17) (eK (.int 2)))])) (gNm 20))
    (sSeq (sIf (tO (tAn (tOfB (eBin gEq (eBin gMod (eCB gInt (aL [(eVar 20)])) (eK (.int 2))) (eK (.int 0)))) (tOfB (eBin gNe (eBin gIx (eVar 18) (eK (.int 0))) (eK (sD "closed"))))) (tAn (tOfB (eBin gEq (eBin gMod (eCB gInt (aL [(eVar 20)])) (eK (.int 2))) (eK (.int 1)))) (tO (tOfB (eBin gNe (eBin gIx (eVar 18) (eK (.int 0))) (eK (sD "turning")))) (tOfB (eBin gNe (eCB gLen (aL [(eBin gIx (eVar 18) (eK (.int 2)))])) (eVar 20)))))) (sRet (eK (.bl false))) sNext)
    (sIf (tOfB (eBin gNe (eCB gLen (aL [(eBin gIx (eVar 19) (eK (.int 2)))])) (eVar 20))) (sRet (eK (.bl false))) sNext))) sNext)
    (sSeq (sIf (tAn (tOfB (eBin gEq (eBin gIx (eVar 17) (eK (.int 0))) (eK (sD "closed")))) (tOfB (eBin gNe (eBin gIx (eVar 18) (eK (.int 0))) (eK (sD "closed"))))) (sRet (eK (.bl false))) sNext)
    (sRet (eK (.bl true)))))))
theorem tail_c {A1 A2 B1 B2 C1 C2 : D} (s0 s1 s2 s3 s4 s5 s6 s7 s8 s9 s10 s11 s12 s13 s14 s15 s16 s20 : Sl) (rest : List Sl) : Yes (tailS (s0 :: s1 :: s2 :: s3 :: s4 :: s5 :: s6 :: s7 :: s8 :: s9 :: s10 :: s11 :: s12 :: s13 :: s14 :: s15 :: s16 :: .val (.tup [sD "closed", A1, A2]) :: .val (.tup [sD "closed", B1, B2]) :: .val (.tup [sD "closed", C1, C2]) :: s20 :: rest)) := by
  unfold tailS
  have q1 := e_closed_closed; have q2 := e_closed_mixes; have q3 := e_closed_turning; have q4 := e_mixes_closed; have q5 := e_mixes_mixes; have q6 := e_mixes_turning; have q7 := e_turning_closed; have q8 := e_turning_mixes; have q9 := e_turning_turning
  have r1 := n_closed_closed; have r2 := n_closed_mixes; have r3 := n_closed_turning; have r4 := n_mixes_closed; have r5 := n_mixes_mixes; have r6 := n_mixes_turning; have r7 := n_turning_closed; have r8 := n_turning_mixes; have r9 := n_turning_turning
  generalize sD "closed" = SC at *
  generalize sD "mixes" = SM at *
  generalize sD "turning" = ST at *
  refine stp (e1 := s0 :: s1 :: s2 :: s3 :: s4 :: s5 :: s6 :: s7 :: s8 :: s9 :: s10 :: s11 :: s12 :: s13 :: s14 :: s15 :: s16 :: .val (.tup [SC, A1, A2]) :: .val (.tup [SC, B1, B2]) :: .val (.tup [SC, C1, C2]) :: s20 :: rest) (by simp [q1, q1, q2, q3, q4, q5, q6, q7, q8, q9, r1, r2, r3, r4, r5, r6, r7, r8, r9]) ?_
  refine stp (e1 := s0 :: s1 :: s2 :: s3 :: s4 :: s5 :: s6 :: s7 :: s8 :: s9 :: s10 :: s11 :: s12 :: s13 :: s14 :: s15 :: s16 :: .val (.tup [SC, A1, A2]) :: .val (.tup [SC, B1, B2]) :: .val (.tup [SC, C1, C2]) :: s20 :: rest) (by simp [q1, q1, q2, q3, q4, q5, q6, q7, q8, q9, r1, r2, r3, r4, r5, r6, r7, r8, r9]) ?_
  refine stp (e1 := s0 :: s1 :: s2 :: s3 :: s4 :: s5 :: s6 :: s7 :: s8 :: s9 :: s10 :: s11 :: s12 :: s13 :: s14 :: s15 :: s16 :: .val (.tup [SC, A1, A2]) :: .val (.tup [SC, B1, B2]) :: .val (.tup [SC, C1, C2]) :: s20 :: rest) (by simp [q1, q1, q2, q3, q4, q5, q6, q7, q8, q9, r1, r2, r3, r4, r5, r6, r7, r8, r9]) ?_
  refine stp (e1 := s0 :: s1 :: s2 :: s3 :: s4 :: s5 :: s6 :: s7 :: s8 :: s9 :: s10 :: s11 :: s12 :: s13 :: s14 :: s15 :: s16 :: .val (.tup [SC, A1, A2]) :: .val (.tup [SC, B1, B2]) :: .val (.tup [SC, C1, C2]) :: s20 :: rest) (by simp [q1, q1, q2, q3, q4, q5, q6, q7, q8, q9, r1, r2, r3, r4, r5, r6, r7, r8, r9]) ?_
  exact yes_ret (e1 := s0 :: s1 :: s2 :: s3 :: s4 :: s5 :: s6 :: s7 :: s8 :: s9 :: s10 :: s11 :: s12 :: s13 :: s14 :: s15 :: s16 :: .val (.tup [SC, A1, A2]) :: .val (.tup [SC, B1, B2]) :: .val (.tup [SC, C1, C2]) :: s20 :: rest) rfl (by simp)
theorem tail_m {A1 B1 C1 : D} {k : Nat} (hk : 1 ≤ k) (s0 s1 s2 s3 s4 s5 s6 s7 s8 s9 s10 s11 s12 s13 s14 s15 s16 s20 : Sl) (rest : List Sl) : Yes (tailS (s0 :: s1 :: s2 :: s3 :: s4 :: s5 :: s6 :: s7 :: s8 :: s9 :: s10 :: s11 :: s12 :: s13 :: s14 :: s15 :: s16 :: .val (.tup [sD "mixes", A1, .int k]) :: .val (.tup [sD "mixes", B1, .int (((k + 1) / 2 : Nat) : Int)]) :: .val (.tup [sD "mixes", C1, .int k]) :: s20 :: rest)) := by
  unfold tailS
  have hd : ((k : Int) + 1) / 2 = (((k + 1) / 2 : Nat) : Int) := by omega
  have lg : Nat.log2 2 < 9000 := by decide
  generalize (((k + 1) / 2 : Nat) : Int) = z at *
  have q1 := e_closed_closed; have q2 := e_closed_mixes; have q3 := e_closed_turning; have q4 := e_mixes_closed; have q5 := e_mixes_mixes; have q6 := e_mixes_turning; have q7 := e_turning_closed; have q8 := e_turning_mixes; have q9 := e_turning_turning
  have r1 := n_closed_closed; have r2 := n_closed_mixes; have r3 := n_closed_turning; have r4 := n_mixes_closed; have r5 := n_mixes_mixes; have r6 := n_mixes_turning; have r7 := n_turning_closed; have r8 := n_turning_mixes; have r9 := n_turning_turning
  generalize sD "closed" = SC at *
  generalize sD "mixes" = SM at *
  generalize sD "turning" = ST at *
  refine stp (e1 := s0 :: s1 :: s2 :: s3 :: s4 :: s5 :: s6 :: s7 :: s8 :: s9 :: s10 :: s11 :: s12 :: s13 :: s14 :: s15 :: s16 :: .val (.tup [SM, A1, .int k]) :: .val (.tup [SM, B1, .int z]) :: .val (.tup [SM, C1, .int k]) :: s20 :: rest) (by simp [hd, lg, q1, q2, q3, q4, q5, q6, q7, q8, q9, r1, r2, r3, r4, r5, r6, r7, r8, r9]) ?_
  refine stp (e1 := s0 :: s1 :: s2 :: s3 :: s4 :: s5 :: s6 :: s7 :: s8 :: s9 :: s10 :: s11 :: s12 :: s13 :: s14 :: s15 :: s16 :: .val (.tup [SM, A1, .int k]) :: .val (.tup [SM, B1, .int z]) :: .val (.tup [SM, C1, .int k]) :: s20 :: rest) (by simp [hd, lg, q1, q2, q3, q4, q5, q6, q7, q8, q9, r1, r2, r3, r4, r5, r6, r7, r8, r9]) ?_
  refine stp (e1 := s0 :: s1 :: s2 :: s3 :: s4 :: s5 :: s6 :: s7 :: s8 :: s9 :: s10 :: s11 :: s12 :: s13 :: s14 :: s15 :: s16 :: .val (.tup [SM, A1, .int k]) :: .val (.tup [SM, B1, .int z]) :: .val (.tup [SM, C1, .int k]) :: s20 :: rest) (by simp [hd, lg, q1, q2, q3, q4, q5, q6, q7, q8, q9, r1, r2, r3, r4, r5, r6, r7, r8, r9]) ?_
  refine stp (e1 := s0 :: s1 :: s2 :: s3 :: s4 :: s5 :: s6 :: s7 :: s8 :: s9 :: s10 :: s11 :: s12 :: s13 :: s14 :: s15 :: s16 :: .val (.tup [SM, A1, .int k]) :: .val (.tup [SM, B1, .int z]) :: .val (.tup [SM, C1, .int k]) :: s20 :: rest) (by simp [hd, lg, q1, q2, q3, q4, q5, q6, q7, q8, q9, r1, r2, r3, r4, r5, r6, r7, r8, r9]) ?_
  exact yes_ret (e1 := s0 :: s1 :: s2 :: s3 :: s4 :: s5 :: s6 :: s7 :: s8 :: s9 :: s10 :: s11 :: s12 :: s13 :: s14 :: s15 :: s16 :: .val (.tup [SM, A1, .int k]) :: .val (.tup [SM, B1, .int z]) :: .val (.tup [SM, C1, .int k]) :: s20 :: rest) rfl (by simp)
theorem tail_te {A1 B1 B2 C1 : D} {L M : List D} {d : Nat} (hL : L.length = d) (hM : M.length = d) (he : d % 2 = 0) (s0 s1 s2 s3 s4 s5 s6 s7 s8 s9 s10 s11 s12 s13 s14 s15 s16 s20 : Sl) (rest : List Sl) : Yes (tailS (s0 :: s1 :: s2 :: s3 :: s4 :: s5 :: s6 :: s7 :: s8 :: s9 :: s10 :: s11 :: s12 :: s13 :: s14 :: s15 :: s16 :: .val (.tup [sD "turning", A1, .tup L]) :: .val (.tup [sD "closed", B1, B2]) :: .val (.tup [sD "turning", C1, .tup M]) :: s20 :: rest)) := by
  unfold tailS
  have m0 : (d : Int) % 2 = 0 := by omega
  have q1 := e_closed_closed; have q2 := e_closed_mixes; have q3 := e_closed_turning; have q4 := e_mixes_closed; have q5 := e_mixes_mixes; have q6 := e_mixes_turning; have q7 := e_turning_closed; have q8 := e_turning_mixes; have q9 := e_turning_turning
  have r1 := n_closed_closed; have r2 := n_closed_mixes; have r3 := n_closed_turning; have r4 := n_mixes_closed; have r5 := n_mixes_mixes; have r6 := n_mixes_turning; have r7 := n_turning_closed; have r8 := n_turning_mixes; have r9 := n_turning_turning
  generalize sD "closed" = SC at *
  generalize sD "mixes" = SM at *
  generalize sD "turning" = ST at *
  refine stp (e1 := s0 :: s1 :: s2 :: s3 :: s4 :: s5 :: s6 :: s7 :: s8 :: s9 :: s10 :: s11 :: s12 :: s13 :: s14 :: s15 :: s16 :: .val (.tup [ST, A1, .tup L]) :: .val (.tup [SC, B1, B2]) :: .val (.tup [ST, C1, .tup M]) :: s20 :: rest) (by simp [hL, hM, m0, he, q1, q2, q3, q4, q5, q6, q7, q8, q9, r1, r2, r3, r4, r5, r6, r7, r8, r9]) ?_
  refine stp (e1 := s0 :: s1 :: s2 :: s3 :: s4 :: s5 :: s6 :: s7 :: s8 :: s9 :: s10 :: s11 :: s12 :: s13 :: s14 :: s15 :: s16 :: .val (.tup [ST, A1, .tup L]) :: .val (.tup [SC, B1, B2]) :: .val (.tup [ST, C1, .tup M]) :: s20 :: rest) (by simp [hL, hM, m0, he, q1, q2, q3, q4, q5, q6, q7, q8, q9, r1, r2, r3, r4, r5, r6, r7, r8, r9]) ?_
  refine stp (e1 := s0 :: s1 :: s2 :: s3 :: s4 :: s5 :: s6 :: s7 :: s8 :: s9 :: s10 :: s11 :: s12 :: s13 :: s14 :: s15 :: s16 :: .val (.tup [ST, A1, .tup L]) :: .val (.tup [SC, B1, B2]) :: .val (.tup [ST, C1, .tup M]) :: .val (.int d) :: rest) (by simp [hL, hM, m0, he, q1, q2, q3, q4, q5, q6, q7, q8, q9, r1, r2, r3, r4, r5, r6, r7, r8, r9]) ?_
  refine stp (e1 := s0 :: s1 :: s2 :: s3 :: s4 :: s5 :: s6 :: s7 :: s8 :: s9 :: s10 :: s11 :: s12 :: s13 :: s14 :: s15 :: s16 :: .val (.tup [ST, A1, .tup L]) :: .val (.tup [SC, B1, B2]) :: .val (.tup [ST, C1, .tup M]) :: .val (.int d) :: rest) (by simp [hL, hM, m0, he, q1, q2, q3, q4, q5, q6, q7, q8, q9, r1, r2, r3, r4, r5, r6, r7, r8, r9]) ?_
  exact yes_ret (e1 := s0 :: s1 :: s2 :: s3 :: s4 :: s5 :: s6 :: s7 :: s8 :: s9 :: s10 :: s11 :: s12 :: s13 :: s14 :: s15 :: s16 :: .val (.tup [ST, A1, .tup L]) :: .val (.tup [SC, B1, B2]) :: .val (.tup [ST, C1, .tup M]) :: .val (.int d) :: rest) rfl (by simp)
theorem tail_to {A1 B1 C1 : D} {L M P : List D} {d : Nat} (hL : L.length = d) (hM : M.length = d) (hP : P.length = d) (he : d % 2 = 1) (s0 s1 s2 s3 s4 s5 s6 s7 s8 s9 s10 s11 s12 s13 s14 s15 s16 s20 : Sl) (rest : List Sl) : Yes (tailS (s0 :: s1 :: s2 :: s3 :: s4 :: s5 :: s6 :: s7 :: s8 :: s9 :: s10 :: s11 :: s12 :: s13 :: s14 :: s15 :: s16 :: .val (.tup [sD "turning", A1, .tup L]) :: .val (.tup [sD "turning", B1, .tup P]) :: .val (.tup [sD "turning", C1, .tup M]) :: s20 :: rest)) := by
  unfold tailS
  have m0 : (d : Int) % 2 = 1 := by omega
  have m1 : ¬ (d : Int) % 2 = 0 := by omega
  have q1 := e_closed_closed; have q2 := e_closed_mixes; have q3 := e_closed_turning; have q4 := e_mixes_closed; have q5 := e_mixes_mixes; have q6 := e_mixes_turning; have q7 := e_turning_closed; have q8 := e_turning_mixes; have q9 := e_turning_turning
  have r1 := n_closed_closed; have r2 := n_closed_mixes; have r3 := n_closed_turning; have r4 := n_mixes_closed; have r5 := n_mixes_mixes; have r6 := n_mixes_turning; have r7 := n_turning_closed; have r8 := n_turning_mixes; have r9 := n_turning_turning
  generalize sD "closed" = SC at *
  generalize sD "mixes" = SM at *
  generalize sD "turning" = ST at *
  refine stp (e1 := s0 :: s1 :: s2 :: s3 :: s4 :: s5 :: s6 :: s7 :: s8 :: s9 :: s10 :: s11 :: s12 :: s13 :: s14 :: s15 :: s16 :: .val (.tup [ST, A1, .tup L]) :: .val (.tup [ST, B1, .tup P]) :: .val (.tup [ST, C1, .tup M]) :: s20 :: rest) (by simp [hL, hM, hP, m0, m1, he, q1, q2, q3, q4, q5, q6, q7, q8, q9, r1, r2, r3, r4, r5, r6, r7, r8, r9]) ?_
  refine stp (e1 := s0 :: s1 :: s2 :: s3 :: s4 :: s5 :: s6 :: s7 :: s8 :: s9 :: s10 :: s11 :: s12 :: s13 :: s14 :: s15 :: s16 :: .val (.tup [ST, A1, .tup L]) :: .val (.tup [ST, B1, .tup P]) :: .val (.tup [ST, C1, .tup M]) :: s20 :: rest) (by simp [hL, hM, hP, m0, m1, he, q1, q2, q3, q4, q5, q6, q7, q8, q9, r1, r2, r3, r4, r5, r6, r7, r8, r9]) ?_
  refine stp (e1 := s0 :: s1 :: s2 :: s3 :: s4 :: s5 :: s6 :: s7 :: s8 :: s9 :: s10 :: s11 :: s12 :: s13 :: s14 :: s15 :: s16 :: .val (.tup [ST, A1, .tup L]) :: .val (.tup [ST, B1, .tup P]) :: .val (.tup [ST, C1, .tup M]) :: .val (.int d) :: rest) (by simp [hL, hM, hP, m0, m1, he, q1, q2, q3, q4, q5, q6, q7, q8, q9, r1, r2, r3, r4, r5, r6, r7, r8, r9]) ?_
  refine stp (e1 := s0 :: s1 :: s2 :: s3 :: s4 :: s5 :: s6 :: s7 :: s8 :: s9 :: s10 :: s11 :: s12 :: s13 :: s14 :: s15 :: s16 :: .val (.tup [ST, A1, .tup L]) :: .val (.tup [ST, B1, .tup P]) :: .val (.tup [ST, C1, .tup M]) :: .val (.int d) :: rest) (by simp [hL, hM, hP, m0, m1, he, q1, q2, q3, q4, q5, q6, q7, q8, q9, r1, r2, r3, r4, r5, r6, r7, r8, r9]) ?_
  exact yes_ret (e1 := s0 :: s1 :: s2 :: s3 :: s4 :: s5 :: s6 :: s7 :: s8 :: s9 :: s10 :: s11 :: s12 :: s13 :: s14 :: s15 :: s16 :: .val (.tup [ST, A1, .tup L]) :: .val (.tup [ST, B1, .tup P]) :: .val (.tup [ST, C1, .tup M]) :: .val (.int d) :: rest) rfl (by simp)
end K93
set_option Elab.async false
set_option linter.all false
set_option maxRecDepth 100000
set_option maxHeartbeats 0
namespace K93
open PySem PySem.Spec PyProof.Rows L2 MP
def topS (i : Nat) : Stmt := PySem.Challenge.pw_cellproof_k93_whole_growths_of_growths.main.body.getD i (.Pass ⟨0, 0, 0, 0⟩)
abbrev s_multiplied : Stmt := (topS 6)
theorem sc_multiplied : FnScope ["one", "two", "row", "j", "k"] ["one", "two"] (defScope s_multiplied) := ⟨rfl, rfl, rfl, by decide +kernel, rfl, by decide +kernel, by decide +kernel⟩
def R_multiplied : Nat → Bool := fun i => false
abbrev s_checked_word : Stmt := (topS 13)
theorem sc_checked_word : FnScope ["growth", "word", "letter"] ["growth", "word"] (defScope s_checked_word) := ⟨rfl, rfl, rfl, by decide +kernel, rfl, by decide +kernel, by decide +kernel⟩
def R_checked_word : Nat → Bool := fun i => false
abbrev s_table : Stmt := (topS 15)
theorem sc_table : FnScope ["growth", "size", "image", "letter"] ["growth"] (defScope s_table) := ⟨rfl, rfl, rfl, by decide +kernel, rfl, by decide +kernel, by decide +kernel⟩
def R_table : Nat → Bool := fun i => false
abbrev s_letters_in : Stmt := (topS 20)
theorem sc_letters_in : FnScope ["growth", "letters", "letter", "own"] ["growth", "letters"] (defScope s_letters_in) := ⟨rfl, rfl, rfl, by decide +kernel, rfl, by decide +kernel, by decide +kernel⟩
def R_letters_in : Nat → Bool := fun i => false
abbrev s_are_among : Stmt := (topS 21)
theorem sc_are_among : FnScope ["some", "others", "letter"] ["some", "others"] (defScope s_are_among) := ⟨rfl, rfl, rfl, by decide +kernel, rfl, by decide +kernel, by decide +kernel⟩
def R_are_among : Nat → Bool := fun i => false
abbrev s_law_pool : Stmt := (topS 25)
theorem sc_law_pool : FnScope ["script", "budget"] ["script", "budget"] (defScope s_law_pool) := ⟨rfl, rfl, rfl, by decide +kernel, rfl, by decide +kernel, by decide +kernel⟩
def R_law_pool : Nat → Bool := fun i => false
abbrev s_law_draw : Stmt := (topS 26)
theorem sc_law_draw : FnScope ["pool", "size", "cell", "value"] ["pool", "size"] (defScope s_law_draw) := ⟨rfl, rfl, rfl, by decide +kernel, rfl, by decide +kernel, by decide +kernel⟩
def R_law_draw : Nat → Bool := fun i => i == 0
abbrev s_Growth_init : Stmt := (inClass (topS 12) 0)
theorem sc_Growth_init : FnScope ["self", "images", "image", "letter"] ["self", "images"] (defScope s_Growth_init) := ⟨rfl, rfl, rfl, by decide +kernel, rfl, by decide +kernel, by decide +kernel⟩
def R_Growth_init : Nat → Bool := fun i => i == 0
abbrev s_grown : Stmt := (topS 14)
theorem sc_grown : FnScope ["growth", "word", "steps", "_", "own", "letter"] ["growth", "word", "steps"] (defScope s_grown) := ⟨rfl, rfl, rfl, by decide +kernel, rfl, by decide +kernel, by decide +kernel⟩
def R_grown : Nat → Bool := fun i => false
abbrev s_counts_of : Stmt := (topS 16)
theorem sc_counts_of : FnScope ["growth", "word", "letter"] ["growth", "word"] (defScope s_counts_of) := ⟨rfl, rfl, rfl, by decide +kernel, rfl, by decide +kernel, by decide +kernel⟩
def R_counts_of : Nat → Bool := fun i => false
abbrev s_letter_at : Stmt := (topS 19)
theorem sc_letter_at : FnScope ["growth", "letter", "steps", "at", "lengths", "_", "left", "own", "image"] ["growth", "letter", "steps", "at"] (defScope s_letter_at) := ⟨rfl, rfl, rfl, by decide +kernel, rfl, by decide +kernel, by decide +kernel⟩
def R_letter_at : Nat → Bool := fun i => false
abbrev s_classes : Stmt := (topS 23)
theorem sc_classes : FnScope ["growth", "size", "here", "met", "rounds", "classes", "_", "first", "own", "letter"] ["growth"] (defScope s_classes) := ⟨rfl, rfl, rfl, by decide +kernel, rfl, by decide +kernel, by decide +kernel⟩
def R_classes : Nat → Bool := fun i => false
abbrev s_law_some : Stmt := (topS 27)
theorem sc_law_some : FnScope ["pool", "way"] ["pool"] (defScope s_law_some) := ⟨rfl, rfl, rfl, by decide +kernel, rfl, by decide +kernel, by decide +kernel⟩
def R_law_some : Nat → Bool := fun i => i == 0
abbrev s_counts_after : Stmt := (topS 17)
theorem sc_counts_after : FnScope ["growth", "word", "steps", "row", "table", "_"] ["growth", "word", "steps"] (defScope s_counts_after) := ⟨rfl, rfl, rfl, by decide +kernel, rfl, by decide +kernel, by decide +kernel⟩
def R_counts_after : Nat → Bool := fun i => false
abbrev s_counts_by : Stmt := (topS 18)
theorem sc_counts_by : FnScope ["growth", "word", "steps", "m", "row", "power", "own", "part"] ["growth", "word", "steps", "m"] (defScope s_counts_by) := ⟨rfl, rfl, rfl, by decide +kernel, rfl, by decide +kernel, by decide +kernel⟩
def R_counts_by : Nat → Bool := fun i => false
abbrev s_mixes : Stmt := (topS 22)
theorem sc_mixes : FnScope ["growth", "size", "every", "letter", "met", "here", "steps", "own"] ["growth"] (defScope s_mixes) := ⟨rfl, rfl, rfl, by decide +kernel, rfl, by decide +kernel, by decide +kernel⟩
def R_mixes : Nat → Bool := fun i => false
abbrev s_law : Stmt := (topS 28)
theorem sc_law : FnScope ["script", "pool", "size", "images", "one", "two", "word", "steps", "m", "far", "letter", "length", "at", "left", "order", "k", "named", "first", "second", "third", "many", "own"] ["script"] (defScope s_law) := ⟨rfl, rfl, rfl, by decide +kernel, rfl, by decide +kernel, by decide +kernel⟩
def R_law : Nat → Bool := fun i => false
structure TX (K : PySem.W.Frag) (mg : Str → Option Value) (cl : ClM) where
  a_multiplied : Addr
  d_multiplied : FuncData
  F_multiplied : Fun K "multiplied" "multiplied" s_multiplied a_multiplied d_multiplied
  b_multiplied : Binds K d_multiplied ["one", "two"] []
  mg_multiplied : mg "multiplied" = some (.ref a_multiplied)
  a_checked_word : Addr
  d_checked_word : FuncData
  F_checked_word : Fun K "checked_word" "checked_word" s_checked_word a_checked_word d_checked_word
  b_checked_word : Binds K d_checked_word ["growth", "word"] []
  mg_checked_word : mg "checked_word" = some (.ref a_checked_word)
  a_table : Addr
  d_table : FuncData
  F_table : Fun K "_table" "_table" s_table a_table d_table
  b_table : Binds K d_table ["growth"] []
  mg_table : mg "_table" = some (.ref a_table)
  a_letters_in : Addr
  d_letters_in : FuncData
  F_letters_in : Fun K "_letters_in" "_letters_in" s_letters_in a_letters_in d_letters_in
  b_letters_in : Binds K d_letters_in ["growth", "letters"] []
  mg_letters_in : mg "_letters_in" = some (.ref a_letters_in)
  a_are_among : Addr
  d_are_among : FuncData
  F_are_among : Fun K "_are_among" "_are_among" s_are_among a_are_among d_are_among
  b_are_among : Binds K d_are_among ["some", "others"] []
  mg_are_among : mg "_are_among" = some (.ref a_are_among)
  a_law_pool : Addr
  d_law_pool : FuncData
  F_law_pool : Fun K "_law_pool" "_law_pool" s_law_pool a_law_pool d_law_pool
  b_law_pool : Binds K d_law_pool ["script", "budget"] []
  mg_law_pool : mg "_law_pool" = some (.ref a_law_pool)
  a_law_draw : Addr
  d_law_draw : FuncData
  F_law_draw : Fun K "_law_draw" "_law_draw" s_law_draw a_law_draw d_law_draw
  b_law_draw : Binds K d_law_draw ["pool", "size"] []
  mg_law_draw : mg "_law_draw" = some (.ref a_law_draw)
  a_Growth_init : Addr
  d_Growth_init : FuncData
  F_Growth_init : Fun K "__init__" "Growth.__init__" s_Growth_init a_Growth_init d_Growth_init
  b_Growth_init : Binds K d_Growth_init ["self", "images"] []
  a_grown : Addr
  d_grown : FuncData
  F_grown : Fun K "grown" "grown" s_grown a_grown d_grown
  b_grown : Binds K d_grown ["growth", "word", "steps"] []
  mg_grown : mg "grown" = some (.ref a_grown)
  a_counts_of : Addr
  d_counts_of : FuncData
  F_counts_of : Fun K "counts_of" "counts_of" s_counts_of a_counts_of d_counts_of
  b_counts_of : Binds K d_counts_of ["growth", "word"] []
  mg_counts_of : mg "counts_of" = some (.ref a_counts_of)
  a_letter_at : Addr
  d_letter_at : FuncData
  F_letter_at : Fun K "letter_at" "letter_at" s_letter_at a_letter_at d_letter_at
  b_letter_at : Binds K d_letter_at ["growth", "letter", "steps", "at"] []
  mg_letter_at : mg "letter_at" = some (.ref a_letter_at)
  a_classes : Addr
  d_classes : FuncData
  F_classes : Fun K "_classes" "_classes" s_classes a_classes d_classes
  b_classes : Binds K d_classes ["growth"] []
  mg_classes : mg "_classes" = some (.ref a_classes)
  a_law_some : Addr
  d_law_some : FuncData
  F_law_some : Fun K "_law_some" "_law_some" s_law_some a_law_some d_law_some
  b_law_some : Binds K d_law_some ["pool"] []
  mg_law_some : mg "_law_some" = some (.ref a_law_some)
  a_counts_after : Addr
  d_counts_after : FuncData
  F_counts_after : Fun K "counts_after" "counts_after" s_counts_after a_counts_after d_counts_after
  b_counts_after : Binds K d_counts_after ["growth", "word", "steps"] []
  mg_counts_after : mg "counts_after" = some (.ref a_counts_after)
  a_counts_by : Addr
  d_counts_by : FuncData
  F_counts_by : Fun K "counts_by" "counts_by" s_counts_by a_counts_by d_counts_by
  b_counts_by : Binds K d_counts_by ["growth", "word", "steps", "m"] []
  mg_counts_by : mg "counts_by" = some (.ref a_counts_by)
  a_mixes : Addr
  d_mixes : FuncData
  F_mixes : Fun K "mixes" "mixes" s_mixes a_mixes d_mixes
  b_mixes : Binds K d_mixes ["growth"] []
  mg_mixes : mg "mixes" = some (.ref a_mixes)
  a_law : Addr
  d_law : FuncData
  F_law : Fun K "law" "law" s_law a_law d_law
  b_law : Binds K d_law ["script"] []
  mg_law : mg "law" = some (.ref a_law)
  A_Growth : Addr
  k_Growth : ClsOk K cl 0 A_Growth ["images"]
  mg_Growth : mg "Growth" = some (.ref A_Growth)
  mk_Growth : Mk K A_Growth a_Growth_init
  n_len : mg "len" = none
  n_range : mg "range" = none
  n_sum : mg "sum" = none
  n_tuple : mg "tuple" = none
  n_all : mg "all" = none
  n_sorted : mg "sorted" = none
  n_list : mg "list" = none
  n_int : mg "int" = none
  n_set : mg "set" = none
  t_MOST_LETTERS : Tok
  c_MOST_LETTERS : mg "MOST_LETTERS" = some (.int 6 t_MOST_LETTERS)
  t_MOST_IMAGE : Tok
  c_MOST_IMAGE : mg "MOST_IMAGE" = some (.int 12 t_MOST_IMAGE)
  t_MOST_WORD : Tok
  c_MOST_WORD : mg "MOST_WORD" = some (.int 20000 t_MOST_WORD)
  t_MOST_POWER : Tok
  c_MOST_POWER : mg "MOST_POWER" = some (.int 2000 t_MOST_POWER)
section
variable {P : Program} {w : World} {K : PySem.W.Frag} {mg : Str → Option Value} {base : Heap} {cl : ClM}
theorem ok_multiplied (T : TX K mg cl) (N : Nat) : FnOk P w K mg base CX0 1 T.a_multiplied T.d_multiplied ["one", "two"] (spG K cl 2 R_multiplied (f_multiplied N)) :=
  fn_ok T.F_multiplied sc_multiplied fun cdv A outer s H E hr =>
    have nd := sc_multiplied.nd
    have hu1 := hu_1 hr
    have hu64 := hu_64 hr
    have hu65 := hu_65 hr
    (mss_one (ms_ret (me_frz (mf_lc (vs := [2]) (mi_sq (me_var (pv 0))) (fun _ _ _ _ _ => (mg_name (pg_name (i := 2) nd rfl (by first | exact .inl rfl | exact .inr rfl)) rfl)) (fun _ _ _ _ _ => mts_nil) (fun _ _ _ _ _ => (me_frz (mf_lc (vs := [3]) (mi_r1 (mal_cons (me_cb cm_len (mal_cons (me_ix (me_var (pv 1)) me_int fun _ _ => rfl) mal_nil fun _ _ p q => pa_cons p q) fun _ _ hc p => pe_callB hc (by rfl) T.n_len (by decide +kernel) p) mal_nil fun _ _ p q => pa_cons p q) fun _ p => pi_range1 (by rfl) T.n_range p) (fun _ _ _ _ _ => (mg_name (pg_name (i := 3) nd rfl (by first | exact .inl rfl | exact .inr rfl)) rfl)) (fun _ _ _ _ _ => mts_nil) (fun _ _ _ _ _ => (me_cb (cm_sum rfl) (mal_cons (me_frz (mf_lc (vs := [4]) (mi_r1 (mal_cons (me_cb cm_len (mal_cons (me_var (pv 1)) mal_nil fun _ _ p q => pa_cons p q) fun _ _ hc p => pe_callB hc (by rfl) T.n_len (by decide +kernel) p) mal_nil fun _ _ p q => pa_cons p q) fun _ p => pi_range1 (by rfl) T.n_range p) (fun _ _ _ _ _ => (mg_name (pg_name (i := 4) nd rfl (by first | exact .inl rfl | exact .inr rfl)) rfl)) (fun _ _ _ _ _ => mts_nil) (fun _ _ _ _ _ => (me_op om_mul (me_ix (me_var (pv 2)) (me_var (pv 4)) fun _ _ => rfl) (me_ix (me_ix (me_var (pv 1)) (me_var (pv 4)) fun _ _ => rfl) (me_var (pv 3)) fun _ _ => rfl))) (fun _ _ _ _ pi pg pt pe => pe_lc (own := [("k", 4)]) rfl nd pi (blkOk_by (by kernel_rfl)) pg pt pe))) mal_nil fun _ _ p q => pa_cons p q) fun _ _ hc p => pe_callB hc (by rfl) T.n_sum (by decide +kernel) p)) (fun _ _ _ _ pi pg pt pe => pe_lc (own := [("j", 3)]) rfl nd pi (blkOk_by (by kernel_rfl)) pg pt pe)))) (fun _ _ _ _ pi pg pt pe => pe_lc (own := [("row", 2)]) rfl nd pi (blkOk_by (by kernel_rfl)) pg pt pe)))))
theorem ok_checked_word (T : TX K mg cl) (N : Nat) : FnOk P w K mg base CX0 1 T.a_checked_word T.d_checked_word ["growth", "word"] (spG K cl 2 R_checked_word (f_checked_word N)) :=
  fn_ok T.F_checked_word sc_checked_word fun cdv A outer s H E hr =>
    have nd := sc_checked_word.nd
    have hu1 := hu_1 hr
    have hu64 := hu_64 hr
    have hu65 := hu_65 hr
    (mss_cons (ms_set (me_cb cm_tuple (mal_cons (me_var (pv 1)) mal_nil fun _ _ p q => pa_cons p q) fun _ _ hc p => pe_callTy hc (by rfl) T.n_tuple (by decide +kernel) p) (fun _ p => ps_set (i := 1) nd rfl (Or.inl rfl) p) rfl)
    (mss_cons (ms_if (mt_not (mt_truth (me_cb (cm_all rfl) (mal_cons (me_frz (mf_lc (vs := [2]) (mi_sq (me_var (pv 1))) (fun _ _ _ _ _ => (mg_name (pg_name (i := 2) nd rfl (by first | exact .inl rfl | exact .inr rfl)) rfl)) (fun _ _ _ _ _ => mts_nil) (fun _ _ _ _ _ => (me_chain om_le om_lt me_int (me_var (pv 2)) (me_cb cm_len (mal_cons (me_fld (j := 0) T.k_Growth rfl (me_var (pv 0)) fun _ p => pe_fld p rfl) mal_nil fun _ _ p q => pa_cons p q) fun _ _ hc p => pe_callB hc (by rfl) T.n_len (by decide +kernel) p))) (fun _ _ _ _ pi pg pt pe => pe_lc (own := [("letter", 2)]) rfl nd pi (blkOk_by (by kernel_rfl)) pg pt pe))) mal_nil fun _ _ p q => pa_cons p q) fun _ _ hc p => pe_callB hc (by rfl) T.n_all (by decide +kernel) p) (by intro _; rfl))) (mss_one ms_no) mss_nil)
    (mss_one (ms_ret (me_var (pv 1))))))
theorem ok_table (T : TX K mg cl) (N : Nat) : FnOk P w K mg base CX0 1 T.a_table T.d_table ["growth"] (spG K cl 1 R_table (f_table N)) :=
  fn_ok T.F_table sc_table fun cdv A outer s H E hr =>
    have nd := sc_table.nd
    have hu1 := hu_1 hr
    have hu64 := hu_64 hr
    have hu65 := hu_65 hr
    (mss_cons (ms_set (me_cb cm_len (mal_cons (me_fld (j := 0) T.k_Growth rfl (me_var (pv 0)) fun _ p => pe_fld p rfl) mal_nil fun _ _ p q => pa_cons p q) fun _ _ hc p => pe_callB hc (by rfl) T.n_len (by decide +kernel) p) (fun _ p => ps_set (i := 1) nd rfl (Or.inr rfl) p) rfl)
    (mss_one (ms_ret (me_frz (mf_lc (vs := [2]) (mi_sq (me_fld (j := 0) T.k_Growth rfl (me_var (pv 0)) fun _ p => pe_fld p rfl)) (fun _ _ _ _ _ => (mg_name (pg_name (i := 2) nd rfl (by first | exact .inl rfl | exact .inr rfl)) rfl)) (fun _ _ _ _ _ => mts_nil) (fun _ _ _ _ _ => (me_frz (mf_lc (vs := [3]) (mi_r1 (mal_cons (me_var (pv 1)) mal_nil fun _ _ p q => pa_cons p q) fun _ p => pi_range1 (by rfl) T.n_range p) (fun _ _ _ _ _ => (mg_name (pg_name (i := 3) nd rfl (by first | exact .inl rfl | exact .inr rfl)) rfl)) (fun _ _ _ _ _ => mts_nil) (fun _ _ _ _ _ => (me_count (me_var (pv 2)) (mal_cons (me_var (pv 3)) mal_nil fun _ _ p q => pa_cons p q) fun _ _ q p => pe_bmS PySem.F.slot_list_count PySem.F.type_list_count mt_lcount PySem.F.slot_tuple_count PySem.F.type_tuple_count mt_tcount q p)) (fun _ _ _ _ pi pg pt pe => pe_lc (own := [("letter", 3)]) rfl nd pi (blkOk_by (by kernel_rfl)) pg pt pe)))) (fun _ _ _ _ pi pg pt pe => pe_lc (own := [("image", 2)]) rfl nd pi (blkOk_by (by kernel_rfl)) pg pt pe))))))
theorem ok_letters_in (T : TX K mg cl) (N : Nat) : FnOk P w K mg base CX0 1 T.a_letters_in T.d_letters_in ["growth", "letters"] (spG K cl 2 R_letters_in (f_letters_in N)) :=
  fn_ok T.F_letters_in sc_letters_in fun cdv A outer s H E hr =>
    have nd := sc_letters_in.nd
    have hu1 := hu_1 hr
    have hu64 := hu_64 hr
    have hu65 := hu_65 hr
    (mss_one (ms_ret (me_cb cm_tuple (mal_cons (me_frz (mf_sc2 (vs := [2, 3]) (vs1 := [3]) (by decide) (mi_sq (me_var (pv 1))) (fun _ _ _ _ _ => (mg_name (pg_name (i := 2) nd rfl (by first | exact .inl rfl | exact .inr rfl)) rfl)) (fun _ _ _ _ _ => mts_nil) (fun _ _ _ _ _ => (mi_sq (me_ix (me_fld (j := 0) T.k_Growth rfl (me_var (pv 0)) fun _ p => pe_fld p rfl) (me_var (pv 2)) fun _ _ => rfl))) (fun _ _ _ _ _ => (mg_name (pg_name (i := 3) nd rfl (by first | exact .inl rfl | exact .inr rfl)) rfl)) (fun _ _ _ _ _ => mts_nil) (fun _ _ _ _ _ => (me_var (pv 3))) (fun _ _ _ _ _ _ _ pi pg pt pi1 pg1 pt1 pe => pe_callB (cr_sortedSet rfl) (by rfl) T.n_sorted (by decide +kernel) (pa_cons (pe_scI2 (own := [("letter", 2), ("own", 3)]) (vs1 := [3]) rfl nd pi (blkOk_by (by kernel_rfl)) (by decide) pg pt pi1 pg1 pt1 pe) pa_nil)))) mal_nil fun _ _ p q => pa_cons p q) fun _ _ hc p => pe_callTy hc (by rfl) T.n_tuple (by decide +kernel) p)))
theorem ok_are_among (T : TX K mg cl) (N : Nat) : FnOk P w K mg base CX0 1 T.a_are_among T.d_are_among ["some", "others"] (spG K cl 2 R_are_among (f_are_among N)) :=
  fn_ok T.F_are_among sc_are_among fun cdv A outer s H E hr =>
    have nd := sc_are_among.nd
    have hu1 := hu_1 hr
    have hu64 := hu_64 hr
    have hu65 := hu_65 hr
    (mss_one (ms_ret (me_cb (cm_all rfl) (mal_cons (me_frz (mf_lc (vs := [2]) (mi_sq (me_var (pv 0))) (fun _ _ _ _ _ => (mg_name (pg_name (i := 2) nd rfl (by first | exact .inl rfl | exact .inr rfl)) rfl)) (fun _ _ _ _ _ => mts_nil) (fun _ _ _ _ _ => (me_cmp (om_in hu65) (me_var (pv 2)) (me_var (pv 1)) (by rfl))) (fun _ _ _ _ pi pg pt pe => pe_lc (own := [("letter", 2)]) rfl nd pi (blkOk_by (by kernel_rfl)) pg pt pe))) mal_nil fun _ _ p q => pa_cons p q) fun _ _ hc p => pe_callB hc (by rfl) T.n_all (by decide +kernel) p)))
theorem ok_law_pool (T : TX K mg cl) (N : Nat) : FnOk P w K mg base CX0 1 T.a_law_pool T.d_law_pool ["script", "budget"] (spG K cl 2 R_law_pool (f_law_pool N)) :=
  fn_ok T.F_law_pool sc_law_pool fun cdv A outer s H E hr =>
    have nd := sc_law_pool.nd
    have hu1 := hu_1 hr
    have hu64 := hu_64 hr
    have hu65 := hu_65 hr
    (mss_one (ms_retF (mf_lst (mal_cons (me_frz (mf_cb cf_list (mal_cons (me_var (pv 0)) mal_nil fun _ _ p q => pa_cons p q) fun _ _ hc p => pe_callTy hc (by rfl) T.n_list (by decide +kernel) p)) (mal_cons me_int (mal_cons me_int (mal_cons me_int (mal_cons me_int (mal_cons (me_var (pv 1)) mal_nil fun _ _ p q => pa_cons p q) fun _ _ p q => pa_cons p q) fun _ _ p q => pa_cons p q) fun _ _ p q => pa_cons p q) fun _ _ p q => pa_cons p q) fun _ _ p q => pa_cons p q))))
theorem ok_law_draw (T : TX K mg cl) (N : Nat) : FnOk P w K mg base CX0 1 T.a_law_draw T.d_law_draw ["pool", "size"] (spG K cl 2 R_law_draw (f_law_draw N)) :=
  fn_ok T.F_law_draw sc_law_draw fun cdv A outer s H E hr =>
    have nd := sc_law_draw.nd
    have hu1 := hu_1 hr
    have hu64 := hu_64 hr
    have hu65 := hu_65 hr
    (mss_cons (ms_if ((mw_and (mt_cmp om_le (me_ix (me_var (pv 0)) me_int fun _ _ => rfl) me_int (nomark _)) (mw_and (mt_cmp om_le (me_ix (me_var (pv 0)) me_int fun _ _ => rfl) me_int (nomark _)) (mw_and1 (mt_cmp om_lt (me_ix (me_var (pv 0)) me_int fun _ _ => rfl) (me_cb cm_len (mal_cons (me_ix (me_var (pv 0)) me_int fun _ _ => rfl) mal_nil fun _ _ p q => pa_cons p q) fun _ _ hc p => pe_callB hc (by rfl) T.n_len (by decide +kernel) p) (nomark _)))))).mt (mss_cons (ms_set (me_ix (me_ix (me_var (pv 0)) me_int fun _ _ => rfl) (me_ix (me_var (pv 0)) me_int fun _ _ => rfl) fun _ _ => rfl) (fun _ p => ps_set (i := 2) nd rfl (Or.inl rfl) p) rfl)
    (mss_cons (ms_setIx (me_op om_add (me_ix (me_var (pv 0)) me_int fun _ _ => rfl) me_int) me_int fun _ _ p q => ps_asg p (pg_sub (pv 0) q set_list))
    (mss_cons (ms_setIx (me_op om_mod (me_cb cm_int (mal_cons (me_op om_add (me_op om_mul (me_ix (me_var (pv 0)) me_int fun _ _ => rfl) me_int) (me_var (pv 2))) mal_nil fun _ _ p q => pa_cons p q) fun _ _ hc p => pe_callTy hc (by rfl) T.n_int (by decide +kernel) p) me_int) me_int fun _ _ p q => ps_asg p (pg_sub (pv 0) q set_list))
    (mss_cons (ms_setIx me_int me_int fun _ _ p q => ps_asg p (pg_sub (pv 0) q set_list))
    (mss_one (ms_if (mt_cmp om_ge (me_var (pv 2)) (me_op om_pow me_int me_int) (nomark _)) (mss_one (ms_setIx (me_var (pv 2)) me_int fun _ _ p q => ps_asg p (pg_sub (pv 0) q set_list))) mss_nil)))))) mss_nil)
    (mss_cons (ms_if (mt_cmp om_gt (me_ix (me_var (pv 0)) me_int fun _ _ => rfl) me_int (nomark _)) (mss_cons (ms_set (me_op om_mod (me_cb cm_int (mal_cons (me_ix (me_var (pv 0)) me_int fun _ _ => rfl) mal_nil fun _ _ p q => pa_cons p q) fun _ _ hc p => pe_callTy hc (by rfl) T.n_int (by decide +kernel) p) (me_var (pv 1))) (fun _ p => ps_set (i := 3) nd rfl (Or.inl rfl) p) rfl)
    (mss_cons (ms_setIx (me_op om_fdiv (me_ix (me_var (pv 0)) me_int fun _ _ => rfl) (me_var (pv 1))) me_int fun _ _ p q => ps_asg p (pg_sub (pv 0) q set_list))
    (mss_cons (ms_setIx me_int me_int fun _ _ p q => ps_asg p (pg_sub (pv 0) q set_list))
    (mss_one (ms_ret (me_var (pv 3))))))) mss_nil)
    (mss_cons (ms_setIx (me_op om_sub (me_ix (me_var (pv 0)) me_int fun _ _ => rfl) me_int) me_int fun _ _ p q => ps_asg p (pg_sub (pv 0) q set_list))
    (mss_cons (ms_setIx (me_op om_mod (me_cb cm_int (mal_cons (me_op om_add (me_op om_mul (me_ix (me_var (pv 0)) me_int fun _ _ => rfl) me_int) me_int) mal_nil fun _ _ p q => pa_cons p q) fun _ _ hc p => pe_callTy hc (by rfl) T.n_int (by decide +kernel) p) me_int) me_int fun _ _ p q => ps_asg p (pg_sub (pv 0) q set_list))
    (mss_one (ms_ret (me_op om_mod (me_op om_mod (me_cb cm_int (mal_cons (me_op om_add (me_op om_mul (me_ix (me_var (pv 0)) me_int fun _ _ => rfl) me_int) me_int) mal_nil fun _ _ p q => pa_cons p q) fun _ _ hc p => pe_callTy hc (by rfl) T.n_int (by decide +kernel) p) me_int) (me_var (pv 1)))))))))
theorem ok_Growth_init (T : TX K mg cl) (N : Nat) : FnOk P w K mg base CX0 1 T.a_Growth_init T.d_Growth_init ["self", "images"] (spG K cl 2 R_Growth_init (f_Growth_init N)) :=
  fn_ok T.F_Growth_init sc_Growth_init fun cdv A outer s H E hr =>
    have nd := sc_Growth_init.nd
    have hu1 := hu_1 hr
    have hu64 := hu_64 hr
    have hu65 := hu_65 hr
    (mss_cons (ms_fldSet (j := 0) T.k_Growth rfl (me_cb cm_tuple (mal_cons (me_frz (mf_lc (vs := [2]) (mi_sq (me_var (pv 1))) (fun _ _ _ _ _ => (mg_name (pg_name (i := 2) nd rfl (by first | exact .inl rfl | exact .inr rfl)) rfl)) (fun _ _ _ _ _ => mts_nil) (fun _ _ _ _ _ => (me_cb cm_tuple (mal_cons (me_var (pv 2)) mal_nil fun _ _ p q => pa_cons p q) fun _ _ hc p => pe_callTy hc (by rfl) T.n_tuple (by decide +kernel) p)) (fun _ _ _ _ pi pg pt pe => pe_lc (own := [("image", 2)]) rfl nd pi (blkOk_by (by kernel_rfl)) pg pt pe))) mal_nil fun _ _ p q => pa_cons p q) fun _ _ hc p => pe_callTy hc (by rfl) T.n_tuple (by decide +kernel) p) fun _ p => ps_fld (pv 0) p rfl)
    (mss_cons (ms_if (mt_not (mt_chain om_le om_le me_int (me_cb cm_len (mal_cons (me_fld (j := 0) T.k_Growth rfl (me_var (pv 0)) fun _ p => pe_fld p rfl) mal_nil fun _ _ p q => pa_cons p q) fun _ _ hc p => pe_callB hc (by rfl) T.n_len (by decide +kernel) p) (me_k (v := .int 6) (pe_glob (by rfl) T.c_MOST_LETTERS ⟨_, rfl⟩) fun _ => .int _))) (mss_one ms_no) mss_nil)
    (mss_cons (ms_if (mt_not (mt_truth (me_cb (cm_all rfl) (mal_cons (me_frz (mf_lc (vs := [2]) (mi_sq (me_fld (j := 0) T.k_Growth rfl (me_var (pv 0)) fun _ p => pe_fld p rfl)) (fun _ _ _ _ _ => (mg_name (pg_name (i := 2) nd rfl (by first | exact .inl rfl | exact .inr rfl)) rfl)) (fun _ _ _ _ _ => mts_nil) (fun _ _ _ _ _ => (me_chain om_le om_le me_int (me_cb cm_len (mal_cons (me_var (pv 2)) mal_nil fun _ _ p q => pa_cons p q) fun _ _ hc p => pe_callB hc (by rfl) T.n_len (by decide +kernel) p) (me_k (v := .int 12) (pe_glob (by rfl) T.c_MOST_IMAGE ⟨_, rfl⟩) fun _ => .int _))) (fun _ _ _ _ pi pg pt pe => pe_lc (own := [("image", 2)]) rfl nd pi (blkOk_by (by kernel_rfl)) pg pt pe))) mal_nil fun _ _ p q => pa_cons p q) fun _ _ hc p => pe_callB hc (by rfl) T.n_all (by decide +kernel) p) (by intro _; rfl))) (mss_one ms_no) mss_nil)
    (mss_one (ms_if (mt_not (mt_truth (me_cb (cm_all rfl) (mal_cons (me_frz (mf_lc2 (vs := [2, 3]) (vs1 := [3]) (by decide) (mi_sq (me_fld (j := 0) T.k_Growth rfl (me_var (pv 0)) fun _ p => pe_fld p rfl)) (fun _ _ _ _ _ => (mg_name (pg_name (i := 2) nd rfl (by first | exact .inl rfl | exact .inr rfl)) rfl)) (fun _ _ _ _ _ => mts_nil) (fun _ _ _ _ _ => (mi_sq (me_var (pv 2)))) (fun _ _ _ _ _ => (mg_name (pg_name (i := 3) nd rfl (by first | exact .inl rfl | exact .inr rfl)) rfl)) (fun _ _ _ _ _ => mts_nil) (fun _ _ _ _ _ => (me_chain om_le om_lt me_int (me_var (pv 3)) (me_cb cm_len (mal_cons (me_fld (j := 0) T.k_Growth rfl (me_var (pv 0)) fun _ p => pe_fld p rfl) mal_nil fun _ _ p q => pa_cons p q) fun _ _ hc p => pe_callB hc (by rfl) T.n_len (by decide +kernel) p))) (fun _ _ _ _ _ _ _ pi pg pt pi1 pg1 pt1 pe => pe_lc2 (own := [("image", 2), ("letter", 3)]) (vs1 := [3]) rfl nd pi (blkOk_by (by kernel_rfl)) (by decide) pg pt pi1 pg1 pt1 pe))) mal_nil fun _ _ p q => pa_cons p q) fun _ _ hc p => pe_callB hc (by rfl) T.n_all (by decide +kernel) p) (by intro _; rfl))) (mss_one ms_no) mss_nil)))))
theorem ok_grown (T : TX K mg cl) (N : Nat) : FnOk P w K mg base CX0 2 T.a_grown T.d_grown ["growth", "word", "steps"] (spG K cl 3 R_grown (f_grown N)) :=
  fn_ok T.F_grown sc_grown fun cdv A outer s H E hr =>
    have nd := sc_grown.nd
    have hu1 := hu_1 hr
    have hu64 := hu_64 hr
    have hu65 := hu_65 hr
    (mss_cons (ms_set (me_call (mal_cons (me_var (pv 0)) (mal_cons (me_var (pv 1)) mal_nil fun _ _ p q => pa_cons p q) fun _ _ p q => pa_cons p q) (fun _ p => pe_call (ok_checked_word T N) hr (by rfl) T.mg_checked_word T.F_checked_word.kp T.b_checked_word .nil pass0 p) fun _ _ _ h => aL_len h) (fun _ p => ps_set (i := 1) nd rfl (Or.inl rfl) p) rfl)
    (mss_cons (ms_for PassesOwn.never rfl (mi_r1 (mal_cons (me_var (pv 2)) mal_nil fun _ _ p q => pa_cons p q) fun _ p => pi_range1 (by rfl) T.n_range p) (mg_name (pg_name (i := 3) nd rfl (Or.inl rfl)) rfl) (mss_cons (ms_set (me_cb cm_tuple (mal_cons (me_frz (mf_lc2 (vs := [4, 5]) (vs1 := [5]) (by decide) (mi_sq (me_var (pv 1))) (fun _ _ _ _ _ => (mg_name (pg_name (i := 4) nd rfl (by first | exact .inl rfl | exact .inr rfl)) rfl)) (fun _ _ _ _ _ => mts_nil) (fun _ _ _ _ _ => (mi_sq (me_ix (me_fld (j := 0) T.k_Growth rfl (me_var (pv 0)) fun _ p => pe_fld p rfl) (me_var (pv 4)) fun _ _ => rfl))) (fun _ _ _ _ _ => (mg_name (pg_name (i := 5) nd rfl (by first | exact .inl rfl | exact .inr rfl)) rfl)) (fun _ _ _ _ _ => mts_nil) (fun _ _ _ _ _ => (me_var (pv 5))) (fun _ _ _ _ _ _ _ pi pg pt pi1 pg1 pt1 pe => pe_lc2 (own := [("own", 4), ("letter", 5)]) (vs1 := [5]) rfl nd pi (blkOk_by (by kernel_rfl)) (by decide) pg pt pi1 pg1 pt1 pe))) mal_nil fun _ _ p q => pa_cons p q) fun _ _ hc p => pe_callTy hc (by rfl) T.n_tuple (by decide +kernel) p) (fun _ p => ps_set (i := 1) nd rfl (Or.inl rfl) p) rfl)
    (mss_one (ms_if (mt_cmp om_gt (me_cb cm_len (mal_cons (me_var (pv 1)) mal_nil fun _ _ p q => pa_cons p q) fun _ _ hc p => pe_callB hc (by rfl) T.n_len (by decide +kernel) p) (me_k (v := .int 20000) (pe_glob (by rfl) T.c_MOST_WORD ⟨_, rfl⟩) fun _ => .int _) (nomark _)) (mss_one ms_no) mss_nil))))
    (mss_one (ms_ret (me_var (pv 1))))))
theorem ok_counts_of (T : TX K mg cl) (N : Nat) : FnOk P w K mg base CX0 2 T.a_counts_of T.d_counts_of ["growth", "word"] (spG K cl 2 R_counts_of (f_counts_of N)) :=
  fn_ok T.F_counts_of sc_counts_of fun cdv A outer s H E hr =>
    have nd := sc_counts_of.nd
    have hu1 := hu_1 hr
    have hu64 := hu_64 hr
    have hu65 := hu_65 hr
    (mss_cons (ms_set (me_call (mal_cons (me_var (pv 0)) (mal_cons (me_var (pv 1)) mal_nil fun _ _ p q => pa_cons p q) fun _ _ p q => pa_cons p q) (fun _ p => pe_call (ok_checked_word T N) hr (by rfl) T.mg_checked_word T.F_checked_word.kp T.b_checked_word .nil pass0 p) fun _ _ _ h => aL_len h) (fun _ p => ps_set (i := 1) nd rfl (Or.inr rfl) p) rfl)
    (mss_one (ms_ret (me_cb cm_tuple (mal_cons (me_frz (mf_lc (vs := [2]) (mi_r1 (mal_cons (me_cb cm_len (mal_cons (me_fld (j := 0) T.k_Growth rfl (me_var (pv 0)) fun _ p => pe_fld p rfl) mal_nil fun _ _ p q => pa_cons p q) fun _ _ hc p => pe_callB hc (by rfl) T.n_len (by decide +kernel) p) mal_nil fun _ _ p q => pa_cons p q) fun _ p => pi_range1 (by rfl) T.n_range p) (fun _ _ _ _ _ => (mg_name (pg_name (i := 2) nd rfl (by first | exact .inl rfl | exact .inr rfl)) rfl)) (fun _ _ _ _ _ => mts_nil) (fun _ _ _ _ _ => (me_count (me_var (pv 1)) (mal_cons (me_var (pv 2)) mal_nil fun _ _ p q => pa_cons p q) fun _ _ q p => pe_bmS PySem.F.slot_list_count PySem.F.type_list_count mt_lcount PySem.F.slot_tuple_count PySem.F.type_tuple_count mt_tcount q p)) (fun _ _ _ _ pi pg pt pe => pe_lc (own := [("letter", 2)]) rfl nd pi (blkOk_by (by kernel_rfl)) pg pt pe))) mal_nil fun _ _ p q => pa_cons p q) fun _ _ hc p => pe_callTy hc (by rfl) T.n_tuple (by decide +kernel) p))))
theorem ok_letter_at (T : TX K mg cl) (N : Nat) : FnOk P w K mg base CX0 2 T.a_letter_at T.d_letter_at ["growth", "letter", "steps", "at"] (spG K cl 4 R_letter_at (f_letter_at N)) :=
  fn_ok T.F_letter_at sc_letter_at fun cdv A outer s H E hr =>
    have nd := sc_letter_at.nd
    have hu1 := hu_1 hr
    have hu64 := hu_64 hr
    have hu65 := hu_65 hr
    (mss_cons (ms_exp (me_call (mal_cons (me_var (pv 0)) (mal_cons (me_tup (mal_cons (me_var (pv 1)) mal_nil fun _ _ p q => pa_cons p q)) mal_nil fun _ _ p q => pa_cons p q) fun _ _ p q => pa_cons p q) (fun _ p => pe_call (ok_checked_word T N) hr (by rfl) T.mg_checked_word T.F_checked_word.kp T.b_checked_word .nil pass0 p) fun _ _ _ h => aL_len h))
    (mss_cons (ms_if (mt_not (mt_chain om_le om_le me_int (me_var (pv 2)) (me_k (v := .int 2000) (pe_glob (by rfl) T.c_MOST_POWER ⟨_, rfl⟩) fun _ => .int _))) (mss_one ms_no) mss_nil)
    (mss_cons (ms_setO (mf_lst (mal_cons (me_op om_mul (me_frz (mf_lst (mal_cons me_int mal_nil fun _ _ p q => pa_cons p q))) (me_cb cm_len (mal_cons (me_fld (j := 0) T.k_Growth rfl (me_var (pv 0)) fun _ p => pe_fld p rfl) mal_nil fun _ _ p q => pa_cons p q) fun _ _ hc p => pe_callB hc (by rfl) T.n_len (by decide +kernel) p)) mal_nil fun _ _ p q => pa_cons p q)) (fun _ p => ps_set (i := 4) nd rfl (Or.inr rfl) p) rfl)
    (mss_cons (ms_for PassesOwn.never rfl (mi_r1 (mal_cons (me_var (pv 2)) mal_nil fun _ _ p q => pa_cons p q) fun _ p => pi_range1 (by rfl) T.n_range p) (mg_name (pg_name (i := 5) nd rfl (Or.inl rfl)) rfl) (mss_one (ms_exp (me_mt ml_append (mal_cons (me_frz (mf_lc (vs := [8]) (mi_sq (me_fld (j := 0) T.k_Growth rfl (me_var (pv 0)) fun _ p => pe_fld p rfl)) (fun _ _ _ _ _ => (mg_name (pg_name (i := 8) nd rfl (by first | exact .inl rfl | exact .inr rfl)) rfl)) (fun _ _ _ _ _ => mts_nil) (fun _ _ _ _ _ => (me_cb (cm_sum rfl) (mal_cons (me_frz (mf_lc (vs := [7]) (mi_sq (me_var (pv 8))) (fun _ _ _ _ _ => (mg_name (pg_name (i := 7) nd rfl (by first | exact .inl rfl | exact .inr rfl)) rfl)) (fun _ _ _ _ _ => mts_nil) (fun _ _ _ _ _ => (me_ix (me_ix (me_var (pv 4)) (me_neg me_int) fun _ _ => rfl) (me_var (pv 7)) fun _ _ => rfl)) (fun _ _ _ _ pi pg pt pe => pe_lc (own := [("own", 7)]) rfl nd pi (blkOk_by (by kernel_rfl)) pg pt pe))) mal_nil fun _ _ p q => pa_cons p q) fun _ _ hc p => pe_callB hc (by rfl) T.n_sum (by decide +kernel) p)) (fun _ _ _ _ pi pg pt pe => pe_lc (own := [("image", 8)]) rfl nd pi (blkOk_by (by kernel_rfl)) pg pt pe))) mal_nil fun _ _ p q => pa_cons p q) fun _ p => pe_bm PySem.F.plainAttrs_list PySem.F.slot_list_append PySem.F.type_list_append mt_append (pv 4) p))))
    (mss_cons (ms_if (mt_not (mt_chain om_le om_lt me_int (me_var (pv 3)) (me_ix (me_ix (me_var (pv 4)) (me_var (pv 2)) fun _ _ => rfl) (me_var (pv 1)) fun _ _ => rfl))) (mss_one ms_no) mss_nil)
    (mss_cons (ms_for PassesOwn.never rfl (mi_r3 (mal_cons (me_op om_sub (me_var (pv 2)) me_int) (mal_cons (me_neg me_int) (mal_cons (me_neg me_int) mal_nil fun _ _ p q => pa_cons p q) fun _ _ p q => pa_cons p q) fun _ _ p q => pa_cons p q) fun _ p => pi_range3 (by rfl) T.n_range p) (mg_name (pg_name (i := 6) nd rfl (Or.inl rfl)) rfl) (mss_cons (ms_for PassesOwn.never rfl (mi_sq (me_ix (me_fld (j := 0) T.k_Growth rfl (me_var (pv 0)) fun _ p => pe_fld p rfl) (me_var (pv 1)) fun _ _ => rfl)) (mg_name (pg_name (i := 7) nd rfl (Or.inl rfl)) rfl) (mss_cons (ms_if (mt_cmp om_lt (me_var (pv 3)) (me_ix (me_ix (me_var (pv 4)) (me_var (pv 6)) fun _ _ => rfl) (me_var (pv 7)) fun _ _ => rfl) (nomark _)) (mss_one ms_break) mss_nil)
    (mss_one (ms_set (me_op om_sub (me_var (pv 3)) (me_ix (me_ix (me_var (pv 4)) (me_var (pv 6)) fun _ _ => rfl) (me_var (pv 7)) fun _ _ => rfl)) (fun _ p => ps_set (i := 3) nd rfl (Or.inl rfl) p) rfl))))
    (mss_one (ms_set (me_var (pv 7)) (fun _ p => ps_set (i := 1) nd rfl (Or.inl rfl) p) rfl))))
    (mss_one (ms_ret (me_var (pv 1))))))))))
theorem ok_classes (T : TX K mg cl) (N : Nat) : FnOk P w K mg base CX0 2 T.a_classes T.d_classes ["growth"] (spG K cl 1 R_classes (f_classes N)) :=
  fn_ok T.F_classes sc_classes fun cdv A outer s H E hr =>
    have nd := sc_classes.nd
    have hu1 := hu_1 hr
    have hu64 := hu_64 hr
    have hu65 := hu_65 hr
    (mss_cons (ms_set (me_cb cm_len (mal_cons (me_fld (j := 0) T.k_Growth rfl (me_var (pv 0)) fun _ p => pe_fld p rfl) mal_nil fun _ _ p q => pa_cons p q) fun _ _ hc p => pe_callB hc (by rfl) T.n_len (by decide +kernel) p) (fun _ p => ps_set (i := 1) nd rfl (Or.inl rfl) p) rfl)
    (mss_cons (ms_set (me_tup (mal_cons me_int mal_nil fun _ _ p q => pa_cons p q)) (fun _ p => ps_set (i := 2) nd rfl (Or.inl rfl) p) rfl)
    (mss_cons (ms_setO mf_dictT (fun _ p => ps_set (i := 3) nd rfl (Or.inl rfl) p) rfl)
    (mss_cons (ms_while (n := N) PassesOwn.never (mt_dnin hu64 (me_var (pv 2)) (me_var (pv 3))) (mss_cons (ms_dput (me_cb cm_lenD (mal_cons (me_var (pv 3)) mal_nil fun _ _ p q => pa_cons p q) fun _ _ hc p => pe_callB hc (by rfl) T.n_len (by decide +kernel) p) (me_var (pv 2)) fun _ _ p q => ps_dputU hu64 (pv 3) q p rfl)
    (mss_one (ms_set (me_call (mal_cons (me_var (pv 0)) (mal_cons (me_var (pv 2)) mal_nil fun _ _ p q => pa_cons p q) fun _ _ p q => pa_cons p q) (fun _ p => pe_call (ok_letters_in T N) hr (by rfl) T.mg_letters_in T.F_letters_in.kp T.b_letters_in .nil pass0 p) fun _ _ _ h => aL_len h) (fun _ p => ps_set (i := 2) nd rfl (Or.inl rfl) p) rfl))))
    (mss_cons (ms_set (me_op om_sub (me_cb cm_lenD (mal_cons (me_var (pv 3)) mal_nil fun _ _ p q => pa_cons p q) fun _ _ hc p => pe_callB hc (by rfl) T.n_len (by decide +kernel) p) (me_dix hu64 (me_var (pv 3)) (me_var (pv 2)) fun _ _ => rfl)) (fun _ p => ps_set (i := 4) nd rfl (Or.inl rfl) p) rfl)
    (mss_cons (ms_setO (mf_lst mal_nil) (fun _ p => ps_set (i := 5) nd rfl (Or.inl rfl) p) rfl)
    (mss_cons (ms_for PassesOwn.never rfl (mi_r1 (mal_cons (me_var (pv 4)) mal_nil fun _ _ p q => pa_cons p q) fun _ p => pi_range1 (by rfl) T.n_range p) (mg_name (pg_name (i := 6) nd rfl (Or.inl rfl)) rfl) (mss_cons (ms_exp (me_mt ml_append (mal_cons (me_var (pv 2)) mal_nil fun _ _ p q => pa_cons p q) fun _ p => pe_bm PySem.F.plainAttrs_list PySem.F.slot_list_append PySem.F.type_list_append mt_append (pv 5) p))
    (mss_one (ms_set (me_call (mal_cons (me_var (pv 0)) (mal_cons (me_var (pv 2)) mal_nil fun _ _ p q => pa_cons p q) fun _ _ p q => pa_cons p q) (fun _ p => pe_call (ok_letters_in T N) hr (by rfl) T.mg_letters_in T.F_letters_in.kp T.b_letters_in .nil pass0 p) fun _ _ _ h => aL_len h) (fun _ p => ps_set (i := 2) nd rfl (Or.inl rfl) p) rfl))))
    (mss_cons (ms_if (mt_cmp (om_ne hu64) (me_frz (mf_cb cf_sortI (mal_cons (me_frz (mf_lc2 (vs := [8, 9]) (vs1 := [9]) (by decide) (mi_sq (me_var (pv 5))) (fun _ _ _ _ _ => (mg_name (pg_name (i := 8) nd rfl (by first | exact .inl rfl | exact .inr rfl)) rfl)) (fun _ _ _ _ _ => mts_nil) (fun _ _ _ _ _ => (mi_sq (me_var (pv 8)))) (fun _ _ _ _ _ => (mg_name (pg_name (i := 9) nd rfl (by first | exact .inl rfl | exact .inr rfl)) rfl)) (fun _ _ _ _ _ => mts_nil) (fun _ _ _ _ _ => (me_var (pv 9))) (fun _ _ _ _ _ _ _ pi pg pt pi1 pg1 pt1 pe => pe_lc2 (own := [("own", 8), ("letter", 9)]) (vs1 := [9]) rfl nd pi (blkOk_by (by kernel_rfl)) (by decide) pg pt pi1 pg1 pt1 pe))) mal_nil fun _ _ p q => pa_cons p q) fun _ _ hc p => pe_callB hc (by rfl) T.n_sorted (by decide +kernel) p)) (me_frz (mf_lrg (mr_1 (me_var (pv 1)) fun _ p => prg_1 (by rfl) T.n_range p) fun _ p => pe_listRg rfl (by rfl) T.n_list p)) (nomark _)) (mss_one (ms_ret me_non)) mss_nil)
    (mss_cons (ms_set (me_index hu65 (me_frz (mf_lc (vs := [8]) (mi_sq (me_var (pv 5))) (fun _ _ _ _ _ => (mg_name (pg_name (i := 8) nd rfl (by first | exact .inl rfl | exact .inr rfl)) rfl)) (fun _ _ _ _ _ => mts_nil) (fun _ _ _ _ _ => (me_cmp (om_in hu65) me_int (me_var (pv 8)) (by rfl))) (fun _ _ _ _ pi pg pt pe => pe_lc (own := [("own", 8)]) rfl nd pi (blkOk_by (by kernel_rfl)) pg pt pe))) (mal_cons me_bl mal_nil fun _ _ p q => pa_cons p q) fun _ _ q p => pe_bmS PySem.F.slot_list_index PySem.F.type_list_index (mt_indexD hu65) PySem.F.slot_tuple_index PySem.F.type_tuple_index (mt_tindex hu65) q p) (fun _ p => ps_set (i := 7) nd rfl (Or.inl rfl) p) rfl)
    (mss_one (ms_ret (me_cb cm_tuple (mal_cons (me_op om_add (me_sl (me_var (pv 5)) (mo_some (me_var (pv 7))) mo_no) (me_sl (me_var (pv 5)) mo_no (mo_some (me_var (pv 7))))) mal_nil fun _ _ p q => pa_cons p q) fun _ _ hc p => pe_callTy hc (by rfl) T.n_tuple (by decide +kernel) p))))))))))))
theorem ok_law_some (T : TX K mg cl) (N : Nat) : FnOk P w K mg base CX0 2 T.a_law_some T.d_law_some ["pool"] (spG K cl 1 R_law_some (f_law_some N)) :=
  fn_ok T.F_law_some sc_law_some fun cdv A outer s H E hr =>
    have nd := sc_law_some.nd
    have hu1 := hu_1 hr
    have hu64 := hu_64 hr
    have hu65 := hu_65 hr
    (mss_cons (ms_set (me_callR rfl (mal_cons (me_var (pv 0)) (mal_cons me_int mal_nil fun _ _ p q => pa_cons p q) fun _ _ p q => pa_cons p q) (fun _ p => pe_call (ok_law_draw T N) hr (by rfl) T.mg_law_draw T.F_law_draw.kp T.b_law_draw .nil pass0 p) fun _ _ _ h => aL_len h) (fun _ p => ps_set (i := 1) nd rfl (Or.inl rfl) p) rfl)
    (mss_cons (ms_if (mt_cmp om_lt (me_var (pv 1)) me_int (nomark _)) (mss_one (ms_ret (me_callR rfl (mal_cons (me_var (pv 0)) (mal_cons me_int mal_nil fun _ _ p q => pa_cons p q) fun _ _ p q => pa_cons p q) (fun _ p => pe_call (ok_law_draw T N) hr (by rfl) T.mg_law_draw T.F_law_draw.kp T.b_law_draw .nil pass0 p) fun _ _ _ h => aL_len h))) mss_nil)
    (mss_cons (ms_if (mt_cmp om_lt (me_var (pv 1)) me_int (nomark _)) (mss_one (ms_ret (me_callR rfl (mal_cons (me_var (pv 0)) (mal_cons me_int mal_nil fun _ _ p q => pa_cons p q) fun _ _ p q => pa_cons p q) (fun _ p => pe_call (ok_law_draw T N) hr (by rfl) T.mg_law_draw T.F_law_draw.kp T.b_law_draw .nil pass0 p) fun _ _ _ h => aL_len h))) mss_nil)
    (mss_cons (ms_if (mt_cmp (om_eq hu64) (me_var (pv 1)) me_int (nomark _)) (mss_one (ms_ret (me_callR rfl (mal_cons (me_var (pv 0)) (mal_cons (me_op om_pow me_int me_int) mal_nil fun _ _ p q => pa_cons p q) fun _ _ p q => pa_cons p q) (fun _ p => pe_call (ok_law_draw T N) hr (by rfl) T.mg_law_draw T.F_law_draw.kp T.b_law_draw .nil pass0 p) fun _ _ _ h => aL_len h))) mss_nil)
    (mss_one (ms_ret (me_callR rfl (mal_cons (me_var (pv 0)) (mal_cons (me_op om_pow me_int me_int) mal_nil fun _ _ p q => pa_cons p q) fun _ _ p q => pa_cons p q) (fun _ p => pe_call (ok_law_draw T N) hr (by rfl) T.mg_law_draw T.F_law_draw.kp T.b_law_draw .nil pass0 p) fun _ _ _ h => aL_len h)))))))
theorem ok_counts_after (T : TX K mg cl) (N : Nat) : FnOk P w K mg base CX0 3 T.a_counts_after T.d_counts_after ["growth", "word", "steps"] (spG K cl 3 R_counts_after (f_counts_after N)) :=
  fn_ok T.F_counts_after sc_counts_after fun cdv A outer s H E hr =>
    have nd := sc_counts_after.nd
    have hu1 := hu_1 hr
    have hu64 := hu_64 hr
    have hu65 := hu_65 hr
    (mss_cons (ms_if (mt_cmp om_gt (me_var (pv 2)) (me_k (v := .int 2000) (pe_glob (by rfl) T.c_MOST_POWER ⟨_, rfl⟩) fun _ => .int _) (nomark _)) (mss_one ms_no) mss_nil)
    (mss_cons (ms_set (me_frz (mf_lst (mal_cons (me_frz (mf_cb cf_list (mal_cons (me_call (mal_cons (me_var (pv 0)) (mal_cons (me_var (pv 1)) mal_nil fun _ _ p q => pa_cons p q) fun _ _ p q => pa_cons p q) (fun _ p => pe_call (ok_counts_of T N) hr (by rfl) T.mg_counts_of T.F_counts_of.kp T.b_counts_of .nil pass0 p) fun _ _ _ h => aL_len h) mal_nil fun _ _ p q => pa_cons p q) fun _ _ hc p => pe_callTy hc (by rfl) T.n_list (by decide +kernel) p)) mal_nil fun _ _ p q => pa_cons p q))) (fun _ p => ps_set (i := 3) nd rfl (Or.inl rfl) p) rfl)
    (mss_cons (ms_set (me_call (mal_cons (me_var (pv 0)) mal_nil fun _ _ p q => pa_cons p q) (fun _ p => pe_call (ok_table T N) (hr.mono (by decide)) (by rfl) T.mg_table T.F_table.kp T.b_table .nil pass0 p) fun _ _ _ h => aL_len h) (fun _ p => ps_set (i := 4) nd rfl (Or.inl rfl) p) rfl)
    (mss_cons (ms_for PassesOwn.never rfl (mi_r1 (mal_cons (me_var (pv 2)) mal_nil fun _ _ p q => pa_cons p q) fun _ p => pi_range1 (by rfl) T.n_range p) (mg_name (pg_name (i := 5) nd rfl (Or.inl rfl)) rfl) (mss_one (ms_set (me_call (mal_cons (me_var (pv 3)) (mal_cons (me_var (pv 4)) mal_nil fun _ _ p q => pa_cons p q) fun _ _ p q => pa_cons p q) (fun _ p => pe_call (ok_multiplied T N) (hr.mono (by decide)) (by rfl) T.mg_multiplied T.F_multiplied.kp T.b_multiplied .nil pass0 p) fun _ _ _ h => aL_len h) (fun _ p => ps_set (i := 3) nd rfl (Or.inl rfl) p) rfl)))
    (mss_one (ms_ret (me_cb cm_tuple (mal_cons (me_ix (me_var (pv 3)) me_int fun _ _ => rfl) mal_nil fun _ _ p q => pa_cons p q) fun _ _ hc p => pe_callTy hc (by rfl) T.n_tuple (by decide +kernel) p)))))))
theorem ok_counts_by (T : TX K mg cl) (N : Nat) : FnOk P w K mg base CX0 3 T.a_counts_by T.d_counts_by ["growth", "word", "steps", "m"] (spG K cl 4 R_counts_by (f_counts_by N)) :=
  fn_ok T.F_counts_by sc_counts_by fun cdv A outer s H E hr =>
    have nd := sc_counts_by.nd
    have hu1 := hu_1 hr
    have hu64 := hu_64 hr
    have hu65 := hu_65 hr
    (mss_cons (ms_if ((mw_or (mt_cmp om_lt (me_var (pv 3)) me_int (nomark _)) (mw_or1 (mt_cmp om_lt (me_var (pv 2)) me_int (nomark _))))).mt (mss_one ms_no) mss_nil)
    (mss_cons (ms_set (me_frz (mf_lst (mal_cons (me_frz (mf_cb cf_list (mal_cons (me_call (mal_cons (me_var (pv 0)) (mal_cons (me_var (pv 1)) mal_nil fun _ _ p q => pa_cons p q) fun _ _ p q => pa_cons p q) (fun _ p => pe_call (ok_counts_of T N) hr (by rfl) T.mg_counts_of T.F_counts_of.kp T.b_counts_of .nil pass0 p) fun _ _ _ h => aL_len h) mal_nil fun _ _ p q => pa_cons p q) fun _ _ hc p => pe_callTy hc (by rfl) T.n_list (by decide +kernel) p)) mal_nil fun _ _ p q => pa_cons p q))) (fun _ p => ps_set (i := 4) nd rfl (Or.inl rfl) p) rfl)
    (mss_cons (ms_set (me_call (mal_cons (me_var (pv 0)) mal_nil fun _ _ p q => pa_cons p q) (fun _ p => pe_call (ok_table T N) (hr.mono (by decide)) (by rfl) T.mg_table T.F_table.kp T.b_table .nil pass0 p) fun _ _ _ h => aL_len h) (fun _ p => ps_set (i := 5) nd rfl (Or.inl rfl) p) rfl)
    (mss_cons (ms_while (n := N) PassesOwn.never (mt_cmp om_gt (me_var (pv 2)) me_int (nomark _)) (mss_cons (ms_if (mt_cmp (om_eq hu64) (me_op om_mod (me_var (pv 2)) me_int) me_int (nomark _)) (mss_one (ms_setLc (vs := [6]) (mi_sq (me_call (mal_cons (me_var (pv 4)) (mal_cons (me_var (pv 5)) mal_nil fun _ _ p q => pa_cons p q) fun _ _ p q => pa_cons p q) (fun _ p => pe_call (ok_multiplied T N) (hr.mono (by decide)) (by rfl) T.mg_multiplied T.F_multiplied.kp T.b_multiplied .nil pass0 p) fun _ _ _ h => aL_len h)) (fun _ _ _ _ _ => (mg_name (pg_name (i := 6) nd rfl (by first | exact .inl rfl | exact .inr rfl)) rfl)) (fun _ _ _ _ _ => mts_nil) (fun _ _ _ _ _ => (me_frz (mf_lc (vs := [7]) (mi_sq (me_var (pv 6))) (fun _ _ _ _ _ => (mg_name (pg_name (i := 7) nd rfl (by first | exact .inl rfl | exact .inr rfl)) rfl)) (fun _ _ _ _ _ => mts_nil) (fun _ _ _ _ _ => (me_op om_mod (me_var (pv 7)) (me_var (pv 3)))) (fun _ _ _ _ pi pg pt pe => pe_lc (own := [("part", 7)]) rfl nd pi (blkOk_by (by kernel_rfl)) pg pt pe)))) (fun _ _ _ _ pi pg pt pe => ps_setLc (i := 4) (own := [("own", 6)]) rfl nd rfl rfl (sw_true rfl rfl rfl (by decide +kernel)) pi (blkOk_by (by kernel_rfl)) pg pt pe) rfl)) mss_nil)
    (mss_cons (ms_setLc (vs := [6]) (mi_sq (me_call (mal_cons (me_var (pv 5)) (mal_cons (me_var (pv 5)) mal_nil fun _ _ p q => pa_cons p q) fun _ _ p q => pa_cons p q) (fun _ p => pe_call (ok_multiplied T N) (hr.mono (by decide)) (by rfl) T.mg_multiplied T.F_multiplied.kp T.b_multiplied .nil pass0 p) fun _ _ _ h => aL_len h)) (fun _ _ _ _ _ => (mg_name (pg_name (i := 6) nd rfl (by first | exact .inl rfl | exact .inr rfl)) rfl)) (fun _ _ _ _ _ => mts_nil) (fun _ _ _ _ _ => (me_frz (mf_lc (vs := [7]) (mi_sq (me_var (pv 6))) (fun _ _ _ _ _ => (mg_name (pg_name (i := 7) nd rfl (by first | exact .inl rfl | exact .inr rfl)) rfl)) (fun _ _ _ _ _ => mts_nil) (fun _ _ _ _ _ => (me_op om_mod (me_var (pv 7)) (me_var (pv 3)))) (fun _ _ _ _ pi pg pt pe => pe_lc (own := [("part", 7)]) rfl nd pi (blkOk_by (by kernel_rfl)) pg pt pe)))) (fun _ _ _ _ pi pg pt pe => ps_setLc (i := 5) (own := [("own", 6)]) rfl nd rfl rfl (sw_true rfl rfl rfl (by decide +kernel)) pi (blkOk_by (by kernel_rfl)) pg pt pe) rfl)
    (mss_one (ms_set (me_op om_fdiv (me_var (pv 2)) me_int) (fun _ p => ps_set (i := 2) nd rfl (Or.inl rfl) p) rfl)))))
    (mss_one (ms_ret (me_cb cm_tuple (mal_cons (me_frz (mf_lc (vs := [7]) (mi_sq (me_ix (me_var (pv 4)) me_int fun _ _ => rfl)) (fun _ _ _ _ _ => (mg_name (pg_name (i := 7) nd rfl (by first | exact .inl rfl | exact .inr rfl)) rfl)) (fun _ _ _ _ _ => mts_nil) (fun _ _ _ _ _ => (me_op om_mod (me_var (pv 7)) (me_var (pv 3)))) (fun _ _ _ _ pi pg pt pe => pe_lc (own := [("part", 7)]) rfl nd pi (blkOk_by (by kernel_rfl)) pg pt pe))) mal_nil fun _ _ p q => pa_cons p q) fun _ _ hc p => pe_callTy hc (by rfl) T.n_tuple (by decide +kernel) p)))))))
theorem ok_mixes (T : TX K mg cl) (N : Nat) : FnOk P w K mg base CX0 3 T.a_mixes T.d_mixes ["growth"] (spG K cl 1 R_mixes (f_mixes N)) :=
  fn_ok T.F_mixes sc_mixes fun cdv A outer s H E hr =>
    have nd := sc_mixes.nd
    have hu1 := hu_1 hr
    have hu64 := hu_64 hr
    have hu65 := hu_65 hr
    (mss_cons (ms_set (me_cb cm_len (mal_cons (me_fld (j := 0) T.k_Growth rfl (me_var (pv 0)) fun _ p => pe_fld p rfl) mal_nil fun _ _ p q => pa_cons p q) fun _ _ hc p => pe_callB hc (by rfl) T.n_len (by decide +kernel) p) (fun _ p => ps_set (i := 1) nd rfl (Or.inl rfl) p) rfl)
    (mss_cons (ms_set (me_trg (mr_1 (me_var (pv 1)) fun _ p => prg_1 (by rfl) T.n_range p) fun _ p => pe_tupRgX rfl (by rfl) T.n_tuple p) (fun _ p => ps_set (i := 2) nd rfl (Or.inr rfl) p) rfl)
    (mss_cons (ms_for PassesOwn.never rfl (mi_r1 (mal_cons (me_var (pv 1)) mal_nil fun _ _ p q => pa_cons p q) fun _ p => pi_range1 (by rfl) T.n_range p) (mg_name (pg_name (i := 3) nd rfl (Or.inl rfl)) rfl) (mss_cons (ms_set (me_tup (mal_cons (me_var (pv 3)) mal_nil fun _ _ p q => pa_cons p q)) (fun _ p => ps_set (i := 4) nd rfl (Or.inl rfl) p) rfl)
    (mss_cons (ms_while (n := N) PassesOwn.never (mt_not (mt_truth (me_call (mal_cons (me_call (mal_cons (me_var (pv 0)) (mal_cons (me_var (pv 4)) mal_nil fun _ _ p q => pa_cons p q) fun _ _ p q => pa_cons p q) (fun _ p => pe_call (ok_letters_in T N) (hr.mono (by decide)) (by rfl) T.mg_letters_in T.F_letters_in.kp T.b_letters_in .nil pass0 p) fun _ _ _ h => aL_len h) (mal_cons (me_var (pv 4)) mal_nil fun _ _ p q => pa_cons p q) fun _ _ p q => pa_cons p q) (fun _ p => pe_call (ok_are_among T N) (hr.mono (by decide)) (by rfl) T.mg_are_among T.F_are_among.kp T.b_are_among .nil pass0 p) fun _ _ _ h => aL_len h) (by intro _; rfl))) (mss_one (ms_set (me_cb cm_tuple (mal_cons (me_frz (mf_ss (mal_cons (me_op om_add (me_var (pv 4)) (me_call (mal_cons (me_var (pv 0)) (mal_cons (me_var (pv 4)) mal_nil fun _ _ p q => pa_cons p q) fun _ _ p q => pa_cons p q) (fun _ p => pe_call (ok_letters_in T N) (hr.mono (by decide)) (by rfl) T.mg_letters_in T.F_letters_in.kp T.b_letters_in .nil pass0 p) fun _ _ _ h => aL_len h)) mal_nil fun _ _ p q => pa_cons p q) fun _ p => pe_callB (cr_sortedSet rfl) (by rfl) T.n_sorted (by decide +kernel) (pa_cons (pe_callTy (cr_setI rfl) (by rfl) T.n_set (by decide +kernel) p) pa_nil))) mal_nil fun _ _ p q => pa_cons p q) fun _ _ hc p => pe_callTy hc (by rfl) T.n_tuple (by decide +kernel) p) (fun _ p => ps_set (i := 4) nd rfl (Or.inl rfl) p) rfl)))
    (mss_one (ms_if (mt_cmp (om_ne hu64) (me_var (pv 4)) (me_var (pv 2)) (nomark _)) (mss_one (ms_ret (me_tup (mal_cons me_str (mal_cons (me_var (pv 0)) (mal_cons (me_var (pv 4)) mal_nil fun _ _ p q => pa_cons p q) fun _ _ p q => pa_cons p q) fun _ _ p q => pa_cons p q)))) mss_nil)))))
    (mss_cons (ms_setLc (vs := [3]) (mi_r1 (mal_cons (me_var (pv 1)) mal_nil fun _ _ p q => pa_cons p q) fun _ p => pi_range1 (by rfl) T.n_range p) (fun _ _ _ _ _ => (mg_name (pg_name (i := 3) nd rfl (by first | exact .inl rfl | exact .inr rfl)) rfl)) (fun _ _ _ _ _ => mts_nil) (fun _ _ _ _ _ => (me_tup (mal_cons (me_var (pv 3)) mal_nil fun _ _ p q => pa_cons p q))) (fun _ _ _ _ pi pg pt pe => ps_setLc (i := 5) (own := [("letter", 3)]) rfl nd rfl rfl (sw_true rfl rfl rfl (by decide +kernel)) pi (blkOk_by (by kernel_rfl)) pg pt pe) rfl)
    (mss_cons (ms_for PassesOwn.never rfl (mi_r2 (mal_cons me_int (mal_cons (me_op om_add (me_op om_mul (me_var (pv 1)) (me_var (pv 1))) me_int) mal_nil fun _ _ p q => pa_cons p q) fun _ _ p q => pa_cons p q) fun _ p => pi_range2 (by rfl) T.n_range p) (mg_name (pg_name (i := 6) nd rfl (Or.inl rfl)) rfl) (mss_cons (ms_setLc (vs := [7]) (mi_sq (me_var (pv 5))) (fun _ _ _ _ _ => (mg_name (pg_name (i := 7) nd rfl (by first | exact .inl rfl | exact .inr rfl)) rfl)) (fun _ _ _ _ _ => mts_nil) (fun _ _ _ _ _ => (me_call (mal_cons (me_var (pv 0)) (mal_cons (me_var (pv 7)) mal_nil fun _ _ p q => pa_cons p q) fun _ _ p q => pa_cons p q) (fun _ p => pe_call (ok_letters_in T N) (hr.mono (by decide)) (by rfl) T.mg_letters_in T.F_letters_in.kp T.b_letters_in .nil pass0 p) fun _ _ _ h => aL_len h)) (fun _ _ _ _ pi pg pt pe => ps_setLc (i := 5) (own := [("own", 7)]) rfl nd rfl rfl (sw_true rfl rfl rfl (by decide +kernel)) pi (blkOk_by (by kernel_rfl)) pg pt pe) rfl)
    (mss_one (ms_if (mt_truth (me_cb (cm_all rfl) (mal_cons (me_frz (mf_lc (vs := [7]) (mi_sq (me_var (pv 5))) (fun _ _ _ _ _ => (mg_name (pg_name (i := 7) nd rfl (by first | exact .inl rfl | exact .inr rfl)) rfl)) (fun _ _ _ _ _ => mts_nil) (fun _ _ _ _ _ => (me_cmp (om_eq hu64) (me_var (pv 7)) (me_var (pv 2)) (nomark _))) (fun _ _ _ _ pi pg pt pe => pe_lc (own := [("own", 7)]) rfl nd pi (blkOk_by (by kernel_rfl)) pg pt pe))) mal_nil fun _ _ p q => pa_cons p q) fun _ _ hc p => pe_callB hc (by rfl) T.n_all (by decide +kernel) p) (by intro _; rfl)) (mss_one (ms_ret (me_tup (mal_cons me_str (mal_cons (me_var (pv 0)) (mal_cons (me_var (pv 6)) mal_nil fun _ _ p q => pa_cons p q) fun _ _ p q => pa_cons p q) fun _ _ p q => pa_cons p q)))) mss_nil))))
    (mss_one (ms_ret (me_tup (mal_cons me_str (mal_cons (me_var (pv 0)) (mal_cons (me_call (mal_cons (me_var (pv 0)) mal_nil fun _ _ p q => pa_cons p q) (fun _ p => pe_call (ok_classes T N) hr (by rfl) T.mg_classes T.F_classes.kp T.b_classes .nil pass0 p) fun _ _ _ h => aL_len h) mal_nil fun _ _ p q => pa_cons p q) fun _ _ p q => pa_cons p q) fun _ _ p q => pa_cons p q)))))))))
theorem ok_law (T : TX K mg cl) (N : Nat) : FnOk P w K mg base CX0 4 T.a_law T.d_law ["script"] (spG K cl 1 R_law (f_law N)) :=
  fn_ok T.F_law sc_law fun cdv A outer s H E hr =>
    have nd := sc_law.nd
    have hu1 := hu_1 hr
    have hu64 := hu_64 hr
    have hu65 := hu_65 hr
    (mss_cons (ms_setO (mf_call (mal_cons (me_var (pv 0)) (mal_cons me_int mal_nil fun _ _ p q => pa_cons p q) fun _ _ p q => pa_cons p q) (fun _ p => pe_call (ok_law_pool T N) (hr.mono (by decide)) (by rfl) T.mg_law_pool T.F_law_pool.kp T.b_law_pool .nil pass0 p) fun _ _ _ h => aL_len h) (fun _ p => ps_set (i := 1) nd rfl (Or.inr rfl) p) rfl)
    (mss_cons (ms_set (me_op om_add me_int (me_callR rfl (mal_cons (me_var (pv 1)) (mal_cons me_int mal_nil fun _ _ p q => pa_cons p q) fun _ _ p q => pa_cons p q) (fun _ p => pe_call (ok_law_draw T N) (hr.mono (by decide)) (by rfl) T.mg_law_draw T.F_law_draw.kp T.b_law_draw .nil pass0 p) fun _ _ _ h => aL_len h)) (fun _ p => ps_set (i := 2) nd rfl (Or.inr rfl) p) rfl)
    (mss_cons (ms_set (me_cb cm_tuple (mal_cons (me_frz (mf_lc (vs := [10]) (mi_r1 (mal_cons (me_var (pv 2)) mal_nil fun _ _ p q => pa_cons p q) fun _ p => pi_range1 (by rfl) T.n_range p) (fun _ _ _ _ _ => (mg_name (pg_name (i := 10) nd rfl (by first | exact .inl rfl | exact .inr rfl)) rfl)) (fun _ _ _ _ _ => mts_nil) (fun _ _ _ _ _ => (me_cb cm_tuple (mal_cons (me_frz (mf_lc (vs := [15]) (mi_r1 (mal_cons (me_op om_add me_int (me_callR rfl (mal_cons (me_var (pv 1)) (mal_cons me_int mal_nil fun _ _ p q => pa_cons p q) fun _ _ p q => pa_cons p q) (fun _ p => pe_call (ok_law_draw T N) (hr.mono (by decide)) (by rfl) T.mg_law_draw T.F_law_draw.kp T.b_law_draw .nil pass0 p) fun _ _ _ h => aL_len h)) mal_nil fun _ _ p q => pa_cons p q) fun _ p => pi_range1 (by rfl) T.n_range p) (fun _ _ _ _ _ => (mg_name (pg_name (i := 15) nd rfl (by first | exact .inl rfl | exact .inr rfl)) rfl)) (fun _ _ _ _ _ => mts_nil) (fun _ _ _ _ _ => (me_callR rfl (mal_cons (me_var (pv 1)) (mal_cons (me_var (pv 2)) mal_nil fun _ _ p q => pa_cons p q) fun _ _ p q => pa_cons p q) (fun _ p => pe_call (ok_law_draw T N) (hr.mono (by decide)) (by rfl) T.mg_law_draw T.F_law_draw.kp T.b_law_draw .nil pass0 p) fun _ _ _ h => aL_len h)) (fun _ _ _ _ pi pg pt pe => pe_lc (own := [("k", 15)]) rfl nd pi (blkOk_by (by kernel_rfl)) pg pt pe))) mal_nil fun _ _ p q => pa_cons p q) fun _ _ hc p => pe_callTy hc (by rfl) T.n_tuple (by decide +kernel) p)) (fun _ _ _ _ pi pg pt pe => pe_lc (own := [("letter", 10)]) rfl nd pi (blkOk_by (by kernel_rfl)) pg pt pe))) mal_nil fun _ _ p q => pa_cons p q) fun _ _ hc p => pe_callTy hc (by rfl) T.n_tuple (by decide +kernel) p) (fun _ p => ps_set (i := 3) nd rfl (Or.inr rfl) p) rfl)
    (mss_cons (ms_if (mt_cmp (om_eq hu64) (me_callR rfl (mal_cons (me_var (pv 1)) (mal_cons me_int mal_nil fun _ _ p q => pa_cons p q) fun _ _ p q => pa_cons p q) (fun _ p => pe_call (ok_law_draw T N) (hr.mono (by decide)) (by rfl) T.mg_law_draw T.F_law_draw.kp T.b_law_draw .nil pass0 p) fun _ _ _ h => aL_len h) me_int (nomark _)) (mss_one (ms_set (me_cb cm_tuple (mal_cons (me_frz (mf_lc (vs := [10]) (mi_r1 (mal_cons (me_var (pv 2)) mal_nil fun _ _ p q => pa_cons p q) fun _ p => pi_range1 (by rfl) T.n_range p) (fun _ _ _ _ _ => (mg_name (pg_name (i := 10) nd rfl (by first | exact .inl rfl | exact .inr rfl)) rfl)) (fun _ _ _ _ _ => mts_nil) (fun _ _ _ _ _ => (me_op om_mul (me_tup (mal_cons (me_op om_mod (me_cb cm_int (mal_cons (me_op om_add (me_var (pv 10)) me_int) mal_nil fun _ _ p q => pa_cons p q) fun _ _ hc p => pe_callTy hc (by rfl) T.n_int (by decide +kernel) p) (me_var (pv 2))) mal_nil fun _ _ p q => pa_cons p q)) (me_op om_add me_int (me_callR rfl (mal_cons (me_var (pv 1)) (mal_cons me_int mal_nil fun _ _ p q => pa_cons p q) fun _ _ p q => pa_cons p q) (fun _ p => pe_call (ok_law_draw T N) (hr.mono (by decide)) (by rfl) T.mg_law_draw T.F_law_draw.kp T.b_law_draw .nil pass0 p) fun _ _ _ h => aL_len h)))) (fun _ _ _ _ pi pg pt pe => pe_lc (own := [("letter", 10)]) rfl nd pi (blkOk_by (by kernel_rfl)) pg pt pe))) mal_nil fun _ _ p q => pa_cons p q) fun _ _ hc p => pe_callTy hc (by rfl) T.n_tuple (by decide +kernel) p) (fun _ p => ps_set (i := 3) nd rfl (Or.inr rfl) p) rfl)) mss_nil)
    (mss_cons (ms_set (me_frz (mf_make T.k_Growth.at_ rfl (mal_cons (me_var (pv 3)) mal_nil fun _ _ p q => pa_cons p q) (fun _ p => pe_make T.mk_Growth (ok_Growth_init T N) (hr.mono (by decide)) (by rfl) T.mg_Growth T.b_Growth_init .nil pass0 p) fun _ _ _ h => congrArg (· + 1) (aL_len h))) (fun _ p => ps_set (i := 4) nd rfl (Or.inr rfl) p) rfl)
    (mss_cons (ms_set (me_frz (mf_make T.k_Growth.at_ rfl (mal_cons (me_frz (mf_lc (vs := [10]) (mi_r1 (mal_cons (me_var (pv 2)) mal_nil fun _ _ p q => pa_cons p q) fun _ p => pi_range1 (by rfl) T.n_range p) (fun _ _ _ _ _ => (mg_name (pg_name (i := 10) nd rfl (by first | exact .inl rfl | exact .inr rfl)) rfl)) (fun _ _ _ _ _ => mts_nil) (fun _ _ _ _ _ => (me_call (mal_cons (me_var (pv 4)) (mal_cons (me_tup (mal_cons (me_var (pv 10)) mal_nil fun _ _ p q => pa_cons p q)) (mal_cons me_int mal_nil fun _ _ p q => pa_cons p q) fun _ _ p q => pa_cons p q) fun _ _ p q => pa_cons p q) (fun _ p => pe_call (ok_grown T N) (hr.mono (by decide)) (by rfl) T.mg_grown T.F_grown.kp T.b_grown .nil pass0 p) fun _ _ _ h => aL_len h)) (fun _ _ _ _ pi pg pt pe => pe_lc (own := [("letter", 10)]) rfl nd pi (blkOk_by (by kernel_rfl)) pg pt pe))) mal_nil fun _ _ p q => pa_cons p q) (fun _ p => pe_make T.mk_Growth (ok_Growth_init T N) (hr.mono (by decide)) (by rfl) T.mg_Growth T.b_Growth_init .nil pass0 p) fun _ _ _ h => congrArg (· + 1) (aL_len h))) (fun _ p => ps_set (i := 5) nd rfl (Or.inl rfl) p) rfl)
    (mss_cons (ms_set (me_cb cm_tuple (mal_cons (me_frz (mf_lc (vs := [15]) (mi_r1 (mal_cons (me_op om_add me_int (me_callR rfl (mal_cons (me_var (pv 1)) (mal_cons me_int mal_nil fun _ _ p q => pa_cons p q) fun _ _ p q => pa_cons p q) (fun _ p => pe_call (ok_law_draw T N) (hr.mono (by decide)) (by rfl) T.mg_law_draw T.F_law_draw.kp T.b_law_draw .nil pass0 p) fun _ _ _ h => aL_len h)) mal_nil fun _ _ p q => pa_cons p q) fun _ p => pi_range1 (by rfl) T.n_range p) (fun _ _ _ _ _ => (mg_name (pg_name (i := 15) nd rfl (by first | exact .inl rfl | exact .inr rfl)) rfl)) (fun _ _ _ _ _ => mts_nil) (fun _ _ _ _ _ => (me_callR rfl (mal_cons (me_var (pv 1)) (mal_cons (me_var (pv 2)) mal_nil fun _ _ p q => pa_cons p q) fun _ _ p q => pa_cons p q) (fun _ p => pe_call (ok_law_draw T N) (hr.mono (by decide)) (by rfl) T.mg_law_draw T.F_law_draw.kp T.b_law_draw .nil pass0 p) fun _ _ _ h => aL_len h)) (fun _ _ _ _ pi pg pt pe => pe_lc (own := [("k", 15)]) rfl nd pi (blkOk_by (by kernel_rfl)) pg pt pe))) mal_nil fun _ _ p q => pa_cons p q) fun _ _ hc p => pe_callTy hc (by rfl) T.n_tuple (by decide +kernel) p) (fun _ p => ps_set (i := 6) nd rfl (Or.inl rfl) p) rfl)
    (mss_cons (ms_set (me_callR rfl (mal_cons (me_var (pv 1)) (mal_cons me_int mal_nil fun _ _ p q => pa_cons p q) fun _ _ p q => pa_cons p q) (fun _ p => pe_call (ok_law_draw T N) (hr.mono (by decide)) (by rfl) T.mg_law_draw T.F_law_draw.kp T.b_law_draw .nil pass0 p) fun _ _ _ h => aL_len h) (fun _ p => ps_set (i := 7) nd rfl (Or.inl rfl) p) rfl)
    (mss_cons (ms_if ((mw_or (mt_cmp (om_ne hu64) (me_call (mal_cons (me_var (pv 5)) (mal_cons (me_var (pv 6)) (mal_cons (me_var (pv 7)) mal_nil fun _ _ p q => pa_cons p q) fun _ _ p q => pa_cons p q) fun _ _ p q => pa_cons p q) (fun _ p => pe_call (ok_grown T N) (hr.mono (by decide)) (by rfl) T.mg_grown T.F_grown.kp T.b_grown .nil pass0 p) fun _ _ _ h => aL_len h) (me_call (mal_cons (me_var (pv 4)) (mal_cons (me_var (pv 6)) (mal_cons (me_op om_mul me_int (me_var (pv 7))) mal_nil fun _ _ p q => pa_cons p q) fun _ _ p q => pa_cons p q) fun _ _ p q => pa_cons p q) (fun _ p => pe_call (ok_grown T N) (hr.mono (by decide)) (by rfl) T.mg_grown T.F_grown.kp T.b_grown .nil pass0 p) fun _ _ _ h => aL_len h) (nomark _)) (mw_or1 (mt_cmp (om_ne hu64) (me_call (mal_cons (me_var (pv 5)) (mal_cons (me_var (pv 6)) (mal_cons me_int mal_nil fun _ _ p q => pa_cons p q) fun _ _ p q => pa_cons p q) fun _ _ p q => pa_cons p q) (fun _ p => pe_call (ok_counts_after T N) hr (by rfl) T.mg_counts_after T.F_counts_after.kp T.b_counts_after .nil pass0 p) fun _ _ _ h => aL_len h) (me_call (mal_cons (me_var (pv 4)) (mal_cons (me_var (pv 6)) (mal_cons me_int mal_nil fun _ _ p q => pa_cons p q) fun _ _ p q => pa_cons p q) fun _ _ p q => pa_cons p q) (fun _ p => pe_call (ok_counts_after T N) hr (by rfl) T.mg_counts_after T.F_counts_after.kp T.b_counts_after .nil pass0 p) fun _ _ _ h => aL_len h) (nomark _))))).mt (mss_one (ms_ret me_bl)) mss_nil)
    (mss_cons (ms_set (me_op om_add me_int (me_callR rfl (mal_cons (me_var (pv 1)) mal_nil fun _ _ p q => pa_cons p q) (fun _ p => pe_call (ok_law_some T N) (hr.mono (by decide)) (by rfl) T.mg_law_some T.F_law_some.kp T.b_law_some .nil pass0 p) fun _ _ _ h => aL_len h)) (fun _ p => ps_set (i := 8) nd rfl (Or.inl rfl) p) rfl)
    (mss_cons (ms_set (me_callR rfl (mal_cons (me_var (pv 1)) (mal_cons (me_op om_pow me_int me_int) mal_nil fun _ _ p q => pa_cons p q) fun _ _ p q => pa_cons p q) (fun _ p => pe_call (ok_law_draw T N) (hr.mono (by decide)) (by rfl) T.mg_law_draw T.F_law_draw.kp T.b_law_draw .nil pass0 p) fun _ _ _ h => aL_len h) (fun _ p => ps_set (i := 9) nd rfl (Or.inl rfl) p) rfl)
    (mss_cons (ms_if (mt_cmp (om_ne hu64) (me_call (mal_cons (me_var (pv 5)) (mal_cons (me_var (pv 6)) (mal_cons (me_var (pv 9)) (mal_cons (me_var (pv 8)) mal_nil fun _ _ p q => pa_cons p q) fun _ _ p q => pa_cons p q) fun _ _ p q => pa_cons p q) fun _ _ p q => pa_cons p q) (fun _ p => pe_call (ok_counts_by T N) hr (by rfl) T.mg_counts_by T.F_counts_by.kp T.b_counts_by .nil pass0 p) fun _ _ _ h => aL_len h) (me_call (mal_cons (me_var (pv 4)) (mal_cons (me_var (pv 6)) (mal_cons (me_op om_mul me_int (me_var (pv 9))) (mal_cons (me_var (pv 8)) mal_nil fun _ _ p q => pa_cons p q) fun _ _ p q => pa_cons p q) fun _ _ p q => pa_cons p q) fun _ _ p q => pa_cons p q) (fun _ p => pe_call (ok_counts_by T N) hr (by rfl) T.mg_counts_by T.F_counts_by.kp T.b_counts_by .nil pass0 p) fun _ _ _ h => aL_len h) (nomark _)) (mss_one (ms_ret me_bl)) mss_nil)
    (mss_cons (ms_set (me_ix (me_var (pv 6)) me_int fun _ _ => rfl) (fun _ p => ps_set (i := 10) nd rfl (Or.inl rfl) p) rfl)
    (mss_cons (ms_set (me_cb (cm_sumA rfl) (mal_cons (me_call (mal_cons (me_var (pv 4)) (mal_cons (me_tup (mal_cons (me_var (pv 10)) mal_nil fun _ _ p q => pa_cons p q)) (mal_cons me_int mal_nil fun _ _ p q => pa_cons p q) fun _ _ p q => pa_cons p q) fun _ _ p q => pa_cons p q) (fun _ p => pe_call (ok_counts_after T N) hr (by rfl) T.mg_counts_after T.F_counts_after.kp T.b_counts_after .nil pass0 p) fun _ _ _ h => aL_len h) mal_nil fun _ _ p q => pa_cons p q) fun _ _ hc p => pe_callB hc (by rfl) T.n_sum (by decide +kernel) p) (fun _ p => ps_set (i := 11) nd rfl (Or.inl rfl) p) rfl)
    (mss_cons (ms_set (me_callR rfl (mal_cons (me_var (pv 1)) (mal_cons (me_var (pv 11)) mal_nil fun _ _ p q => pa_cons p q) fun _ _ p q => pa_cons p q) (fun _ p => pe_call (ok_law_draw T N) (hr.mono (by decide)) (by rfl) T.mg_law_draw T.F_law_draw.kp T.b_law_draw .nil pass0 p) fun _ _ _ h => aL_len h) (fun _ p => ps_set (i := 12) nd rfl (Or.inl rfl) p) rfl)
    (mss_cons (ms_if (mt_cmp (om_ne hu64) (me_call (mal_cons (me_var (pv 5)) (mal_cons (me_var (pv 10)) (mal_cons me_int (mal_cons (me_var (pv 12)) mal_nil fun _ _ p q => pa_cons p q) fun _ _ p q => pa_cons p q) fun _ _ p q => pa_cons p q) fun _ _ p q => pa_cons p q) (fun _ p => pe_call (ok_letter_at T N) (hr.mono (by decide)) (by rfl) T.mg_letter_at T.F_letter_at.kp T.b_letter_at .nil pass0 p) fun _ _ _ h => aL_len h) (me_call (mal_cons (me_var (pv 4)) (mal_cons (me_var (pv 10)) (mal_cons me_int (mal_cons (me_var (pv 12)) mal_nil fun _ _ p q => pa_cons p q) fun _ _ p q => pa_cons p q) fun _ _ p q => pa_cons p q) fun _ _ p q => pa_cons p q) (fun _ p => pe_call (ok_letter_at T N) (hr.mono (by decide)) (by rfl) T.mg_letter_at T.F_letter_at.kp T.b_letter_at .nil pass0 p) fun _ _ _ h => aL_len h) (nomark _)) (mss_one (ms_ret me_bl)) mss_nil)
    (mss_cons (ms_setO (mf_lrg (mr_1 (me_var (pv 2)) fun _ p => prg_1 (by rfl) T.n_range p) fun _ p => pe_listRg rfl (by rfl) T.n_list p) (fun _ p => ps_set (i := 13) nd rfl (Or.inl rfl) p) rfl)
    (mss_cons (ms_setO (mf_lst mal_nil) (fun _ p => ps_set (i := 14) nd rfl (Or.inr rfl) p) rfl)
    (mss_cons (ms_for PassesOwn.never rfl (mi_r1 (mal_cons (me_var (pv 2)) mal_nil fun _ _ p q => pa_cons p q) fun _ p => pi_range1 (by rfl) T.n_range p) (mg_name (pg_name (i := 15) nd rfl (Or.inl rfl)) rfl) (mss_one (ms_exp (me_mt ml_append (mal_cons (me_mt ml_popAt (mal_cons (me_callR rfl (mal_cons (me_var (pv 1)) (mal_cons (me_cb cm_len (mal_cons (me_var (pv 13)) mal_nil fun _ _ p q => pa_cons p q) fun _ _ hc p => pe_callB hc (by rfl) T.n_len (by decide +kernel) p) mal_nil fun _ _ p q => pa_cons p q) fun _ _ p q => pa_cons p q) (fun _ p => pe_call (ok_law_draw T N) (hr.mono (by decide)) (by rfl) T.mg_law_draw T.F_law_draw.kp T.b_law_draw .nil pass0 p) fun _ _ _ h => aL_len h) mal_nil fun _ _ p q => pa_cons p q) fun _ p => pe_bm PySem.F.plainAttrs_list PySem.F.slot_list_pop PySem.F.type_list_pop mt_popAt (pv 13) p) mal_nil fun _ _ p q => pa_cons p q) fun _ p => pe_bm PySem.F.plainAttrs_list PySem.F.slot_list_append PySem.F.type_list_append mt_append (pv 14) p))))
    (mss_cons (ms_set (me_frz (mf_make T.k_Growth.at_ rfl (mal_cons (me_frz (mf_lc (vs := [10]) (mi_r1 (mal_cons (me_var (pv 2)) mal_nil fun _ _ p q => pa_cons p q) fun _ p => pi_range1 (by rfl) T.n_range p) (fun _ _ _ _ _ => (mg_name (pg_name (i := 10) nd rfl (by first | exact .inl rfl | exact .inr rfl)) rfl)) (fun _ _ _ _ _ => mts_nil) (fun _ _ _ _ _ => (me_cb cm_tuple (mal_cons (me_frz (mf_lc (vs := [21]) (mi_sq (me_ix (me_var (pv 3)) (me_index hu65 (me_var (pv 14)) (mal_cons (me_var (pv 10)) mal_nil fun _ _ p q => pa_cons p q) fun _ _ q p => pe_bmS PySem.F.slot_list_index PySem.F.type_list_index (mt_indexD hu65) PySem.F.slot_tuple_index PySem.F.type_tuple_index (mt_tindex hu65) q p) fun _ _ => rfl)) (fun _ _ _ _ _ => (mg_name (pg_name (i := 21) nd rfl (by first | exact .inl rfl | exact .inr rfl)) rfl)) (fun _ _ _ _ _ => mts_nil) (fun _ _ _ _ _ => (me_ix (me_var (pv 14)) (me_var (pv 21)) fun _ _ => rfl)) (fun _ _ _ _ pi pg pt pe => pe_lc (own := [("own", 21)]) rfl nd pi (blkOk_by (by kernel_rfl)) pg pt pe))) mal_nil fun _ _ p q => pa_cons p q) fun _ _ hc p => pe_callTy hc (by rfl) T.n_tuple (by decide +kernel) p)) (fun _ _ _ _ pi pg pt pe => pe_lc (own := [("letter", 10)]) rfl nd pi (blkOk_by (by kernel_rfl)) pg pt pe))) mal_nil fun _ _ p q => pa_cons p q) (fun _ p => pe_make T.mk_Growth (ok_Growth_init T N) (hr.mono (by decide)) (by rfl) T.mg_Growth T.b_Growth_init .nil pass0 p) fun _ _ _ h => congrArg (· + 1) (aL_len h))) (fun _ p => ps_set (i := 16) nd rfl (Or.inl rfl) p) rfl)
    (mss_cons (ms_if (mt_cmp (om_ne hu64) (me_call (mal_cons (me_var (pv 16)) (mal_cons (me_cb cm_tuple (mal_cons (me_frz (mf_lc (vs := [21]) (mi_sq (me_var (pv 6))) (fun _ _ _ _ _ => (mg_name (pg_name (i := 21) nd rfl (by first | exact .inl rfl | exact .inr rfl)) rfl)) (fun _ _ _ _ _ => mts_nil) (fun _ _ _ _ _ => (me_ix (me_var (pv 14)) (me_var (pv 21)) fun _ _ => rfl)) (fun _ _ _ _ pi pg pt pe => pe_lc (own := [("own", 21)]) rfl nd pi (blkOk_by (by kernel_rfl)) pg pt pe))) mal_nil fun _ _ p q => pa_cons p q) fun _ _ hc p => pe_callTy hc (by rfl) T.n_tuple (by decide +kernel) p) (mal_cons (me_var (pv 7)) mal_nil fun _ _ p q => pa_cons p q) fun _ _ p q => pa_cons p q) fun _ _ p q => pa_cons p q) (fun _ p => pe_call (ok_grown T N) (hr.mono (by decide)) (by rfl) T.mg_grown T.F_grown.kp T.b_grown .nil pass0 p) fun _ _ _ h => aL_len h) (me_cb cm_tuple (mal_cons (me_frz (mf_lc (vs := [21]) (mi_sq (me_call (mal_cons (me_var (pv 4)) (mal_cons (me_var (pv 6)) (mal_cons (me_var (pv 7)) mal_nil fun _ _ p q => pa_cons p q) fun _ _ p q => pa_cons p q) fun _ _ p q => pa_cons p q) (fun _ p => pe_call (ok_grown T N) (hr.mono (by decide)) (by rfl) T.mg_grown T.F_grown.kp T.b_grown .nil pass0 p) fun _ _ _ h => aL_len h)) (fun _ _ _ _ _ => (mg_name (pg_name (i := 21) nd rfl (by first | exact .inl rfl | exact .inr rfl)) rfl)) (fun _ _ _ _ _ => mts_nil) (fun _ _ _ _ _ => (me_ix (me_var (pv 14)) (me_var (pv 21)) fun _ _ => rfl)) (fun _ _ _ _ pi pg pt pe => pe_lc (own := [("own", 21)]) rfl nd pi (blkOk_by (by kernel_rfl)) pg pt pe))) mal_nil fun _ _ p q => pa_cons p q) fun _ _ hc p => pe_callTy hc (by rfl) T.n_tuple (by decide +kernel) p) (nomark _)) (mss_one (ms_ret me_bl)) mss_nil)
    (mss_cons (ms_par3 (mal_cons (me_call (mal_cons (me_var (pv 4)) mal_nil fun _ _ p q => pa_cons p q) (fun _ p => pe_call (ok_mixes T N) hr (by rfl) T.mg_mixes T.F_mixes.kp T.b_mixes .nil pass0 p) fun _ _ _ h => aL_len h) (mal_cons (me_call (mal_cons (me_var (pv 5)) mal_nil fun _ _ p q => pa_cons p q) (fun _ p => pe_call (ok_mixes T N) hr (by rfl) T.mg_mixes T.F_mixes.kp T.b_mixes .nil pass0 p) fun _ _ _ h => aL_len h) (mal_cons (me_call (mal_cons (me_var (pv 16)) mal_nil fun _ _ p q => pa_cons p q) (fun _ p => pe_call (ok_mixes T N) hr (by rfl) T.mg_mixes T.F_mixes.kp T.b_mixes .nil pass0 p) fun _ _ _ h => aL_len h) mal_nil fun _ _ p q => pa_cons p q) fun _ _ p q => pa_cons p q) fun _ _ p q => pa_cons p q) (fun _ p => ps_par3 (i := 17) (j := 18) (l := 19) rfl nd rfl rfl rfl (by decide) (by decide) (by decide) rfl rfl rfl p rfl) rfl rfl rfl)
    (mss_cons (ms_if ((mw_or (mt_cmp (om_ne hu64) (me_ix (me_var (pv 19)) me_int fun _ _ => rfl) (me_ix (me_var (pv 17)) me_int fun _ _ => rfl) (nomark _)) (mw_or1 ((mw_and (mt_cmp (om_eq hu64) (me_ix (me_var (pv 17)) me_int fun _ _ => rfl) me_str (nomark _)) (mw_and1 (mt_cmp (om_ne hu64) (me_ix (me_var (pv 19)) me_int fun _ _ => rfl) (me_ix (me_var (pv 17)) me_int fun _ _ => rfl) (nomark _))))).mt))).mt (mss_one (ms_ret me_bl)) mss_nil)
    (mss_cons (ms_if ((mw_and (mt_cmp (om_eq hu64) (me_ix (me_var (pv 17)) me_int fun _ _ => rfl) me_str (nomark _)) (mw_and1 ((mw_or (mt_cmp (om_ne hu64) (me_ix (me_var (pv 18)) me_int fun _ _ => rfl) me_str (nomark _)) (mw_or1 (mt_cmp (om_ne hu64) (me_ix (me_var (pv 18)) me_int fun _ _ => rfl) (me_op om_fdiv (me_op om_add (me_ix (me_var (pv 17)) me_int fun _ _ => rfl) me_int) me_int) (nomark _))))).mt))).mt (mss_one (ms_ret me_bl)) mss_nil)
    (mss_cons (ms_if (mt_cmp (om_eq hu64) (me_ix (me_var (pv 17)) me_int fun _ _ => rfl) me_str (nomark _)) (mss_cons (ms_set (me_cb cm_len (mal_cons (me_ix (me_var (pv 17)) me_int fun _ _ => rfl) mal_nil fun _ _ p q => pa_cons p q) fun _ _ hc p => pe_callB hc (by rfl) T.n_len (by decide +kernel) p) (fun _ p => ps_set (i := 20) nd rfl (Or.inl rfl) p) rfl)
    (mss_cons (ms_if ((mw_or ((mw_and (mt_cmp (om_eq hu64) (me_op om_mod (me_cb cm_int (mal_cons (me_var (pv 20)) mal_nil fun _ _ p q => pa_cons p q) fun _ _ hc p => pe_callTy hc (by rfl) T.n_int (by decide +kernel) p) me_int) me_int (nomark _)) (mw_and1 (mt_cmp (om_ne hu64) (me_ix (me_var (pv 18)) me_int fun _ _ => rfl) me_str (nomark _))))).mt (mw_or1 ((mw_and (mt_cmp (om_eq hu64) (me_op om_mod (me_cb cm_int (mal_cons (me_var (pv 20)) mal_nil fun _ _ p q => pa_cons p q) fun _ _ hc p => pe_callTy hc (by rfl) T.n_int (by decide +kernel) p) me_int) me_int (nomark _)) (mw_and1 ((mw_or (mt_cmp (om_ne hu64) (me_ix (me_var (pv 18)) me_int fun _ _ => rfl) me_str (nomark _)) (mw_or1 (mt_cmp (om_ne hu64) (me_cb cm_len (mal_cons (me_ix (me_var (pv 18)) me_int fun _ _ => rfl) mal_nil fun _ _ p q => pa_cons p q) fun _ _ hc p => pe_callB hc (by rfl) T.n_len (by decide +kernel) p) (me_var (pv 20)) (nomark _))))).mt))).mt))).mt (mss_one (ms_ret me_bl)) mss_nil)
    (mss_one (ms_if (mt_cmp (om_ne hu64) (me_cb cm_len (mal_cons (me_ix (me_var (pv 19)) me_int fun _ _ => rfl) mal_nil fun _ _ p q => pa_cons p q) fun _ _ hc p => pe_callB hc (by rfl) T.n_len (by decide +kernel) p) (me_var (pv 20)) (nomark _)) (mss_one (ms_ret me_bl)) mss_nil)))) mss_nil)
    (mss_cons (ms_if ((mw_and (mt_cmp (om_eq hu64) (me_ix (me_var (pv 17)) me_int fun _ _ => rfl) me_str (nomark _)) (mw_and1 (mt_cmp (om_ne hu64) (me_ix (me_var (pv 18)) me_int fun _ _ => rfl) me_str (nomark _))))).mt (mss_one (ms_ret me_bl)) mss_nil)
    (mss_one (ms_ret me_bl))))))))))))))))))))))))))))
end
end K93
set_option linter.all false
set_option maxRecDepth 100000
namespace K93
open PySem L2 MP
theorem ne_tN (w : List Nat) : gNe (tN w) (tN w) = some (.bl false) := by
  have := gNe_nT w w
  rw [decide_eq_true rfl] at this
  exact this
structure Cx (G : Gr) (w : List Nat) : Prop where
  im : Im G.length 3 G
  n4 : G.length ≤ 4
  n1 : 1 ≤ G.length
  w : Rw G.length 4 w
section
variable {G : Gr} {w : List Nat} (C : Cx G w)
include C
theorem Cx.good : Good G := C.im.good C.n1 C.n4
theorem Cx.sml : Sml G := C.im.sml C.n1 C.n4
theorem Cx.r3 : ∀ r ∈ G, r.length ≤ 3 := fun r hr => (C.im.row r hr).len.2
theorem Cx.good2 : Good (two G) := two_good C.good C.r3
theorem Cx.sml2 : Sml (two G) := two_sml C.sml C.r3
theorem Cx.w2 : ∀ v ∈ w, v < (two G).length := by rw [two_len]; exact C.w.lt
theorem Cx.bd {j : Nat} (hj : j ≤ 6) : (gw G j w).length ≤ 20000 := by
  have h1 := gw_bound C.good C.r3 j C.w.lt
  have h2 : 3 ^ j ≤ 3 ^ 6 := Nat.pow_le_pow_right (by decide) hj
  have h3 := C.w.len.2
  have h4 := Nat.mul_le_mul h3 h2
  have h5 : 4 * 3 ^ 6 = 2916 := by decide
  omega
theorem Cx.grown_one {s : Nat} (hs : s ≤ 6) : ∃ o, f_grown 300 [.val (gD G), .val (tN w), .val (.int s)] = some (.d (tN (gw G s w)), o) :=
  grown_ok C.good C.w.lt (by omega) fun j hj => C.bd (by omega)
theorem Cx.grown_two {s : Nat} (hs : s ≤ 3) : ∃ o, f_grown 300 [.val (gD (two G)), .val (tN w), .val (.int s)] = some (.d (tN (gw G (2 * s) w)), o) := by
  have := grown_ok C.good2 C.w2 (s := s) (by omega) fun j hj => by
    rw [two_gw C.good j C.w.lt]
    exact C.bd (by omega)
  rw [two_gw C.good s C.w.lt] at this
  exact this
theorem Cx.after_two : ∃ o, f_counts_after 300 [.val (gD (two G)), .val (tN w), .val (.int 20)] = some (.d (tN (cnt G.length (gw G 40 w))), o) := by
  have := counts_after C.good2 C.w2 (by have := C.w.len.2; omega) (s := 20) (by decide)
  rw [two_gw C.good 20 C.w.lt, two_len] at this
  exact this
theorem Cx.after_one : ∃ o, f_counts_after 300 [.val (gD G), .val (tN w), .val (.int 40)] = some (.d (tN (cnt G.length (gw G 40 w))), o) :=
  counts_after C.good C.w.lt (by have := C.w.len.2; omega) (s := 40) (by decide)
theorem Cx.same {st : Nat} (hst : st < 4) (s0 s1 s2 s3 : Sl) (rest : List Sl) :
    (sIf (tO (tOfB (eBin gNe (eCall (f_grown 300) (aL [(eVar 5), (eVar 6), (eVar 7)])) (eCall (f_grown 300) (aL [(eVar 4), (eVar 6), (eBin gMul (eK (.int 2)) (eVar 7))])))) (tOfB (eBin gNe (eCall (f_counts_after 300) (aL [(eVar 5), (eVar 6), (eK (.int 20))])) (eCall (f_counts_after 300) (aL [(eVar 4), (eVar 6), (eK (.int 40))]))))) (sRet (eK (.bl false))) sNext)
      (s0 :: s1 :: s2 :: s3 :: .val (gD G) :: .val (gD (two G)) :: .val (tN w) :: .val (.int st) :: rest) = some (.nx, s0 :: s1 :: s2 :: s3 :: .val (gD G) :: .val (gD (two G)) :: .val (tN w) :: .val (.int st) :: rest) := by
  obtain ⟨o1, h1⟩ := C.grown_two (s := st) (by omega)
  obtain ⟨o2, h2⟩ := C.grown_one (s := 2 * st) (by omega)
  obtain ⟨o3, h3⟩ := C.after_two
  obtain ⟨o4, h4⟩ := C.after_one
  rw [show ((2 * st : Nat) : Int) = 2 * (st : Int) by omega] at h2
  exact b_same h1 h2 h3 h4 (ne_tN _) (ne_tN _) hst s0 s1 s2 s3 rest
theorem Cx.by_ {far m : Nat} (hf : far < 10 ^ 9) (m1 : 1 ≤ m) (m2 : m ≤ 2 ^ 64) (s0 s1 s2 s3 s7 : Sl) (rest : List Sl) :
    (sIf (tOfB (eBin gNe (eCall (f_counts_by 300) (aL [(eVar 5), (eVar 6), (eVar 9), (eVar 8)])) (eCall (f_counts_by 300) (aL [(eVar 4), (eVar 6), (eBin gMul (eK (.int 2)) (eVar 9)), (eVar 8)])))) (sRet (eK (.bl false))) sNext)
      (s0 :: s1 :: s2 :: s3 :: .val (gD G) :: .val (gD (two G)) :: .val (tN w) :: s7 :: .val (.int m) :: .val (.int far) :: rest) = some (.nx, s0 :: s1 :: s2 :: s3 :: .val (gD G) :: .val (gD (two G)) :: .val (tN w) :: s7 :: .val (.int m) :: .val (.int far) :: rest) := by
  have hl : w.length ≤ 20000 := by have := C.w.len.2; omega
  have hb : ∀ x, x < 2 * 10 ^ 9 → x < 2 ^ 200 := fun x hx => Nat.lt_trans hx (by decide)
  obtain ⟨o1, h1⟩ := counts_by C.good2 C.w2 hl (e := far) (m := m) (hb _ (by omega)) m1 m2
  obtain ⟨o2, h2⟩ := counts_by C.good C.w.lt hl (e := 2 * far) (m := m) (hb _ (by omega)) m1 m2
  rw [two_gw C.good far C.w.lt, two_len] at h1
  rw [show ((2 * far : Nat) : Int) = 2 * (far : Int) by omega] at h2
  exact b_by h1 h2 (ne_tN _) s0 s1 s2 s3 s7 rest
theorem Cx.head_lt : w.headD 0 < G.length := by
  have h1 := C.w.len.1
  have h2 := C.w.lt
  cases w with
  | nil => exact absurd h1 (by decide)
  | cons v w => exact h2 v List.mem_cons_self
omit C in
theorem len_pos {G : Gr} (hG : Good G) (s : Nat) {l : Nat} (hl : l < G.length) : 0 < len G s l := by
  obtain ⟨v, hv⟩ := (wk_G hG).tot s l hl
  unfold RG at hv
  rw [← (gw_len G s).1]
  exact List.length_pos_iff.2 fun e => by rw [e] at hv; cases hv
theorem Cx.len_le {l : Nat} (hl : l < G.length) : len G 12 l < 2 ^ 64 := by
  have := gw_bound C.good C.r3 12 (w := [l]) (by simpa using hl)
  rw [(gw_len G 12).1] at this
  have e : [l].length * 3 ^ 12 = 531441 := by simp
  have e2 : 531441 < 2 ^ 64 := by decide
  omega
theorem Cx.length_ {l : Nat} (hl : l < G.length) (s0 s1 s2 s3 s5 s6 s7 s8 s9 s11 : Sl) (rest : List Sl) :
    (sAsg (eCB gSumA (aL [(eCall (f_counts_after 300) (aL [(eVar 4), (eTup (aL [(eVar 10)])), (eK (.int 12))]))])) (gNm 11)) (s0 :: s1 :: s2 :: s3 :: .val (gD G) :: s5 :: s6 :: s7 :: s8 :: s9 :: .val (.int l) :: s11 :: rest) =
    some (.nx, s0 :: s1 :: s2 :: s3 :: .val (gD G) :: s5 :: s6 :: s7 :: s8 :: s9 :: .val (.int l) :: .val (.int (len G 12 l : Nat)) :: rest) := by
  have hw1 : ∀ v ∈ [l], v < G.length := by simpa using hl
  obtain ⟨o, h⟩ := counts_after C.good hw1 (by simp) (s := 12) (by decide)
  exact b_length h (by rw [sum_cnt _ (gw_lt C.good 12 hw1), (gw_len G 12).1]) s0 s1 s2 s3 s5 s6 s7 s8 s9 s11 rest
theorem Cx.at_ {l a : Nat} (hl : l < G.length) (ha : a < len G 12 l) (s0 s1 s2 s3 s6 s7 s8 s9 s11 : Sl) (rest : List Sl) :
    (sIf (tOfB (eBin gNe (eCall (f_letter_at 300) (aL [(eVar 5), (eVar 10), (eK (.int 6)), (eVar 12)])) (eCall (f_letter_at 300) (aL [(eVar 4), (eVar 10), (eK (.int 12)), (eVar 12)])))) (sRet (eK (.bl false))) sNext)
      (s0 :: s1 :: s2 :: s3 :: .val (gD G) :: .val (gD (two G)) :: s6 :: s7 :: s8 :: s9 :: .val (.int l) :: s11 :: .val (.int a) :: rest) = some (.nx, s0 :: s1 :: s2 :: s3 :: .val (gD G) :: .val (gD (two G)) :: s6 :: s7 :: s8 :: s9 :: .val (.int l) :: s11 :: .val (.int a) :: rest) := by
  obtain ⟨h1, h2⟩ := two_lt C.good (s := 6) hl ha
  obtain ⟨o1, e1⟩ := letter80 (N := 300) C.good2 (l := l) (st := 6) (a := a) (by rw [two_len]; exact hl) (by decide) h1
  obtain ⟨o2, e2⟩ := letter80 (N := 300) C.good (l := l) (st := 12) (a := a) hl (by decide) ha
  rw [h2] at e1
  exact b_at2 e1 e2 s0 s1 s2 s3 s6 s7 s8 s9 s11 rest
theorem Cx.ren {O : List Nat} (hO : Od G.length O) {st : Nat} (hst : st < 4) (s0 s1 s2 s3 s5 s8 s9 s10 s11 s12 s13 s15 s17 s18 s19 s20 : Sl) :
    (sIf (tOfB (eBin gNe (eCall (f_grown 300) (aL [(eVar 16), (eCB gTuple (aL [(eFrz (fComp [21] (iSq (eVar 6)) (gNm 21) tYs (eBin gIx (eVar 14) (eVar 21))))])), (eVar 7)])) (eCB gTuple (aL [(eFrz (fComp [21] (iSq (eCall (f_grown 300) (aL [(eVar 4), (eVar 6), (eVar 7)]))) (gNm 21) tYs (eBin gIx (eVar 14) (eVar 21))))])))) (sRet (eK (.bl false))) sNext)
      [s0, s1, s2, s3, .val (gD G), s5, .val (tN w), .val (.int st), s8, s9, s10, s11, s12, s13, .own (.lst (nL O)), s15, .val (gD (nam G O)), s17, s18, s19, s20, .none] =
      some (.nx, [s0, s1, s2, s3, .val (gD G), s5, .val (tN w), .val (.int st), s8, s9, s10, s11, s12, s13, .own (.lst (nL O)), s15, .val (gD (nam G O)), s17, s18, s19, s20, .none]) := by
  obtain ⟨o2, h2⟩ := C.grown_one (s := st) (by omega)
  have hI := nam_im C.im hO
  have nl := nam_len G O
  have e := fun s => gw_named (H := nam G O) (φ := ph O) C.good (fun l hl => nam_img rfl hO hl) s C.w.lt
  have hw2 : ∀ v ∈ w.map (ph O), v < (nam G O).length := by
    rw [nl]
    intro v hv
    obtain ⟨u, hu, rfl⟩ := List.mem_map.1 hv
    exact hO.ph_lt (C.w.lt u hu)
  obtain ⟨o1, h1⟩ := grown_ok (hI.good C.n1 C.n4) hw2 (s := st) (by omega) fun j hj => by
    rw [e j, List.length_map]
    exact C.bd (by omega)
  rw [e st] at h1
  exact b_ren hO.len C.w.lt (by have := C.w.len.2; omega) (gw_lt C.good st C.w.lt) (C.bd (by omega)) h1 h2 s0 s1 s2 s3 s5 s8 s9 s10 s11 s12 s13 s15 s17 s18 s19 s20
/-- the three kinds, to the end -/
theorem Cx.last {O : List Nat} (hO : Od G.length O) (s0 s1 s2 s3 s6 s7 s8 s9 s10 s11 s12 s13 s14 s15 s17 s18 s19 s20 : Sl) (rest : List Sl) :
    Yes (sSeq (sPar3 17 18 19 (aL [(eCall (f_mixes 300) (aL [(eVar 4)])), (eCall (f_mixes 300) (aL [(eVar 5)])), (eCall (f_mixes 300) (aL [(eVar 16)]))])) tailS (s0 :: s1 :: s2 :: s3 :: .val (gD G) :: .val (gD (two G)) :: s6 :: s7 :: s8 :: s9 :: s10 :: s11 :: s12 :: s13 :: s14 :: s15 :: .val (gD (nam G O)) :: s17 :: s18 :: s19 :: s20 :: rest)) := by
  have hI := nam_im C.im hO
  have nl := nam_len G O
  have hS3 : Sml (nam G O) := hI.sml C.n1 C.n4
  have W := wk_G C.good
  have W2 := wk_G C.good2
  have W3 := wk_G hS3.good
  have N2 := nm_two C.good
  have N3 := nam_nm C.n1 C.n4 C.im hO
  rw [two_len] at W2
  rw [nl] at W3
  rcases kinds C.good C.n4 with h | ⟨k, h⟩ | ⟨d, h⟩
  · obtain ⟨L1, o1, e1⟩ := mixes_c C.sml h
    obtain ⟨L2, o2, e2⟩ := mixes_c C.sml2 (by rw [two_len]; exact fun z => closed_two h ((irr_nm N2).1 z))
    obtain ⟨L3, o3, e3⟩ := mixes_c hS3 (by rw [nl]; exact fun z => h ((irr_nm N3).1 z))
    refine stp (b_three e1 e2 e3 _ _ _ _ _ _ _ _ _ _ _ _ _ _ _ _ _ _) ?_
    exact tail_c _ _ _ _ _ _ _ _ _ _ _ _ _ _ _ _ _ _ _
  · obtain ⟨o1, e1⟩ := mixes_m C.sml h
    obtain ⟨o2, e2⟩ := mixes_m C.sml2 (by rw [two_len]; exact mix_nm N2 (mix_two W h))
    obtain ⟨o3, e3⟩ := mixes_m hS3 (by rw [nl]; exact mix_nm N3 h)
    refine stp (b_three e1 e2 e3 _ _ _ _ _ _ _ _ _ _ _ _ _ _ _ _ _ _) ?_
    exact tail_m h.pos _ _ _ _ _ _ _ _ _ _ _ _ _ _ _ _ _ _ _
  · obtain ⟨L1, o1, l1, e1⟩ := mixes_t C.sml h
    obtain ⟨L3, o3, l3, e3⟩ := mixes_t hS3 (by rw [nl]; exact turn_nm N3 W W3 C.n1 (mp_G C.good) h)
    by_cases c : d % 2 = 0
    · obtain ⟨L2, o2, e2⟩ := mixes_c C.sml2 (by rw [two_len]; exact fun z => turn_even W C.n1 h c ((irr_nm N2).1 z))
      refine stp (b_three e1 e2 e3 _ _ _ _ _ _ _ _ _ _ _ _ _ _ _ _ _ _) ?_
      exact tail_te l1 l3 c _ _ _ _ _ _ _ _ _ _ _ _ _ _ _ _ _ _ _
    · have ht := turn_odd W C.n1 (mp_G C.good) h (by omega)
      obtain ⟨L2, o2, l2, e2⟩ := mixes_t C.sml2 (d := d) (by
        rw [two_len]
        exact turn_nm N2 (wk_two W) W2 C.n1 (fun c hc => by
          obtain ⟨e, M⟩ := mp_G C.good2 c (by rw [two_len]; exact hc)
          exact ⟨e, M.pos, (per_nm N2 (wk_two W) W2 hc).1 M.per, fun f hf => M.min f ((per_nm N2 (wk_two W) W2 hc).2 hf)⟩) ht)
      refine stp (b_three e1 e2 e3 _ _ _ _ _ _ _ _ _ _ _ _ _ _ _ _ _ _) ?_
      exact tail_to l1 l3 l2 (by omega) _ _ _ _ _ _ _ _ _ _ _ _ _ _ _ _ _ _ _
end
theorem law_true (ns : List Int) (hl : ns.length ≤ 63) : ∃ N outs, f_law N [.val (.scr (ns.map D.int))] = some (.d (.bl true), outs) := by
  refine ⟨300, yes_of ?_⟩
  have e0 : ([MP.Slot.val (D.scr (ns.map D.int))] ++ List.replicate (22 - 1) MP.Slot.none) = .val (.scr (ns.map D.int)) :: .none :: .none :: .none :: .none :: .none :: .none :: .none :: .none :: .none :: .none :: .none :: .none :: .none :: .none :: .none :: .none :: .none :: .none :: .none :: .none :: .none :: [] := rfl
  rw [e0]
  unfold m_law
  refine stp (st_pool ns _ _) ?_
  have hp0 : 0 ≤ (Pl.mk ns 0 0 1 0 0).i := Int.le_refl 0
  generalize Pl.mk ns 0 0 1 0 0 = p0 at *
  generalize MP.Slot.val (D.scr (ns.map D.int)) = s0
  obtain ⟨n, p1, n1, n4, hp1, e1⟩ := b_size p0 hp0 s0 .none (.none :: .none :: .none :: .none :: .none :: .none :: .none :: .none :: .none :: .none :: .none :: .none :: .none :: .none :: .none :: .none :: .none :: .none :: .none :: [])
  refine stp e1 ?_
  clear e1
  obtain ⟨G0, p2, hI0, hp2, e1⟩ := b_images n1 n4 p1 hp1 s0 .none .none .none .none .none .none .none .none .none .none .none (.none :: .none :: .none :: .none :: .none :: .none :: [])
  refine stp e1 ?_
  clear e1
  obtain ⟨G, p3, hI, hp3, e1⟩ := b_ring n1 n4 p2 hp2 hI0 s0 .none .none .none .none .none .none .none .none .none .none (.none :: .none :: .none :: .none :: .none :: .none :: [])
  refine stp e1 ?_
  clear e1
  refine stp (b_one (hI.good n1 n4) _ _ _ _ _) ?_
  refine stp (b_two n1 n4 hI _ _ _ _ _ _ _ _ _) ?_
  obtain ⟨w, p4, hw, hp4, e1⟩ := b_word n1 n4 p3 hp3 s0 (.val (.tup (G.map tN))) (.val (gD G)) (.val (gD (two G))) .none .none .none .none .none .none .none .none .none (.none :: .none :: .none :: .none :: .none :: .none :: [])
  refine stp e1 ?_
  clear e1
  have hln := hI.len
  subst hln
  have C : Cx G w := ⟨hI, n4, n1, hw⟩
  clear hI0 hI hw
  obtain ⟨st, p5, hst, hp5, e1⟩ := b_steps p4 hp4 s0 (.val (.int G.length)) (.val (.tup (G.map tN))) (.val (gD G)) (.val (gD (two G))) (.val (tN w)) .none (.none :: .none :: .none :: .none :: .none :: .none :: .none :: .none :: .none :: .none :: .none :: .none :: .none :: .none :: [])
  refine stp e1 ?_
  clear e1
  refine stp (C.same hst _ _ _ _ _) ?_
  obtain ⟨m, p6, m1, m2, hp6, e1⟩ := b_m p5 hp5 s0 (.val (.int G.length)) (.val (.tup (G.map tN))) (.val (gD G)) (.val (gD (two G))) (.val (tN w)) (.val (.int st)) .none (.none :: .none :: .none :: .none :: .none :: .none :: .none :: .none :: .none :: .none :: .none :: .none :: .none :: [])
  refine stp e1 ?_
  clear e1
  obtain ⟨far, p7, hfar, hp7, e1⟩ := b_far p6 hp6 s0 (.val (.int G.length)) (.val (.tup (G.map tN))) (.val (gD G)) (.val (gD (two G))) (.val (tN w)) (.val (.int st)) (.val (.int m)) .none (.none :: .none :: .none :: .none :: .none :: .none :: .none :: .none :: .none :: .none :: .none :: .none :: [])
  refine stp e1 ?_
  clear e1
  refine stp (C.by_ hfar m1 m2 _ _ _ _ _ _) ?_
  refine stp (b_letter C.w.len.1 _ _ _ _ _ _ _ _ _ _ _) ?_
  have hh := C.head_lt
  generalize w.headD 0 = l at *
  refine stp (C.length_ hh _ _ _ _ _ _ _ _ _ _ _) ?_
  obtain ⟨a, p8, ha, hp8, e1⟩ := b_at (len_pos C.good 12 hh) (C.len_le hh) p7 hp7 s0 (.val (.int G.length)) (.val (.tup (G.map tN))) (.val (gD G)) (.val (gD (two G))) (.val (tN w)) (.val (.int st)) (.val (.int m)) (.val (.int far)) (.val (.int l)) .none (.none :: .none :: .none :: .none :: .none :: .none :: .none :: .none :: .none :: [])
  refine stp e1 ?_
  clear e1
  refine stp (C.at_ hh ha _ _ _ _ _ _ _ _ _ _) ?_
  refine stp (b_left C.n4 _ _ _ _ _ _ _ _ _ _ _ _ _ _) ?_
  refine stp (b_empty _ _ _ _ _ _ _ _ _ _ _ _ _ _ _ _) ?_
  obtain ⟨O, p9, s15, hO, hp9, hs15, e1⟩ := b_order C.n4 p8 hp8 s0 (.val (.tup (G.map tN))) (.val (gD G)) (.val (gD (two G))) (.val (tN w)) (.val (.int st)) (.val (.int m)) (.val (.int far)) (.val (.int l)) (.val (.int (len G 12 l : Nat))) (.val (.int a)) (.none :: .none :: .none :: .none :: .none :: .none :: [])
  refine stp e1 ?_
  clear e1
  have hO : Od G.length O := ⟨hO⟩
  refine stp (b_named C.n1 C.n4 C.im hO _ _ _ _ _ _ _ _ _ _ _ _ _ _ _ _ _ _) ?_
  refine stp (C.ren hO hst _ _ _ _ _ _ _ _ _ _ _ _ _ _ _ _) ?_
  exact C.last hO _ _ _ _ _ _ _ _ _ _ _ _ _ _ _ _ _ _ _
end K93
namespace K93
open PySem PySem.Spec PyProof.Rows L2 MP
theorem all_mk {l : PySem.W.OpenLaw} {w : World} {K : PySem.W.Frag} {h : Heap} {mg : Str → Option Value} {fa : Addr} (X : K.In h) (G : h.Ns mainGlobals mg) (hfa : mg "law" = some (.ref fa))
    {f0 : Addr} {od0 an0 : Option Addr} {sl0 : Array (Option Value)} {oc0 kV0 dc0 pm0 cd0 ct0 : Value}
    {f1 : Addr} {od1 an1 : Option Addr} {sl1 : Array (Option Value)} {oc1 kV1 dc1 pm1 cd1 ct1 : Value}
    {f2 : Addr} {od2 an2 : Option Addr} {sl2 : Array (Option Value)} {oc2 kV2 dc2 pm2 cd2 ct2 : Value}
    {f3 : Addr} {od3 an3 : Option Addr} {sl3 : Array (Option Value)} {oc3 kV3 dc3 pm3 cd3 ct3 : Value}
    {f4 : Addr} {od4 an4 : Option Addr} {sl4 : Array (Option Value)} {oc4 kV4 dc4 pm4 cd4 ct4 : Value}
    {f5 : Addr} {od5 an5 : Option Addr} {sl5 : Array (Option Value)} {oc5 kV5 dc5 pm5 cd5 ct5 : Value}
    {f6 : Addr} {od6 an6 : Option Addr} {sl6 : Array (Option Value)} {oc6 kV6 dc6 pm6 cd6 ct6 : Value}
    {f7 : Addr} {od7 an7 : Option Addr} {sl7 : Array (Option Value)} {oc7 kV7 dc7 pm7 cd7 ct7 : Value}
    {f8 : Addr} {od8 an8 : Option Addr} {sl8 : Array (Option Value)} {oc8 kV8 dc8 pm8 cd8 ct8 : Value}
    {f9 : Addr} {od9 an9 : Option Addr} {sl9 : Array (Option Value)} {oc9 kV9 dc9 pm9 cd9 ct9 : Value}
    {f10 : Addr} {od10 an10 : Option Addr} {sl10 : Array (Option Value)} {oc10 kV10 dc10 pm10 cd10 ct10 : Value}
    {f11 : Addr} {od11 an11 : Option Addr} {sl11 : Array (Option Value)} {oc11 kV11 dc11 pm11 cd11 ct11 : Value}
    {f12 : Addr} {od12 an12 : Option Addr} {sl12 : Array (Option Value)} {oc12 kV12 dc12 pm12 cd12 ct12 : Value}
    {f13 : Addr} {od13 an13 : Option Addr} {sl13 : Array (Option Value)} {oc13 kV13 dc13 pm13 cd13 ct13 : Value}
    {f14 : Addr} {od14 an14 : Option Addr} {sl14 : Array (Option Value)} {oc14 kV14 dc14 pm14 cd14 ct14 : Value}
    {f15 : Addr} {od15 an15 : Option Addr} {sl15 : Array (Option Value)} {oc15 kV15 dc15 pm15 cd15 ct15 : Value}
    {f16 : Addr} {od16 an16 : Option Addr} {sl16 : Array (Option Value)} {oc16 kV16 dc16 pm16 cd16 ct16 : Value}
    {C_Growth : Addr}
    {t_MOST_LETTERS : Tok}
    {t_MOST_IMAGE : Tok}
    {t_MOST_WORD : Tok}
    {t_MOST_POWER : Tok}
    (aC_Growth : PySem.W.nsIn K mainGlobals "Growth" = some (some (.ref C_Growth)))
    (a0 : PySem.W.nsIn K mainGlobals "multiplied" = some (some (.ref f0)))
    (l0 : K.lookup f0 = some ⟨oc0, od0, .func (PySem.W.fnOf "multiplied" "multiplied" (defArgs s_multiplied) (defBody s_multiplied) (defScope s_multiplied) .none kV0 dc0 pm0 an0 cd0 ct0), sl0⟩) (c0 : PySem.W.codeIn K cd0 "multiplied" = true) (k0 : PySem.W.keepIn K (.ref f0) = true)
    (a1 : PySem.W.nsIn K mainGlobals "checked_word" = some (some (.ref f1)))
    (l1 : K.lookup f1 = some ⟨oc1, od1, .func (PySem.W.fnOf "checked_word" "checked_word" (defArgs s_checked_word) (defBody s_checked_word) (defScope s_checked_word) .none kV1 dc1 pm1 an1 cd1 ct1), sl1⟩) (c1 : PySem.W.codeIn K cd1 "checked_word" = true) (k1 : PySem.W.keepIn K (.ref f1) = true)
    (a2 : PySem.W.nsIn K mainGlobals "_table" = some (some (.ref f2)))
    (l2 : K.lookup f2 = some ⟨oc2, od2, .func (PySem.W.fnOf "_table" "_table" (defArgs s_table) (defBody s_table) (defScope s_table) .none kV2 dc2 pm2 an2 cd2 ct2), sl2⟩) (c2 : PySem.W.codeIn K cd2 "_table" = true) (k2 : PySem.W.keepIn K (.ref f2) = true)
    (a3 : PySem.W.nsIn K mainGlobals "_letters_in" = some (some (.ref f3)))
    (l3 : K.lookup f3 = some ⟨oc3, od3, .func (PySem.W.fnOf "_letters_in" "_letters_in" (defArgs s_letters_in) (defBody s_letters_in) (defScope s_letters_in) .none kV3 dc3 pm3 an3 cd3 ct3), sl3⟩) (c3 : PySem.W.codeIn K cd3 "_letters_in" = true) (k3 : PySem.W.keepIn K (.ref f3) = true)
    (a4 : PySem.W.nsIn K mainGlobals "_are_among" = some (some (.ref f4)))
    (l4 : K.lookup f4 = some ⟨oc4, od4, .func (PySem.W.fnOf "_are_among" "_are_among" (defArgs s_are_among) (defBody s_are_among) (defScope s_are_among) .none kV4 dc4 pm4 an4 cd4 ct4), sl4⟩) (c4 : PySem.W.codeIn K cd4 "_are_among" = true) (k4 : PySem.W.keepIn K (.ref f4) = true)
    (a5 : PySem.W.nsIn K mainGlobals "_law_pool" = some (some (.ref f5)))
    (l5 : K.lookup f5 = some ⟨oc5, od5, .func (PySem.W.fnOf "_law_pool" "_law_pool" (defArgs s_law_pool) (defBody s_law_pool) (defScope s_law_pool) .none kV5 dc5 pm5 an5 cd5 ct5), sl5⟩) (c5 : PySem.W.codeIn K cd5 "_law_pool" = true) (k5 : PySem.W.keepIn K (.ref f5) = true)
    (a6 : PySem.W.nsIn K mainGlobals "_law_draw" = some (some (.ref f6)))
    (l6 : K.lookup f6 = some ⟨oc6, od6, .func (PySem.W.fnOf "_law_draw" "_law_draw" (defArgs s_law_draw) (defBody s_law_draw) (defScope s_law_draw) .none kV6 dc6 pm6 an6 cd6 ct6), sl6⟩) (c6 : PySem.W.codeIn K cd6 "_law_draw" = true) (k6 : PySem.W.keepIn K (.ref f6) = true)
    (a7 : PySem.W.findIn K (.ref C_Growth) "__init__" = some (some (.ref f7))) (i7 : PySem.W.isFn K (.ref f7) = true)
    (l7 : K.lookup f7 = some ⟨oc7, od7, .func (PySem.W.fnOf "__init__" "Growth.__init__" (defArgs s_Growth_init) (defBody s_Growth_init) (defScope s_Growth_init) .none kV7 dc7 pm7 an7 cd7 ct7), sl7⟩) (c7 : PySem.W.codeIn K cd7 "Growth.__init__" = true) (k7 : PySem.W.keepIn K (.ref f7) = true)
    (a8 : PySem.W.nsIn K mainGlobals "grown" = some (some (.ref f8)))
    (l8 : K.lookup f8 = some ⟨oc8, od8, .func (PySem.W.fnOf "grown" "grown" (defArgs s_grown) (defBody s_grown) (defScope s_grown) .none kV8 dc8 pm8 an8 cd8 ct8), sl8⟩) (c8 : PySem.W.codeIn K cd8 "grown" = true) (k8 : PySem.W.keepIn K (.ref f8) = true)
    (a9 : PySem.W.nsIn K mainGlobals "counts_of" = some (some (.ref f9)))
    (l9 : K.lookup f9 = some ⟨oc9, od9, .func (PySem.W.fnOf "counts_of" "counts_of" (defArgs s_counts_of) (defBody s_counts_of) (defScope s_counts_of) .none kV9 dc9 pm9 an9 cd9 ct9), sl9⟩) (c9 : PySem.W.codeIn K cd9 "counts_of" = true) (k9 : PySem.W.keepIn K (.ref f9) = true)
    (a10 : PySem.W.nsIn K mainGlobals "letter_at" = some (some (.ref f10)))
    (l10 : K.lookup f10 = some ⟨oc10, od10, .func (PySem.W.fnOf "letter_at" "letter_at" (defArgs s_letter_at) (defBody s_letter_at) (defScope s_letter_at) .none kV10 dc10 pm10 an10 cd10 ct10), sl10⟩) (c10 : PySem.W.codeIn K cd10 "letter_at" = true) (k10 : PySem.W.keepIn K (.ref f10) = true)
    (a11 : PySem.W.nsIn K mainGlobals "_classes" = some (some (.ref f11)))
    (l11 : K.lookup f11 = some ⟨oc11, od11, .func (PySem.W.fnOf "_classes" "_classes" (defArgs s_classes) (defBody s_classes) (defScope s_classes) .none kV11 dc11 pm11 an11 cd11 ct11), sl11⟩) (c11 : PySem.W.codeIn K cd11 "_classes" = true) (k11 : PySem.W.keepIn K (.ref f11) = true)
    (a12 : PySem.W.nsIn K mainGlobals "_law_some" = some (some (.ref f12)))
    (l12 : K.lookup f12 = some ⟨oc12, od12, .func (PySem.W.fnOf "_law_some" "_law_some" (defArgs s_law_some) (defBody s_law_some) (defScope s_law_some) .none kV12 dc12 pm12 an12 cd12 ct12), sl12⟩) (c12 : PySem.W.codeIn K cd12 "_law_some" = true) (k12 : PySem.W.keepIn K (.ref f12) = true)
    (a13 : PySem.W.nsIn K mainGlobals "counts_after" = some (some (.ref f13)))
    (l13 : K.lookup f13 = some ⟨oc13, od13, .func (PySem.W.fnOf "counts_after" "counts_after" (defArgs s_counts_after) (defBody s_counts_after) (defScope s_counts_after) .none kV13 dc13 pm13 an13 cd13 ct13), sl13⟩) (c13 : PySem.W.codeIn K cd13 "counts_after" = true) (k13 : PySem.W.keepIn K (.ref f13) = true)
    (a14 : PySem.W.nsIn K mainGlobals "counts_by" = some (some (.ref f14)))
    (l14 : K.lookup f14 = some ⟨oc14, od14, .func (PySem.W.fnOf "counts_by" "counts_by" (defArgs s_counts_by) (defBody s_counts_by) (defScope s_counts_by) .none kV14 dc14 pm14 an14 cd14 ct14), sl14⟩) (c14 : PySem.W.codeIn K cd14 "counts_by" = true) (k14 : PySem.W.keepIn K (.ref f14) = true)
    (a15 : PySem.W.nsIn K mainGlobals "mixes" = some (some (.ref f15)))
    (l15 : K.lookup f15 = some ⟨oc15, od15, .func (PySem.W.fnOf "mixes" "mixes" (defArgs s_mixes) (defBody s_mixes) (defScope s_mixes) .none kV15 dc15 pm15 an15 cd15 ct15), sl15⟩) (c15 : PySem.W.codeIn K cd15 "mixes" = true) (k15 : PySem.W.keepIn K (.ref f15) = true)
    (a16 : PySem.W.nsIn K mainGlobals "law" = some (some (.ref f16)))
    (l16 : K.lookup f16 = some ⟨oc16, od16, .func (PySem.W.fnOf "law" "law" (defArgs s_law) (defBody s_law) (defScope s_law) .none kV16 dc16 pm16 an16 cd16 ct16), sl16⟩) (c16 : PySem.W.codeIn K cd16 "law" = true) (k16 : PySem.W.keepIn K (.ref f16) = true)
    (pg_Growth : PySem.W.plainGet K C_Growth Str.empty = true) (hd_Growth : PySem.W.hasDictIn K C_Growth = true) (po_Growth : PySem.W.plainOver K C_Growth = true) (sa_Growth : PySem.W.findIn K (.ref C_Growth) "__setattr__" = some (some (.builtin "object.__setattr__"))) (mk_Growth : PySem.W.makesIn K C_Growth = true) (kc_Growth : PySem.W.keepIn K (.ref C_Growth) = true)
    (no_Growth_images : PySem.W.findIn K (.ref C_Growth) "images" = some none)
    (z_len : PySem.W.nsIn K mainGlobals "len" = some none)
    (z_range : PySem.W.nsIn K mainGlobals "range" = some none)
    (z_sum : PySem.W.nsIn K mainGlobals "sum" = some none)
    (z_tuple : PySem.W.nsIn K mainGlobals "tuple" = some none)
    (z_all : PySem.W.nsIn K mainGlobals "all" = some none)
    (z_sorted : PySem.W.nsIn K mainGlobals "sorted" = some none)
    (z_list : PySem.W.nsIn K mainGlobals "list" = some none)
    (z_int : PySem.W.nsIn K mainGlobals "int" = some none)
    (z_set : PySem.W.nsIn K mainGlobals "set" = some none)
    (g_MOST_LETTERS : PySem.W.nsIn K mainGlobals "MOST_LETTERS" = some (some (.int 6 t_MOST_LETTERS)))
    (g_MOST_IMAGE : PySem.W.nsIn K mainGlobals "MOST_IMAGE" = some (some (.int 12 t_MOST_IMAGE)))
    (g_MOST_WORD : PySem.W.nsIn K mainGlobals "MOST_WORD" = some (some (.int 20000 t_MOST_WORD)))
    (g_MOST_POWER : PySem.W.nsIn K mainGlobals "MOST_POWER" = some (some (.int 2000 t_MOST_POWER)))
    : ∃ fd : FuncData, (∀ (s : Shared) (v : Value), BindsTo s fd ⟨[v], []⟩ [("script", v)]) ∧ ∀ base : Heap, K.In base → base.Ns mainGlobals mg → FnOk l.prog w K mg base CX0 4 fa fd ["script"] (spLaw K) := by
  have e := hfa.symm.trans (PySem.W.mg_of X G a16)
  cases e
  let cl : ClM := fun c => match c with | 0 => some (C_Growth, ["images"]) | _ => none
  have F0 := fun_mk (st := s_multiplied) l0 c0 k0
  have b0 := F0.binds (ps := ["one", "two"]) fun _ _ _ _ _ _ us hl => match us, hl with | [_, _], _ => rfl
  have F1 := fun_mk (st := s_checked_word) l1 c1 k1
  have b1 := F1.binds (ps := ["growth", "word"]) fun _ _ _ _ _ _ us hl => match us, hl with | [_, _], _ => rfl
  have F2 := fun_mk (st := s_table) l2 c2 k2
  have b2 := F2.binds (ps := ["growth"]) fun _ _ _ _ _ _ us hl => match us, hl with | [_], _ => rfl
  have F3 := fun_mk (st := s_letters_in) l3 c3 k3
  have b3 := F3.binds (ps := ["growth", "letters"]) fun _ _ _ _ _ _ us hl => match us, hl with | [_, _], _ => rfl
  have F4 := fun_mk (st := s_are_among) l4 c4 k4
  have b4 := F4.binds (ps := ["some", "others"]) fun _ _ _ _ _ _ us hl => match us, hl with | [_, _], _ => rfl
  have F5 := fun_mk (st := s_law_pool) l5 c5 k5
  have b5 := F5.binds (ps := ["script", "budget"]) fun _ _ _ _ _ _ us hl => match us, hl with | [_, _], _ => rfl
  have F6 := fun_mk (st := s_law_draw) l6 c6 k6
  have b6 := F6.binds (ps := ["pool", "size"]) fun _ _ _ _ _ _ us hl => match us, hl with | [_, _], _ => rfl
  have F7 := fun_mk (st := s_Growth_init) l7 c7 k7
  have b7 := F7.binds (ps := ["self", "images"]) fun _ _ _ _ _ _ us hl => match us, hl with | [_, _], _ => rfl
  have F8 := fun_mk (st := s_grown) l8 c8 k8
  have b8 := F8.binds (ps := ["growth", "word", "steps"]) fun _ _ _ _ _ _ us hl => match us, hl with | [_, _, _], _ => rfl
  have F9 := fun_mk (st := s_counts_of) l9 c9 k9
  have b9 := F9.binds (ps := ["growth", "word"]) fun _ _ _ _ _ _ us hl => match us, hl with | [_, _], _ => rfl
  have F10 := fun_mk (st := s_letter_at) l10 c10 k10
  have b10 := F10.binds (ps := ["growth", "letter", "steps", "at"]) fun _ _ _ _ _ _ us hl => match us, hl with | [_, _, _, _], _ => rfl
  have F11 := fun_mk (st := s_classes) l11 c11 k11
  have b11 := F11.binds (ps := ["growth"]) fun _ _ _ _ _ _ us hl => match us, hl with | [_], _ => rfl
  have F12 := fun_mk (st := s_law_some) l12 c12 k12
  have b12 := F12.binds (ps := ["pool"]) fun _ _ _ _ _ _ us hl => match us, hl with | [_], _ => rfl
  have F13 := fun_mk (st := s_counts_after) l13 c13 k13
  have b13 := F13.binds (ps := ["growth", "word", "steps"]) fun _ _ _ _ _ _ us hl => match us, hl with | [_, _, _], _ => rfl
  have F14 := fun_mk (st := s_counts_by) l14 c14 k14
  have b14 := F14.binds (ps := ["growth", "word", "steps", "m"]) fun _ _ _ _ _ _ us hl => match us, hl with | [_, _, _, _], _ => rfl
  have F15 := fun_mk (st := s_mixes) l15 c15 k15
  have b15 := F15.binds (ps := ["growth"]) fun _ _ _ _ _ _ us hl => match us, hl with | [_], _ => rfl
  have F16 := fun_mk (st := s_law) l16 c16 k16
  have b16 := F16.binds (ps := ["script"]) fun _ _ _ _ _ _ us hl => match us, hl with | [_], _ => rfl
  have T : TX K mg cl := {
    a_multiplied := f0, d_multiplied := _, F_multiplied := F0, b_multiplied := b0,
    mg_multiplied := PySem.W.mg_of X G a0,
    a_checked_word := f1, d_checked_word := _, F_checked_word := F1, b_checked_word := b1,
    mg_checked_word := PySem.W.mg_of X G a1,
    a_table := f2, d_table := _, F_table := F2, b_table := b2,
    mg_table := PySem.W.mg_of X G a2,
    a_letters_in := f3, d_letters_in := _, F_letters_in := F3, b_letters_in := b3,
    mg_letters_in := PySem.W.mg_of X G a3,
    a_are_among := f4, d_are_among := _, F_are_among := F4, b_are_among := b4,
    mg_are_among := PySem.W.mg_of X G a4,
    a_law_pool := f5, d_law_pool := _, F_law_pool := F5, b_law_pool := b5,
    mg_law_pool := PySem.W.mg_of X G a5,
    a_law_draw := f6, d_law_draw := _, F_law_draw := F6, b_law_draw := b6,
    mg_law_draw := PySem.W.mg_of X G a6,
    a_Growth_init := f7, d_Growth_init := _, F_Growth_init := F7, b_Growth_init := b7,
    a_grown := f8, d_grown := _, F_grown := F8, b_grown := b8,
    mg_grown := PySem.W.mg_of X G a8,
    a_counts_of := f9, d_counts_of := _, F_counts_of := F9, b_counts_of := b9,
    mg_counts_of := PySem.W.mg_of X G a9,
    a_letter_at := f10, d_letter_at := _, F_letter_at := F10, b_letter_at := b10,
    mg_letter_at := PySem.W.mg_of X G a10,
    a_classes := f11, d_classes := _, F_classes := F11, b_classes := b11,
    mg_classes := PySem.W.mg_of X G a11,
    a_law_some := f12, d_law_some := _, F_law_some := F12, b_law_some := b12,
    mg_law_some := PySem.W.mg_of X G a12,
    a_counts_after := f13, d_counts_after := _, F_counts_after := F13, b_counts_after := b13,
    mg_counts_after := PySem.W.mg_of X G a13,
    a_counts_by := f14, d_counts_by := _, F_counts_by := F14, b_counts_by := b14,
    mg_counts_by := PySem.W.mg_of X G a14,
    a_mixes := f15, d_mixes := _, F_mixes := F15, b_mixes := b15,
    mg_mixes := PySem.W.mg_of X G a15,
    a_law := fa, d_law := _, F_law := F16, b_law := b16,
    mg_law := PySem.W.mg_of X G a16,
    A_Growth := C_Growth, k_Growth := ⟨rfl, ⟨pg_Growth, hd_Growth, po_Growth, sa_Growth⟩, by decide +kernel, (by intro f hf; simp only [List.mem_cons, List.not_mem_nil, or_false] at hf; subst hf; exact no_Growth_images), by decide⟩, mg_Growth := PySem.W.mg_of X G aC_Growth,
    mk_Growth := ⟨mk_Growth, a7, i7, kc_Growth⟩,
    n_len := PySem.W.mg_none_of X G z_len,
    n_range := PySem.W.mg_none_of X G z_range,
    n_sum := PySem.W.mg_none_of X G z_sum,
    n_tuple := PySem.W.mg_none_of X G z_tuple,
    n_all := PySem.W.mg_none_of X G z_all,
    n_sorted := PySem.W.mg_none_of X G z_sorted,
    n_list := PySem.W.mg_none_of X G z_list,
    n_int := PySem.W.mg_none_of X G z_int,
    n_set := PySem.W.mg_none_of X G z_set,
    t_MOST_LETTERS := _, c_MOST_LETTERS := PySem.W.mg_of X G g_MOST_LETTERS,
    t_MOST_IMAGE := _, c_MOST_IMAGE := PySem.W.mg_of X G g_MOST_IMAGE,
    t_MOST_WORD := _, c_MOST_WORD := PySem.W.mg_of X G g_MOST_WORD,
    t_MOST_POWER := _, c_MOST_POWER := PySem.W.mg_of X G g_MOST_POWER }
  refine ⟨_, ?_, fun base _ _ => law_of rfl (fun N => ok_law (P := l.prog) (w := w) (base := base) ({
    a_multiplied := f0, d_multiplied := _, F_multiplied := F0, b_multiplied := b0,
    mg_multiplied := PySem.W.mg_of X G a0,
    a_checked_word := f1, d_checked_word := _, F_checked_word := F1, b_checked_word := b1,
    mg_checked_word := PySem.W.mg_of X G a1,
    a_table := f2, d_table := _, F_table := F2, b_table := b2,
    mg_table := PySem.W.mg_of X G a2,
    a_letters_in := f3, d_letters_in := _, F_letters_in := F3, b_letters_in := b3,
    mg_letters_in := PySem.W.mg_of X G a3,
    a_are_among := f4, d_are_among := _, F_are_among := F4, b_are_among := b4,
    mg_are_among := PySem.W.mg_of X G a4,
    a_law_pool := f5, d_law_pool := _, F_law_pool := F5, b_law_pool := b5,
    mg_law_pool := PySem.W.mg_of X G a5,
    a_law_draw := f6, d_law_draw := _, F_law_draw := F6, b_law_draw := b6,
    mg_law_draw := PySem.W.mg_of X G a6,
    a_Growth_init := f7, d_Growth_init := _, F_Growth_init := F7, b_Growth_init := b7,
    a_grown := f8, d_grown := _, F_grown := F8, b_grown := b8,
    mg_grown := PySem.W.mg_of X G a8,
    a_counts_of := f9, d_counts_of := _, F_counts_of := F9, b_counts_of := b9,
    mg_counts_of := PySem.W.mg_of X G a9,
    a_letter_at := f10, d_letter_at := _, F_letter_at := F10, b_letter_at := b10,
    mg_letter_at := PySem.W.mg_of X G a10,
    a_classes := f11, d_classes := _, F_classes := F11, b_classes := b11,
    mg_classes := PySem.W.mg_of X G a11,
    a_law_some := f12, d_law_some := _, F_law_some := F12, b_law_some := b12,
    mg_law_some := PySem.W.mg_of X G a12,
    a_counts_after := f13, d_counts_after := _, F_counts_after := F13, b_counts_after := b13,
    mg_counts_after := PySem.W.mg_of X G a13,
    a_counts_by := f14, d_counts_by := _, F_counts_by := F14, b_counts_by := b14,
    mg_counts_by := PySem.W.mg_of X G a14,
    a_mixes := f15, d_mixes := _, F_mixes := F15, b_mixes := b15,
    mg_mixes := PySem.W.mg_of X G a15,
    a_law := fa, d_law := _, F_law := F16, b_law := b16,
    mg_law := PySem.W.mg_of X G a16,
    A_Growth := C_Growth, k_Growth := ⟨rfl, ⟨pg_Growth, hd_Growth, po_Growth, sa_Growth⟩, by decide +kernel, (by intro f hf; simp only [List.mem_cons, List.not_mem_nil, or_false] at hf; subst hf; exact no_Growth_images), by decide⟩, mg_Growth := PySem.W.mg_of X G aC_Growth,
    mk_Growth := ⟨mk_Growth, a7, i7, kc_Growth⟩,
    n_len := PySem.W.mg_none_of X G z_len,
    n_range := PySem.W.mg_none_of X G z_range,
    n_sum := PySem.W.mg_none_of X G z_sum,
    n_tuple := PySem.W.mg_none_of X G z_tuple,
    n_all := PySem.W.mg_none_of X G z_all,
    n_sorted := PySem.W.mg_none_of X G z_sorted,
    n_list := PySem.W.mg_none_of X G z_list,
    n_int := PySem.W.mg_none_of X G z_int,
    n_set := PySem.W.mg_none_of X G z_set,
    t_MOST_LETTERS := _, c_MOST_LETTERS := PySem.W.mg_of X G g_MOST_LETTERS,
    t_MOST_IMAGE := _, c_MOST_IMAGE := PySem.W.mg_of X G g_MOST_IMAGE,
    t_MOST_WORD := _, c_MOST_WORD := PySem.W.mg_of X G g_MOST_WORD,
    t_MOST_POWER := _, c_MOST_POWER := PySem.W.mg_of X G g_MOST_POWER } : TX K mg cl) N) law_true⟩
  exact fun s v => .of_eq rfl
end K93
open PySem PySem.W PyProof.Rows
set_option maxRecDepth 100000 in
set_option maxHeartbeats 0 in
theorem PySem.Challenge.cw_cellproof_k93_whole_growths_of_growths_holds : PySem.Challenge.rw_cellproof_k93_whole_growths_of_growths.Holds := by
  w_on; o_law; k_head; (case hw => w_witness2)
  k_fill
  refine L2.walk_of (l := PySem.Challenge.rw_cellproof_k93_whole_growths_of_growths) (n := 63) (k := 4) (x := "script") (CX := fun _ => L2.CX0) (sp := fun w => MP.spLaw _) rfl (by decide) rfl ⟨rfl, by decide, by decide⟩ (fun w h Y => PySem.W.kIn_of Y) ?F (fun _ _ a ns hl _ hS => ⟨a, ns, rfl, hS, hl, fun _ => rfl⟩) (fun _ _ _ _ _ h => h)
  case F =>
    intro w mg fa h KX G hmg
    refine' K93.all_mk KX G hmg ?aC_Growth ?a0 ?l0 ?c0 ?k0 ?a1 ?l1 ?c1 ?k1 ?a2 ?l2 ?c2 ?k2 ?a3 ?l3 ?c3 ?k3 ?a4 ?l4 ?c4 ?k4 ?a5 ?l5 ?c5 ?k5 ?a6 ?l6 ?c6 ?k6 ?a7 ?i7 ?l7 ?c7 ?k7 ?a8 ?l8 ?c8 ?k8 ?a9 ?l9 ?c9 ?k9 ?a10 ?l10 ?c10 ?k10 ?a11 ?l11 ?c11 ?k11 ?a12 ?l12 ?c12 ?k12 ?a13 ?l13 ?c13 ?k13 ?a14 ?l14 ?c14 ?k14 ?a15 ?l15 ?c15 ?k15 ?a16 ?l16 ?c16 ?k16 ?pg_Growth ?hd_Growth ?po_Growth ?sa_Growth ?mk_Growth ?kc_Growth ?no_Growth_images ?z_len ?z_range ?z_sum ?z_tuple ?z_all ?z_sorted ?z_list ?z_int ?z_set ?g_MOST_LETTERS ?g_MOST_IMAGE ?g_MOST_WORD ?g_MOST_POWER
    (case aC_Growth => k_is)
    (case a0 => k_is)
    (case l0 => k_is)
    (case c0 => k_is)
    (case k0 => k_is)
    (case a1 => k_is)
    (case l1 => k_is)
    (case c1 => k_is)
    (case k1 => k_is)
    (case a2 => k_is)
    (case l2 => k_is)
    (case c2 => k_is)
    (case k2 => k_is)
    (case a3 => k_is)
    (case l3 => k_is)
    (case c3 => k_is)
    (case k3 => k_is)
    (case a4 => k_is)
    (case l4 => k_is)
    (case c4 => k_is)
    (case k4 => k_is)
    (case a5 => k_is)
    (case l5 => k_is)
    (case c5 => k_is)
    (case k5 => k_is)
    (case a6 => k_is)
    (case l6 => k_is)
    (case c6 => k_is)
    (case k6 => k_is)
    (case a7 => k_is)
    (case i7 => k_is)
    (case l7 => k_is)
    (case c7 => k_is)
    (case k7 => k_is)
    (case a8 => k_is)
    (case l8 => k_is)
    (case c8 => k_is)
    (case k8 => k_is)
    (case a9 => k_is)
    (case l9 => k_is)
    (case c9 => k_is)
    (case k9 => k_is)
    (case a10 => k_is)
    (case l10 => k_is)
    (case c10 => k_is)
    (case k10 => k_is)
    (case a11 => k_is)
    (case l11 => k_is)
    (case c11 => k_is)
    (case k11 => k_is)
    (case a12 => k_is)
    (case l12 => k_is)
    (case c12 => k_is)
    (case k12 => k_is)
    (case a13 => k_is)
    (case l13 => k_is)
    (case c13 => k_is)
    (case k13 => k_is)
    (case a14 => k_is)
    (case l14 => k_is)
    (case c14 => k_is)
    (case k14 => k_is)
    (case a15 => k_is)
    (case l15 => k_is)
    (case c15 => k_is)
    (case k15 => k_is)
    (case a16 => k_is)
    (case l16 => k_is)
    (case c16 => k_is)
    (case k16 => k_is)
    (case pg_Growth => k_is)
    (case hd_Growth => k_is)
    (case po_Growth => k_is)
    (case sa_Growth => k_is)
    (case mk_Growth => k_is)
    (case kc_Growth => k_is)
    (case no_Growth_images => k_is)
    (case z_len => k_is)
    (case z_range => k_is)
    (case z_sum => k_is)
    (case z_tuple => k_is)
    (case z_all => k_is)
    (case z_sorted => k_is)
    (case z_list => k_is)
    (case z_int => k_is)
    (case z_set => k_is)
    (case g_MOST_LETTERS => k_is)
    (case g_MOST_IMAGE => k_is)
    (case g_MOST_WORD => k_is)
    (case g_MOST_POWER => k_is)
