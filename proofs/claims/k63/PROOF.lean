import PyProof.Rows.All
import Wide.All
import OpenK.AllK
import Wide.FinOn
import HandS.ForMost
import HandS.Deep
import HandS.TupAny
import HandS.TupMul
import HandS.Conv
import HandS.Zip
import HandS.Flow
import HandS.Wide
import KE.KeyNested
import HandS.TupLen
import PyProof.Rows.InDataRows
import HandS.Style
import HandS.SetFor
import KE.GoesEnum
import KE.GoesMore
import HandS.Iter
import HandS.IsInst
import KE.KTupSum
import HandS.WordsDict
import HandS.Strs
import HandS.SortInts
import HandS.SetBool
import KE.KIndexOf
import HandS.TupSets
import HandS.SortRule
import KE.SortData
import HandS.TupLe
import KE.KDictDisplayH
import KE.KDictZip
import HandS.Zip0
import PySem.Challenge.RW_cellproof_k63_whole_worths_together
set_option Elab.async false
set_option linter.all false
set_option maxRecDepth 100000
set_option maxHeartbeats 4000000
namespace MP
open PySem PySem.Spec PyProof.Rows L2
/-! ### exact tuples: each tuple made at run time is tracked as a frozen object without a dict of its own -/
def tpO (us : Array Value) : Obj := { cls := .type "tuple", data := .seq us }
/-- pairs of ints are plain (keys of dicts) -/
def plV : List V → Bool
  | [.int _, .int _] => true
  | _ => false
def xT (us : Array Value) (vs : List V) : HO := if plV vs = true then .tup vs else .frz (tpO us) (.tup vs)
theorem xT_pl {us : Array Value} {vs : List V} (h : plV vs = true) : xT us vs = .tup vs := if_pos h
theorem xT_ex {us : Array Value} {vs : List V} (h : plV vs = false) : xT us vs = .frz (tpO us) (.tup vs) := if_neg (by rw [h]; decide)
theorem objX {P : Program} {w : World} {H : Hp} {h : Heap} {us : List Value} {xs : List V} (hz : xs.length ≤ sizeLine) (r : Vals xs us) :
    ObjOk P w H (h.push (tpO us.toArray)) h.objs.size (xT us.toArray xs) := by
  by_cases c : plV xs = true
  · rw [xT_pl c]
    exact ⟨hz, us, r, _, Heap.get?_push_size h rfl, rfl, _, rfl⟩
  · rw [xT_ex (by simpa using c)]
    exact ⟨Heap.get?_push_size h rfl, hz, us, r, _, Heap.get?_push_size h rfl, rfl, _, rfl⟩
theorem okX {P : Program} {w : World} {H : Hp} {h : Heap} {a : Addr} {us : Array Value} {xs : List V} (hT : h.get? a = some (tpO us)) (hz : xs.length ≤ sizeLine) (r : Vals xs us.toList) : ObjOk P w H h a (xT us xs) := by
  by_cases c : plV xs = true
  · rw [xT_pl c]
    exact ⟨hz, us.toList, r, _, hT, rfl, _, rfl⟩
  · rw [xT_ex (by simpa using c)]
    exact ⟨hT, hz, us.toList, r, _, hT, rfl, _, rfl⟩
theorem laidX {X : Cx} {pins : List (Addr × Obj)} {σ : L2.St} {H : Hp} {s : Shared} {t' : Nat} {us : List Value} {xs : List V} (I : L2.Inv X pins σ H s) (hz : xs.length ≤ sizeLine) (r : Vals xs us) :
    L2.Inv X pins σ (upd H s.heap.objs.size (xT us.toArray xs)) { s with heap := s.heap.push (tpO us.toArray), toks := t' } :=
  I.laid (t' := t') (o := xT us.toArray xs) (fun b ob q => Heap.get?_push_of_some _ q) (Nat.le_refl _) (objX hz r)
theorem sqX {K : PySem.W.Frag} {H : Hp} {a : Addr} {us : Array Value} {xs : List V} (h : H a = some (xT us xs)) : SqT K H a xs := by
  by_cases c : plV xs = true
  · rw [xT_pl c] at h
    exact .inl (.inl h)
  · rw [xT_ex (by simpa using c)] at h
    exact .inl (.inr ⟨_, h⟩)
/-- a tuple written at the top -/
def KT (K : PySem.W.Frag) (a : Addr) (vs : List V) : Prop := ∃ o its n, List.lookup a K = some o ∧ o.cls = .type "tuple" ∧ o.dict = none ∧ o.data = .seq its n ∧ its.size ≤ sizeLine ∧ Vals vs its.toList
/-- a tuple, made or written -/
def TupIn (K : PySem.W.Frag) (I : Hp) (a : Addr) (vs : List V) : Prop := (∃ us, I a = some (xT us vs)) ∨ (plV vs = false ∧ KT K a vs)
theorem KT.sq {K : PySem.W.Frag} {H : Hp} {a : Addr} {vs : List V} (h : KT K a vs) : SqT K H a vs := by
  obtain ⟨o, its, n, h1, h2, _, h4, h5, h6⟩ := h
  exact .inr ⟨o, its, n, h1, h2, h4, h5, h6⟩
theorem TupIn.mono {K : PySem.W.Frag} {I I' : Hp} {a : Addr} {vs : List V} (e : Same I I') (h : TupIn K I a vs) : TupIn K I' a vs := h.elim (fun ⟨us, h⟩ => .inl ⟨us, e _ _ h⟩) .inr
theorem TupIn.sq {K : PySem.W.Frag} {I : Hp} {a : Addr} {vs : List V} (h : TupIn K I a vs) : SqT K I a vs := h.elim (fun ⟨_, h⟩ => sqX h) fun h => KT.sq h.2
theorem TupIn.new {K : PySem.W.Frag} {H : Hp} {a : Addr} {us : Array Value} {vs : List V} : TupIn K (upd H a (xT us vs)) a vs := .inl ⟨us, by simp [upd]⟩
/-- what is asked of the place of a new tuple -/
abbrev NewT (H : Hp) (Q : VK) (xs : List V) : Prop := ∀ (p : Addr) (us : Array Value), H p = none → Q (.ref p) (upd H p (xT us xs))
theorem epX {X : Cx} {pins : List (Addr × Obj)} {σ : L2.St} {H : Hp} {s : Shared} {t' : Nat} {us : List Value} {xs : List V} {Q : VK} (I : L2.Inv X pins σ H s) (hz : xs.length ≤ sizeLine) (r : Vals xs us) (q : NewT H Q xs) :
    EP X pins σ Q (.ref s.heap.objs.size) { s with heap := s.heap.push (tpO us.toArray), toks := t' } :=
  ⟨.ref s.heap.objs.size, _, laidX I hz r, rfl, q _ _ (I.hok.fresh (Nat.le_refl _))⟩
def tTupX (t : TA) : TE := fun σ H Q => t σ H fun xs H1 => xs.length ≤ sizeLine ∧ NewT H1 Q xs
theorem pe_tupX {X : Cx} {es : List Expr} {t : TA} {pos : Pos} {x1 : Nat} (h : PA X es t) : PE X (.Tuple es x1 pos) (tTupX t) where
  run := fun pins s σ H Q I hq => by
    refine wpAny_Tuple_spliced (thn (h.run pos pins s σ H _ I hq) ?_)
    rintro us s1 ⟨xs, H1, I1, r, z, q⟩
    refine ⟨by rw [← r.length]; exact z, ?_⟩
    exact epX (t' := s1.toks) I1 z r q
theorem call_tuple_ofX {X : Cx} : CallR X (.type "tuple") fun xs H Q => ∃ p ys, xs = [V.ref p] ∧ ((SqL X.K H p ys ∧ NewT H Q ys) ∨ SqT X.K H p ys ∧ Q (V.ref p) H) := by
  rintro pins s σ H xs us Q I r ⟨p, ys, rfl, h⟩
  obtain ⟨u, rfl, rx⟩ := vals1 r
  cases rx
  rcases h with ⟨hq, q⟩ | ⟨hq, q⟩
  · obtain ⟨its, r', pl, hz⟩ := I.list hq
    have hlen := r'.length
    refine call_tuple_list pl.isList (fun h' kp => ?_) (by rw [List.size_toArray, ← hlen]; exact hz)
    have I1 : L2.Inv X pins σ H { s with heap := h' } := I.kept kp
    exact epX (s := { s with heap := h' }) (t' := s.toks) I1 hz r' q
  · obtain ⟨its, r', pl, hz⟩ := I.tuple hq
    exact call_tuple_same pl ⟨.ref p, H, I, rfl, q⟩
def rSlX (K : PySem.W.Frag) : V → Option Int → Option Int → Hp → VK → Prop := fun x lo hi H Q => ∃ a xs, x = V.ref a ∧ SqT K H a xs ∧
  (HT.sIx xs.length 0 lo = 0 ∧ HT.sIx xs.length xs.length hi = xs.length → Q (V.ref a) H) ∧ (¬(HT.sIx xs.length 0 lo = 0 ∧ HT.sIx xs.length xs.length hi = xs.length) → NewT H Q (cutV xs lo hi))
theorem sl_tupX {X : Cx} : SlR X (rSlX X.K) := by
  rintro pins s σ H x v vl vu lo hi sl Q I rx hs pl pu ⟨a, xs, rfl, hx, q1, q2⟩
  by_cases hw : HT.sIx xs.length 0 lo = 0 ∧ HT.sIx xs.length xs.length hi = xs.length
  · exact sl_tupA pins s σ H _ v vl vu lo hi sl Q I rx hs pl pu ⟨a, xs, rfl, hx, q1, fun hn => absurd hw hn⟩
  · cases rx
    obtain ⟨its, r, ht, hz⟩ := I.tuple hx
    have hlen : its.toArray.size = xs.length := by rw [List.size_toArray, r.length]
    refine ⟨"tuple", "tuple.__getitem__", slot_tuple_getitem.lookup, ht.typeIs, HT.getItem_tuple_cut ht hs pl pu (by rw [hlen]; exact hw) ?_ (by rw [hlen]; exact hz)⟩
    rw [hlen]
    exact epX (t' := s.toks) (xs := cutV xs lo hi) I (Nat.le_trans (cutV_length xs lo hi) hz) (Vals.take _ (Vals.drop _ r)) (q2 hw)
def rCatX (K : PySem.W.Frag) : R2 := fun x y H Q => ∃ a b xs ys, x = V.ref a ∧ y = V.ref b ∧ SqT K H a xs ∧ SqT K H b ys ∧ xs.length + ys.length ≤ sizeLine ∧
  (xs = [] → Q (V.ref b) H) ∧ (xs ≠ [] → ys = [] → Q (V.ref a) H) ∧ (xs ≠ [] → ys ≠ [] → NewT H Q (xs ++ ys))
theorem op_catX {X : Cx} : OpR X (binaryOp .Add) (rCatX X.K) := by
  rintro pins s σ H x y v u Q I rx ry ⟨a, b, xs, ys, rfl, rfl, ha, hb, hz, q0, q1, q2⟩
  by_cases hx : xs = []
  · exact op_catA pins s σ H _ _ v u Q I rx ry ⟨a, b, xs, ys, rfl, rfl, ha, hb, hz, q0, q1, fun h => absurd hx h⟩
  · by_cases hy : ys = []
    · exact op_catA pins s σ H _ _ v u Q I rx ry ⟨a, b, xs, ys, rfl, rfl, ha, hb, hz, q0, q1, fun _ h => absurd hy h⟩
    · cases rx
      cases ry
      obtain ⟨its, r1, p1, z1⟩ := I.tuple ha
      obtain ⟨its2, r2, p2, z2⟩ := I.tuple hb
      refine HT.cat_tup p1 p2 (fun z => hx ((Vals.nil_iff r1).mp z)) (fun z => absurd ((Vals.nil_iff r2).mp z) hy) (fun z => ?_) (by rw [← r1.length, ← r2.length]; exact hz)
      exact epX (t' := s.toks) I (by rw [List.length_append]; exact hz) (r1.append r2) (q2 hx hy)
def tTupRgX (te : L2.St → Hp → (Int → Int → Hp → Prop) → Prop) : TE := fun σ H Q => te σ H fun a b H1 => RgOk a b ∧ NewT H1 Q (rgV a b)
theorem pe_tupRgX {X : Cx} {e : Expr} {te : L2.St → Hp → (Int → Int → Hp → Prop) → Prop} {p pos : Pos} (hc : X.calm = true) (hg : Gl X (Str.ofString "tuple")) (hm : X.mg (Str.ofString "tuple") = none) (he : PRg X e te)
    (na : starEach [e] X.env = (false, eval e X.env) :: starEach [] X.env := by rfl) : PE X (.Call (.Name (Str.ofString "tuple") p) [e] [] pos) (tTupRgX te) where
  run := fun pins s σ H Q I h => by
    refine Call_ (ld_blt I hg hm boot_tuple (callWith_type1 (args_cons (thn (he pins s σ H _ I h) ?_) na) na rfl) (of_decide_eq_true rfl) (of_decide_eq_true rfl)) rfl
    rintro x s1 ⟨r, a, b, t, u, v, H1, rfl, hr, I1, ok, q⟩
    refine args_nil ?_
    obtain ⟨b1, b2, b3, b4, b5⟩ := ok
    refine call_tuple_range (I1.ok.hd hc) hr (small_one b1 b2 b3 b4) (rangeSize_nat a b) b5 fun h' tk acc hk hi => ?_
    have I2 : L2.Inv X pins σ H1 { s1 with heap := h', toks := tk } := I1.kept hk
    have hv := vals_rg hi
    have := epX (s := { s1 with heap := h', toks := tk }) (t' := tk) I2 (by rw [rgV_length, sizeLine_eq]; exact b5) hv q
    rw [Array.toArray_toList] at this
    exact this
end MP
set_option Elab.async false
set_option linter.all false
set_option maxRecDepth 100000
set_option maxHeartbeats 4000000
namespace MP
open PySem PySem.Spec PyProof.Rows L2
/-! ### dicts whose keys are nested tuples of ints -/
mutual
def noT : NestedKey → Bool
  | .num _ => true
  | .tup ks => noTs ks
  | _ => false
def noTs : List NestedKey → Bool
  | [] => true
  | k :: ks => noT k && noTs ks
end
mutual
def hash0 : NestedKey → Int
  | .num i => hashInt i
  | .tup ks => reduceHash (Builtin.Tuple.tupleHashOf (hash0s ks))
  | _ => 0
def hash0s : List NestedKey → List Int
  | [] => []
  | k :: ks => hash0 k :: hash0s ks
end
mutual
theorem hash0_eq (w : World) : ∀ k : NestedKey, noT k = true → k.hash w = hash0 k
  | .num i, _ => by simp only [NestedKey.hash, hash0]
  | .tup ks, h => by
    simp only [NestedKey.hash, hash0]
    rw [hash0s_eq w ks (by simpa only [noT] using h)]
  | .none, h => by simp [noT] at h
  | .text x, h => by simp [noT] at h
theorem hash0s_eq (w : World) : ∀ ks : List NestedKey, noTs ks = true → NestedKey.hashes w ks = hash0s ks
  | [], _ => by simp only [NestedKey.hashes, hash0s]
  | k :: ks, h => by
    simp only [noTs, Bool.and_eq_true] at h
    simp only [NestedKey.hashes, hash0s, hash0_eq w k h.1, hash0s_eq w ks h.2]
end
def okN (k : NestedKey) : Bool := noT k && decide (k.depth ≤ 8)
/-! what a value is, as a key -/
mutual
inductive NkV (K : PySem.W.Frag) (H : Hp) : NestedKey → V → Prop
  | int (i : Int) : NkV K H (.num i) (.int i)
  | tup {a : Addr} {vs : List V} {ks : List NestedKey} : SqT K H a vs → NkL K H ks vs → NkV K H (.tup ks) (.ref a)
inductive NkL (K : PySem.W.Frag) (H : Hp) : List NestedKey → List V → Prop
  | nil : NkL K H [] []
  | cons {k : NestedKey} {v : V} {ks : List NestedKey} {vs : List V} : NkV K H k v → NkL K H ks vs → NkL K H (k :: ks) (v :: vs)
end
section
variable {X : Cx} {pins : List (Addr × Obj)} {σ : L2.St} {H : Hp} {s : Shared}
mutual
theorem NkV.is (I : L2.Inv X pins σ H s) : ∀ {k : NestedKey} {v : V} {u : Value}, NkV X.K H k v → RelV v u → NestedIs s.heap k u
  | _, _, _, .int i, r => by
    obtain ⟨t, rfl⟩ := r
    exact .int i t
  | _, _, _, .tup hs hl, r => by
    cases r
    obtain ⟨its, rv, ⟨o, ho, hc, n, hd⟩, _⟩ := I.tuple hs
    exact .tup ho hc hd (NkL.is I hl (by simpa using rv))
theorem NkL.is (I : L2.Inv X pins σ H s) : ∀ {ks : List NestedKey} {vs : List V} {us : List Value}, NkL X.K H ks vs → Vals vs us → NestedAll s.heap ks us
  | _, _, _, .nil, r => by
    cases r
    exact .nil
  | _, _, _, .cons h t, r => by
    cases r with
    | cons r1 r2 => exact .cons (NkV.is I h r1) (NkL.is I t r2)
end
end
section
variable {K : PySem.W.Frag} {H H' : Hp}
mutual
theorem NkV.mono (e : ∀ {a xs}, SqT K H a xs → SqT K H' a xs) : ∀ {k : NestedKey} {v : V}, NkV K H k v → NkV K H' k v
  | _, _, .int i => .int i
  | _, _, .tup hs hl => .tup (e hs) (NkL.mono e hl)
theorem NkL.mono (e : ∀ {a xs}, SqT K H a xs → SqT K H' a xs) : ∀ {ks : List NestedKey} {vs : List V}, NkL K H ks vs → NkL K H' ks vs
  | _, _, .nil => .nil
  | _, _, .cons h t => .cons (NkV.mono e h) (NkL.mono e t)
end
end
abbrev NE := NestedKey × Addr × V
def kvN (L : List NE) : List (NestedKey × V) := L.map fun p => (p.1, p.2.2)
def entN (x : NestedKey × Addr × Value) : DictEntry := ⟨hash0 x.1, .ref x.2.1, x.2.2⟩
abbrev NP : List NE → List (NestedKey × Addr × Value) → Prop := Paired fun p q => p.1 = q.1 ∧ p.2.1 = q.2.1 ∧ RelV p.2.2 q.2.2
def NdP (a : Addr) (L : List NE) (h : Heap) : Prop := (a == sysModules) = false ∧ L.length ≤ sizeLine ∧ ∃ xs, NP L xs ∧ ∃ o es ep, h.get? a = some o ∧ o.ExactDict ∧ o.data = .dict es ep ∧ es.toList = xs.map entN ∧ (xs.map (·.1)).Nodup
/-- the dict at a -/
def NdO (a : Addr) (L : List NE) : HO := .ext (NdP a L)
/-- its keys, in the heap -/
def NK (K : PySem.W.Frag) (H : Hp) (L : List NE) : Prop := ∀ p ∈ L, okN p.1 = true ∧ NkV K H p.1 (.ref p.2.1)
theorem NK.mono {K : PySem.W.Frag} {H H' : Hp} {L : List NE} (e : ∀ {a xs}, SqT K H a xs → SqT K H' a xs) (h : NK K H L) : NK K H' L := fun p hp => ⟨(h p hp).1, (h p hp).2.mono e⟩
theorem NP.length {L : List NE} {xs : List (NestedKey × Addr × Value)} (h : NP L xs) : L.length = xs.length := Paired.length h
theorem NP.val {L : List NE} {xs : List (NestedKey × Addr × Value)} (h : NP L xs) (k : NestedKey) : RelO (valV (kvN L) k) ((atKey xs k).map (·.2)) := by
  induction h with
  | nil => exact True.intro
  | @cons p q ps qs hh t ih =>
    obtain ⟨h1, h0, h2⟩ := hh
    by_cases e : p.1 = k
    · have e' : q.1 = k := h1.symm.trans e
      have b : atKey (q :: qs) k = some q.2 := by simp [atKey, List.find?_cons, e']
      rw [show kvN (p :: ps) = (p.1, p.2.2) :: kvN ps from rfl, valV_pos e, b]
      exact h2
    · have e' : ¬ q.1 = k := fun z => e (h1.trans z)
      have b : atKey (q :: qs) k = atKey qs k := by simp [atKey, List.find?_cons, e']
      rw [show kvN (p :: ps) = (p.1, p.2.2) :: kvN ps from rfl, valV_neg e, b]
      exact ih
def putN (L : List NE) (k : NestedKey) (b : Addr) (v : V) : List NE :=
  if ((kvN L).any fun p => decide (p.1 = k)) = true then L.map (fun p => if p.1 = k then (p.1, p.2.1, v) else p) else L ++ [(k, b, v)]
theorem kvN_put (L : List NE) (k : NestedKey) (b : Addr) (v : V) : kvN (putN L k b v) = putK (kvN L) k v := by
  unfold putN putK
  split
  · unfold kvN
    rw [List.map_map, List.map_map]
    refine List.map_congr_left fun p _ => ?_
    simp only [Function.comp_apply]
    split <;> rfl
  · unfold kvN
    rw [List.map_append]
    rfl
theorem NP.put {L : List NE} {xs : List (NestedKey × Addr × Value)} (r : NP L xs) (k : NestedKey) {b : Addr} {y : V} {u : Value} (ry : RelV y u) : NP (putN L k b y) (storedH xs k b u) := by
  have e : ((kvN L).any fun kv => decide (kv.1 = k)) = (atKey xs k).isSome := by
    rw [valV_any, (r.val k).isSome_eq, Option.isSome_map]
  unfold putN storedH
  rw [e]
  by_cases q : (atKey xs k).isSome = true
  · rw [if_pos q, if_pos q]
    clear e q
    induction r with
    | nil => exact .nil
    | @cons p q ps qs h t ih =>
      rw [List.map_cons, List.map_cons]
      refine .cons ?_ ih
      obtain ⟨h1, h2, h3⟩ := h
      unfold putAt
      by_cases e : p.1 = k
      · rw [if_pos e, if_pos (h1.symm.trans e)]
        exact ⟨h1, h2, ry⟩
      · rw [if_neg e, if_neg (fun z => e (h1.trans z))]
        exact ⟨h1, h2, h3⟩
  · rw [if_neg q, if_neg q]
    exact Paired.snoc r ⟨rfl, rfl, ry⟩
theorem NK.put {K : PySem.W.Frag} {H : Hp} {L : List NE} (h : NK K H L) {k : NestedKey} {b : Addr} (ok : okN k = true) (hk : NkV K H k (.ref b)) (v : V) : NK K H (putN L k b v) := by
  unfold putN
  split
  · intro p hp
    obtain ⟨q, hq, rfl⟩ := List.mem_map.1 hp
    split
    · exact h q hq
    · exact h q hq
  · intro p hp
    rcases List.mem_append.1 hp with hp | hp
    · exact h p hp
    · rw [List.mem_singleton.1 hp]
      exact ⟨ok, hk⟩
theorem putN_len (L : List NE) (k : NestedKey) (b : Addr) (v : V) : (putN L k b v).length ≤ L.length + 1 := by
  unfold putN
  split
  · rw [List.length_map]
    omega
  · rw [List.length_append]
    exact Nat.le_refl _
theorem ndO_ok {P : Program} {w : World} {H : Hp} {h : Heap} {a : Addr} {L : List NE} (x : NdP a L h) : ObjOk P w H h a (NdO a L) := by
  have ⟨_, _, xs, r, o, es, ep, ho, _⟩ := x
  refine ⟨x, ⟨o, ho⟩, fun h1 h2 p k => ?_⟩
  obtain ⟨a1, a2, xs, r, o, es, ep, ho, q⟩ := p
  exact ⟨a1, a2, xs, r, o, es, ep, k _ ho, q⟩
theorem ent_map {w : World} {P : Program} : ∀ {xs : List (NestedKey × Addr × Value)}, (∀ x ∈ xs, noT x.1 = true) → xs.map (entryOfKey (nestedKind P w)) = xs.map entN
  | [], _ => rfl
  | x :: xs, h => by
    rw [List.map_cons, List.map_cons, ent_map fun y hy => h y (List.mem_cons_of_mem _ hy)]
    congr 1
    unfold entryOfKey entN
    show DictEntry.mk (x.1.hash w) _ _ = _
    rw [hash0_eq w x.1 (h x List.mem_cons_self)]
section
variable {X : Cx} {pins : List (Addr × Obj)} {σ : L2.St} {H : Hp} {s : Shared} {a : Addr} {y v : V} {u r : Value} {o : Option V} {L : List NE} {A : Around} {E : Value → Shared → Prop}
theorem keysN (nk : NK X.K H L) (I : L2.Inv X pins σ H s) : ∀ {M : List NE} {xs : List (NestedKey × Addr × Value)}, (∀ p ∈ M, p ∈ L) → NP M xs → ∀ x ∈ xs, noT x.1 = true ∧ (nestedKind X.prog X.w).is s.heap x.1 x.2.1 := by
  intro M xs hM r
  induction r with
  | nil => intro x hx; cases hx
  | @cons p q ps qs hq t ih =>
    intro x hx
    rcases List.mem_cons.mp hx with e | hx
    · subst e
      obtain ⟨h1, h2⟩ := nk p (hM p List.mem_cons_self)
      unfold okN at h1
      rw [Bool.and_eq_true] at h1
      rw [← hq.1, ← hq.2.1]
      exact ⟨h1.1, NkV.is I h2 rfl, of_decide_eq_true h1.2⟩
    · exact ih (fun p hp => hM p (List.mem_cons_of_mem _ hp)) x hx
theorem nd_of (I : L2.Inv X pins σ H s) (e : H a = some (NdO a L)) (nk : NK X.K H L) : (a == sysModules) = false ∧ L.length ≤ sizeLine ∧ ∃ xs, NP L xs ∧ s.heap.DictOfH (nestedKind X.prog X.w) a xs := by
  obtain ⟨z1, z2, xs, rel, ob, es, ep, h1, h2, h3, h4, h5⟩ : NdP a L s.heap := (I.hok _ _ e).1
  have ks := keysN nk I (fun p hp => hp) rel
  refine ⟨z1, z2, xs, rel, ob, es, ep, h1, h2, h3, ?_, fun x hx => (ks x hx).2, h5⟩
  rw [ent_map fun x hx => (ks x hx).1]
  exact h4
/-- what the dict at a holds at y -/
def NGet (K : PySem.W.Frag) (H : Hp) (a : Addr) (y : V) (o : Option V) : Prop := ∃ L k b, H a = some (NdO a L) ∧ NK K H L ∧ okN k = true ∧ y = .ref b ∧ NkV K H k (.ref b) ∧ o = valV (kvN L) k
def NPut (K : PySem.W.Frag) (H : Hp) (a : Addr) (y v : V) (H' : Hp) : Prop := ∃ L k b, H a = some (NdO a L) ∧ NK K H L ∧ okN k = true ∧ y = .ref b ∧ NkV K H k (.ref b) ∧ L.length < sizeLine ∧ H' = upd H a (NdO a (putN L k b v))
theorem roomN (hu : A.units + 64 < cLine) {P : Program} {w : World} : (nestedKind P w).room A.in1 := by
  show A.in1.units + 8 < cLine
  have : A.in1.units ≤ A.units + 1 := by simp [Around.in1, Around.units]
  omega
theorem isNk {k : NestedKey} {b : Addr} (I : L2.Inv X pins σ H s) (ok : okN k = true) (hk : NkV X.K H k (.ref b)) : (nestedKind X.prog X.w).is s.heap k b := by
  unfold okN at ok
  rw [Bool.and_eq_true] at ok
  exact ⟨NkV.is I hk rfl, of_decide_eq_true ok.2⟩
theorem n_getItem {Q : Value → Shared → Prop} (hu : A.units + 64 < cLine) (I : L2.Inv X pins σ H s) (g : NGet X.K H a y (some v)) (ry : RelV y u) (h : ∀ w' s', L2.Inv X pins σ H s' → RelV v w' → Q w' s') :
    wpAny (model X.prog X.w) A (getItem (.ref a) u) Q E s := by
  obtain ⟨L, k, b, e, nk, ok, rfl, hk, l⟩ := g
  cases ry
  obtain ⟨_, _, xs, rel, dd⟩ := nd_of I e nk
  obtain ⟨w', hw, rw'⟩ := RelO.some_of (v := v) (o := (atKey xs k).map (·.2)) (by rw [l]; exact rel.val k)
  obtain ⟨p, hp, hp2⟩ := Option.map_eq_some_iff.mp hw
  refine wpAny_getItem_heap (roomN hu) (isNk I ok hk) dd hp ?_
  rw [hp2]
  exact h w' _ (I.tok _) rw'
theorem n_in {Q : Value → Shared → Prop} (hu : A.units + 64 < cLine) (I : L2.Inv X pins σ H s) (g : NGet X.K H a y o) (ry : RelV y u) (h : ∀ s', L2.Inv X pins σ H s' → Q (.bool o.isSome) s') :
    wpAny (model X.prog X.w) A (compareOp .In u (.ref a)) Q E s := by
  obtain ⟨L, k, b, e, nk, ok, rfl, hk, l⟩ := g
  cases ry
  obtain ⟨hd, _, xs, rel, dd⟩ := nd_of I e nk
  refine wpAny_in_heap (roomN hu) (isNk I ok hk) hd dd ?_
  have q := (rel.val k).isSome_eq
  rw [Option.isSome_map] at q
  rw [← q, ← l]
  exact h _ (I.tok _)
theorem n_notIn {Q : Value → Shared → Prop} (hu : A.units + 64 < cLine) (I : L2.Inv X pins σ H s) (g : NGet X.K H a y o) (ry : RelV y u) (h : ∀ s', L2.Inv X pins σ H s' → Q (.bool (!o.isSome)) s') :
    wpAny (model X.prog X.w) A (compareOp .NotIn u (.ref a)) Q E s := by
  obtain ⟨L, k, b, e, nk, ok, rfl, hk, l⟩ := g
  cases ry
  obtain ⟨hd, _, xs, rel, dd⟩ := nd_of I e nk
  refine wpAny_notIn_heap (roomN hu) (isNk I ok hk) hd dd ?_
  have q := (rel.val k).isSome_eq
  rw [Option.isSome_map] at q
  rw [← q, ← l]
  exact h _ (I.tok _)
theorem n_setItem {H' : Hp} {Q : Unit → Shared → Prop} (hu : A.units + 64 < cLine) (I : L2.Inv X pins σ H s) (g : NPut X.K H a y v H') (ry : RelV y u) (rv : RelV v r) (h : ∀ s', L2.Inv X pins σ H' s' → Q () s') :
    wpAny (model X.prog X.w) A (setItem (.ref a) u r) Q E s := by
  obtain ⟨L, k, b, e, nk, ok, rfl, hk, l, rfl⟩ := g
  cases ry
  obtain ⟨hd, z, xs, rel, dd⟩ := nd_of I e nk
  have hz : xs.length ≤ sizeLine := by rw [← rel.length]; exact z
  refine wpAny_setItem_heap (hsz := hz) (roomN hu) (isNk I ok hk) dd fun h' dd' hs => h _ ?_
  obtain ⟨q, es, ep, hq, h2, h3, h4, h6, h5⟩ := dd'
  have rel' := rel.put k (b := b) rv
  have nk' := nk.put ok hk v
  have ks : ∀ x ∈ storedH xs k b r, noT x.1 = true := by
    have k1 := keysN nk I (fun p hp => hp) rel
    have ok' := ok
    unfold okN at ok'
    rw [Bool.and_eq_true] at ok'
    intro x hx
    unfold storedH at hx
    split at hx
    · obtain ⟨x', hx', rfl⟩ := List.mem_map.1 hx
      unfold putAt
      split
      · exact (k1 x' hx').1
      · exact (k1 x' hx').1
    · rcases List.mem_append.1 hx with hx | hx
      · exact (k1 x hx).1
      · rw [List.mem_singleton.1 hx]
        exact ok'.1
  rw [ent_map ks] at h4
  have hl := putN_len L k b v
  exact d_write I (by rw [e]; exact True.intro) hs ⟨q, hq⟩ (ndO_ok ⟨hd, by omega, _, rel', q, es, ep, hq, h2, h3, h4, h5⟩)
theorem n_typeIs (I : L2.Inv X pins σ H s) (g : NGet X.K H a y o) : s.TypeIs (.ref a) "dict" := by
  obtain ⟨L, k, b, e, nk, _⟩ := g
  obtain ⟨_, _, xs, _, dd⟩ := nd_of I e nk
  exact dd.typeIs
end
/-! rules -/
def DGetU (K : PySem.W.Frag) (H : Hp) (a : Addr) (y : V) (o : Option V) : Prop := DGet H a y o ∨ NGet K H a y o
def DPutU (K : PySem.W.Frag) (H : Hp) (a : Addr) (y v : V) (H' : Hp) : Prop := DPut H a y v H' ∨ NPut K H a y v H'
def tDGetU (K : PySem.W.Frag) (td ty : TE) : TE := fun σ H Q => td σ H fun x H1 => ty σ H1 fun y H2 => ∃ a v, x = .ref a ∧ DGetU K H2 a y (some v) ∧ Q v H2
def tDInU (K : PySem.W.Frag) (ty td : TE) : TE := fun σ H Q => ty σ H fun y H1 => td σ H1 fun x H2 => ∃ a o, x = .ref a ∧ DGetU K H2 a y o ∧ Q (.bl o.isSome) H2
def tDNotInU (K : PySem.W.Frag) (ty td : TE) : TE := fun σ H Q => ty σ H fun y H1 => td σ H1 fun x H2 => ∃ a o, x = .ref a ∧ DGetU K H2 a y o ∧ Q (.bl (!o.isSome)) H2
def sDPutU (K : PySem.W.Frag) (td ty tv : TE) : TS := fun D σ H => tv σ H fun v H1 => td σ H1 fun x H2 => ty σ H2 fun y H3 => ∃ a H4, x = .ref a ∧ DPutU K H3 a y v H4 ∧ D.nx σ H4
section
variable {X : Cx} {o i e value : Expr} {pos pos' tpos : Pos} {td ty tv : TE}
theorem pe_dgetU (hu : X.A.units + 64 < cLine) (ho : PE X o td) (hi : PE X i ty) (hs : NoSl i) : PE X (.Subscript o i pos) (tDGetU X.K td ty) := by
  refine ⟨fun pins s σ H Q I h => ?_⟩
  refine subD_of PySem.F.slot_dict_getitem.lookup hs (thn (ho.run pins s σ H _ I h) fun u s1 ⟨x, H1, I1, rx, q1⟩ => thn (hi.run pins s1 σ H1 _ I1 q1) fun iv s2 ⟨y, H2, I2, ry, a, v, ex, g, q2⟩ => ?_)
  subst ex
  obtain rfl : u = Value.ref a := rx
  rcases g with g | g
  · exact ⟨dict_typeIs I2 g, d_getItem (by omega) I2 g ry fun w' s3 I3 rw' => ⟨v, H2, I3, rw', q2⟩⟩
  · exact ⟨n_typeIs I2 g, n_getItem hu I2 g ry fun w' s3 I3 rw' => ⟨v, H2, I3, rw', q2⟩⟩
theorem pc_dinU (hu : X.A.units + 64 < cLine) (hi : PE X i ty) (ho : PE X o td) : PC X .In i o (tDInU X.K ty td) := by
  refine ⟨fun pins s σ H Q I h => ?_⟩
  refine thn (hi.run pins s σ H _ I h) fun iv s1 ⟨y, H1, I1, ry, q1⟩ => thn (ho.run pins s1 σ H1 _ I1 q1) fun u s2 ⟨x, H2, I2, rx, a, ov, ex, g, q2⟩ => ?_
  subst ex
  obtain rfl : u = Value.ref a := rx
  rcases g with g | g
  · exact d_in (by omega) I2 g ry fun s3 I3 => ⟨.bl ov.isSome, H2, I3, rfl, q2⟩
  · exact n_in hu I2 g ry fun s3 I3 => ⟨.bl ov.isSome, H2, I3, rfl, q2⟩
theorem pc_dnotinU (hu : X.A.units + 64 < cLine) (hi : PE X i ty) (ho : PE X o td) : PC X .NotIn i o (tDNotInU X.K ty td) := by
  refine ⟨fun pins s σ H Q I h => ?_⟩
  refine thn (hi.run pins s σ H _ I h) fun iv s1 ⟨y, H1, I1, ry, q1⟩ => thn (ho.run pins s1 σ H1 _ I1 q1) fun u s2 ⟨x, H2, I2, rx, a, ov, ex, g, q2⟩ => ?_
  subst ex
  obtain rfl : u = Value.ref a := rx
  rcases g with g | g
  · exact d_notIn (by omega) I2 g ry fun s3 I3 => ⟨.bl (!ov.isSome), H2, I3, rfl, q2⟩
  · exact n_notIn hu I2 g ry fun s3 I3 => ⟨.bl (!ov.isSome), H2, I3, rfl, q2⟩
theorem ps_dputU (hu : X.A.units + 64 < cLine) (ho : PE X o td) (hi : PE X i ty) (hv : PE X value tv) (hs : swapsWith value (some (.Subscript o i pos')) pos.line X.env = pure false) :
    PS X (.Assign [.Subscript o i pos'] value pos) (sDPutU X.K td ty tv) := by
  refine ⟨fun pins s σ H D I h => ?_⟩
  refine wpAny_Assign_Subscript (thn (hv.run pins s σ H _ I h) fun r s1 ⟨v, H1, I1, rv, q1⟩ => thn (ho.run pins s1 σ H1 _ I1 q1) fun u s2 ⟨x, H2, I2, rx, q2⟩ => thn (hi.run pins s2 σ H2 _ I2 q2) fun iv s3 ⟨y, H3, I3, ry, a, H4, ex, g, q3⟩ => ?_) hs
  subst ex
  obtain rfl : u = Value.ref a := rx
  rcases g with g | g
  · exact d_setItem (by omega) I3 g ry rv fun s4 I4 => ⟨σ, H4, I4, q3⟩
  · exact n_setItem hu I3 g ry rv fun s4 I4 => ⟨σ, H4, I4, q3⟩
def tDNewN : TE := fun _ H Q => ∀ p, H p = none → Q (.ref p) (upd H p (NdO p []))
theorem pe_dnewN : PE X (.Dict [] [] pos) tDNewN := ⟨fun pins s σ H Q I h =>
  wpAny_Dict_empty ⟨.ref s.heap.objs.size, _, I.laid (a := s.heap.objs.size) (o := NdO s.heap.objs.size []) (t' := s.toks) (fun _ _ q => Heap.get?_push_of_some _ q) (Nat.le_refl _)
    (ndO_ok ⟨beq_eq_false_iff_ne.mpr (Ne.symm (Nat.ne_of_lt I.big)), Nat.zero_le _, [], .nil, _, #[], 0, Heap.get?_push_size _ rfl, ⟨rfl, rfl, rfl⟩, rfl, rfl, List.nodup_nil⟩), rfl, h _ (I.hok.fresh (Nat.le_refl _))⟩⟩
def rLenU (K : PySem.W.Frag) : List V → Hp → VK → Prop := fun xs H Q => ∃ (p : Addr), xs = [.ref p] ∧ ((∃ kvs, Rd H p (.dK kvs) ∧ Q (.int kvs.length) H) ∨ ∃ L, H p = some (NdO p L) ∧ NK K H L ∧ Q (.int L.length) H)
theorem call_lenU : CallR X (.builtin "len") (rLenU X.K) := by
  intro pins s σ H xs us Q I r h
  obtain ⟨p, rfl, h | ⟨L, e, nk, q⟩⟩ := h
  · obtain ⟨kvs, hp, q⟩ := h
    rw [Vals.ref1 r]
    exact d_len I hp fun t s' I' => ⟨.int kvs.length, H, I', ⟨_, rfl⟩, q⟩
  · rw [Vals.ref1 r]
    obtain ⟨hd, z, xs, rel, dd⟩ := nd_of I e nk
    refine call_len_dictH hd dd (by rw [← rel.length]; rw [sizeLine_eq] at z; omega) ⟨.int xs.length, H, I.tok _, ⟨_, rfl⟩, ?_⟩
    rw [← rel.length]
    exact q
end
end MP
set_option Elab.async false
set_option linter.all false
set_option maxRecDepth 100000
set_option maxHeartbeats 4000000
namespace MP
open PySem PySem.Spec PyProof.Rows L2

/-! ### data trees -/
inductive D where
  | non
  | bl (b : Bool)
  | int (i : Int)
  | str (x : Str)
  | tup (xs : List D)
  | lst (xs : List D)
  | dct (t : Bool) (kvs : List (D × D))
  | obj (c : Nat) (fs : List D)
  | scr (xs : List D)
  | ktp (xs : List D)
instance : Inhabited D := ⟨.non⟩

abbrev ClM := Nat → Option (Addr × List Str)
def keyD : Key → D
  | .inl i => .int i
  | .inr x => .str x

mutual
/-- a key as data -/
def nkE : NestedKey → D
  | .none => .non
  | .num i => .int i
  | .text x => .str x
  | .tup ks => .tup (nkEs ks)
def nkEs : List NestedKey → List D
  | [] => []
  | k :: ks => nkE k :: nkEs ks
end
mutual
inductive Rp (K : PySem.W.Frag) (cl : ClM) (I : Hp) : V → D → Prop
  | non : Rp K cl I .non .non
  | bl (b : Bool) : Rp K cl I (.bl b) (.bl b)
  | int (i : Int) : Rp K cl I (.int i) (.int i)
  | str (x : Str) : Rp K cl I (.str x) (.str x)
  | tup {a : Addr} {vs : List V} {ds : List D} : TupIn K I a vs → RpA K cl I vs ds → Rp K cl I (.ref a) (.tup ds)
  | lst {a : Addr} {vs : List V} {ds : List D} : I a = some (.lst vs) → RpA K cl I vs ds → Rp K cl I (.ref a) (.lst ds)
  | scr {a : Addr} {vs : List V} {ds : List D} : SqL K I a vs → RpA K cl I vs ds → Rp K cl I (.ref a) (.scr ds)
  | ktp {a : Addr} {vs : List V} {ds : List D} : KT K a vs → RpA K cl I vs ds → Rp K cl I (.ref a) (.ktp ds)
  | dK {a : Addr} {kvs : List (Key × V)} {ks ds : List D} : Rd I a (.dK kvs) → ks = kvs.map (fun p => keyD p.1) → RpA K cl I (kvs.map (·.2)) ds → Rp K cl I (.ref a) (.dct false (ks.zip ds))
  | dT {a : Addr} {L : List NE} {ks ds : List D} : I a = some (NdO a L) → NK K I L → ks = (kvN L).map (fun p => nkE p.1) → RpA K cl I ((kvN L).map (·.2)) ds → Rp K cl I (.ref a) (.dct true (ks.zip ds))
  | obj {a C dx : Addr} {c : Nat} {ns : List Str} {vs : List V} {ds : List D} : cl c = some (C, ns) → I a = some (.ins C dx ((ns.take vs.length).zip vs)) → vs.length ≤ ns.length → RpA K cl I vs ds → Rp K cl I (.ref a) (.obj c ds)
inductive RpA (K : PySem.W.Frag) (cl : ClM) (I : Hp) : List V → List D → Prop
  | nil : RpA K cl I [] []
  | cons {v : V} {vs : List V} {d : D} {ds : List D} : Rp K cl I v d → RpA K cl I vs ds → RpA K cl I (v :: vs) (d :: ds)
end

def plD : List D → Bool
  | [.int _, .int _] => true
  | _ => false
theorem plD_V {K : PySem.W.Frag} {cl : ClM} {I : Hp} {vs : List V} {ds : List D} (r : RpA K cl I vs ds) (h : ¬ plD ds = true) : plV vs = false := by
  cases q : plV vs with
  | false => rfl
  | true =>
    unfold plV at q
    split at q
    · cases r with
      | cons h1 r => cases r with
        | cons h2 r =>
          cases r
          cases h1
          cases h2
          exact absurd rfl h
    · cases q
theorem plD_T {K : PySem.W.Frag} {cl : ClM} {I : Hp} {vs : List V} {ds : List D} (r : RpA K cl I vs ds) (h : plD ds = true) : plV vs = true := by
  unfold plD at h
  split at h
  · cases r with
    | cons h1 r => cases r with
      | cons h2 r =>
        cases r
        cases h1
        cases h2
        rfl
  · cases h
theorem TupIn.pl {K : PySem.W.Frag} {I : Hp} {a : Addr} {vs : List V} (h : TupIn K I a vs) (p : plV vs = true) : I a = some (.tup vs) := by
  rcases h with ⟨us, h⟩ | ⟨h, _⟩
  · rw [xT_pl p] at h
    exact h
  · rw [p] at h
    cases h
theorem same_rd {H H' : Hp} {a : Addr} {u : HO} (e : Same H H') (h : Rd H a u) : Rd H' a u := by
  rcases h with h | ⟨o, h⟩
  · exact .inl (e _ _ h)
  · exact .inr ⟨o, e _ _ h⟩
theorem same_t {K : PySem.W.Frag} {H H' : Hp} {a : Addr} {xs : List V} (e : Same H H') (h : SqT K H a xs) : SqT K H' a xs := by
  rcases h with h | h
  · exact .inl (same_rd e h)
  · exact .inr h
section
variable {K : PySem.W.Frag} {cl : ClM} {I I' : Hp}
mutual
theorem Rp.mono (e : Same I I') : ∀ {v : V} {d : D}, Rp K cl I v d → Rp K cl I' v d
  | _, _, .non => .non
  | _, _, .bl b => .bl b
  | _, _, .int i => .int i
  | _, _, .str x => .str x
  | _, _, .tup h r => .tup (h.mono e) (RpA.mono e r)
  | _, _, .lst h r => .lst (e _ _ h) (RpA.mono e r)
  | _, _, .scr h r => .scr (e.seq h) (RpA.mono e r)
  | _, _, .ktp h r => .ktp h (RpA.mono e r)
  | _, _, .dK h k r => .dK (same_rd e h) k (RpA.mono e r)
  | _, _, .dT h nk k r => .dT (e _ _ h) (nk.mono (same_t e)) k (RpA.mono e r)
  | _, _, .obj c h l r => .obj c (e _ _ h) l (RpA.mono e r)
theorem RpA.mono (e : Same I I') : ∀ {vs : List V} {ds : List D}, RpA K cl I vs ds → RpA K cl I' vs ds
  | _, _, .nil => .nil
  | _, _, .cons h t => .cons (Rp.mono e h) (RpA.mono e t)
end
theorem RpA.length : ∀ {vs : List V} {ds : List D}, RpA K cl I vs ds → vs.length = ds.length
  | _, _, .nil => rfl
  | _, _, .cons _ t => by rw [List.length_cons, List.length_cons, RpA.length t]
theorem RpA.get : ∀ {vs : List V} {ds : List D} {i : Nat} {d : D}, RpA K cl I vs ds → ds[i]? = some d → ∃ v, vs[i]? = some v ∧ Rp K cl I v d
  | _, _, _, _, .nil, e => by simp at e
  | _, _, 0, _, .cons h _, e => by
    simp at e
    subst e
    exact ⟨_, rfl, h⟩
  | _, _, i + 1, d, .cons _ t, e => by
    obtain ⟨v, h1, h2⟩ := RpA.get (i := i) (d := d) t (by simpa using e)
    exact ⟨v, by simpa using h1, h2⟩
theorem RpA.getV : ∀ {vs : List V} {ds : List D} {i : Nat} {v : V}, RpA K cl I vs ds → vs[i]? = some v → ∃ d, ds[i]? = some d ∧ Rp K cl I v d
  | _, _, _, _, .nil, e => by simp at e
  | _, _, 0, _, .cons h _, e => by
    simp at e
    subst e
    exact ⟨_, rfl, h⟩
  | _, _, i + 1, v, .cons _ t, e => by
    obtain ⟨d, h1, h2⟩ := RpA.getV (i := i) (v := v) t (by simpa using e)
    exact ⟨d, by simpa using h1, h2⟩
theorem RpA.append : ∀ {vs ws : List V} {ds es : List D}, RpA K cl I vs ds → RpA K cl I ws es → RpA K cl I (vs ++ ws) (ds ++ es)
  | _, _, _, _, .nil, s => s
  | _, _, _, _, .cons r t, s => .cons r (RpA.append t s)
theorem RpA.take : ∀ {vs : List V} {ds : List D} (n : Nat), RpA K cl I vs ds → RpA K cl I (vs.take n) (ds.take n)
  | _, _, 0, _ => by
    rw [List.take_zero, List.take_zero]
    exact .nil
  | _, _, _ + 1, .nil => .nil
  | _, _, n + 1, .cons r t => .cons r (RpA.take n t)
theorem RpA.drop : ∀ {vs : List V} {ds : List D} (n : Nat), RpA K cl I vs ds → RpA K cl I (vs.drop n) (ds.drop n)
  | _, _, 0, r => r
  | _, _, _ + 1, .nil => .nil
  | _, _, n + 1, .cons _ t => RpA.drop n t
theorem RpA.set {v : V} {d : D} (r : Rp K cl I v d) : ∀ {vs : List V} {ds : List D} (i : Nat), RpA K cl I vs ds → RpA K cl I (vs.set i v) (ds.set i d)
  | _, _, _, .nil => .nil
  | _, _, 0, .cons _ t => .cons r t
  | _, _, i + 1, .cons q t => .cons q (RpA.set r i t)
theorem RpA.eraseIdx : ∀ {vs : List V} {ds : List D} (i : Nat), RpA K cl I vs ds → RpA K cl I (vs.eraseIdx i) (ds.eraseIdx i)
  | _, _, _, .nil => .nil
  | _, _, 0, .cons _ t => t
  | _, _, i + 1, .cons q t => .cons q (RpA.eraseIdx i t)
theorem RpA.reverse {vs : List V} {ds : List D} (h : RpA K cl I vs ds) : RpA K cl I vs.reverse ds.reverse := by
  induction vs generalizing ds with
  | nil =>
    cases h
    exact .nil
  | cons v vs ih =>
    cases h with
    | cons r t =>
      rw [List.reverse_cons, List.reverse_cons]
      exact (ih t).append (.cons r .nil)
theorem RpA.rep {vs : List V} {ds : List D} (h : RpA K cl I vs ds) : ∀ k : Nat, RpA K cl I (List.replicate k vs).flatten (List.replicate k ds).flatten
  | 0 => .nil
  | k + 1 => by
    rw [List.replicate_succ, List.replicate_succ, List.flatten_cons, List.flatten_cons]
    exact h.append (RpA.rep h k)
theorem RpA.ints : ∀ {vs : List V} {ns : List Int}, RpA K cl I vs (ns.map D.int) → vs = ns.map V.int
  | _, [], .nil => rfl
  | _, n :: ns, .cons h t => by
    cases h
    rw [RpA.ints t]
    rfl
theorem RpA.ofInts : ∀ (ns : List Int), RpA K cl I (ns.map V.int) (ns.map D.int)
  | [] => .nil
  | n :: ns => .cons (.int n) (RpA.ofInts ns)
end

/-! ### slots, environments -/
inductive SO where
  | lst (xs : List D)
  | dct (t : Bool) (kvs : List (D × D))
  | ins (c : Nat) (fs : List D)
inductive Slot where
  | none
  | val (d : D)
  | own (o : SO)
instance : Inhabited Slot := ⟨.none⟩
abbrev MEnv := List Slot
def so2d : SO → D
  | .lst xs => .lst xs
  | .dct t kvs => .dct t kvs
  | .ins c fs => .obj c fs

inductive SoOk (K : PySem.W.Frag) (cl : ClM) (I : Hp) (p : Addr) : HO → SO → Prop
  | lst {vs : List V} {ds : List D} : RpA K cl I vs ds → SoOk K cl I p (.lst vs) (.lst ds)
  | dK {kvs : List (Key × V)} {ks ds : List D} : ks = kvs.map (fun p => keyD p.1) → RpA K cl I (kvs.map (·.2)) ds → SoOk K cl I p (.dK kvs) (.dct false (ks.zip ds))
  | dT {L : List NE} {ks ds : List D} : NK K I L → ks = (kvN L).map (fun p => nkE p.1) → RpA K cl I ((kvN L).map (·.2)) ds → SoOk K cl I p (NdO p L) (.dct true (ks.zip ds))
  | ins {C dx : Addr} {c : Nat} {ns : List Str} {vs : List V} {ds : List D} : cl c = some (C, ns) → vs.length ≤ ns.length → RpA K cl I vs ds → SoOk K cl I p (.ins C dx ((ns.take vs.length).zip vs)) (.ins c ds)
section
variable {K : PySem.W.Frag} {cl : ClM} {I I' H H' : Hp} {p : Addr} {ho : HO} {o : SO}
theorem SoOk.mono (e : Same I I') (h : SoOk K cl I p ho o) : SoOk K cl I' p ho o := by
  cases h with
  | lst r => exact .lst (r.mono e)
  | dK k r => exact .dK k (r.mono e)
  | dT nk k r => exact .dT (nk.mono (same_t e)) k (r.mono e)
  | ins c l r => exact .ins c l (r.mono e)
theorem same_new (h : I p = none) : Same I (upd I p ho) := fun b o e => by
  rw [upd_ne (ne_of_none e h)]
  exact e
theorem SoOk.frz (h : SoOk K cl I p ho o) (hp : I p = none) : Rp K cl (upd I p ho) (.ref p) (so2d o) := by
  have e : Same I (upd I p ho) := same_new hp
  cases h with
  | lst r => exact .lst upd_same (r.mono e)
  | dK k r => exact .dK (.inl upd_same) k (r.mono e)
  | dT nk k r => exact .dT upd_same (nk.mono (same_t e)) k (r.mono e)
  | ins c l r => exact .obj c upd_same l (r.mono e)

def SlotOk (K : PySem.W.Frag) (cl : ClM) (I H : Hp) (ov : Option V) : Slot → Prop
  | .none => True
  | .val d => ∃ v, ov = some v ∧ Rp K cl I v d
  | .own o => ∃ p ho, ov = some (.ref p) ∧ I p = none ∧ H p = some ho ∧ SoOk K cl I p ho o
structure Gd (K : PySem.W.Frag) (cl : ClM) (I H : Hp) (σ : L2.St) (env : MEnv) : Prop where
  ex : Same I H
  len : σ.length = env.length
  ok : ∀ (i : Nat) (s : Slot) (ov : Option V), env[i]? = some s → σ[i]? = some ov → SlotOk K cl I H ov s
  inj : ∀ (i j : Nat) (p : Addr) (o o' : SO), env[i]? = some (.own o) → env[j]? = some (.own o') → σ[i]? = some (some (.ref p)) → σ[j]? = some (some (.ref p)) → i = j
/-- the addresses that an environment owns -/
def Fp (σ : L2.St) (env : MEnv) (p : Addr) : Prop := ∃ (i : Nat) (o : SO), env[i]? = some (.own o) ∧ σ[i]? = some (some (.ref p))
structure Tr (F : Addr → Prop) (I H : Hp) (F' : Addr → Prop) (I' H' : Hp) : Prop where
  ext : Same I I'
  frame : ∀ p o, H p = some o → ¬ F p → H' p = some o
  nofr : ∀ p, H p ≠ none → ¬ F p → I p = none → I' p = none
  fp : ∀ p, F' p → F p ∨ H p = none
  dom : ∀ p, H p ≠ none → H' p ≠ none
theorem Tr.refl {F : Addr → Prop} : Tr F I H F I H := ⟨Same.refl _, fun _ _ e _ => e, fun _ _ _ e => e, fun _ h => .inl h, fun _ h => h⟩
theorem Tr.trans {F F1 F2 : Addr → Prop} {I1 H1 I2 H2 : Hp} (a : Tr F I H F1 I1 H1) (b : Tr F1 I1 H1 F2 I2 H2) : Tr F I H F2 I2 H2 := by
  have nf : ∀ p, H p ≠ none → ¬ F p → ¬ F1 p := fun p hp hf h1 => (a.fp p h1).elim hf hp
  refine ⟨a.ext.trans b.ext, fun p o e hf => ?_, fun p hp hf e => ?_, fun p h2 => ?_, fun p hp => b.dom p (a.dom p hp)⟩
  · exact b.frame p o (a.frame p o e hf) (nf p (by rw [e]; exact fun z => nomatch z) hf)
  · exact b.nofr p (a.dom p hp) (nf p hp hf) (a.nofr p hp hf e)
  · rcases b.fp p h2 with h | h
    · exact a.fp p h
    · refine .inr ?_
      cases q : H p with
      | none => rfl
      | some o => exact absurd h (a.dom p (by rw [q]; exact fun z => nomatch z))
/-- F' may be weakened to any smaller one -/
theorem Tr.less {F F1 F2 : Addr → Prop} {I1 H1 : Hp} (a : Tr F I H F1 I1 H1) (h : ∀ p, F2 p → F1 p) : Tr F I H F2 I1 H1 := ⟨a.ext, a.frame, a.nofr, fun p q => a.fp p (h p q), a.dom⟩
theorem Tr.more {F F0 F1 : Addr → Prop} {I1 H1 : Hp} (a : Tr F I H F1 I1 H1) (h : ∀ p, F p → F0 p) : Tr F0 I H F1 I1 H1 :=
  ⟨a.ext, fun p o e n => a.frame p o e fun z => n (h p z), fun p e n => a.nofr p e fun z => n (h p z), fun p q => (a.fp p q).imp_left (h p), a.dom⟩

/-- only new objects -/
structure Al (I H I' H' : Hp) : Prop where
  ext : Same I I'
  exH : Same H H'
  ex : Same I' H'
  nofr : ∀ p, H p ≠ none → I p = none → I' p = none
theorem Al.refl (e : Same I H) : Al I H I H := ⟨Same.refl _, Same.refl _, e, fun _ _ h => h⟩
theorem Al.trans {I1 H1 I2 H2 : Hp} (a : Al I H I1 H1) (b : Al I1 H1 I2 H2) : Al I H I2 H2 := by
  refine ⟨a.ext.trans b.ext, a.exH.trans b.exH, b.ex, fun p hp hi => b.nofr p ?_ (a.nofr p hp hi)⟩
  cases q : H p with
  | none => exact absurd q hp
  | some o =>
    rw [a.exH p o q]
    exact fun z => nomatch z
theorem Al.new (e : Same I H) (hp : H p = none) : Al I H (upd I p ho) (upd H p ho) := by
  have hi : I p = none := e.free hp
  refine ⟨same_new hi, same_new hp, fun b o q => ?_, fun b hb hi' => ?_⟩
  · by_cases h : b = p
    · subst h
      rw [upd_same] at q ⊢
      exact q
    · rw [upd_ne h] at q ⊢
      exact e b o q
  · have h : b ≠ p := fun z => by
      subst z
      exact hb hp
    rw [upd_ne h]
    exact hi'
/-- a new object that is not frozen -/
theorem Al.newH (e : Same I H) (hp : H p = none) : Al I H I (upd H p ho) :=
  ⟨Same.refl _, same_new hp, e.trans (same_new hp), fun _ _ h => h⟩
theorem Al.tr {F : Addr → Prop} (a : Al I H I' H') : Tr F I H F I' H' :=
  ⟨a.ext, fun p o e _ => a.exH p o e, fun p hp _ e => a.nofr p hp e, fun _ h => .inl h, fun p hp => by
    cases q : H p with
    | none => exact absurd q hp
    | some o =>
      rw [a.exH p o q]
      exact fun z => nomatch z⟩
theorem SlotOk.al {ov : Option V} {s : Slot} (a : Al I H I' H') (h : SlotOk K cl I H ov s) : SlotOk K cl I' H' ov s := by
  cases s with
  | none => trivial
  | val d =>
    obtain ⟨v, e, r⟩ := h
    exact ⟨v, e, r.mono a.ext⟩
  | own o =>
    obtain ⟨p, ho, e, ip, hp, r⟩ := h
    exact ⟨p, ho, e, a.nofr p (by rw [hp]; exact fun z => nomatch z) ip, a.exH p _ hp, r.mono a.ext⟩
theorem Gd.al {σ : L2.St} {env : MEnv} (g : Gd K cl I H σ env) (a : Al I H I' H') : Gd K cl I' H' σ env :=
  ⟨a.ex, g.len, fun i s ov h1 h2 => (g.ok i s ov h1 h2).al a, g.inj⟩
end

/-! ### results of expressions: a tree, or what a slot owns -/
inductive Rv where
  | d (d : D)
  | sl (i : Nat)
def RvOk (K : PySem.W.Frag) (cl : ClM) (I : Hp) (σ : L2.St) (v : V) : Rv → Prop
  | .d d => Rp K cl I v d
  | .sl i => σ[i]? = some (some v)
def vw (env : MEnv) : Rv → Option D
  | .d d => some d
  | .sl i => match env[i]? with
    | some (.val d) => some d
    | some (.own o) => some (so2d o)
    | _ => none
def esc (env : MEnv) : Rv → Option (D × MEnv)
  | .d d => some (d, env)
  | .sl i => match env[i]? with
    | some (.val d) => some (d, env)
    | some (.own o) => some (so2d o, env.set i (.val (so2d o)))
    | _ => none
/-- a value that may be read as d: frozen, or owned by a slot -/
def Vw (K : PySem.W.Frag) (cl : ClM) (I H : Hp) (v : V) (d : D) : Prop := Rp K cl I v d ∨ ∃ p ho o, v = .ref p ∧ I p = none ∧ H p = some ho ∧ SoOk K cl I p ho o ∧ d = so2d o
section
variable {K : PySem.W.Frag} {cl : ClM} {I I' H H' : Hp} {σ : L2.St} {env env' : MEnv} {v : V} {r : Rv} {d : D}
theorem RvOk.mono (e : Same I I') (h : RvOk K cl I σ v r) : RvOk K cl I' σ v r := by
  cases r with
  | d d => exact Rp.mono e h
  | sl i => exact h
theorem vw_ok (g : Gd K cl I H σ env) (h : RvOk K cl I σ v r) (e : vw env r = some d) : Vw K cl I H v d := by
  cases r with
  | d d' =>
    cases Option.some.inj e
    exact .inl h
  | sl i =>
    have h' : σ[i]? = some (some v) := h
    unfold vw at e
    cases q : env[i]? with
    | none => simp [q] at e
    | some s =>
      have ok := g.ok i s _ q h'
      cases s with
      | none => simp [q] at e
      | val d' =>
        simp [q] at e
        subst e
        obtain ⟨v', e1, r1⟩ := ok
        cases e1
        exact .inl r1
      | own o =>
        simp [q] at e
        subst e
        obtain ⟨p, ho, e1, ip, hp, r1⟩ := ok
        cases e1
        exact .inr ⟨p, ho, o, rfl, ip, hp, r1, rfl⟩
theorem Gd.setVal {i : Nat} {v : V} {d : D} (g : Gd K cl I H σ env) (h : Rp K cl I v d) : Gd K cl I H (σ.set i (some v)) (env.set i (.val d)) := by
  refine ⟨g.ex, by rw [List.length_set, List.length_set]; exact g.len, fun j s ov h1 h2 => ?_, fun j k p o o' h1 h2 h3 h4 => ?_⟩
  · by_cases e : i = j
    · subst e
      rw [List.getElem?_set] at h1 h2
      simp only [if_true] at h1 h2
      by_cases hl : i < env.length
      · rw [if_pos hl] at h1
        rw [if_pos (by rw [g.len]; exact hl)] at h2
        cases h1
        cases h2
        exact ⟨v, rfl, h⟩
      · rw [if_neg hl] at h1
        cases h1
    · rw [List.getElem?_set_ne e] at h1 h2
      exact g.ok j s ov h1 h2
  · have n1 : i ≠ j := fun e => by
      subst e
      rw [List.getElem?_set] at h1
      simp only [if_true] at h1
      split at h1 <;> cases h1
    have n2 : i ≠ k := fun e => by
      subst e
      rw [List.getElem?_set] at h2
      simp only [if_true] at h2
      split at h2 <;> cases h2
    rw [List.getElem?_set_ne n1] at h1 h3
    rw [List.getElem?_set_ne n2] at h2 h4
    exact g.inj j k p o o' h1 h2 h3 h4
theorem Fp.setVal {i : Nat} {v : V} {d : D} {p : Addr} (h : Fp (σ.set i (some v)) (env.set i (.val d)) p) : Fp σ env p := by
  obtain ⟨j, o, h1, h2⟩ := h
  have n1 : i ≠ j := fun e => by
    subst e
    rw [List.getElem?_set] at h1
    simp only [if_true] at h1
    split at h1 <;> cases h1
  rw [List.getElem?_set_ne n1] at h1 h2
  exact ⟨j, o, h1, h2⟩
theorem set_self {α : Type} : ∀ (l : List α) (i : Nat) (x : α), l[i]? = some x → l.set i x = l
  | [], _, _, h => by simp at h
  | a :: l, 0, x, h => by
    simp at h
    subst h
    rfl
  | a :: l, i + 1, x, h => by
    rw [List.set_cons_succ, set_self l i x (by simpa using h)]
/-- a result leaves its slot -/
theorem esc_ok (g : Gd K cl I H σ env) (h : RvOk K cl I σ v r) (e : esc env r = some (d, env')) : ∃ I', Gd K cl I' H σ env' ∧ Tr (Fp σ env) I H (Fp σ env') I' H ∧ Rp K cl I' v d := by
  cases r with
  | d d' =>
    cases Option.some.inj e
    exact ⟨I, g, Tr.refl, h⟩
  | sl i =>
    have h' : σ[i]? = some (some v) := h
    unfold esc at e
    cases q : env[i]? with
    | none => simp [q] at e
    | some s =>
      have ok := g.ok i s _ q h'
      cases s with
      | none => simp [q] at e
      | val d' =>
        simp [q] at e
        obtain ⟨rfl, rfl⟩ := e
        obtain ⟨v', e1, r1⟩ := ok
        cases e1
        exact ⟨I, g, Tr.refl, r1⟩
      | own o =>
        simp [q] at e
        obtain ⟨rfl, rfl⟩ := e
        obtain ⟨p, ho, e1, ip, hp, r1⟩ := ok
        cases e1
        have e0 : Same I (upd I p ho) := same_new ip
        have rr : Rp K cl (upd I p ho) (.ref p) (so2d o) := r1.frz ip
        have hil : i < env.length := (List.getElem?_eq_some_iff.mp q).1
        have fpi : Fp σ env p := ⟨i, o, q, h'⟩
        have own2 : ∀ j o', (env.set i (.val (so2d o)))[j]? = some (.own o') → i ≠ j ∧ env[j]? = some (.own o') := fun j o' hj => by
          have n : i ≠ j := fun z => by
            subst z
            rw [List.getElem?_set] at hj
            simp only [if_true] at hj
            split at hj <;> cases hj
          rw [List.getElem?_set_ne n] at hj
          exact ⟨n, hj⟩
        refine ⟨upd I p ho, ⟨fun b u hb => ?_, by rw [List.length_set]; exact g.len, fun j s ov h1 h2 => ?_, fun j k b o1 o2 h1 h2 h3 h4 => g.inj j k b o1 o2 (own2 j o1 h1).2 (own2 k o2 h2).2 h3 h4⟩, ⟨e0, fun _ _ e _ => e, fun b hb nf hi => ?_, fun b hb => ?_, fun _ h => h⟩, rr⟩
        · by_cases z : b = p
          · subst z
            rw [upd_same] at hb
            cases hb
            exact hp
          · rw [upd_ne z] at hb
            exact g.ex b u hb
        · by_cases z : i = j
          · subst z
            rw [List.getElem?_set] at h1
            simp only [if_true] at h1
            rw [if_pos hil] at h1
            cases h1
            rw [h'] at h2
            cases h2
            exact ⟨_, rfl, rr⟩
          · rw [List.getElem?_set_ne z] at h1
            have ok2 := g.ok j s ov h1 h2
            cases s with
            | none => trivial
            | val d2 =>
              obtain ⟨v2, e2, r2⟩ := ok2
              exact ⟨v2, e2, r2.mono e0⟩
            | own o2 =>
              obtain ⟨p2, ho2, e2, ip2, hp2, r2⟩ := ok2
              have np : p2 ≠ p := fun w => by
                subst w
                rw [e2] at h2
                exact z (g.inj i j p2 o o2 q h1 h' h2)
              exact ⟨p2, ho2, e2, by rw [upd_ne np]; exact ip2, hp2, r2.mono e0⟩
        · have np : b ≠ p := fun z => by
            subst z
            exact nf fpi
          rw [upd_ne np]
          exact hi
        · obtain ⟨j, o1, h1, h2⟩ := hb
          exact .inl ⟨j, o1, (own2 j o1 h1).2, h2⟩
end
end MP
set_option Elab.async false
set_option linter.all false
set_option maxRecDepth 100000
set_option maxHeartbeats 4000000
namespace MP
open PySem PySem.Spec PyProof.Rows L2

/-! ### helpers on heaps -/
section
variable {K : PySem.W.Frag} {cl : ClM} {I I' H H' : Hp} {σ : L2.St} {env env' : MEnv} {v : V} {d : D} {p : Addr} {ho ho' : HO} {o : SO}
theorem Gd.frz (g : Gd K cl I H σ env) (ip : I p = none) (hp : H p = some ho) (nf : ¬ Fp σ env p) : Gd K cl (upd I p ho) H σ env := by
  have e0 : Same I (upd I p ho) := same_new ip
  refine ⟨fun b u hb => ?_, g.len, fun j s ov h1 h2 => ?_, g.inj⟩
  · by_cases z : b = p
    · subst z
      rw [upd_same] at hb
      cases hb
      exact hp
    · rw [upd_ne z] at hb
      exact g.ex b u hb
  · have ok2 := g.ok j s ov h1 h2
    cases s with
    | none => trivial
    | val d2 =>
      obtain ⟨v2, e2, r2⟩ := ok2
      exact ⟨v2, e2, r2.mono e0⟩
    | own o2 =>
      obtain ⟨p2, ho2, e2, ip2, hp2, r2⟩ := ok2
      have np : p2 ≠ p := fun w => by
        subst w
        rw [e2] at h2
        exact nf ⟨j, o2, h1, h2⟩
      exact ⟨p2, ho2, e2, by rw [upd_ne np]; exact ip2, hp2, r2.mono e0⟩
/-- an object that is neither frozen nor owned changes -/
theorem Gd.updH (g : Gd K cl I H σ env) (ip : I p = none) (nf : ¬ Fp σ env p) : Gd K cl I (upd H p ho) σ env := by
  refine ⟨fun b u hb => ?_, g.len, fun j s ov h1 h2 => ?_, g.inj⟩
  · rw [upd_ne (ne_of_none hb ip)]
    exact g.ex b u hb
  · have ok2 := g.ok j s ov h1 h2
    cases s with
    | none => trivial
    | val d2 => exact ok2
    | own o2 =>
      obtain ⟨p2, ho2, e2, ip2, hp2, r2⟩ := ok2
      have np : p2 ≠ p := fun w => by
        subst w
        rw [e2] at h2
        exact nf ⟨j, o2, h1, h2⟩
      exact ⟨p2, ho2, e2, ip2, by rw [upd_ne np]; exact hp2, r2⟩
theorem Tr.updN {F F' : Addr → Prop} (t : Tr F I H F' I' H') (h : F p ∨ H p = none) : Tr F I H F' I' (upd H' p ho) := by
  refine ⟨t.ext, fun b u hb nf => ?_, t.nofr, t.fp, fun b hb => ?_⟩
  · have nb : b ≠ p := fun z => by
      subst z
      rcases h with h | h
      · exact nf h
      · rw [h] at hb
        cases hb
    rw [upd_ne nb]
    exact t.frame b u hb nf
  · by_cases z : b = p
    · subst z
      rw [upd_same]
      exact fun w => nomatch w
    · rw [upd_ne z]
      exact t.dom b hb
theorem Tr.frzN {F F' : Addr → Prop} (t : Tr F I H F' I' H') (h : F p ∨ H p = none) (ip : I' p = none) : Tr F I H F' (upd I' p ho) H' := by
  refine ⟨t.ext.trans (same_new ip), t.frame, fun b hb nf hi => ?_, t.fp, t.dom⟩
  have nb : b ≠ p := fun z => by
    subst z
    rcases h with h | h
    · exact nf h
    · exact hb h
  rw [upd_ne nb]
  exact t.nofr b hb nf hi
/-- what a step may touch, seen from its start -/
theorem Tr.back {F F1 : Addr → Prop} (t : Tr F I H F1 I' H') (h : F1 p ∨ H' p = none) : F p ∨ H p = none := by
  rcases h with h | h
  · exact t.fp p h
  · refine .inr ?_
    cases q : H p with
    | none => rfl
    | some u => exact absurd h (t.dom p (by rw [q]; exact fun z => nomatch z))
theorem Tr.notin {F F1 : Addr → Prop} (t : Tr F I H F1 I' H') (h : H p ≠ none) (n : ¬ F p) : ¬ F1 p := fun z => (t.fp p z).elim n h

/-! views -/
theorem Vw.lst {ds : List D} (e : Same I H) (h : Vw K cl I H v (.lst ds)) : ∃ a vs, v = .ref a ∧ H a = some (.lst vs) ∧ RpA K cl I vs ds := by
  rcases h with h | ⟨p, ho, o, rfl, ip, hp, r, ed⟩
  · cases h with
    | lst s r => exact ⟨_, _, rfl, e _ _ s, r⟩
  · cases r with
    | lst r =>
      cases ed
      exact ⟨p, _, rfl, hp, r⟩
    | dK k r => cases ed
    | dT nk k r => cases ed
    | ins c l r => cases ed
theorem Vw.tup {ds : List D} (e : Same I H) (h : Vw K cl I H v (.tup ds)) : ∃ a vs, v = .ref a ∧ SqT K H a vs ∧ RpA K cl I vs ds ∧ Rp K cl I v (.tup ds) := by
  rcases h with h | ⟨p, ho, o, rfl, ip, hp, r, ed⟩
  · have h' := h
    cases h with
    | tup s r => exact ⟨_, _, rfl, (s.mono e).sq, r, h'⟩
  · cases r with
    | lst r => cases ed
    | dK k r => cases ed
    | dT nk k r => cases ed
    | ins c l r => cases ed
theorem Vw.tupP {ds : List D} (e : Same I H) (h : Vw K cl I H v (.tup ds)) : ∃ a vs, v = .ref a ∧ TupIn K H a vs ∧ RpA K cl I vs ds ∧ Rp K cl I v (.tup ds) := by
  rcases h with h | ⟨p, ho, o, rfl, ip, hp, r, ed⟩
  · have h' := h
    cases h with
    | tup s r => exact ⟨_, _, rfl, s.mono e, r, h'⟩
  · cases r with
    | lst r => cases ed
    | dK k r => cases ed
    | dT nk k r => cases ed
    | ins c l r => cases ed
theorem Vw.rp (h : Vw K cl I H v d) (hd : ∀ o, d ≠ so2d o) : Rp K cl I v d := by
  rcases h with h | ⟨p, ho, o, rfl, ip, hp, r, ed⟩
  · exact h
  · exact absurd ed (hd o)
theorem so_int {i : Int} (o : SO) : D.int i ≠ so2d o := by cases o <;> exact fun z => nomatch z
theorem so_bl {i : Bool} (o : SO) : D.bl i ≠ so2d o := by cases o <;> exact fun z => nomatch z
theorem so_str {i : Str} (o : SO) : D.str i ≠ so2d o := by cases o <;> exact fun z => nomatch z
theorem so_non (o : SO) : D.non ≠ so2d o := by cases o <;> exact fun z => nomatch z
theorem Vw.int {i : Int} (h : Vw K cl I H v (.int i)) : v = .int i := by
  cases h.rp so_int
  rfl
theorem Vw.bl {i : Bool} (h : Vw K cl I H v (.bl i)) : v = .bl i := by
  cases h.rp so_bl
  rfl
theorem Vw.str {i : Str} (h : Vw K cl I H v (.str i)) : v = .str i := by
  cases h.rp so_str
  rfl
theorem Vw.non (h : Vw K cl I H v .non) : v = .non := by
  cases h.rp so_non
  rfl
theorem Vw.mono {I1 H1 : Hp} (e : Same I I1) (eH : ∀ q u, H q = some u → H1 q = some u) (n : ∀ q, H q ≠ none → I q = none → I1 q = none) (h : Vw K cl I H v d) : Vw K cl I1 H1 v d := by
  rcases h with h | ⟨p, ho, o, rfl, ip, hp, r, ed⟩
  · exact .inl (h.mono e)
  · exact .inr ⟨p, ho, o, rfl, n p (by rw [hp]; exact fun z => nomatch z) ip, eH _ _ hp, r.mono e, ed⟩
inductive VwA (K : PySem.W.Frag) (cl : ClM) (I H : Hp) : List V → List D → Prop
  | nil : VwA K cl I H [] []
  | cons {v : V} {vs : List V} {d : D} {ds : List D} : Vw K cl I H v d → VwA K cl I H vs ds → VwA K cl I H (v :: vs) (d :: ds)
end

/-! ### judgements -/
abbrev Xp := MEnv → Option (Rv × MEnv)
abbrev Xt := MEnv → Option (Bool × MEnv)
abbrev Xa := MEnv → Option (List Rv × MEnv)
abbrev Xf := MEnv → Option (SO × MEnv)
inductive RetV where
  | d (d : D)
  | o (o : SO)
inductive Fl where
  | nx | bk | ct
  | ret (r : RetV)
abbrev Xs := MEnv → Option (Fl × MEnv)
/-- a target of a for, an assignment: from a tree and the environment -/
abbrev Xg := D → MEnv → Option MEnv

def EvOk (K : PySem.W.Frag) (cl : ClM) (t : TE) (m : Xp) : Prop := ∀ (σ : L2.St) (H I : Hp) (env : MEnv) (r : Rv) (env' : MEnv) (Q : VK), Gd K cl I H σ env → m env = some (r, env') →
  (∀ v I' H', Gd K cl I' H' σ env' → Tr (Fp σ env) I H (Fp σ env') I' H' → RvOk K cl I' σ v r → Q v H') → t σ H Q
def ME (X : Cx) (cl : ClM) (e : Expr) (m : Xp) : Prop := ∃ t, PE X e t ∧ EvOk X.K cl t m
def TtOk (K : PySem.W.Frag) (cl : ClM) (t : TT) (m : Xt) : Prop := ∀ (σ : L2.St) (H I : Hp) (env : MEnv) (b : Bool) (env' : MEnv) (Q : Bool → Hp → Prop), Gd K cl I H σ env → m env = some (b, env') →
  (∀ I' H', Gd K cl I' H' σ env' → Tr (Fp σ env) I H (Fp σ env') I' H' → Q b H') → t σ H Q
def MT (X : Cx) (cl : ClM) (e : Expr) (m : Xt) : Prop := ∃ t, PT X e t ∧ TtOk X.K cl t m
inductive RvA (K : PySem.W.Frag) (cl : ClM) (I : Hp) (σ : L2.St) : List V → List Rv → Prop
  | nil : RvA K cl I σ [] []
  | cons {v : V} {vs : List V} {r : Rv} {rs : List Rv} : RvOk K cl I σ v r → RvA K cl I σ vs rs → RvA K cl I σ (v :: vs) (r :: rs)
theorem RvA.mono {K : PySem.W.Frag} {cl : ClM} {I I' : Hp} {σ : L2.St} (e : Same I I') : ∀ {vs : List V} {rs : List Rv}, RvA K cl I σ vs rs → RvA K cl I' σ vs rs
  | _, _, .nil => .nil
  | _, _, .cons h t => .cons (h.mono e) (RvA.mono e t)
def AgOk (K : PySem.W.Frag) (cl : ClM) (t : TA) (m : Xa) : Prop := ∀ (σ : L2.St) (H I : Hp) (env : MEnv) (rs : List Rv) (env' : MEnv) (Q : List V → Hp → Prop), Gd K cl I H σ env → m env = some (rs, env') →
  (∀ vs I' H', Gd K cl I' H' σ env' → Tr (Fp σ env) I H (Fp σ env') I' H' → RvA K cl I' σ vs rs → Q vs H') → t σ H Q
def MA (X : Cx) (cl : ClM) (es : List Expr) (m : Xa) : Prop := ∃ t, PA X es t ∧ AgOk X.K cl t m
def FrOk (K : PySem.W.Frag) (cl : ClM) (t : TE) (m : Xf) : Prop := ∀ (σ : L2.St) (H I : Hp) (env : MEnv) (o : SO) (env' : MEnv) (Q : VK), Gd K cl I H σ env → m env = some (o, env') →
  (∀ p ho I' H', Gd K cl I' H' σ env' → Tr (Fp σ env) I H (Fp σ env') I' H' → I' p = none → H' p = some ho → SoOk K cl I' p ho o → (Fp σ env p ∨ H p = none) → ¬ Fp σ env' p → Q (.ref p) H') → t σ H Q
/-- an expression that makes an object of its own -/
def MF (X : Cx) (cl : ClM) (e : Expr) (m : Xf) : Prop := ∃ t, PE X e t ∧ FrOk X.K cl t m
def RetOk (K : PySem.W.Frag) (cl : ClM) (F : Addr → Prop) (H : Hp) (F' : Addr → Prop) (I' H' : Hp) (v : V) : RetV → Prop
  | .d d => Rp K cl I' v d
  | .o o => ∃ p ho, v = .ref p ∧ I' p = none ∧ H' p = some ho ∧ SoOk K cl I' p ho o ∧ (F p ∨ H p = none) ∧ ¬ F' p
def FlOk (K : PySem.W.Frag) (cl : ClM) (F : Addr → Prop) (H : Hp) (Dn : Ends) (σ' : L2.St) (I' H' : Hp) (env' : MEnv) : Fl → Prop
  | .nx => Dn.nx σ' H'
  | .bk => Dn.bk σ' H'
  | .ct => Dn.ct σ' H'
  | .ret r => ∀ v, RetOk K cl F H (Fp σ' env') I' H' v r → Dn.rt v H'
def StOk (K : PySem.W.Frag) (cl : ClM) (R : Nat → Bool) (t : TS) (m : Xs) : Prop := ∀ (σ : L2.St) (H I : Hp) (env : MEnv) (fl : Fl) (env' : MEnv) (Dn : Ends), Gd K cl I H σ env → m env = some (fl, env') →
  (∀ σ' I' H', Gd K cl I' H' σ' env' → Tr (Fp σ env) I H (Fp σ' env') I' H' → (∀ i, R i = true → σ'[i]? = σ[i]?) → FlOk K cl (Fp σ env) H Dn σ' I' H' env' fl) → t Dn σ H
def MS (X : Cx) (cl : ClM) (R : Nat → Bool) (st : Stmt) (m : Xs) : Prop := ∃ t, PS X st t ∧ StOk X.K cl R t m
def MSs (X : Cx) (cl : ClM) (R : Nat → Bool) (sts : List Stmt) (m : Xs) : Prop := ∃ t, PSs X sts t ∧ StOk X.K cl R t m
def GtOk (K : PySem.W.Frag) (cl : ClM) (R : Nat → Bool) (g : TG) (m : Xg) : Prop := ∀ (σ : L2.St) (H I : Hp) (env : MEnv) (d : D) (env' : MEnv) (v : V) (Q : L2.St → Hp → Prop), Gd K cl I H σ env → Rp K cl I v d → m d env = some env' →
  (∀ σ' I' H', Gd K cl I' H' σ' env' → Tr (Fp σ env) I H (Fp σ' env') I' H' → (∀ i, R i = true → σ'[i]? = σ[i]?) → σ'.length = σ.length → Q σ' H') → g v σ H Q
def MG (X : Cx) (cl : ClM) (R : Nat → Bool) (tg : Expr) (m : Xg) : Prop := ∃ g, PG X tg g ∧ GtOk X.K cl R g m
def GtsOk (K : PySem.W.Frag) (cl : ClM) (R : Nat → Bool) (g : TGs) (m : List D → MEnv → Option MEnv) : Prop := ∀ (σ : L2.St) (H I : Hp) (env : MEnv) (ds : List D) (env' : MEnv) (vs : List V) (Q : L2.St → Hp → Prop), Gd K cl I H σ env → RpA K cl I vs ds → m ds env = some env' →
  (∀ σ' I' H', Gd K cl I' H' σ' env' → Tr (Fp σ env) I H (Fp σ' env') I' H' → (∀ i, R i = true → σ'[i]? = σ[i]?) → σ'.length = σ.length → Q σ' H') → g vs σ H Q
def MGs (X : Cx) (cl : ClM) (R : Nat → Bool) (tgs : List Expr) (m : List D → MEnv → Option MEnv) : Prop := ∃ g, PGs X tgs g ∧ GtsOk X.K cl R g m
/-- a walk gives the items ds -/
def ItOk (K : PySem.W.Frag) (cl : ClM) (I : Hp) (J : It) (ds : List D) : Prop := ∀ (i : Nat) (I1 H1 : Hp), Same I I1 → Same I1 H1 →
  (ds[i]? = none → J.stop i H1) ∧ ∀ d, ds[i]? = some d → J.go i H1 ∧ ∀ v H2, J.yld i H1 v H2 → ∃ I2, Al I1 H1 I2 H2 ∧ Rp K cl I2 v d
abbrev Xi := MEnv → Option (List D × MEnv)
def TiOk (K : PySem.W.Frag) (cl : ClM) (wi : TI) (m : Xi) : Prop := ∀ (σ : L2.St) (H I : Hp) (env : MEnv) (ds : List D) (env' : MEnv) (R : It → Hp → Prop), Gd K cl I H σ env → m env = some (ds, env') →
  (∀ J I' H', Gd K cl I' H' σ env' → Tr (Fp σ env) I H (Fp σ env') I' H' → ItOk K cl I' J ds → R J H') → wi σ H R
def MI (X : Cx) (cl : ClM) (tg iter : Expr) (m : Xi) : Prop := ∃ wi, PI X tg iter wi ∧ TiOk X.K cl wi m

section
variable {X : Cx} {cl : ClM} {R : Nat → Bool} {e a b c : Expr} {es : List Expr} {pos : Pos} {m m1 m2 : Xp}
/-! ### names, constants -/
def eVar (i : Nat) : Xp := fun env => match env[i]? with
  | some (.val d) => some (.d d, env)
  | some (.own _) => some (.sl i, env)
  | _ => none
theorem me_var {i : Nat} (h : PE X e (tVar i)) : ME X cl e (eVar i) := by
  refine ⟨_, h, fun σ H I env r env' Q g hm k => ?_⟩
  unfold eVar at hm
  cases q : env[i]? with
  | none => simp [q] at hm
  | some s =>
    have hi : i < σ.length := by
      rw [g.len]
      exact (List.getElem?_eq_some_iff.mp q).1
    obtain ⟨ov, hov⟩ : ∃ ov, σ[i]? = some ov := ⟨σ[i], List.getElem?_eq_getElem hi⟩
    have ok := g.ok i s ov q hov
    cases s with
    | none => simp [q] at hm
    | val d =>
      simp [q] at hm
      obtain ⟨rfl, rfl⟩ := hm
      obtain ⟨v, e1, r1⟩ := ok
      subst e1
      exact ⟨v, hov, k v I H g Tr.refl r1⟩
    | own o =>
      simp [q] at hm
      obtain ⟨rfl, rfl⟩ := hm
      obtain ⟨p, ho, e1, _⟩ := ok
      subst e1
      exact ⟨.ref p, hov, k _ I H g Tr.refl hov⟩
def eK (d : D) : Xp := fun env => some (.d d, env)
theorem me_k {v : V} {d : D} (h : PE X e (tC v)) (r : ∀ I, Rp X.K cl I v d) : ME X cl e (eK d) := by
  refine ⟨_, h, fun σ H I env r' env' Q g hm k => ?_⟩
  cases Option.some.inj hm
  exact k v I H g Tr.refl (r I)
theorem me_int {i : Int} {j} : ME X cl (.Constant (.int i) j pos) (eK (.int i)) := me_k pe_int fun _ => .int i
theorem me_bl {i : Bool} {j} : ME X cl (.Constant (.bool i) j pos) (eK (.bl i)) := me_k pe_bl fun _ => .bl i
theorem me_str {i : Str} {j} : ME X cl (.Constant (.str i) j pos) (eK (.str i)) := me_k pe_str fun _ => .str i
theorem me_non {j} : ME X cl (.Constant .none j pos) (eK .non) := me_k pe_non fun _ => .non
/-- stuck: no claim -/
def eNo : Xp := fun _ => none
theorem pe_false (e : Expr) : PE X e (fun _ _ _ => False) := ⟨fun _ _ _ _ _ _ h => h.elim⟩
theorem me_no : ME X cl e eNo := ⟨_, pe_false e, fun _ _ _ _ _ _ _ _ hm _ => nomatch hm⟩
def sNo : Xs := fun _ => none
theorem ms_no {st : Stmt} : MS X cl R st sNo := ⟨_, ps_never, fun _ _ _ _ _ _ _ _ hm _ => nomatch hm⟩
theorem mss_no {sts : List Stmt} : MSs X cl R sts sNo := ⟨_, pss_never, fun _ _ _ _ _ _ _ _ hm _ => nomatch hm⟩

/-! ### operators -/
def OpM (X : Cx) (cl : ClM) (f : Value → Value → Sem Value) (g : D → D → Option D) : Prop := ∃ r : R2, OpR X f r ∧
  ∀ (I H : Hp) (v w : V) (x y z : D) (Q : VK), Same I H → Vw X.K cl I H v x → Vw X.K cl I H w y → g x y = some z → (∀ u I' H', Al I H I' H' → Rp X.K cl I' u z → Q u H') → r v w H Q
def eBin (g : D → D → Option D) (m1 m2 : Xp) : Xp := fun env => match m1 env with
  | none => none
  | some (r1, e1) => match m2 e1 with
    | none => none
    | some (r2, e2) => match vw e2 r1, vw e2 r2 with
      | some x, some y => match g x y with
        | some z => some (.d z, e2)
        | none => none
      | _, _ => none
theorem ev_bin {r : R2} {ta tb : TE} {g : D → D → Option D} (h1 : EvOk X.K cl ta m1) (h2 : EvOk X.K cl tb m2)
    (hr : ∀ (I H : Hp) (v w : V) (x y z : D) (Q : VK), Same I H → Vw X.K cl I H v x → Vw X.K cl I H w y → g x y = some z → (∀ u I' H', Al I H I' H' → Rp X.K cl I' u z → Q u H') → r v w H Q) : EvOk X.K cl (tOp r ta tb) (eBin g m1 m2) := by
  intro σ H I env rr env' Q gd hm k
  unfold eBin at hm
  cases q1 : m1 env with
  | none => simp [q1] at hm
  | some p1 =>
    obtain ⟨r1, e1⟩ := p1
    simp only [q1] at hm
    cases q2 : m2 e1 with
    | none => simp [q2] at hm
    | some p2 =>
      obtain ⟨r2, e2⟩ := p2
      simp only [q2] at hm
      cases q3 : vw e2 r1 with
      | none => simp [q3] at hm
      | some x =>
        cases q4 : vw e2 r2 with
        | none => simp [q3, q4] at hm
        | some y =>
          simp only [q3, q4] at hm
          cases q5 : g x y with
          | none => simp [q5] at hm
          | some z =>
            simp only [q5, Option.some.injEq, Prod.mk.injEq] at hm
            obtain ⟨rfl, rfl⟩ := hm
            refine h1 σ H I env r1 e1 _ gd q1 fun v I1 H1 g1 t1 k1 => ?_
            refine h2 σ H1 I1 e1 r2 e2 _ g1 q2 fun w I2 H2 g2 t2 k2 => ?_
            exact hr I2 H2 v w x y z Q g2.ex (vw_ok g2 (k1.mono t2.ext) q3) (vw_ok g2 k2 q4) q5 fun u I3 H3 a r => k u I3 H3 (g2.al a) ((t1.trans t2).trans a.tr) r
theorem me_op {op : Operator} {g : D → D → Option D} (ho : OpM X cl (binaryOp op) g) (h1 : ME X cl a m1) (h2 : ME X cl b m2) : ME X cl (.BinOp a op b pos) (eBin g m1 m2) := by
  obtain ⟨r, hr, hw⟩ := ho
  obtain ⟨ta, pa, ea⟩ := h1
  obtain ⟨tb, pb, eb⟩ := h2
  exact ⟨_, pe_op hr pa pb, ev_bin ea eb hw⟩
theorem me_cmp {op : CmpOp} {g : D → D → Option D} (ho : OpM X cl (compareOp op) g) (h1 : ME X cl a m1) (h2 : ME X cl b m2) (hm : behindInMarks op b = false) : ME X cl (.Compare a [op] [b] pos) (eBin g m1 m2) := by
  obtain ⟨r, hr, hw⟩ := ho
  obtain ⟨ta, pa, ea⟩ := h1
  obtain ⟨tb, pb, eb⟩ := h2
  exact ⟨_, pe_cmpR hr pa pb hm, ev_bin ea eb hw⟩
/-- an expression whose value is a bool, as a test -/
def tOfB (m : Xp) : Xt := fun env => match m env with
  | some (.d (.bl b), e) => some (b, e)
  | _ => none
theorem tt_b {t : TE} (h : EvOk X.K cl t m) : TtOk X.K cl (tTest t) (tOfB m) := by
  intro σ H I env b env' Q g hm k
  unfold tOfB at hm
  cases q : m env with
  | none => simp [q] at hm
  | some p =>
    obtain ⟨r, e1⟩ := p
    cases r with
    | sl i => simp [q] at hm
    | d d =>
      cases d with
      | bl b' =>
        simp only [q, Option.some.injEq, Prod.mk.injEq] at hm
        obtain ⟨rfl, rfl⟩ := hm
        exact h σ H I env _ e1 _ g q fun v I1 H1 g1 t1 r1 => by
          have r1' : Rp X.K cl I1 v (.bl b') := r1
          cases r1'
          exact ⟨b', rfl, k I1 H1 g1 t1⟩
      | _ => simp [q] at hm
theorem mt_cmp {op : CmpOp} {g : D → D → Option D} (ho : OpM X cl (compareOp op) g) (h1 : ME X cl a m1) (h2 : ME X cl b m2) (hm : behindInMarks op b = false) : MT X cl (.Compare a [op] [b] pos) (tOfB (eBin g m1 m2)) := by
  obtain ⟨r, hr, hw⟩ := ho
  obtain ⟨ta, pa, ea⟩ := h1
  obtain ⟨tb, pb, eb⟩ := h2
  exact ⟨_, pt_cmpR hr pa pb hm, tt_b (ev_bin ea eb hw)⟩
/-- any expression with a bool as its value, as a test -/
theorem mt_val (h : ME X cl e m) (he : ∀ whole, isTrue e X.env whole = (do let v ← whole; standAt e.pos; holding [v] (truthy v))) : MT X cl e (tOfB m) := by
  obtain ⟨t, p, ev⟩ := h
  refine ⟨_, pt_val p he, ?_⟩
  exact tt_b ev
/-- truth of a value -/
def truD : D → Option Bool
  | .non => some false
  | .bl b => some b
  | .int i => some (i != 0)
  | .lst xs => some (!xs.isEmpty)
  | .tup xs => some (!xs.isEmpty)
  | _ => none
def tTru (m : Xp) : Xt := fun env => match m env with
  | none => none
  | some (r, e) => match vw e r with
    | none => none
    | some d => match truD d with
      | none => none
      | some b => some (b, e)
theorem RpA.isEmpty {K : PySem.W.Frag} {I : Hp} {vs : List V} {ds : List D} (h : RpA K cl I vs ds) : vs.isEmpty = ds.isEmpty := by
  cases h <;> rfl
theorem tru_ok' {K : PySem.W.Frag} {I H : Hp} {v : V} {d : D} {b : Bool} (e : Same I H) (h : Vw K cl I H v d) (q : truD d = some b) : TruV K v H b := by
  cases d with
  | non =>
    cases h.non
    exact (Option.some.inj q).symm
  | bl c =>
    cases h.bl
    exact (Option.some.inj q).symm
  | int i =>
    cases h.int
    exact (Option.some.inj q).symm
  | lst xs =>
    obtain ⟨a, vs, rfl, s, r⟩ := h.lst e
    exact .inl ⟨vs, SqL.of s, by rw [r.isEmpty]; exact (Option.some.inj q).symm⟩
  | tup xs =>
    obtain ⟨a, vs, rfl, s, r, _⟩ := h.tup e
    exact .inr (.inl ⟨vs, s, by rw [r.isEmpty]; exact (Option.some.inj q).symm⟩)
  | str _ => cases q
  | dct _ _ => cases q
  | obj _ _ => cases q
  | scr _ => cases q
  | ktp _ => cases q
theorem mt_truth (h : ME X cl e m) (he : ∀ whole, isTrue e X.env whole = (do let v ← whole; standAt e.pos; holding [v] (truthy v))) : MT X cl e (tTru m) := by
  obtain ⟨t, p, ev⟩ := h
  refine ⟨_, pt_truth p he, fun σ H I env b env' Q g hm k => ?_⟩
  unfold tTru at hm
  cases q : m env with
  | none => simp [q] at hm
  | some p =>
    obtain ⟨r, e1⟩ := p
    simp only [q] at hm
    cases q2 : vw e1 r with
    | none => simp [q2] at hm
    | some d =>
      simp only [q2] at hm
      cases q3 : truD d with
      | none => simp [q3] at hm
      | some b' =>
        simp only [q3, Option.some.injEq, Prod.mk.injEq] at hm
        obtain ⟨rfl, rfl⟩ := hm
        exact ev σ H I env r e1 _ g q fun v I1 H1 g1 t1 r1 => ⟨b', tru_ok' g1.ex (vw_ok g1 r1 q2) q3, k I1 H1 g1 t1⟩

/-! ### and, or, not -/
def MW (X : Cx) (cl : ClM) (e : Expr) (m : Xt) : Prop := ∃ t, PW X e t ∧ TtOk X.K cl t m
theorem MW.mt {m : Xt} (h : MW X cl e m) : MT X cl e m := by
  obtain ⟨t, p, k⟩ := h
  exact ⟨t, p.pt, k⟩
def tAn (m1 m2 : Xt) : Xt := fun env => match m1 env with
  | some (true, e1) => m2 e1
  | some (false, e1) => some (false, e1)
  | none => none
def tO (m1 m2 : Xt) : Xt := fun env => match m1 env with
  | some (true, e1) => some (true, e1)
  | some (false, e1) => m2 e1
  | none => none
def tNo (m1 : Xt) : Xt := fun env => match m1 env with
  | some (b, e1) => some (!b, e1)
  | none => none
variable {mt1 mt2 : Xt} {rest : List Expr}
theorem mw_and1 (h : MT X cl a mt1) : MW X cl (.BoolOp .And [a] pos) mt1 := by
  obtain ⟨t, p, k⟩ := h
  exact ⟨_, pw_and1 p, k⟩
theorem mw_or1 (h : MT X cl a mt1) : MW X cl (.BoolOp .Or [a] pos) mt1 := by
  obtain ⟨t, p, k⟩ := h
  exact ⟨_, pw_or1 p, k⟩
theorem tt_and {t u : TT} (h1 : TtOk X.K cl t mt1) (h2 : TtOk X.K cl u mt2) : TtOk X.K cl (L2.tAnd t u) (tAn mt1 mt2) := by
  intro σ H I env b' env' Q g hm k
  unfold tAn at hm
  cases q : mt1 env with
  | none => simp [q] at hm
  | some p =>
    obtain ⟨c, e1⟩ := p
    refine h1 σ H I env c e1 _ g q fun I1 H1 g1 t1 => ?_
    cases c with
    | true =>
      simp only [q] at hm
      show u σ H1 Q
      exact h2 σ H1 I1 e1 b' env' Q g1 hm fun I2 H2 g2 t2 => k I2 H2 g2 (t1.trans t2)
    | false =>
      simp only [q, Option.some.injEq, Prod.mk.injEq] at hm
      obtain ⟨rfl, rfl⟩ := hm
      exact k I1 H1 g1 t1
theorem tt_or {t u : TT} (h1 : TtOk X.K cl t mt1) (h2 : TtOk X.K cl u mt2) : TtOk X.K cl (L2.tOr t u) (tO mt1 mt2) := by
  intro σ H I env b' env' Q g hm k
  unfold tO at hm
  cases q : mt1 env with
  | none => simp [q] at hm
  | some p =>
    obtain ⟨c, e1⟩ := p
    refine h1 σ H I env c e1 _ g q fun I1 H1 g1 t1 => ?_
    cases c with
    | false =>
      simp only [q] at hm
      show u σ H1 Q
      exact h2 σ H1 I1 e1 b' env' Q g1 hm fun I2 H2 g2 t2 => k I2 H2 g2 (t1.trans t2)
    | true =>
      simp only [q, Option.some.injEq, Prod.mk.injEq] at hm
      obtain ⟨rfl, rfl⟩ := hm
      exact k I1 H1 g1 t1
theorem mw_and (h1 : MT X cl a mt1) (h2 : MW X cl (.BoolOp .And (b :: rest) pos) mt2) : MW X cl (.BoolOp .And (a :: b :: rest) pos) (tAn mt1 mt2) := by
  obtain ⟨t, p, k⟩ := h1
  obtain ⟨u, p2, k2⟩ := h2
  exact ⟨_, pw_and p p2, tt_and k k2⟩
theorem mw_or (h1 : MT X cl a mt1) (h2 : MW X cl (.BoolOp .Or (b :: rest) pos) mt2) : MW X cl (.BoolOp .Or (a :: b :: rest) pos) (tO mt1 mt2) := by
  obtain ⟨t, p, k⟩ := h1
  obtain ⟨u, p2, k2⟩ := h2
  exact ⟨_, pw_or p p2, tt_or k k2⟩
theorem mt_not (h1 : MT X cl a mt1) : MT X cl (.UnaryOp .Not a pos) (tNo mt1) := by
  obtain ⟨t, p, k⟩ := h1
  refine ⟨_, pt_not p, fun σ H I env b' env' Q g hm k' => ?_⟩
  unfold tNo at hm
  cases q : mt1 env with
  | none => simp [q] at hm
  | some p =>
    obtain ⟨c, e1⟩ := p
    simp only [q, Option.some.injEq, Prod.mk.injEq] at hm
    obtain ⟨rfl, rfl⟩ := hm
    exact k σ H I env c e1 _ g q fun I1 H1 g1 t1 => k' I1 H1 g1 t1
/-- a test as a value where both sides are bools -/
def eOfT (m : Xt) : Xp := fun env => match m env with
  | some (b, e) => some (.d (.bl b), e)
  | none => none
theorem me_not (h1 : ME X cl a m1) : ME X cl (.UnaryOp .Not a pos) (eOfT (tNo (tOfB m1))) := by
  obtain ⟨t, p, k⟩ := h1
  refine ⟨_, pe_not p, fun σ H I env r env' Q g hm k' => ?_⟩
  unfold eOfT tNo tOfB at hm
  cases q : m1 env with
  | none => simp [q] at hm
  | some p =>
    obtain ⟨r1, e1⟩ := p
    cases r1 with
    | sl i => simp [q] at hm
    | d d =>
      cases d with
      | bl c =>
        simp only [q, Option.some.injEq, Prod.mk.injEq] at hm
        obtain ⟨rfl, rfl⟩ := hm
        exact k σ H I env _ e1 _ g q fun v I1 H1 g1 t1 r1 => by
          have r1' : Rp X.K cl I1 v (.bl c) := r1
          cases r1'
          exact ⟨c, rfl, k' _ I1 H1 g1 t1 (.bl _)⟩
      | _ => simp [q] at hm
theorem me_one {op} (h : ME X cl a m1) : ME X cl (.BoolOp op [a] pos) m1 := by
  obtain ⟨t, p, k⟩ := h
  exact ⟨_, pe_one p, k⟩
def eAndV (m1 m2 : Xp) : Xp := fun env => match tOfB m1 env with
  | some (true, e1) => m2 e1
  | some (false, e1) => some (.d (.bl false), e1)
  | none => none
def eOrV (m1 m2 : Xp) : Xp := fun env => match tOfB m1 env with
  | some (true, e1) => some (.d (.bl true), e1)
  | some (false, e1) => m2 e1
  | none => none
theorem me_andV (h1 : ME X cl a m1) (h2 : ME X cl (.BoolOp .And (b :: rest) pos) m2) : ME X cl (.BoolOp .And (a :: b :: rest) pos) (eAndV m1 m2) := by
  obtain ⟨t, p, k⟩ := h1
  obtain ⟨u, p2, k2⟩ := h2
  refine ⟨_, pe_and p p2, fun σ H I env r env' Q g hm k' => ?_⟩
  unfold eAndV at hm
  cases q : tOfB m1 env with
  | none => simp [q] at hm
  | some p =>
    obtain ⟨c, e1⟩ := p
    have h3 := tt_b k σ H I env c e1 (fun c H1 => if c = true then u σ H1 Q else Q (.bl false) H1) g q fun I1 H1 g1 t1 => by
      cases c with
      | true =>
        simp only [q] at hm
        show u σ H1 Q
        exact k2 σ H1 I1 e1 r env' Q g1 hm fun v I2 H2 g2 t2 r2 => k' v I2 H2 g2 (t1.trans t2) r2
      | false =>
        simp only [q, Option.some.injEq, Prod.mk.injEq] at hm
        obtain ⟨rfl, rfl⟩ := hm
        exact k' _ I1 H1 g1 t1 (.bl false)
    exact h3
theorem me_orV (h1 : ME X cl a m1) (h2 : ME X cl (.BoolOp .Or (b :: rest) pos) m2) : ME X cl (.BoolOp .Or (a :: b :: rest) pos) (eOrV m1 m2) := by
  obtain ⟨t, p, k⟩ := h1
  obtain ⟨u, p2, k2⟩ := h2
  refine ⟨_, pe_or p p2, fun σ H I env r env' Q g hm k' => ?_⟩
  unfold eOrV at hm
  cases q : tOfB m1 env with
  | none => simp [q] at hm
  | some p =>
    obtain ⟨c, e1⟩ := p
    have h3 := tt_b k σ H I env c e1 (fun c H1 => if c = true then Q (.bl true) H1 else u σ H1 Q) g q fun I1 H1 g1 t1 => by
      cases c with
      | false =>
        simp only [q] at hm
        show u σ H1 Q
        exact k2 σ H1 I1 e1 r env' Q g1 hm fun v I2 H2 g2 t2 r2 => k' v I2 H2 g2 (t1.trans t2) r2
      | true =>
        simp only [q, Option.some.injEq, Prod.mk.injEq] at hm
        obtain ⟨rfl, rfl⟩ := hm
        exact k' _ I1 H1 g1 t1 (.bl true)
    exact h3
def eIf (t : Xt) (m1 m2 : Xp) : Xp := fun env => match t env with
  | some (true, e1) => m1 e1
  | some (false, e1) => m2 e1
  | none => none
theorem me_if (hc : MT X cl c mt1) (h1 : ME X cl a m1) (h2 : ME X cl b m2) : ME X cl (.IfExp c a b pos) (eIf mt1 m1 m2) := by
  obtain ⟨tc, pc, kc⟩ := hc
  obtain ⟨t, p, k⟩ := h1
  obtain ⟨u, p2, k2⟩ := h2
  refine ⟨_, pe_ifExp pc p p2, fun σ H I env r env' Q g hm k' => ?_⟩
  unfold eIf at hm
  cases q : mt1 env with
  | none => simp [q] at hm
  | some p =>
    obtain ⟨c, e1⟩ := p
    refine kc σ H I env c e1 _ g q fun I1 H1 g1 t1 => ?_
    cases c with
    | true =>
      simp only [q] at hm
      show t σ H1 Q
      exact k σ H1 I1 e1 r env' Q g1 hm fun v I2 H2 g2 t2 r2 => k' v I2 H2 g2 (t1.trans t2) r2
    | false =>
      simp only [q] at hm
      show u σ H1 Q
      exact k2 σ H1 I1 e1 r env' Q g1 hm fun v I2 H2 g2 t2 r2 => k' v I2 H2 g2 (t1.trans t2) r2
/-- a chain of two comparisons -/
def eChain (g g' : D → D → Option D) (m1 m2 m3 : Xp) : Xp := fun env => match m1 env with
  | none => none
  | some (r1, e1) => match m2 e1 with
    | none => none
    | some (r2, e2) => match vw e2 r1, vw e2 r2 with
      | some x, some y => match g x y with
        | some (.bl true) => match m3 e2 with
          | none => none
          | some (r3, e3) => match vw e3 r2, vw e3 r3 with
            | some y', some z => match g' y' z with
              | some w => some (.d w, e3)
              | none => none
            | _, _ => none
        | some (.bl false) => some (.d (.bl false), e2)
        | _ => none
      | _, _ => none
theorem ev_chain {r r' : R2} {ta tb tc : TE} {g g' : D → D → Option D} {m3 : Xp} (h1 : EvOk X.K cl ta m1) (h2 : EvOk X.K cl tb m2) (h3 : EvOk X.K cl tc m3)
    (hr : ∀ (I H : Hp) (v w : V) (x y z : D) (Q : VK), Same I H → Vw X.K cl I H v x → Vw X.K cl I H w y → g x y = some z → (∀ u I' H', Al I H I' H' → Rp X.K cl I' u z → Q u H') → r v w H Q)
    (hr' : ∀ (I H : Hp) (v w : V) (x y z : D) (Q : VK), Same I H → Vw X.K cl I H v x → Vw X.K cl I H w y → g' x y = some z → (∀ u I' H', Al I H I' H' → Rp X.K cl I' u z → Q u H') → r' v w H Q) : EvOk X.K cl (tChain r r' ta tb tc) (eChain g g' m1 m2 m3) := by
  intro σ H I env rr env' Q gd hm k
  unfold eChain at hm
  cases q1 : m1 env with
  | none => simp [q1] at hm
  | some p1 =>
    obtain ⟨r1, e1⟩ := p1
    simp only [q1] at hm
    cases q2 : m2 e1 with
    | none => simp [q2] at hm
    | some p2 =>
      obtain ⟨r2, e2⟩ := p2
      simp only [q2] at hm
      cases q3 : vw e2 r1 with
      | none => simp [q3] at hm
      | some x =>
        cases q4 : vw e2 r2 with
        | none => simp [q3, q4] at hm
        | some y =>
          simp only [q3, q4] at hm
          cases q5 : g x y with
          | none => simp [q5] at hm
          | some z =>
            cases z with
            | bl bb =>
              refine h1 σ H I env r1 e1 _ gd q1 fun v I1 H1 g1 t1 k1 => ?_
              refine h2 σ H1 I1 e1 r2 e2 _ g1 q2 fun w I2 H2 g2 t2 k2 => ?_
              refine hr I2 H2 v w x y _ _ g2.ex (vw_ok g2 (k1.mono t2.ext) q3) (vw_ok g2 k2 q4) q5 fun u I3 H3 a ru => ?_
              have ru' : Rp X.K cl I3 u (.bl bb) := ru
              cases ru'
              have g3 := g2.al a
              have t3 := (t1.trans t2).trans a.tr
              refine ⟨bb, rfl, ?_⟩
              cases bb with
              | false =>
                simp only [q5, Option.some.injEq, Prod.mk.injEq] at hm
                obtain ⟨rfl, rfl⟩ := hm
                exact k _ I3 H3 g3 t3 (.bl false)
              | true =>
                simp only [q5] at hm
                cases q6 : m3 e2 with
                | none => simp [q6] at hm
                | some p3 =>
                  obtain ⟨r3, e3⟩ := p3
                  simp only [q6] at hm
                  cases q7 : vw e3 r2 with
                  | none => simp [q7] at hm
                  | some y' =>
                    cases q8 : vw e3 r3 with
                    | none => simp [q7, q8] at hm
                    | some z' =>
                      simp only [q7, q8] at hm
                      cases q9 : g' y' z' with
                      | none => simp [q9] at hm
                      | some w' =>
                        simp only [q9, Option.some.injEq, Prod.mk.injEq] at hm
                        obtain ⟨rfl, rfl⟩ := hm
                        show tc σ H3 _
                        refine h3 σ H3 I3 e2 r3 e3 _ g3 q6 fun w2 I4 H4 g4 t4 k4 => ?_
                        exact hr' I4 H4 w w2 y' z' w' Q g4.ex (vw_ok g4 ((k2.mono a.ext).mono t4.ext) q7) (vw_ok g4 k4 q8) q9 fun u I5 H5 a5 r5 => k u I5 H5 (g4.al a5) ((t3.trans t4).trans a5.tr) r5
            | _ => simp [q5] at hm
theorem me_chain {op op' : CmpOp} {g g' : D → D → Option D} {m3 : Xp} (ho : OpM X cl (compareOp op) g) (ho' : OpM X cl (compareOp op') g') (h1 : ME X cl a m1) (h2 : ME X cl b m2) (h3 : ME X cl c m3)
    (hm : lastMarks [op, op'] [b, c] = false := by with_unfolding_all rfl) : ME X cl (.Compare a [op, op'] [b, c] pos) (eChain g g' m1 m2 m3) := by
  obtain ⟨r, hr, hw⟩ := ho
  obtain ⟨r', hr', hw'⟩ := ho'
  obtain ⟨ta, pa, ea⟩ := h1
  obtain ⟨tb, pb, eb⟩ := h2
  obtain ⟨tc, pc, ec⟩ := h3
  exact ⟨_, pe_chain hr hr' pa pb pc hm, ev_chain ea eb ec hw hw'⟩
theorem mt_chain {op op' : CmpOp} {g g' : D → D → Option D} {m3 : Xp} (ho : OpM X cl (compareOp op) g) (ho' : OpM X cl (compareOp op') g') (h1 : ME X cl a m1) (h2 : ME X cl b m2) (h3 : ME X cl c m3)
    (hm : lastMarks [op, op'] [b, c] = false := by with_unfolding_all rfl) : MT X cl (.Compare a [op, op'] [b, c] pos) (tOfB (eChain g g' m1 m2 m3)) := by
  obtain ⟨r, hr, hw⟩ := ho
  obtain ⟨r', hr', hw'⟩ := ho'
  obtain ⟨ta, pa, ea⟩ := h1
  obtain ⟨tb, pb, eb⟩ := h2
  obtain ⟨tc, pc, ec⟩ := h3
  exact ⟨_, pt_chain hr hr' pa pb pc hm, tt_b (ev_chain ea eb ec hw hw')⟩

/-! ### arguments -/
def aNil : Xa := fun env => some ([], env)
def aCons (m : Xp) (ms : Xa) : Xa := fun env => match m env with
  | none => none
  | some (r, e1) => match ms e1 with
    | none => none
    | some (rs, e2) => some (r :: rs, e2)
theorem ma_nil : MA X cl [] aNil := ⟨_, pa_nil, fun σ H I env rs env' Q g hm k => by
  cases Option.some.inj hm
  exact k [] I H g Tr.refl .nil⟩
theorem ma_cons {ms : Xa} (h1 : ME X cl e m) (h2 : MA X cl es ms) (hpa : ∀ t u, PE X e t → PA X es u → PA X (e :: es) (tCons t u)) : MA X cl (e :: es) (aCons m ms) := by
  obtain ⟨t, p, k⟩ := h1
  obtain ⟨u, p2, k2⟩ := h2
  refine ⟨_, hpa t u p p2, fun σ H I env rs env' Q g hm k' => ?_⟩
  unfold aCons at hm
  cases q1 : m env with
  | none => simp [q1] at hm
  | some p1 =>
    obtain ⟨r, e1⟩ := p1
    simp only [q1] at hm
    cases q2 : ms e1 with
    | none => simp [q2] at hm
    | some p2 =>
      obtain ⟨rs', e2⟩ := p2
      simp only [q2, Option.some.injEq, Prod.mk.injEq] at hm
      obtain ⟨rfl, rfl⟩ := hm
      refine k σ H I env r e1 _ g q1 fun v I1 H1 g1 t1 r1 => ?_
      exact k2 σ H1 I1 e1 rs' e2 _ g1 q2 fun vs I2 H2 g2 t2 r2 => k' (v :: vs) I2 H2 g2 (t1.trans t2) (.cons (r1.mono t2.ext) r2)
def vwL (env : MEnv) : List Rv → Option (List D)
  | [] => some []
  | r :: rs => match vw env r, vwL env rs with
    | some d, some ds => some (d :: ds)
    | _, _ => none
def escL (env : MEnv) : List Rv → Option (List D × MEnv)
  | [] => some ([], env)
  | r :: rs => match esc env r with
    | none => none
    | some (d, e1) => match escL e1 rs with
      | none => none
      | some (ds, e2) => some (d :: ds, e2)
theorem vwL_ok {K : PySem.W.Frag} {I H : Hp} {σ : L2.St} {env : MEnv} (g : Gd K cl I H σ env) : ∀ {vs : List V} {rs : List Rv} {ds : List D}, RvA K cl I σ vs rs → vwL env rs = some ds → VwA K cl I H vs ds
  | _, _, _, .nil, e => by
    cases Option.some.inj e
    exact .nil
  | _, _, ds, .cons (rs := rs) (r := r) h t, e => by
    unfold vwL at e
    cases q : vw env r with
    | none => simp [q] at e
    | some d =>
      cases q2 : vwL env rs with
      | none => simp [q, q2] at e
      | some ds' =>
        simp only [q, q2, Option.some.injEq] at e
        subst e
        exact .cons (vw_ok g h q) (vwL_ok g t q2)
theorem escL_ok {K : PySem.W.Frag} {σ : L2.St} {H : Hp} : ∀ {vs : List V} {rs : List Rv} {ds : List D} {I : Hp} {env env' : MEnv}, Gd K cl I H σ env → RvA K cl I σ vs rs → escL env rs = some (ds, env') →
    ∃ I', Gd K cl I' H σ env' ∧ Tr (Fp σ env) I H (Fp σ env') I' H ∧ RpA K cl I' vs ds
  | _, _, _, I, env, env', g, .nil, e => by
    cases Option.some.inj e
    exact ⟨I, g, Tr.refl, .nil⟩
  | _, _, ds, I, env, env', g, .cons (rs := rs) (r := r) h t, e => by
    unfold escL at e
    cases q : esc env r with
    | none => simp [q] at e
    | some p =>
      obtain ⟨d, e1⟩ := p
      simp only [q] at e
      cases q2 : escL e1 rs with
      | none => simp [q2] at e
      | some p2 =>
        obtain ⟨ds', e2⟩ := p2
        simp only [q2, Option.some.injEq, Prod.mk.injEq] at e
        obtain ⟨rfl, rfl⟩ := e
        obtain ⟨I1, g1, t1, r1⟩ := esc_ok g h q
        obtain ⟨I2, g2, t2, r2⟩ := escL_ok g1 (RvA.mono t1.ext t) q2
        exact ⟨I2, g2, t1.trans t2, .cons (r1.mono t2.ext) r2⟩
/-- tuples, lists -/
def eTup (ms : Xa) : Xp := fun env => match ms env with
  | none => none
  | some (rs, e1) => match escL e1 rs with
    | none => none
    | some (ds, e2) => some (.d (.tup ds), e2)
theorem RvA.length {K : PySem.W.Frag} {I : Hp} {σ : L2.St} : ∀ {vs : List V} {rs : List Rv}, RvA K cl I σ vs rs → vs.length = rs.length
  | _, _, .nil => rfl
  | _, _, .cons _ t => by rw [List.length_cons, List.length_cons, RvA.length t]
def aL : List Xp → Xa
  | [] => aNil
  | m :: ms => aCons m (aL ms)
theorem aL_len : ∀ {ms : List Xp} {env : MEnv} {rs : List Rv} {e1 : MEnv}, aL ms env = some (rs, e1) → rs.length = ms.length
  | [], env, rs, e1, h => by
    cases Option.some.inj h
    rfl
  | m :: ms, env, rs, e1, h => by
    have h' : aCons m (aL ms) env = some (rs, e1) := h
    unfold aCons at h'
    cases q1 : m env with
    | none => simp [q1] at h'
    | some p1 =>
      obtain ⟨r, e2⟩ := p1
      simp only [q1] at h'
      cases q2 : aL ms e2 with
      | none => simp [q2] at h'
      | some p2 =>
        obtain ⟨rs', e3⟩ := p2
        simp only [q2, Option.some.injEq, Prod.mk.injEq] at h'
        obtain ⟨rfl, rfl⟩ := h'
        rw [List.length_cons, List.length_cons, aL_len q2]
theorem mal_nil : MA X cl [] (aL []) := ma_nil
theorem mal_cons {ms : List Xp} (h1 : ME X cl e m) (h2 : MA X cl es (aL ms)) (hpa : ∀ t u, PE X e t → PA X es u → PA X (e :: es) (tCons t u)) : MA X cl (e :: es) (aL (m :: ms)) := ma_cons h1 h2 hpa
theorem me_tup {ms : List Xp} {k} (h : MA X cl es (aL ms)) (hl : ms.length ≤ 1000000 := by exact Nat.le_of_ble_eq_true rfl) : ME X cl (.Tuple es k pos) (eTup (aL ms)) := by
  have hlen : ∀ env rs e1, aL ms env = some (rs, e1) → rs.length ≤ 1000000 := fun env rs e1 q => by rw [aL_len q]; exact hl
  obtain ⟨t, p, kk⟩ := h
  refine ⟨_, pe_tupX p, fun σ H I env r env' Q g hm k' => ?_⟩
  unfold eTup at hm
  cases q1 : aL ms env with
  | none => simp [q1] at hm
  | some p1 =>
    obtain ⟨rs, e1⟩ := p1
    simp only [q1] at hm
    cases q2 : escL e1 rs with
    | none => simp [q2] at hm
    | some p2 =>
      obtain ⟨ds, e2⟩ := p2
      simp only [q2, Option.some.injEq, Prod.mk.injEq] at hm
      obtain ⟨rfl, rfl⟩ := hm
      refine kk σ H I env rs e1 _ g q1 fun vs I1 H1 g1 t1 r1 => ?_
      obtain ⟨I2, g2, t2, r2⟩ := escL_ok g1 r1 q2
      refine ⟨?_, fun a us ha => ?_⟩
      · rw [r1.length]
        exact Nat.le_trans (hlen _ _ _ q1) (by decide)
      · have al : Al I2 H1 (upd I2 a (xT us vs)) (upd H1 a (xT us vs)) := Al.new g2.ex ha
        exact k' _ _ _ (g2.al al) ((t1.trans t2).trans al.tr) (.tup .new (r2.mono al.ext))
def fLst (ms : Xa) : Xf := fun env => match ms env with
  | none => none
  | some (rs, e1) => match escL e1 rs with
    | none => none
    | some (ds, e2) => some (.lst ds, e2)
theorem mf_lst {ms : List Xp} (h : MA X cl es (aL ms)) (hl : ms.length ≤ 1000000 := by exact Nat.le_of_ble_eq_true rfl) : MF X cl (.List es pos) (fLst (aL ms)) := by
  have hlen : ∀ env rs e1, aL ms env = some (rs, e1) → rs.length ≤ 1000000 := fun env rs e1 q => by rw [aL_len q]; exact hl
  obtain ⟨t, p, kk⟩ := h
  refine ⟨_, pe_lst p, fun σ H I env r env' Q g hm k' => ?_⟩
  unfold fLst at hm
  cases q1 : aL ms env with
  | none => simp [q1] at hm
  | some p1 =>
    obtain ⟨rs, e1⟩ := p1
    simp only [q1] at hm
    cases q2 : escL e1 rs with
    | none => simp [q2] at hm
    | some p2 =>
      obtain ⟨ds, e2⟩ := p2
      simp only [q2, Option.some.injEq, Prod.mk.injEq] at hm
      obtain ⟨rfl, rfl⟩ := hm
      refine kk σ H I env rs e1 _ g q1 fun vs I1 H1 g1 t1 r1 => ?_
      obtain ⟨I2, g2, t2, r2⟩ := escL_ok g1 r1 q2
      refine ⟨?_, fun a ha => ?_⟩
      · rw [r1.length]
        exact Nat.le_trans (hlen _ _ _ q1) (by decide)
      · have al : Al I2 H1 I2 (upd H1 a (.lst vs)) := Al.newH g2.ex ha
        have t12 := t1.trans t2
        have ia : I2 a = none := g2.ex.free ha
        have nf : ¬ Fp σ e2 a := fun ⟨j, o, h1, h2⟩ => by
          obtain ⟨p3, ho3, e3, _, hp3, _⟩ := g2.ok j _ _ h1 h2
          cases e3
          rw [ha] at hp3
          cases hp3
        exact k' a _ _ _ (g2.al al) (t12.trans al.tr) ia upd_same (.lst r2) (t12.back (.inr ha)) nf
/-- a made object frozen at once -/
def eFrz (m : Xf) : Xp := fun env => match m env with
  | none => none
  | some (o, e1) => some (.d (so2d o), e1)
theorem ev_frz {K : PySem.W.Frag} {t : TE} {m : Xf} (kk : FrOk K cl t m) : EvOk K cl t (eFrz m) := by
  intro σ H I env r env' Q g hm k'
  unfold eFrz at hm
  cases q1 : m env with
  | none => simp [q1] at hm
  | some p1 =>
    obtain ⟨o, e1⟩ := p1
    simp only [q1, Option.some.injEq, Prod.mk.injEq] at hm
    obtain ⟨rfl, rfl⟩ := hm
    refine kk σ H I env o e1 _ g q1 fun a ho I1 H1 g1 t1 ia ha so fr nf => ?_
    exact k' _ (upd I1 a ho) H1 (g1.frz ia ha nf) (t1.frzN fr ia) (so.frz ia)
theorem me_frz {m : Xf} (h : MF X cl e m) : ME X cl e (eFrz m) := by
  obtain ⟨t, p, kk⟩ := h
  exact ⟨_, p, ev_frz kk⟩
end
end MP
set_option Elab.async false
set_option linter.all false
set_option maxRecDepth 100000
set_option maxHeartbeats 4000000
namespace MP
open PySem PySem.Spec PyProof.Rows L2

section
variable {X : Cx} {cl : ClM} {R : Nat → Bool} {e a b c tg : Expr} {es : List Expr} {pos : Pos} {m m1 m2 : Xp} {st : Stmt} {sts : List Stmt} {s1 s2 : Xs}
/-! ### blocks -/
theorem FlOk.back {K : PySem.W.Frag} {F F1 : Addr → Prop} {I H I1 H1 : Hp} (t : Tr F I H F1 I1 H1) {Dn : Ends} {σ' : L2.St} {I' H' : Hp} {env' : MEnv} {fl : Fl} (k : FlOk K cl F H Dn σ' I' H' env' fl) : FlOk K cl F1 H1 Dn σ' I' H' env' fl := by
  cases fl with
  | nx => exact k
  | bk => exact k
  | ct => exact k
  | ret r => exact fun v hv => k v (by
      cases r with
      | d d => exact hv
      | o o =>
        obtain ⟨p, ho, e, ip, hp, so, fr, nf⟩ := hv
        exact ⟨p, ho, e, ip, hp, so, t.back fr, nf⟩)
def sNext : Xs := fun env => some (.nx, env)
def sSeq (s1 s2 : Xs) : Xs := fun env => match s1 env with
  | some (.nx, e1) => s2 e1
  | r => r
theorem mss_nil : MSs X cl R [] sNext := ⟨_, pss_nil, fun σ H I env fl env' Dn g hm k => by
  cases Option.some.inj hm
  exact k σ I H g Tr.refl (fun _ _ => rfl)⟩
theorem mss_one (h : MS X cl R st s1) : MSs X cl R [st] s1 := by
  obtain ⟨t, p, k⟩ := h
  exact ⟨_, pss_one p, k⟩
theorem mss_cons (h : MS X cl R st s1) (h2 : MSs X cl R sts s2) : MSs X cl R (st :: sts) (sSeq s1 s2) := by
  obtain ⟨t, p, k⟩ := h
  obtain ⟨u, p2, k2⟩ := h2
  refine ⟨_, pss_cons p p2, fun σ H I env fl env' Dn g hm kk => ?_⟩
  unfold sSeq at hm
  cases q : s1 env with
  | none => simp [q] at hm
  | some pr =>
    obtain ⟨f1, e1⟩ := pr
    refine k σ H I env f1 e1 _ g q fun σ1 I1 H1 g1 t1 r1 => ?_
    cases f1 with
    | nx =>
      simp only [q] at hm
      show u Dn σ1 H1
      exact k2 σ1 H1 I1 e1 fl env' Dn g1 hm fun σ2 I2 H2 g2 t2 r2 => (kk σ2 I2 H2 g2 (t1.trans t2) fun i hi => (r2 i hi).trans (r1 i hi)).back t1
    | bk =>
      simp only [q, Option.some.injEq, Prod.mk.injEq] at hm
      obtain ⟨rfl, rfl⟩ := hm
      exact kk σ1 I1 H1 g1 t1 r1
    | ct =>
      simp only [q, Option.some.injEq, Prod.mk.injEq] at hm
      obtain ⟨rfl, rfl⟩ := hm
      exact kk σ1 I1 H1 g1 t1 r1
    | ret r =>
      simp only [q, Option.some.injEq, Prod.mk.injEq] at hm
      obtain ⟨rfl, rfl⟩ := hm
      exact kk σ1 I1 H1 g1 t1 r1
theorem ms_pass : MS X cl R (.Pass pos) sNext := ⟨_, ps_pass, fun σ H I env fl env' Dn g hm k => by
  cases Option.some.inj hm
  exact k σ I H g Tr.refl (fun _ _ => rfl)⟩
theorem ms_doc {x j pos'} : MS X cl R (.Expr (.Constant (.str x) j pos) pos') sNext := ⟨_, ps_doc, fun σ H I env fl env' Dn g hm k => by
  cases Option.some.inj hm
  exact k σ I H g Tr.refl (fun _ _ => rfl)⟩
def sBrk : Xs := fun env => some (.bk, env)
def sCnt : Xs := fun env => some (.ct, env)
theorem ms_break : MS X cl R (.Break pos) sBrk := ⟨_, ps_break, fun σ H I env fl env' Dn g hm k => by
  cases Option.some.inj hm
  exact k σ I H g Tr.refl (fun _ _ => rfl)⟩
theorem ms_continue : MS X cl R (.Continue pos) sCnt := ⟨_, ps_continue, fun σ H I env fl env' Dn g hm k => by
  cases Option.some.inj hm
  exact k σ I H g Tr.refl (fun _ _ => rfl)⟩
def sIf (t : Xt) (s1 s2 : Xs) : Xs := fun env => match t env with
  | some (true, e1) => s1 e1
  | some (false, e1) => s2 e1
  | none => none
theorem ms_if {t : Xt} {as bs : List Stmt} (hc : MT X cl c t) (ha : MSs X cl R as s1) (hb : MSs X cl R bs s2) : MS X cl R (.If c as bs pos) (sIf t s1 s2) := by
  obtain ⟨tc, pc, kc⟩ := hc
  obtain ⟨ta, pa, ka⟩ := ha
  obtain ⟨tb, pb, kb⟩ := hb
  refine ⟨_, ps_if pc pa pb, fun σ H I env fl env' Dn g hm kk => ?_⟩
  unfold sIf at hm
  cases q : t env with
  | none => simp [q] at hm
  | some pr =>
    obtain ⟨b1, e1⟩ := pr
    refine kc σ H I env b1 e1 _ g q fun I1 H1 g1 t1 => ?_
    cases b1 with
    | true =>
      simp only [q] at hm
      show ta Dn σ H1
      exact ka σ H1 I1 e1 fl env' Dn g1 hm fun σ2 I2 H2 g2 t2 r2 => (kk σ2 I2 H2 g2 (t1.trans t2) r2).back t1
    | false =>
      simp only [q] at hm
      show tb Dn σ H1
      exact kb σ H1 I1 e1 fl env' Dn g1 hm fun σ2 I2 H2 g2 t2 r2 => (kk σ2 I2 H2 g2 (t1.trans t2) r2).back t1
def sExp (m : Xp) : Xs := fun env => match m env with
  | some (_, e1) => some (.nx, e1)
  | none => none
theorem ms_exp (h : ME X cl e m) (hs : swapsWith e none pos.line X.env = pure false := by rfl) : MS X cl R (.Expr e pos) (sExp m) := by
  obtain ⟨t, p, k⟩ := h
  refine ⟨_, ps_expr p hs, fun σ H I env fl env' Dn g hm kk => ?_⟩
  unfold sExp at hm
  cases q : m env with
  | none => simp [q] at hm
  | some pr =>
    obtain ⟨r, e1⟩ := pr
    simp only [q, Option.some.injEq, Prod.mk.injEq] at hm
    obtain ⟨rfl, rfl⟩ := hm
    exact k σ H I env r e1 _ g q fun v I1 H1 g1 t1 r1 => kk σ I1 H1 g1 t1 (fun _ _ => rfl)
def sRet (m : Xp) : Xs := fun env => match m env with
  | none => none
  | some (r, e1) => match esc e1 r with
    | none => none
    | some (d, e2) => some (.ret (.d d), e2)
theorem ms_ret (h : ME X cl e m) : MS X cl R (.Return (some e) pos) (sRet m) := by
  obtain ⟨t, p, k⟩ := h
  refine ⟨_, ps_ret p, fun σ H I env fl env' Dn g hm kk => ?_⟩
  unfold sRet at hm
  cases q : m env with
  | none => simp [q] at hm
  | some pr =>
    obtain ⟨r, e1⟩ := pr
    simp only [q] at hm
    cases q2 : esc e1 r with
    | none => simp [q2] at hm
    | some p2 =>
      obtain ⟨d, e2⟩ := p2
      simp only [q2, Option.some.injEq, Prod.mk.injEq] at hm
      obtain ⟨rfl, rfl⟩ := hm
      refine k σ H I env r e1 _ g q fun v I1 H1 g1 t1 r1 => ?_
      obtain ⟨I2, g2, t2, r2⟩ := esc_ok g1 r1 q2
      exact kk σ I2 H1 g2 (t1.trans t2) (fun _ _ => rfl) v r2
def sRetN : Xs := fun env => some (.ret (.d .non), env)
theorem ms_retN : MS X cl R (.Return none pos) sRetN := ⟨_, ps_retN, fun σ H I env fl env' Dn g hm k => by
  cases Option.some.inj hm
  exact k σ I H g Tr.refl (fun _ _ => rfl) .non .non⟩
def sRetF (m : Xf) : Xs := fun env => match m env with
  | none => none
  | some (o, e1) => some (.ret (.o o), e1)
theorem ms_retF {m : Xf} (h : MF X cl e m) : MS X cl R (.Return (some e) pos) (sRetF m) := by
  obtain ⟨t, p, k⟩ := h
  refine ⟨_, ps_ret p, fun σ H I env fl env' Dn g hm kk => ?_⟩
  unfold sRetF at hm
  cases q : m env with
  | none => simp [q] at hm
  | some pr =>
    obtain ⟨o, e1⟩ := pr
    simp only [q, Option.some.injEq, Prod.mk.injEq] at hm
    obtain ⟨rfl, rfl⟩ := hm
    exact k σ H I env o e1 _ g q fun p ho I1 H1 g1 t1 ip hp so fr nf => kk σ I1 H1 g1 t1 (fun _ _ => rfl) (.ref p) ⟨p, ho, rfl, ip, hp, so, fr, nf⟩
/-- a slot's own object is handed back, the slot is emptied -/
def fMove (i : Nat) : Xf := fun env => match env[i]? with
  | some (.own o) => some (o, env.set i .none)
  | _ => none
theorem mf_move {i : Nat} (h : PE X e (tVar i)) : MF X cl e (fMove i) := by
  refine ⟨_, h, fun σ H I env o env' Q g hm k => ?_⟩
  unfold fMove at hm
  cases q : env[i]? with
  | none => simp [q] at hm
  | some s =>
    have hil : i < env.length := (List.getElem?_eq_some_iff.mp q).1
    have hi : i < σ.length := by
      rw [g.len]
      exact hil
    obtain ⟨ov, hov⟩ : ∃ ov, σ[i]? = some ov := ⟨σ[i], List.getElem?_eq_getElem hi⟩
    have ok := g.ok i s ov q hov
    cases s with
    | none => simp [q] at hm
    | val d => simp [q] at hm
    | own o' =>
      simp only [q, Option.some.injEq, Prod.mk.injEq] at hm
      obtain ⟨rfl, rfl⟩ := hm
      obtain ⟨p, ho, e1, ip, hp, so⟩ := ok
      subst e1
      have own2 : ∀ j o2, (env.set i Slot.none)[j]? = some (.own o2) → i ≠ j ∧ env[j]? = some (.own o2) := fun j o2 hj => by
        have n : i ≠ j := fun z => by
          subst z
          rw [List.getElem?_set] at hj
          simp only [if_true] at hj
          split at hj <;> cases hj
        rw [List.getElem?_set_ne n] at hj
        exact ⟨n, hj⟩
      refine ⟨.ref p, hov, k p ho I H ⟨g.ex, by rw [List.length_set]; exact g.len, fun j s ov h1 h2 => ?_, fun j k' b o1 o2 h1 h2 h3 h4 => g.inj j k' b o1 o2 (own2 j o1 h1).2 (own2 k' o2 h2).2 h3 h4⟩ (Tr.refl.less fun b hb => ?_) ip hp so (.inl ⟨i, _, q, hov⟩) fun hb => ?_⟩
      · by_cases z : i = j
        · subst z
          rw [List.getElem?_set] at h1
          simp only [if_true] at h1
          rw [if_pos hil] at h1
          cases h1
          trivial
        · rw [List.getElem?_set_ne z] at h1
          exact g.ok j s ov h1 h2
      · obtain ⟨j, o1, h1, h2⟩ := hb
        exact ⟨j, o1, (own2 j o1 h1).2, h2⟩
      · obtain ⟨j, o1, h1, h2⟩ := hb
        exact (own2 j o1 h1).1 (g.inj i j p _ _ q (own2 j o1 h1).2 hov h2)

/-! ### targets, assignments -/
def gNm (i : Nat) : Xg := fun d env => if i < env.length then some (env.set i (.val d)) else none
theorem gt_name {K : PySem.W.Frag} {i : Nat} (hR : R i = false) : GtOk K cl R (L2.gName i) (gNm i) := by
  intro σ H I env d env' v Q g r hm k
  unfold gNm at hm
  by_cases hl : i < env.length
  · rw [if_pos hl] at hm
    cases Option.some.inj hm
    refine k (σ.set i (some v)) I H (g.setVal r) (Tr.refl.less fun p h => h.setVal) (fun j hj => ?_) (by rw [List.length_set])
    rw [List.getElem?_set_ne]
    rintro rfl
    rw [hR] at hj
    cases hj
  · rw [if_neg hl] at hm
    cases hm
theorem mg_name {i : Nat} (h : PG X tg (L2.gName i)) (hR : R i = false) : MG X cl R tg (gNm i) := ⟨_, h, gt_name hR⟩
def gsNil : List D → MEnv → Option MEnv := fun ds env => match ds with
  | [] => some env
  | _ => none
def gsCons (g : Xg) (gs : List D → MEnv → Option MEnv) : List D → MEnv → Option MEnv := fun ds env => match ds with
  | d :: r => match g d env with
    | some e1 => gs r e1
    | none => none
  | [] => none
theorem mgs_nil : MGs X cl R [] gsNil := ⟨_, pgs_nil, fun σ H I env ds env' vs Q g r hm k => by
  cases r with
  | nil =>
    cases Option.some.inj hm
    exact ⟨rfl, k σ I H g Tr.refl (fun _ _ => rfl) rfl⟩
  | cons _ _ => cases hm⟩
theorem mgs_cons {g : Xg} {gs : List D → MEnv → Option MEnv} (h1 : MG X cl R e g) (h2 : MGs X cl R es gs) (hs : (assignEach (e :: es) X.env).map (·.2) = assign e X.env :: (assignEach es X.env).map (·.2) := by rfl) : MGs X cl R (e :: es) (gsCons g gs) := by
  obtain ⟨t, p, k⟩ := h1
  obtain ⟨u, p2, k2⟩ := h2
  refine ⟨_, pgs_cons p p2 hs, fun σ H I env ds env' vs Q gd r hm kk => ?_⟩
  cases r with
  | nil => cases hm
  | cons r1 r2 =>
    rename_i v vs d ds
    have hm' : (match g d env with
      | some e1 => gs ds e1
      | none => none) = some env' := hm
    cases q : g d env with
    | none => simp [q] at hm'
    | some e1 =>
      simp only [q] at hm'
      refine ⟨v, vs, rfl, k σ H I env d e1 v _ gd r1 q fun σ1 I1 H1 g1 t1 rr1 ll1 => ?_⟩
      exact k2 σ1 H1 I1 e1 ds env' vs Q g1 (r2.mono t1.ext) hm' fun σ2 I2 H2 g2 t2 rr2 ll2 => kk σ2 I2 H2 g2 (t1.trans t2) (fun i hi => (rr2 i hi).trans (rr1 i hi)) (ll2.trans ll1)
def gTp (n : Nat) (gs : List D → MEnv → Option MEnv) : Xg := fun d env => match d with
  | .tup ds => if ds.length = n then gs ds env else none
  | .ktp ds => if ds.length = n then gs ds env else none
  | _ => none
theorem mg_tup {k n : Nat} {gs : List D → MEnv → Option MEnv} (hc : X.calm = true) (h : MGs X cl R es gs) (hn : (assignEach es X.env).length = n := by rfl) (hst : (assignEach es X.env).findIdx? (·.1) = none := by rfl) : MG X cl R (.Tuple es k pos) (gTp n gs) := by
  obtain ⟨t, p, kk⟩ := h
  refine ⟨_, pg_tup hc p hn hst, fun σ H I env d env' v Q gd r hm k' => ?_⟩
  unfold gTp at hm
  cases d with
  | tup ds =>
    by_cases hl : ds.length = n
    · simp only [hl, if_true] at hm
      cases r with
      | tup s r =>
        rename_i a vs
        exact ⟨a, vs, rfl, (s.mono gd.ex).sq, by rw [r.length]; exact hl, kk σ H I env ds env' vs Q gd r hm k'⟩
    · simp only [hl, if_false] at hm
      cases hm
  | ktp ds =>
    by_cases hl : ds.length = n
    · simp only [hl, if_true] at hm
      cases r with
      | ktp s r =>
        rename_i a vs
        exact ⟨a, vs, rfl, KT.sq s, by rw [r.length]; exact hl, kk σ H I env ds env' vs Q gd r hm k'⟩
    · simp only [hl, if_false] at hm
      cases hm
  | _ => cases hm
def sAsg (m : Xp) (g : Xg) : Xs := fun env => match m env with
  | none => none
  | some (r, e1) => match esc e1 r with
    | none => none
    | some (d, e2) => match g d e2 with
      | none => none
      | some e3 => some (.nx, e3)
theorem st_asg {K : PySem.W.Frag} {te : TE} {tgt : TG} {g : Xg} (k : EvOk K cl te m) (k2 : GtOk K cl R tgt g) : StOk K cl R (L2.tAsg te tgt) (sAsg m g) := by
  intro σ H I env fl env' Dn gd hm kk
  unfold sAsg at hm
  cases q : m env with
  | none => simp [q] at hm
  | some pr =>
    obtain ⟨r, e1⟩ := pr
    simp only [q] at hm
    cases q2 : esc e1 r with
    | none => simp [q2] at hm
    | some p2 =>
      obtain ⟨d, e2⟩ := p2
      simp only [q2] at hm
      cases q3 : g d e2 with
      | none => simp [q3] at hm
      | some e3 =>
        simp only [q3, Option.some.injEq, Prod.mk.injEq] at hm
        obtain ⟨rfl, rfl⟩ := hm
        refine k σ H I env r e1 _ gd q fun v I1 H1 g1 t1 r1 => ?_
        obtain ⟨I2, g2, t2, r2⟩ := esc_ok g1 r1 q2
        exact k2 σ H1 I2 e2 d _ v _ g2 r2 q3 fun σ3 I3 H3 g3 t3 rr3 _ => kk σ3 I3 H3 g3 ((t1.trans t2).trans t3) rr3
theorem ms_asg {g : Xg} (h : ME X cl e m) (hg : MG X cl R tg g) (hp : ∀ te g, PE X e te → PG X tg g → PS X st (L2.tAsg te g)) : MS X cl R st (sAsg m g) := by
  obtain ⟨t, p, k⟩ := h
  obtain ⟨u, p2, k2⟩ := hg
  exact ⟨_, hp t u p p2, st_asg k k2⟩
/-- x = e, x in slot i: by the rule's own theorem -/
theorem ms_set {i : Nat} (h : ME X cl e m) (hp : ∀ te, PE X e te → PS X st (L2.tAsg te (L2.gName i))) (hR : R i = false) : MS X cl R st (sAsg m (gNm i)) := by
  obtain ⟨t, p, k⟩ := h
  exact ⟨_, hp t p, st_asg k (gt_name hR)⟩
def sOwn (m : Xf) (i : Nat) : Xs := fun env => match m env with
  | none => none
  | some (o, e1) => if i < e1.length then some (.nx, e1.set i (.own o)) else none
theorem Gd.setOwn {K : PySem.W.Frag} {I H : Hp} {σ : L2.St} {env : MEnv} {i : Nat} {p : Addr} {ho : HO} {o : SO} (g : Gd K cl I H σ env) (ip : I p = none) (hp : H p = some ho) (so : SoOk K cl I p ho o) (nf : ¬ Fp σ env p) :
    Gd K cl I H (σ.set i (some (.ref p))) (env.set i (.own o)) := by
  have back : ∀ j o2, (env.set i (.own o))[j]? = some (.own o2) → i ≠ j → env[j]? = some (.own o2) := fun j o2 hj n => by
    rw [List.getElem?_set_ne n] at hj
    exact hj
  refine ⟨g.ex, by rw [List.length_set, List.length_set]; exact g.len, fun j s ov h1 h2 => ?_, fun j k b o1 o2 h1 h2 h3 h4 => ?_⟩
  · by_cases e : i = j
    · subst e
      rw [List.getElem?_set] at h1 h2
      simp only [if_true] at h1 h2
      by_cases hl : i < env.length
      · rw [if_pos hl] at h1
        rw [if_pos (by rw [g.len]; exact hl)] at h2
        cases h1
        cases h2
        exact ⟨p, ho, rfl, ip, hp, so⟩
      · rw [if_neg hl] at h1
        cases h1
    · rw [List.getElem?_set_ne e] at h1 h2
      exact g.ok j s ov h1 h2
  · have atp : ∀ j, i = j → (σ.set i (some (V.ref p)))[j]? = some (some (.ref b)) → b = p := fun j z h => by
      subst z
      rw [List.getElem?_set] at h
      simp only [if_true] at h
      split at h
      · cases h
        rfl
      · cases h
    by_cases e1 : i = j
    · by_cases e2 : i = k
      · exact e1.symm.trans e2
      · have eb := atp j e1 h3
        subst eb
        rw [List.getElem?_set_ne e2] at h4
        exact absurd ⟨k, o2, back k o2 h2 e2, h4⟩ nf
    · by_cases e2 : i = k
      · have eb := atp k e2 h4
        subst eb
        rw [List.getElem?_set_ne e1] at h3
        exact absurd ⟨j, o1, back j o1 h1 e1, h3⟩ nf
      · rw [List.getElem?_set_ne e1] at h3
        rw [List.getElem?_set_ne e2] at h4
        exact g.inj j k b o1 o2 (back j o1 h1 e1) (back k o2 h2 e2) h3 h4
theorem Fp.setOwn {σ : L2.St} {env : MEnv} {i : Nat} {p b : Addr} {o : SO} (h : Fp (σ.set i (some (.ref p))) (env.set i (.own o)) b) : Fp σ env b ∨ b = p := by
  obtain ⟨j, o1, h1, h2⟩ := h
  by_cases e : i = j
  · subst e
    rw [List.getElem?_set] at h2
    simp only [if_true] at h2
    split at h2
    · cases h2
      exact .inr rfl
    · cases h2
  · rw [List.getElem?_set_ne e] at h1 h2
    exact .inl ⟨j, o1, h1, h2⟩
theorem st_own {K : PySem.W.Frag} {te : TE} {i : Nat} {m : Xf} (k : FrOk K cl te m) (hR : R i = false) : StOk K cl R (L2.tAsg te (L2.gName i)) (sOwn m i) := by
  intro σ H I env fl env' Dn g hm kk
  unfold sOwn at hm
  cases q : m env with
  | none => simp [q] at hm
  | some pr =>
    obtain ⟨o, e1⟩ := pr
    simp only [q] at hm
    by_cases hl : i < e1.length
    · rw [if_pos hl] at hm
      simp only [Option.some.injEq, Prod.mk.injEq] at hm
      obtain ⟨rfl, rfl⟩ := hm
      refine k σ H I env o e1 _ g q fun a ho I1 H1 g1 t1 ia ha so fr nf => ?_
      refine kk _ I1 H1 (g1.setOwn ia ha so nf) ⟨t1.ext, t1.frame, t1.nofr, fun b hb => ?_, t1.dom⟩ fun j hj => ?_
      · rcases Fp.setOwn hb with h | rfl
        · exact t1.fp b h
        · exact fr
      · show (σ.set i (some (.ref a)))[j]? = σ[j]?
        rw [List.getElem?_set_ne]
        rintro rfl
        rw [hR] at hj
        cases hj
    · rw [if_neg hl] at hm
      cases hm
theorem ms_setO {i : Nat} {m : Xf} (h : MF X cl e m) (hp : ∀ te, PE X e te → PS X st (L2.tAsg te (L2.gName i))) (hR : R i = false) : MS X cl R st (sOwn m i) := by
  obtain ⟨t, p, k⟩ := h
  exact ⟨_, hp t p, st_own k hR⟩

/-! ### while -/
def sWhile : Nat → Xt → Xs → Xs
  | 0, _, _ => fun _ => none
  | n + 1, t, s => fun env => match t env with
    | none => none
    | some (false, e1) => some (.nx, e1)
    | some (true, e1) => match s e1 with
      | none => none
      | some (.nx, e2) => sWhile n t s e2
      | some (.ct, e2) => sWhile n t s e2
      | some (.bk, e2) => some (.nx, e2)
      | some (.ret r, e2) => some (.ret r, e2)
theorem ms_while {t : Xt} {n : Nat} {body : List Stmt} (hp : PassesOwn (model X.prog X.w) X.A X.env X.xe) (hc : MT X cl c t) (hb : MSs X cl R body s1) : MS X cl R (.While c body [] pos) (sWhile n t s1) := by
  obtain ⟨tc, pc, kc⟩ := hc
  obtain ⟨tb, pb, kb⟩ := hb
  refine ⟨_, ps_while hp pc pb, fun σ H I env fl env' Dn g hm kk => ?_⟩
  refine ⟨fun j σ2 H2 => ∃ I2 env2, Gd X.K cl I2 H2 σ2 env2 ∧ Tr (Fp σ env) I H (Fp σ2 env2) I2 H2 ∧ (∀ i, R i = true → σ2[i]? = σ[i]?) ∧ sWhile j t s1 env2 = some (fl, env'), ⟨n, I, env, g, Tr.refl, fun _ _ => rfl, hm⟩, fun j σ2 H2 ⟨I2, env2, g2, t2, r2, hw⟩ => ?_⟩
  cases j with
  | zero => cases hw
  | succ j =>
    unfold sWhile at hw
    cases q : t env2 with
    | none => simp [q] at hw
    | some pr =>
      obtain ⟨b1, e1⟩ := pr
      refine kc σ2 H2 I2 env2 b1 e1 _ g2 q fun I3 H3 g3 t3 => ?_
      cases b1 with
      | false =>
        simp only [q, Option.some.injEq, Prod.mk.injEq] at hw
        obtain ⟨rfl, rfl⟩ := hw
        exact kk σ2 I3 H3 g3 (t2.trans t3) r2
      | true =>
        simp only [q] at hw
        have t23 := t2.trans t3
        refine ⟨fun σ4 H4 => ∃ I4 env4, Gd X.K cl I4 H4 σ4 env4 ∧ Tr (Fp σ env) I H (Fp σ4 env4) I4 H4 ∧ (∀ i, R i = true → σ4[i]? = σ[i]?) ∧ sWhile j t s1 env4 = some (fl, env'), fun σ4 H4 h4 => ⟨j, Nat.lt_succ_self j, h4⟩, ?_⟩
        cases q2 : s1 e1 with
        | none => simp [q2] at hw
        | some pr2 =>
          obtain ⟨f2, e2⟩ := pr2
          refine kb σ2 H3 I3 e1 f2 e2 _ g3 q2 fun σ5 I5 H5 g5 t5 r5 => ?_
          have r25 : ∀ i, R i = true → σ5[i]? = σ[i]? := fun i hi => (r5 i hi).trans (r2 i hi)
          cases f2 with
          | nx =>
            simp only [q2] at hw
            exact ⟨I5, e2, g5, t23.trans t5, r25, hw⟩
          | ct =>
            simp only [q2] at hw
            exact ⟨I5, e2, g5, t23.trans t5, r25, hw⟩
          | bk =>
            simp only [q2, Option.some.injEq, Prod.mk.injEq] at hw
            obtain ⟨rfl, rfl⟩ := hw
            exact kk σ5 I5 H5 g5 (t23.trans t5) r25
          | ret r =>
            simp only [q2, Option.some.injEq, Prod.mk.injEq] at hw
            obtain ⟨rfl, rfl⟩ := hw
            exact (kk σ5 I5 H5 g5 (t23.trans t5) r25 : FlOk X.K cl (Fp σ env) H Dn σ5 I5 H5 e2 (.ret r)).back t23

/-! ### for -/
def sLoop (g : Xg) (s : Xs) : List D → Xs
  | [] => fun env => some (.nx, env)
  | d :: ds => fun env => match g d env with
    | none => none
    | some e1 => match s e1 with
      | none => none
      | some (.nx, e2) => sLoop g s ds e2
      | some (.ct, e2) => sLoop g s ds e2
      | some (.bk, e2) => some (.nx, e2)
      | some (.ret r, e2) => some (.ret r, e2)
def sFor (mi : Xi) (g : Xg) (s : Xs) : Xs := fun env => match mi env with
  | none => none
  | some (ds, e1) => sLoop g s ds e1
theorem ms_for {mi : Xi} {g : Xg} {iter : Expr} {body : List Stmt} (hp : PassesOwn (model X.prog X.w) X.A X.env X.xe) (hc : X.calm = true) (hi : MI X cl tg iter mi) (hg : MG X cl R tg g) (hb : MSs X cl R body s1)
    (hs : ∀ x, foldedSetIterable iter X.env x = pure x := by intro _; rfl) : MS X cl R (.For tg iter body [] pos) (sFor mi g s1) := by
  obtain ⟨wi, pi, ki⟩ := hi
  obtain ⟨tgt, pg, kg⟩ := hg
  obtain ⟨tb, pb, kb⟩ := hb
  refine ⟨_, ps_for hp hc pi pg pb hs, fun σ H I env fl env' Dn gd hm kk => ?_⟩
  unfold sFor at hm
  cases q : mi env with
  | none => simp [q] at hm
  | some pr =>
    obtain ⟨ds, e1⟩ := pr
    simp only [q] at hm
    refine ki σ H I env ds e1 _ gd q fun J I1 H1 g1 t1 it => ?_
    refine ⟨fun i j σ2 H2 => j = ds.length - i ∧ ∃ I2 env2, Gd X.K cl I2 H2 σ2 env2 ∧ Tr (Fp σ env) I H (Fp σ2 env2) I2 H2 ∧ Same I1 I2 ∧ (∀ i, R i = true → σ2[i]? = σ[i]?) ∧ sLoop g s1 (ds.drop i) env2 = some (fl, env'),
      ⟨ds.length, rfl, I1, e1, g1, t1, Same.refl _, fun _ _ => rfl, hm⟩, fun i j σ2 H2 ⟨hj, I2, env2, g2, t2, s12, r2, hw⟩ => ?_⟩
    obtain ⟨hstop, hgo⟩ := it i I2 H2 s12 g2.ex
    cases hd : ds[i]? with
    | none =>
      have hle : ds.length ≤ i := List.getElem?_eq_none_iff.mp hd
      rw [List.drop_eq_nil_of_le hle] at hw
      simp only [sLoop, Option.some.injEq, Prod.mk.injEq] at hw
      obtain ⟨rfl, rfl⟩ := hw
      exact .inl ⟨hstop hd, kk σ2 I2 H2 g2 t2 r2⟩
    | some d =>
      have hlt : i < ds.length := (List.getElem?_eq_some_iff.mp hd).1
      have edr : ds.drop i = d :: ds.drop (i + 1) := by
        rw [List.drop_eq_getElem_cons hlt]
        congr 1
        exact (List.getElem?_eq_some_iff.mp hd).2
      rw [edr] at hw
      obtain ⟨go, yld⟩ := hgo d hd
      refine .inr ⟨go, fun σ4 H4 => ∃ I4 env4, Gd X.K cl I4 H4 σ4 env4 ∧ Tr (Fp σ env) I H (Fp σ4 env4) I4 H4 ∧ Same I1 I4 ∧ (∀ i, R i = true → σ4[i]? = σ[i]?) ∧ sLoop g s1 (ds.drop (i + 1)) env4 = some (fl, env'), fun σ4 H4 h4 => ⟨ds.length - (i + 1), by omega, rfl, h4⟩, fun v H3 hy => ?_⟩
      obtain ⟨I3, al, rv⟩ := yld v H3 hy
      have g3 := g2.al al
      have t3 := t2.trans (al.tr (F := Fp σ2 env2))
      unfold sLoop at hw
      cases q3 : g d env2 with
      | none => simp [q3] at hw
      | some e3 =>
        simp only [q3] at hw
        refine kg σ2 H3 I3 env2 d e3 v _ g3 rv q3 fun σ4 I4 H4 g4 t4 r4 _ => ?_
        have t34 := t3.trans t4
        have s14 : Same I1 I4 := (s12.trans al.ext).trans t4.ext
        have r24 : ∀ i, R i = true → σ4[i]? = σ[i]? := fun i hi => (r4 i hi).trans (r2 i hi)
        cases q4 : s1 e3 with
        | none => simp [q4] at hw
        | some pr4 =>
          obtain ⟨f4, e4⟩ := pr4
          refine kb σ4 H4 I4 e3 f4 e4 _ g4 q4 fun σ5 I5 H5 g5 t5 r5 => ?_
          have r25 : ∀ i, R i = true → σ5[i]? = σ[i]? := fun i hi => (r5 i hi).trans (r24 i hi)
          cases f4 with
          | nx =>
            simp only [q4] at hw
            exact ⟨I5, e4, g5, t34.trans t5, s14.trans t5.ext, r25, hw⟩
          | ct =>
            simp only [q4] at hw
            exact ⟨I5, e4, g5, t34.trans t5, s14.trans t5.ext, r25, hw⟩
          | bk =>
            simp only [q4, Option.some.injEq, Prod.mk.injEq] at hw
            obtain ⟨rfl, rfl⟩ := hw
            exact kk σ5 I5 H5 g5 (t34.trans t5) r25
          | ret r =>
            simp only [q4, Option.some.injEq, Prod.mk.injEq] at hw
            obtain ⟨rfl, rfl⟩ := hw
            exact (kk σ5 I5 H5 g5 (t34.trans t5) r25 : FlOk X.K cl (Fp σ env) H Dn σ5 I5 H5 e4 (.ret r)).back t34

/-! ### what is walked -/
/-- a list or a tuple; a slot's own list is frozen -/
def iSeq (m : Xp) : Xi := fun env => match m env with
  | none => none
  | some (r, e1) => match esc e1 r with
    | some (.lst ds, e2) => some (ds, e2)
    | _ => none
def iTupl (m : Xp) : Xi := fun env => match m env with
  | none => none
  | some (r, e1) => match esc e1 r with
    | some (.tup ds, e2) => some (ds, e2)
    | _ => none
theorem itl_ok {K : PySem.W.Frag} {I : Hp} {a : Addr} {vs : List V} {ds : List D} (hs : SqL K I a vs) (hr : RpA K cl I vs ds) : ItOk K cl I (Itl K a) ds := by
  intro i I1 H1 s1 s2
  have hs1 : SqL K H1 a vs := (s1.trans s2).seq hs
  refine ⟨fun hn => ⟨vs, hs1, ?_⟩, fun d hd => ?_⟩
  · rw [hr.length]
    exact List.getElem?_eq_none_iff.mp hn
  · obtain ⟨v, hv, rv⟩ := hr.get hd
    refine ⟨⟨vs, v, hs1, hv⟩, fun x H2 ⟨e1, e2⟩ => ?_⟩
    subst e1
    have e3 := e2 vs hs1
    rw [hv] at e3
    cases e3
    exact ⟨I1, Al.refl s2, rv.mono s1⟩
theorem itt_ok {K : PySem.W.Frag} {I : Hp} {a : Addr} {vs : List V} {ds : List D} (hs : SqT K I a vs) (hr : RpA K cl I vs ds) : ItOk K cl I (Itt K a) ds := by
  intro i I1 H1 s1 s2
  have hs1 : SqT K H1 a vs := same_t (s1.trans s2) hs
  refine ⟨fun hn => ⟨vs, hs1, ?_⟩, fun d hd => ?_⟩
  · rw [hr.length]
    exact List.getElem?_eq_none_iff.mp hn
  · obtain ⟨v, hv, rv⟩ := hr.get hd
    refine ⟨⟨vs, v, hs1, hv⟩, fun x H2 ⟨e1, e2⟩ => ?_⟩
    subst e1
    have e3 := e2 vs hs1
    rw [hv] at e3
    cases e3
    exact ⟨I1, Al.refl s2, rv.mono s1⟩
theorem mi_list (h : ME X cl e m) : MI X cl tg e (iSeq m) := by
  obtain ⟨t, p, k⟩ := h
  refine ⟨_, pi_list p, fun σ H I env ds env' Rr g hm kk => ?_⟩
  unfold iSeq at hm
  cases q : m env with
  | none => simp [q] at hm
  | some pr =>
    obtain ⟨r, e1⟩ := pr
    simp only [q] at hm
    cases q2 : esc e1 r with
    | none => simp [q2] at hm
    | some p2 =>
      obtain ⟨d, e2⟩ := p2
      cases d with
      | lst ds' =>
        simp only [q2, Option.some.injEq, Prod.mk.injEq] at hm
        obtain ⟨rfl, rfl⟩ := hm
        refine k σ H I env r e1 _ g q fun v I1 H1 g1 t1 r1 => ?_
        obtain ⟨I2, g2, t2, r2⟩ := esc_ok g1 r1 q2
        cases r2 with
        | lst hs hr => exact ⟨_, rfl, ⟨_, SqL.of (g2.ex _ _ hs)⟩, kk _ I2 H1 g2 (t1.trans t2) (itl_ok (SqL.of hs) hr)⟩
      | _ => simp [q2] at hm
theorem mi_tuple (h : ME X cl e m) : MI X cl tg e (iTupl m) := by
  obtain ⟨t, p, k⟩ := h
  refine ⟨_, pi_tup p, fun σ H I env ds env' Rr g hm kk => ?_⟩
  unfold iTupl at hm
  cases q : m env with
  | none => simp [q] at hm
  | some pr =>
    obtain ⟨r, e1⟩ := pr
    simp only [q] at hm
    cases q2 : esc e1 r with
    | none => simp [q2] at hm
    | some p2 =>
      obtain ⟨d, e2⟩ := p2
      cases d with
      | tup ds' =>
        simp only [q2, Option.some.injEq, Prod.mk.injEq] at hm
        obtain ⟨rfl, rfl⟩ := hm
        refine k σ H I env r e1 _ g q fun v I1 H1 g1 t1 r1 => ?_
        obtain ⟨I2, g2, t2, r2⟩ := esc_ok g1 r1 q2
        cases r2 with
        | tup hs hr => exact ⟨_, rfl, ⟨_, (hs.mono g2.ex).sq⟩, kk _ I2 H1 g2 (t1.trans t2) (itt_ok (hs.sq) hr)⟩
      | _ => simp [q2] at hm
def rgD (lo : Int) (n : Nat) : List D := (List.range n).map fun (i : Nat) => D.int (lo + (i : Nat))
theorem rgD_get {lo : Int} {n i : Nat} : (rgD lo n)[i]? = if i < n then some (D.int (lo + (i : Nat))) else none := by
  unfold rgD
  rw [List.getElem?_map]
  by_cases h : i < n
  · rw [List.getElem?_range h, if_pos h]
    rfl
  · rw [if_neg h, List.getElem?_eq_none_iff.mpr (by rw [List.length_range]; omega)]
    rfl
theorem itr_ok {K : PySem.W.Frag} {I : Hp} {lo : Int} {n : Nat} : ItOk K cl I (Itr lo n) (rgD lo n) := by
  intro i I1 H1 s1 s2
  rw [rgD_get]
  by_cases h : i < n
  · rw [if_pos h]
    refine ⟨fun z => (nomatch z), fun d hd => ⟨h, fun v H2 ⟨e1, e2⟩ => ?_⟩⟩
    subst e1
    subst e2
    cases hd
    exact ⟨I1, Al.refl s2, .int _⟩
  · rw [if_neg h]
    exact ⟨fun _ => Nat.le_of_not_lt h, fun d hd => nomatch hd⟩
def okR : Int → Bool
  | .ofNat n => Nat.ble n 4611686018427387903
  | .negSucc n => Nat.ble n 4611686018427387903
theorem okR_ok {i : Int} (h : okR i = true) : -(2 ^ 62) ≤ i ∧ i < 2 ^ 62 := by
  cases i with
  | ofNat n =>
    have := Nat.le_of_ble_eq_true h
    rw [Int.ofNat_eq_natCast]
    omega
  | negSucc n =>
    have := Nat.le_of_ble_eq_true h
    rw [Int.negSucc_eq]
    omega
theorem okR_of {i : Int} (h : -(2 ^ 62) ≤ i ∧ i < 2 ^ 62) : okR i = true := by
  cases i with
  | ofNat n =>
    rw [Int.ofNat_eq_natCast] at h
    exact Nat.ble_eq_true_of_le (by omega)
  | negSucc n =>
    rw [Int.negSucc_eq] at h
    exact Nat.ble_eq_true_of_le (by omega)
def iR1 (ms : Xa) : Xi := fun env => match ms env with
  | some ([r], e1) => match vw e1 r with
    | some (.int j) => if okR j then some (rgD 0 j.toNat, e1) else none
    | _ => none
  | _ => none
def iR2 (ms : Xa) : Xi := fun env => match ms env with
  | some ([r, r'], e1) => match vw e1 r, vw e1 r' with
    | some (.int i), some (.int j) => if okR i && okR j then some (rgD i (j - i).toNat, e1) else none
    | _, _ => none
  | _ => none
theorem mi_r1 {ms : Xa} (h : MA X cl [a] ms) (hp : ∀ ta, PA X [a] ta → PI X tg e (iRng1 ta)) : MI X cl tg e (iR1 ms) := by
  obtain ⟨t, p, k⟩ := h
  refine ⟨_, hp t p, fun σ H I env ds env' Rr g hm kk => ?_⟩
  unfold iR1 at hm
  cases q : ms env with
  | none => simp [q] at hm
  | some pr =>
    obtain ⟨rs, e1⟩ := pr
    rcases rs with _ | ⟨r, _ | ⟨r', rs⟩⟩
    · simp [q] at hm
    · simp only [q] at hm
      cases q2 : vw e1 r with
      | none => simp [q2] at hm
      | some d =>
        cases d with
        | int j =>
          simp only [q2] at hm
          by_cases ok : okR j = true
          · rw [if_pos ok] at hm
            simp only [Option.some.injEq, Prod.mk.injEq] at hm
            obtain ⟨rfl, rfl⟩ := hm
            refine k σ H I env [r] e1 _ g q fun vs I1 H1 g1 t1 r1 => ?_
            cases r1 with
            | cons rv rn =>
              cases rn
              have ev := (vw_ok g1 rv q2).int
              subst ev
              exact ⟨j, rfl, (okR_ok ok).1, (okR_ok ok).2, kk _ I1 H1 g1 t1 itr_ok⟩
          · rw [if_neg ok] at hm
            cases hm
        | _ => simp [q2] at hm
    · simp [q] at hm
theorem mi_r2 {ms : Xa} (h : MA X cl [a, b] ms) (hp : ∀ ta, PA X [a, b] ta → PI X tg e (iRng2 ta)) : MI X cl tg e (iR2 ms) := by
  obtain ⟨t, p, k⟩ := h
  refine ⟨_, hp t p, fun σ H I env ds env' Rr g hm kk => ?_⟩
  unfold iR2 at hm
  cases q : ms env with
  | none => simp [q] at hm
  | some pr =>
    obtain ⟨rs, e1⟩ := pr
    rcases rs with _ | ⟨r, _ | ⟨r', _ | ⟨r2, rs⟩⟩⟩
    · simp [q] at hm
    · simp [q] at hm
    · simp only [q] at hm
      cases q2 : vw e1 r with
      | none => simp [q2] at hm
      | some d =>
        cases d with
        | int i =>
          cases q3 : vw e1 r' with
          | none => simp [q2, q3] at hm
          | some d' =>
            cases d' with
            | int j =>
              simp only [q2, q3] at hm
              by_cases ok : (okR i && okR j) = true
              · rw [if_pos ok] at hm
                simp only [Option.some.injEq, Prod.mk.injEq] at hm
                obtain ⟨rfl, rfl⟩ := hm
                rw [Bool.and_eq_true] at ok
                refine k σ H I env [r, r'] e1 _ g q fun vs I1 H1 g1 t1 r1 => ?_
                cases r1 with
                | cons rv rn =>
                  cases rn with
                  | cons rv2 rn2 =>
                    cases rn2
                    have ev := (vw_ok g1 rv q2).int
                    have ev2 := (vw_ok g1 rv2 q3).int
                    subst ev
                    subst ev2
                    exact ⟨i, j, rfl, ⟨(okR_ok ok.1).1, (okR_ok ok.1).2, (okR_ok ok.2).1, (okR_ok ok.2).2⟩, kk _ I1 H1 g1 t1 itr_ok⟩
              · rw [if_neg ok] at hm
                cases hm
            | _ => simp [q2, q3] at hm
        | _ => simp [q2] at hm
    · simp [q] at hm
end
end MP
set_option Elab.async false
set_option linter.all false
set_option maxRecDepth 100000
set_option maxHeartbeats 4000000
namespace MP
open PySem PySem.Spec PyProof.Rows L2

/-! ### wiping slots -/
def wipeE (env : MEnv) : List Nat → MEnv
  | [] => env
  | v :: vs => (wipeE env vs).set v .none
def restE (env0 env : MEnv) : List Nat → MEnv
  | [] => env
  | v :: vs => (restE env0 env vs).set v (env0.getD v .none)
theorem wipeE_len (env : MEnv) : ∀ vs, (wipeE env vs).length = env.length
  | [] => rfl
  | v :: vs => by
    unfold wipeE
    rw [List.length_set, wipeE_len env vs]
theorem restE_len (env0 env : MEnv) : ∀ vs, (restE env0 env vs).length = env.length
  | [] => rfl
  | v :: vs => by
    unfold restE
    rw [List.length_set, restE_len env0 env vs]
theorem wipeE_in {env : MEnv} {i : Nat} : ∀ {vs : List Nat}, i ∈ vs → ∀ s, (wipeE env vs)[i]? = some s → s = .none
  | v :: vs, h, s, e => by
    unfold wipeE at e
    by_cases z : v = i
    · subst z
      rw [List.getElem?_set] at e
      simp only [if_true] at e
      split at e
      · cases e
        rfl
      · cases e
    · rw [List.getElem?_set_ne z] at e
      rcases List.mem_cons.mp h with rfl | h
      · exact absurd rfl z
      · exact wipeE_in h s e
theorem wipeE_out {env : MEnv} {i : Nat} : ∀ {vs : List Nat}, i ∉ vs → (wipeE env vs)[i]? = env[i]?
  | [], _ => rfl
  | v :: vs, h => by
    unfold wipeE
    rw [List.getElem?_set_ne (fun z => h (by rw [z]; exact List.mem_cons_self)), wipeE_out fun z => h (List.mem_cons_of_mem _ z)]
theorem restE_in {env0 env : MEnv} {i : Nat} : ∀ {vs : List Nat}, i ∈ vs → ∀ s, (restE env0 env vs)[i]? = some s → s = env0.getD i .none
  | v :: vs, h, s, e => by
    unfold restE at e
    by_cases z : v = i
    · subst z
      rw [List.getElem?_set] at e
      simp only [if_true] at e
      split at e
      · cases e
        rfl
      · cases e
    · rw [List.getElem?_set_ne z] at e
      rcases List.mem_cons.mp h with rfl | h
      · exact absurd rfl z
      · exact restE_in h s e
theorem restE_out {env0 env : MEnv} {i : Nat} : ∀ {vs : List Nat}, i ∉ vs → (restE env0 env vs)[i]? = env[i]?
  | [], _ => rfl
  | v :: vs, h => by
    unfold restE
    rw [List.getElem?_set_ne (fun z => h (by rw [z]; exact List.mem_cons_self)), restE_out fun z => h (List.mem_cons_of_mem _ z)]
theorem wipe_out {σ : L2.St} {i : Nat} : ∀ {vs : List Nat}, i ∉ vs → (wipe σ vs)[i]? = σ[i]?
  | [], _ => rfl
  | v :: vs, h => by
    unfold wipe
    rw [List.getElem?_set_ne (fun z => h (by rw [z]; exact List.mem_cons_self)), wipe_out fun z => h (List.mem_cons_of_mem _ z)]
theorem wipe_in {σ : L2.St} {i : Nat} : ∀ {vs : List Nat}, i ∈ vs → (wipe σ vs)[i]? = (σ[i]?).map fun _ => none
  | v :: vs, h => by
    unfold wipe
    by_cases z : v = i
    · subst z
      rw [List.getElem?_set]
      simp only [if_true, wipe_length]
      by_cases hl : v < σ.length
      · rw [if_pos hl, List.getElem?_eq_getElem hl]
        rfl
      · rw [if_neg hl, List.getElem?_eq_none_iff.mpr (Nat.le_of_not_lt hl)]
        rfl
    · rw [List.getElem?_set_ne z]
      rcases List.mem_cons.mp h with rfl | h
      · exact absurd rfl z
      · exact wipe_in h
theorem wipe_eq {σ σ' : L2.St} {vs : List Nat} (hl : σ'.length = σ.length) (h : ∀ i, i ∉ vs → σ'[i]? = σ[i]?) : wipe σ' vs = wipe σ vs := by
  apply List.ext_getElem?
  intro i
  by_cases hi : i ∈ vs
  · rw [wipe_in hi, wipe_in hi]
    by_cases z : i < σ.length
    · rw [List.getElem?_eq_getElem z, List.getElem?_eq_getElem (by omega)]
      rfl
    · rw [List.getElem?_eq_none_iff.mpr (by omega), List.getElem?_eq_none_iff.mpr (by omega)]
  · rw [wipe_out hi, wipe_out hi, h i hi]
def notIn (vs : List Nat) (i : Nat) : Bool := !vs.contains i
theorem notIn_t {vs : List Nat} {i : Nat} (h : i ∉ vs) : notIn vs i = true := by
  unfold notIn
  cases q : vs.contains i with
  | false => rfl
  | true => exact absurd (List.contains_iff_mem.mp q) h
section
variable {K : PySem.W.Frag} {cl : ClM} {I I' H H' : Hp} {σ : L2.St} {env env' : MEnv} {vs : List Nat}
theorem Gd.wipe (g : Gd K cl I H σ env) : Gd K cl I H (wipe σ vs) (wipeE env vs) := by
  have up : ∀ (i : Nat) (o : SO), (wipeE env vs)[i]? = some (.own o) → i ∉ vs ∧ env[i]? = some (.own o) := fun i o h => by
    by_cases z : i ∈ vs
    · exact nomatch (wipeE_in z _ h)
    · exact ⟨z, by rw [← wipeE_out z]; exact h⟩
  refine ⟨g.ex, by rw [wipe_length, wipeE_len]; exact g.len, fun i s ov h1 h2 => ?_, fun i j p o o' h1 h2 h3 h4 => ?_⟩
  · by_cases z : i ∈ vs
    · rw [wipeE_in z s h1]
      trivial
    · rw [wipeE_out z] at h1
      rw [wipe_out z] at h2
      exact g.ok i s ov h1 h2
  · obtain ⟨n1, e1⟩ := up i o h1
    obtain ⟨n2, e2⟩ := up j o' h2
    rw [wipe_out n1] at h3
    rw [wipe_out n2] at h4
    exact g.inj i j p o o' e1 e2 h3 h4
theorem Fp.wipe {p : Addr} (h : Fp (wipe σ vs) (wipeE env vs) p) : Fp σ env p := by
  obtain ⟨i, o, h1, h2⟩ := h
  have z : i ∉ vs := fun z => nomatch (wipeE_in z _ h1)
  rw [wipeE_out z] at h1
  rw [wipe_out z] at h2
  exact ⟨i, o, h1, h2⟩
/-- no slot of vs owns anything -/
def okW (env : MEnv) : List Nat → Bool
  | [] => true
  | v :: vs => (match env[v]? with | some (.own _) => false | _ => true) && okW env vs
theorem okW_no : ∀ {vs : List Nat}, okW env vs = true → ∀ i ∈ vs, ∀ o, env[i]? ≠ some (.own o)
  | v :: vs, h, i, hi, o => fun e => by
    unfold okW at h
    rw [Bool.and_eq_true] at h
    rcases List.mem_cons.mp hi with rfl | hi
    · rw [e] at h
      exact absurd h.1 Bool.false_ne_true
    · exact okW_no h.2 i hi o e
theorem Fp.unwipe {p : Addr} (ok : okW env vs = true) (h : Fp σ env p) : Fp (L2.wipe σ vs) (wipeE env vs) p := by
  obtain ⟨i, o, h1, h2⟩ := h
  have z : i ∉ vs := fun z => okW_no ok i z o h1
  exact ⟨i, o, by rw [wipeE_out z]; exact h1, by rw [wipe_out z]; exact h2⟩
theorem Gd.rest {env0 : MEnv} {I0 H0 : Hp} (g0 : Gd K cl I0 H0 σ env0) (ok : okW env0 vs = true) (e : Same I0 I) (g : Gd K cl I H (L2.wipe σ vs) env) : Gd K cl I H σ (restE env0 env vs) := by
  have up : ∀ (i : Nat) (o : SO), (restE env0 env vs)[i]? = some (.own o) → i ∉ vs ∧ env[i]? = some (.own o) := fun i o h => by
    by_cases z : i ∈ vs
    · have q := restE_in z _ h
      exfalso
      rw [List.getD_eq_getElem?_getD] at q
      cases q2 : env0[i]? with
      | none => rw [q2] at q; exact nomatch q
      | some s =>
        rw [q2] at q
        have q' : Slot.own o = s := q
        subst q'
        exact okW_no ok i z o q2
    · exact ⟨z, by rw [← restE_out z]; exact h⟩
  have hl : σ.length = env.length := by
    have := g.len
    rw [wipe_length] at this
    exact this
  refine ⟨g.ex, by rw [restE_len]; exact hl, fun i s ov h1 h2 => ?_, fun i j p o o' h1 h2 h3 h4 => ?_⟩
  · by_cases z : i ∈ vs
    · have q := restE_in z _ h1
      rw [List.getD_eq_getElem?_getD] at q
      cases q2 : env0[i]? with
      | none =>
        rw [q2] at q
        subst q
        trivial
      | some s0 =>
        rw [q2] at q
        have q' : s = s0 := q
        subst q'
        have ok0 := g0.ok i s ov q2 h2
        cases s with
        | none => trivial
        | val d =>
          obtain ⟨v, e1, r1⟩ := ok0
          exact ⟨v, e1, r1.mono e⟩
        | own o => exact absurd q2 (okW_no ok i z o)
    · rw [restE_out z] at h1
      refine g.ok i s ov h1 ?_
      rw [wipe_out z]
      exact h2
  · obtain ⟨n1, e1⟩ := up i o h1
    obtain ⟨n2, e2⟩ := up j o' h2
    refine g.inj i j p o o' e1 e2 ?_ ?_
    · rw [wipe_out n1]
      exact h3
    · rw [wipe_out n2]
      exact h4
theorem Fp.rest {env0 : MEnv} {p : Addr} (ok : okW env0 vs = true) (h : Fp σ (restE env0 env vs) p) : Fp (L2.wipe σ vs) env p := by
  obtain ⟨i, o, h1, h2⟩ := h
  have z : i ∉ vs := fun z => by
    have q := restE_in z _ h1
    rw [List.getD_eq_getElem?_getD] at q
    cases q2 : env0[i]? with
    | none => rw [q2] at q; exact nomatch q
    | some s =>
      rw [q2] at q
      have q' : Slot.own o = s := q
      subst q'
      exact okW_no ok i z o q2
  rw [restE_out z] at h1
  exact ⟨i, o, h1, by rw [wipe_out z]; exact h2⟩
end

/-! ### comprehensions -/
def MTs (X : Cx) (cl : ClM) (ifs : List Expr) (m : Xt) : Prop := ∃ t, PTs X ifs t ∧ TtOk X.K cl t m
def tYs : Xt := fun env => some (true, env)
theorem mts_nil {X : Cx} {cl : ClM} : MTs X cl [] tYs := ⟨_, pts_nil, fun σ H I env b env' Q g hm k => by
  cases Option.some.inj hm
  exact k I H g Tr.refl⟩
theorem mts_one {X : Cx} {cl : ClM} {c : Expr} {m : Xt} (h : MT X cl c m) : MTs X cl [c] m := by
  obtain ⟨t, p, k⟩ := h
  exact ⟨_, pts_one p, k⟩
def cLoop (vs : List Nat) (g : Xg) (t : Xt) (m : Xp) : List D → List D → MEnv → Option (List D × MEnv)
  | [], acc, env => some (acc, env)
  | d :: ds, acc, env => match g d env with
    | none => none
    | some e1 => match t e1 with
      | none => none
      | some (false, e2) => cLoop vs g t m ds acc (wipeE e2 vs)
      | some (true, e2) => match m e2 with
        | none => none
        | some (r, e3) => match esc e3 r with
          | none => none
          | some (x, e4) => if acc.length < 16777216 then cLoop vs g t m ds (acc ++ [x]) (wipeE e4 vs) else none
def fComp (vs : List Nat) (mi : Xi) (g : Xg) (t : Xt) (m : Xp) : Xf := fun env => match mi env with
  | none => none
  | some (ds, e1) => if okW e1 vs then match cLoop vs g t m ds [] (wipeE e1 vs) with
    | none => none
    | some (xs, e2) => some (.lst xs, restE e1 e2 vs)
    else none
section
variable {X : Cx} {cl : ClM} {tg iter elt e : Expr} {ifs : List Expr} {scope : Scope} {vs : List Nat} {mi : Xi} {g : Xg} {mt : Xt} {m : Xp}
abbrev BlkAll (X : Cx) (scope : Scope) (P : Cx → Prop) : Prop := ∀ (s : Shared) (H : Hp) (C : Addr) (c2 : List (Str × Addr)) (fp : List Addr), P (X.blk s H scope (compEnvC scope c2 C X.env) fp)
theorem uni_g {R : Nat → Bool} (h : BlkAll X scope fun Y => MG Y cl R tg g) : ∃ t, BlkAll X scope (fun Y => PG Y tg t) ∧ GtOk X.K cl R t g := by
  refine ⟨fun v σ H Q => ∀ s H0 C c2 fp, (h s H0 C c2 fp).choose v σ H Q, fun s H0 C c2 fp => ⟨fun pins s1 σ H1 v u Q I rv q => (h s H0 C c2 fp).choose_spec.1.run pins s1 σ H1 v u Q I rv (q s H0 C c2 fp)⟩, fun σ H I env d env' v Q gd r hm k s H0 C c2 fp => ?_⟩
  exact (h s H0 C c2 fp).choose_spec.2 σ H I env d env' v Q gd r hm k
theorem uni_t (h : BlkAll X scope fun Y => MTs Y cl ifs mt) : ∃ t, BlkAll X scope (fun Y => PTs Y ifs t) ∧ TtOk X.K cl t mt := by
  refine ⟨fun σ H Q => ∀ s H0 C c2 fp, (h s H0 C c2 fp).choose σ H Q, fun s H0 C c2 fp => ⟨fun pins s1 σ H1 Q I q => (h s H0 C c2 fp).choose_spec.1.run pins s1 σ H1 Q I (q s H0 C c2 fp)⟩, fun σ H I env b env' Q gd hm k s H0 C c2 fp => ?_⟩
  exact (h s H0 C c2 fp).choose_spec.2 σ H I env b env' Q gd hm k
theorem uni_e (h : BlkAll X scope fun Y => ME Y cl elt m) : ∃ t, BlkAll X scope (fun Y => PE Y elt t) ∧ EvOk X.K cl t m := by
  refine ⟨fun σ H Q => ∀ s H0 C c2 fp, (h s H0 C c2 fp).choose σ H Q, fun s H0 C c2 fp => ⟨fun pins s1 σ H1 Q I q => (h s H0 C c2 fp).choose_spec.1.run pins s1 σ H1 Q I (q s H0 C c2 fp)⟩, fun σ H I env b env' Q gd hm k s H0 C c2 fp => ?_⟩
  exact (h s H0 C c2 fp).choose_spec.2 σ H I env b env' Q gd hm k
theorem uni_i (h : BlkAll X scope fun Y => MI Y cl tg iter mi) : ∃ t, BlkAll X scope (fun Y => PI Y tg iter t) ∧ TiOk X.K cl t mi := by
  refine ⟨fun σ H Q => ∀ s H0 C c2 fp, (h s H0 C c2 fp).choose σ H Q, fun s H0 C c2 fp => ⟨fun pins s1 σ H1 Q I q => (h s H0 C c2 fp).choose_spec.1.run pins s1 σ H1 Q I (q s H0 C c2 fp)⟩, fun σ H I env b env' Q gd hm k s H0 C c2 fp => ?_⟩
  exact (h s H0 C c2 fp).choose_spec.2 σ H I env b env' Q gd hm k
theorem nf_fresh {K : PySem.W.Frag} {I H : Hp} {σ : L2.St} {env : MEnv} {a : Addr} (g : Gd K cl I H σ env) (ha : H a = none) : ¬ Fp σ env a := fun ⟨j, o, h1, h2⟩ => by
  obtain ⟨p3, ho3, e3, _, hp3, _⟩ := g.ok j _ _ h1 h2
  cases e3
  rw [ha] at hp3
  cases hp3
theorem lc_fr (hi : MI X cl tg iter mi) (hg : BlkAll X scope fun Y => MG Y cl (notIn vs) tg g) (ht : BlkAll X scope fun Y => MTs Y cl ifs mt) (he : BlkAll X scope fun Y => ME Y cl elt m) :
    ∃ wi tgt tt te, PI X tg iter wi ∧ BlkAll X scope (fun Y => PG Y tg tgt) ∧ BlkAll X scope (fun Y => PTs Y ifs tt) ∧ BlkAll X scope (fun Y => PE Y elt te) ∧ FrOk X.K cl (tLc wi tgt tt te vs) (fComp vs mi g mt m) := by
  obtain ⟨wi, pi, ki⟩ := hi
  obtain ⟨tgt, pg, kg⟩ := uni_g hg
  obtain ⟨tt, pt, kt⟩ := uni_t ht
  obtain ⟨te, pe, ke⟩ := uni_e he
  refine ⟨wi, tgt, tt, te, pi, pg, pt, pe, fun σ H I env o env' Q gd hm k => ?_⟩
  unfold fComp at hm
  cases q : mi env with
  | none => simp [q] at hm
  | some pr =>
    obtain ⟨ds, e1⟩ := pr
    simp only [q] at hm
    by_cases ok : okW e1 vs = true
    · rw [if_pos ok] at hm
      cases q2 : cLoop vs g mt m ds [] (wipeE e1 vs) with
      | none => simp [q2] at hm
      | some pr2 =>
        obtain ⟨xs, e2⟩ := pr2
        simp only [q2, Option.some.injEq, Prod.mk.injEq] at hm
        obtain ⟨rfl, rfl⟩ := hm
        refine ki σ H I env ds e1 _ gd q fun J I1 H1 g1 t1 it => fun Da hD => ?_
        have nfD : ¬ Fp σ e1 Da := nf_fresh g1 hD
        have iD : I1 Da = none := g1.ex.free hD
        have al0 : Al I1 H1 I1 (upd H1 Da (.lst [])) := Al.newH g1.ex hD
        refine ⟨fun i j H2 => j = ds.length - i ∧ ∃ I2 env2 acc accV, Gd X.K cl I2 H2 (wipe σ vs) env2 ∧ Tr (Fp σ e1) I1 H1 (Fp (wipe σ vs) env2) I2 H2 ∧ I2 Da = none ∧ H2 Da = some (.lst accV) ∧ ¬ Fp (wipe σ vs) env2 Da ∧ RpA X.K cl I2 accV acc ∧
            cLoop vs g mt m (ds.drop i) acc env2 = some (xs, e2),
          ⟨ds.length, rfl, I1, wipeE e1 vs, [], [], (g1.al al0).wipe, ((al0.tr (F := Fp σ e1)).less fun p h => h.wipe), iD, upd_same, fun h => nfD h.wipe, .nil, q2⟩, fun i j H2 ⟨hj, I2, env2, acc, accV, g2, t2, i2, h2, nf2, ra, hw⟩ => ?_⟩
        obtain ⟨hstop, hgo⟩ := it i I2 H2 t2.ext g2.ex
        cases hd : ds[i]? with
        | none =>
          have hle : ds.length ≤ i := List.getElem?_eq_none_iff.mp hd
          rw [List.drop_eq_nil_of_le hle] at hw
          simp only [cLoop, Option.some.injEq, Prod.mk.injEq] at hw
          obtain ⟨rfl, rfl⟩ := hw
          refine .inl ⟨hstop hd, ?_⟩
          have g3 : Gd X.K cl I2 H2 σ (restE e1 env2 vs) := Gd.rest g1 ok t2.ext g2
          have t3 : Tr (Fp σ e1) I1 H1 (Fp σ (restE e1 env2 vs)) I2 H2 := t2.less fun p h => Fp.rest ok h
          exact k Da _ I2 H2 g3 (t1.trans t3) i2 h2 (.lst ra) (t1.back (.inr hD)) fun h => nf2 (Fp.rest ok h)
        | some d =>
          have hlt : i < ds.length := (List.getElem?_eq_some_iff.mp hd).1
          have edr : ds.drop i = d :: ds.drop (i + 1) := by
            rw [List.drop_eq_getElem_cons hlt]
            congr 1
            exact (List.getElem?_eq_some_iff.mp hd).2
          rw [edr] at hw
          obtain ⟨go, yld⟩ := hgo d hd
          refine .inr ⟨go, fun H4 => ∃ I4 env4 acc4 accV4, Gd X.K cl I4 H4 (wipe σ vs) env4 ∧ Tr (Fp σ e1) I1 H1 (Fp (wipe σ vs) env4) I4 H4 ∧ I4 Da = none ∧ H4 Da = some (.lst accV4) ∧ ¬ Fp (wipe σ vs) env4 Da ∧ RpA X.K cl I4 accV4 acc4 ∧
            cLoop vs g mt m (ds.drop (i + 1)) acc4 env4 = some (xs, e2), fun H4 h4 => ⟨ds.length - (i + 1), by omega, rfl, h4⟩, fun v H3 hy => ?_⟩
          obtain ⟨I3, al, rv⟩ := yld v H3 hy
          have g3 := g2.al al
          have t3 := t2.trans (al.tr (F := Fp (wipe σ vs) env2))
          have hDa2 : H2 Da ≠ none := by
            rw [h2]
            exact fun z => nomatch z
          have i3 : I3 Da = none := al.nofr Da hDa2 i2
          have h3 : H3 Da = some (.lst accV) := al.exH _ _ h2
          unfold cLoop at hw
          cases q3 : g d env2 with
          | none => simp [q3] at hw
          | some e3 =>
            simp only [q3] at hw
            refine kg (wipe σ vs) H3 I3 env2 d e3 v _ g3 rv q3 fun σ4 I4 H4 g4 t4 r4 l4 => ?_
            have ew : wipe σ4 vs = wipe σ vs := (wipe_eq l4 fun i hi => r4 i (notIn_t hi)).trans (wipe_eq (wipe_length _ _) fun i hi => wipe_out hi)
            refine ⟨ew, ?_⟩
            have t34 := t3.trans t4
            have hDa3 : H3 Da ≠ none := by
              rw [h3]
              exact fun z => nomatch z
            have i4 : I4 Da = none := t4.nofr Da hDa3 nf2 i3
            have h4 : H4 Da = some (.lst accV) := t4.frame _ _ h3 nf2
            have nf4 : ¬ Fp σ4 e3 Da := t4.notin hDa3 nf2
            cases q4 : mt e3 with
            | none => simp [q4] at hw
            | some pr4 =>
              obtain ⟨b4, e4⟩ := pr4
              refine kt σ4 H4 I4 e3 b4 e4 _ g4 q4 fun I5 H5 g5 t5 => ?_
              have hDa4 : H4 Da ≠ none := by
                rw [h4]
                exact fun z => nomatch z
              have i5 : I5 Da = none := t5.nofr Da hDa4 nf4 i4
              have h5 : H5 Da = some (.lst accV) := t5.frame _ _ h4 nf4
              have nf5 : ¬ Fp σ4 e4 Da := t5.notin hDa4 nf4
              have t45 := t34.trans t5
              cases b4 with
              | false =>
                simp only [q4] at hw
                show ∃ I4 env4 acc4 accV4, _
                refine ⟨I5, wipeE e4 vs, acc, accV, ?_, ?_, i5, h5, ?_, ra.mono ((al.ext.trans t4.ext).trans t5.ext), hw⟩
                · rw [← ew]
                  exact g5.wipe
                · rw [← ew]
                  exact t45.less fun p h => h.wipe
                · rw [← ew]
                  exact fun h => nf5 h.wipe
              | true =>
                simp only [q4] at hw
                show te σ4 H5 _
                cases q6 : m e4 with
                | none => simp [q6] at hw
                | some pr6 =>
                  obtain ⟨r6, e6⟩ := pr6
                  simp only [q6] at hw
                  cases q7 : esc e6 r6 with
                  | none => simp [q7] at hw
                  | some pr7 =>
                    obtain ⟨x, e7⟩ := pr7
                    simp only [q7] at hw
                    by_cases hsz : acc.length < 16777216
                    · rw [if_pos hsz] at hw
                      refine ke σ4 H5 I5 e4 r6 e6 _ g5 q6 fun y I6 H6 g6 t6 r6' => ?_
                      obtain ⟨I7, g7, t7, r7⟩ := esc_ok g6 r6' q7
                      have t67 := t6.trans t7
                      have hDa5 : H5 Da ≠ none := by
                        rw [h5]
                        exact fun z => nomatch z
                      have i7 : I7 Da = none := t67.nofr Da hDa5 nf5 i5
                      have h7 : H6 Da = some (.lst accV) := t67.frame _ _ h5 nf5
                      have nf7 : ¬ Fp σ4 e7 Da := t67.notin hDa5 nf5
                      have ra7 : RpA X.K cl I7 accV acc := ra.mono (((al.ext.trans t4.ext).trans t5.ext).trans t67.ext)
                      refine ⟨accV, h7, ?_, I7, wipeE e7 vs, acc ++ [x], accV ++ [y], ?_, ?_, i7, upd_same, ?_, ra7.append (.cons r7 .nil), hw⟩
                      · rw [ra7.length]
                        exact Nat.lt_of_lt_of_le hsz (by decide)
                      · rw [← ew]
                        exact (g7.updH i7 nf7).wipe
                      · rw [← ew]
                        exact ((t45.trans t67).updN (.inr hD)).less fun p h => h.wipe
                      · rw [← ew]
                        exact fun h => nf7 h.wipe
                    · rw [if_neg hsz] at hw
                      cases hw
    · rw [if_neg ok] at hm
      cases hm
theorem mf_lc (hi : MI X cl tg iter mi) (hg : BlkAll X scope fun Y => MG Y cl (notIn vs) tg g) (ht : BlkAll X scope fun Y => MTs Y cl ifs mt) (he : BlkAll X scope fun Y => ME Y cl elt m)
    (hp : ∀ wi tgt tt te, PI X tg iter wi → BlkAll X scope (fun Y => PG Y tg tgt) → BlkAll X scope (fun Y => PTs Y ifs tt) → BlkAll X scope (fun Y => PE Y elt te) → PE X e (tLc wi tgt tt te vs)) : MF X cl e (fComp vs mi g mt m) := by
  obtain ⟨wi, tgt, tt, te, pi, pg, pt, pe, fr⟩ := lc_fr hi hg ht he
  exact ⟨_, hp wi tgt tt te pi pg pt pe, fr⟩
/-- y = [..], y an own local -/
theorem ms_setOLc {R : Nat → Bool} {st : Stmt} {i : Nat} (hi : MI X cl tg iter mi) (hg : BlkAll X scope fun Y => MG Y cl (notIn vs) tg g) (ht : BlkAll X scope fun Y => MTs Y cl ifs mt) (he : BlkAll X scope fun Y => ME Y cl elt m)
    (hp : ∀ wi tgt tt te, PI X tg iter wi → BlkAll X scope (fun Y => PG Y tg tgt) → BlkAll X scope (fun Y => PTs Y ifs tt) → BlkAll X scope (fun Y => PE Y elt te) → PS X st (L2.tAsg (tLc wi tgt tt te vs) (L2.gName i))) (hR : R i = false) : MS X cl R st (sOwn (fComp vs mi g mt m) i) := by
  obtain ⟨wi, tgt, tt, te, pi, pg, pt, pe, fr⟩ := lc_fr hi hg ht he
  exact ⟨_, hp wi tgt tt te pi pg pt pe, st_own fr hR⟩
theorem ms_setLc {R : Nat → Bool} {st : Stmt} {i : Nat} (hi : MI X cl tg iter mi) (hg : BlkAll X scope fun Y => MG Y cl (notIn vs) tg g) (ht : BlkAll X scope fun Y => MTs Y cl ifs mt) (he : BlkAll X scope fun Y => ME Y cl elt m)
    (hp : ∀ wi tgt tt te, PI X tg iter wi → BlkAll X scope (fun Y => PG Y tg tgt) → BlkAll X scope (fun Y => PTs Y ifs tt) → BlkAll X scope (fun Y => PE Y elt te) → PS X st (L2.tAsg (tLc wi tgt tt te vs) (L2.gName i))) (hR : R i = false) : MS X cl R st (sAsg (eFrz (fComp vs mi g mt m)) (gNm i)) := by
  obtain ⟨wi, tgt, tt, te, pi, pg, pt, pe, fr⟩ := lc_fr hi hg ht he
  exact ⟨_, hp wi tgt tt te pi pg pt pe, st_asg (ev_frz fr) (gt_name hR)⟩
end
end MP
set_option Elab.async false
set_option linter.all false
set_option maxRecDepth 100000
set_option maxHeartbeats 4000000
namespace MP
open PySem PySem.Spec PyProof.Rows L2

/-! ### the promise of a def by its mirror -/
def outsOf : List Slot → MEnv → List Slot
  | [], _ => []
  | .own _ :: as, s :: e => s :: outsOf as e
  | .own _ :: as, [] => .none :: outsOf as []
  | .val d :: as, _ :: e => .val d :: outsOf as e
  | .val d :: as, [] => .val d :: outsOf as []
  | .none :: as, _ :: e => .none :: outsOf as e
  | .none :: as, [] => .none :: outsOf as []
theorem outsOf_len : ∀ (as : List Slot) (e : MEnv), (outsOf as e).length = as.length
  | [], _ => by simp [outsOf]
  | .own _ :: as, s :: e => by simp [outsOf, outsOf_len as e]
  | .own _ :: as, [] => by simp [outsOf, outsOf_len as []]
  | .val d :: as, _ :: e => by simp [outsOf, outsOf_len as e]
  | .val d :: as, [] => by simp [outsOf, outsOf_len as []]
  | .none :: as, _ :: e => by simp [outsOf, outsOf_len as e]
  | .none :: as, [] => by simp [outsOf, outsOf_len as []]
/-- what stands at a place -/
theorem outsOf_get : ∀ (as : List Slot) (e : MEnv) (i : Nat) (s : Slot), as.length ≤ e.length → (outsOf as e)[i]? = some s → (∃ o, as[i]? = some (.own o) ∧ e[i]? = some s) ∨ (as[i]? = some s ∧ ∀ o, s ≠ .own o)
  | [], _, i, s, _, h => by simp [outsOf] at h
  | .own o :: as, s0 :: e, 0, s, _, h => .inl ⟨o, rfl, by simpa [outsOf] using h⟩
  | .own o :: as, s0 :: e, i + 1, s, hl, h => by
    have := outsOf_get as e i s (by simpa using hl) (by simpa [outsOf] using h)
    simpa using this
  | .own o :: as, [], i, s, hl, h => by simp at hl
  | .val d :: as, s0 :: e, 0, s, _, h => .inr (by
      have e1 : Slot.val d = s := by simpa [outsOf] using h
      subst e1
      exact ⟨rfl, fun o z => nomatch z⟩)
  | .val d :: as, s0 :: e, i + 1, s, hl, h => by
    have := outsOf_get as e i s (by simpa using hl) (by simpa [outsOf] using h)
    simpa using this
  | .val d :: as, [], i, s, hl, h => by simp at hl
  | .none :: as, s0 :: e, 0, s, _, h => .inr (by
      have e1 : Slot.none = s := by simpa [outsOf] using h
      subst e1
      exact ⟨rfl, fun o z => nomatch z⟩)
  | .none :: as, s0 :: e, i + 1, s, hl, h => by
    have := outsOf_get as e i s (by simpa using hl) (by simpa [outsOf] using h)
    simpa using this
  | .none :: as, [], i, s, hl, h => by simp at hl
abbrev Fn := List Slot → Option (RetV × List Slot)
/-- a def's run: its body over its arguments and empty slots -/
def runD (n : Nat) (m : Xs) : Fn := fun args => match m (args ++ List.replicate (n - args.length) .none) with
  | some (.ret r, e) => if args.length ≤ e.length then some (r, outsOf args e) else none
  | some (.nx, e) => if args.length ≤ e.length then some (.d .non, outsOf args e) else none
  | _ => none
def spG (K : PySem.W.Frag) (cl : ClM) (np : Nat) (R : Nat → Bool) (f : Fn) : Sp := fun vs H Q _ => vs.length = np ∧ ∃ (I : Hp) (args : List Slot) (ret : RetV) (outs : List Slot), Gd K cl I H (vs.map some) args ∧ (∀ i o, args[i]? = some (.own o) → R i = true) ∧ f args = some (ret, outs) ∧
  ∀ v I' H', Gd K cl I' H' (vs.map some) outs → Tr (Fp (vs.map some) args) I H (Fp (vs.map some) outs) I' H' → RetOk K cl (Fp (vs.map some) args) H (Fp (vs.map some) outs) I' H' v ret → Q v H'

section
variable {P : Program} {w : World} {K : PySem.W.Frag} {mg : Str → Option Value} {base : Heap} {cl : ClM} {R : Nat → Bool}
theorem gd_start {I H : Hp} {vs : List V} {args : List Slot} {n : Nat} (g : Gd K cl I H (vs.map some) args) : Gd K cl I H (vs.map some ++ List.replicate n none) (args ++ List.replicate n .none) ∧
    ∀ p, Fp (vs.map some ++ List.replicate n none) (args ++ List.replicate n .none) p ↔ Fp (vs.map some) args p := by
  have hl : (vs.map some).length = args.length := g.len
  have up : ∀ (i : Nat) (o : SO), (args ++ List.replicate n Slot.none)[i]? = some (.own o) → args[i]? = some (.own o) ∧ i < args.length := fun i o h => by
    by_cases z : i < args.length
    · rw [List.getElem?_append_left z] at h
      exact ⟨h, z⟩
    · rw [List.getElem?_append_right (Nat.le_of_not_lt z), List.getElem?_replicate] at h
      split at h <;> cases h
  refine ⟨⟨g.ex, by rw [List.length_append, List.length_append, hl, List.length_replicate, List.length_replicate], fun i s ov h1 h2 => ?_, fun i j p o o' h1 h2 h3 h4 => ?_⟩, fun p => ⟨fun ⟨i, o, h1, h2⟩ => ?_, fun ⟨i, o, h1, h2⟩ => ?_⟩⟩
  · by_cases z : i < args.length
    · rw [List.getElem?_append_left z] at h1
      rw [List.getElem?_append_left (by rw [hl]; exact z)] at h2
      exact g.ok i s ov h1 h2
    · rw [List.getElem?_append_right (Nat.le_of_not_lt z), List.getElem?_replicate] at h1
      split at h1
      · cases h1
        trivial
      · cases h1
  · obtain ⟨e1, z1⟩ := up i o h1
    obtain ⟨e2, z2⟩ := up j o' h2
    rw [List.getElem?_append_left (by rw [hl]; exact z1)] at h3
    rw [List.getElem?_append_left (by rw [hl]; exact z2)] at h4
    exact g.inj i j p o o' e1 e2 h3 h4
  · obtain ⟨e1, z1⟩ := up i o h1
    rw [List.getElem?_append_left (by rw [hl]; exact z1)] at h2
    exact ⟨i, o, e1, h2⟩
  · have z : i < args.length := (List.getElem?_eq_some_iff.mp h1).1
    exact ⟨i, o, by rw [List.getElem?_append_left z]; exact h1, by rw [List.getElem?_append_left (by rw [hl]; exact z)]; exact h2⟩
theorem gd_outs {I H I' H' : Hp} {vs : List V} {args : List Slot} {n : Nat} {σ' : L2.St} {env' : MEnv} (g : Gd K cl I H (vs.map some) args) (hR : ∀ i o, args[i]? = some (.own o) → R i = true) (hle : args.length ≤ env'.length)
    (g' : Gd K cl I' H' σ' env') (e : Same I I') (r : ∀ i, R i = true → σ'[i]? = (vs.map some ++ List.replicate n none)[i]?) :
    Gd K cl I' H' (vs.map some) (outsOf args env') ∧ ∀ p, Fp (vs.map some) (outsOf args env') p → Fp σ' env' p := by
  have hl : (vs.map some).length = args.length := g.len
  have own : ∀ (i : Nat) (o : SO), (outsOf args env')[i]? = some (.own o) → (∃ o', args[i]? = some (.own o')) ∧ env'[i]? = some (.own o) ∧ σ'[i]? = (vs.map some)[i]? := fun i o h => by
    rcases outsOf_get args env' i _ hle h with ⟨o', h1, h2⟩ | ⟨h1, h2⟩
    · refine ⟨⟨o', h1⟩, h2, ?_⟩
      have z : i < args.length := (List.getElem?_eq_some_iff.mp h1).1
      rw [r i (hR i o' h1), List.getElem?_append_left (by rw [hl]; exact z)]
    · exact absurd rfl (h2 o)
  refine ⟨⟨g'.ex, by rw [outsOf_len]; exact hl, fun i s ov h1 h2 => ?_, fun i j p o o' h1 h2 h3 h4 => ?_⟩, fun p ⟨i, o, h1, h2⟩ => ?_⟩
  · rcases outsOf_get args env' i s hle h1 with ⟨o', h3, h4⟩ | ⟨h3, h4⟩
    · have z : i < args.length := (List.getElem?_eq_some_iff.mp h3).1
      refine g'.ok i s ov h4 ?_
      rw [r i (hR i o' h3), List.getElem?_append_left (by rw [hl]; exact z)]
      exact h2
    · have ok := g.ok i s ov h3 h2
      cases s with
      | none => trivial
      | val d =>
        obtain ⟨v, e1, r1⟩ := ok
        exact ⟨v, e1, r1.mono e⟩
      | own o => exact absurd rfl (h4 o)
  · obtain ⟨_, a1, a2⟩ := own i o h1
    obtain ⟨_, b1, b2⟩ := own j o' h2
    exact g'.inj i j p o o' a1 b1 (a2.trans h3) (b2.trans h4)
  · obtain ⟨_, a1, a2⟩ := own i o h1
    exact ⟨i, o, a1, a2.trans h2⟩
/-- THE RULE for a def -/
theorem fn_ok {x qual : Str} {st : Stmt} {f : Addr} {fd : FuncData} {N ps : List Str} {k : Nat} {m : Xs} (F : Fun K x qual st f fd) (S : FnScope N ps (defScope st))
    (hbody : ∀ (cdv : Value) (A : Around) (outer : List Env) (s : Shared) (H : Hp) (E : XK), Room k (A.deeper (envOfC qual (defScope st) s.heap.objs.size f cdv)) → MSs (cxOf CX0 P w K mg base N qual (defScope st) f cdv A outer s H E).nox cl R (defBody st) m) :
    FnOk P w K mg base CX0 (k + 1) f fd ps (spG K cl ps.length R (runD N.length m)) := by
  refine F.ok S (fun vs H Q E h => h.1) fun cdv A outer s H vs Q E hr h => ?_
  obtain ⟨hlen, I, args, ret, outs, g, hR, hf, kq⟩ := h
  obtain ⟨t, p, ok⟩ := hbody cdv A outer s H E hr
  refine ⟨t, p, ?_⟩
  have hl : vs.length = args.length := by
    have := g.len
    rw [List.length_map] at this
    exact this
  have est : L2.start N vs = vs.map some ++ List.replicate (N.length - args.length) none := by
    unfold L2.start
    rw [hl]
  rw [est]
  obtain ⟨g0, fp0⟩ := gd_start (n := N.length - args.length) g
  unfold runD at hf
  cases q : m (args ++ List.replicate (N.length - args.length) .none) with
  | none => simp [q] at hf
  | some pr =>
    obtain ⟨fl, e'⟩ := pr
    refine ok _ H I _ fl e' _ g0 q fun σ' I' H' g' t' r' => ?_
    have fin : ∀ (rv : RetV) (v : V), args.length ≤ e'.length → ret = rv → outs = outsOf args e' → RetOk K cl (Fp (vs.map some ++ List.replicate (N.length - args.length) none) (args ++ List.replicate (N.length - args.length) .none)) H (Fp σ' e') I' H' v rv → Q v H' := fun rv v hle er eo hv => by
      subst er
      subst eo
      obtain ⟨g2, fp2⟩ := gd_outs g hR hle g' t'.ext r'
      refine kq v I' H' g2 ((t'.more fun p h => (fp0 p).mp h).less fp2) ?_
      cases ret with
      | d d => exact hv
      | o o =>
        obtain ⟨a, ho, ea, ia, ha, so, fr, nf⟩ := hv
        exact ⟨a, ho, ea, ia, ha, so, fr.imp_left fun h => (fp0 a).mp h, fun h => nf (fp2 a h)⟩
    cases fl with
    | nx =>
      simp only [q] at hf
      by_cases hle : args.length ≤ e'.length
      · rw [if_pos hle] at hf
        simp only [Option.some.injEq, Prod.mk.injEq] at hf
        exact fin (.d .non) .non hle hf.1.symm hf.2.symm .non
      · rw [if_neg hle] at hf
        cases hf
    | bk => simp [q] at hf
    | ct => simp [q] at hf
    | ret r =>
      simp only [q] at hf
      by_cases hle : args.length ≤ e'.length
      · rw [if_pos hle] at hf
        simp only [Option.some.injEq, Prod.mk.injEq] at hf
        exact fun v hv => fin r v hle hf.1.symm hf.2.symm hv
      · rw [if_neg hle] at hf
        cases hf
end

/-! ### calls -/
section
variable {X : Cx} {cl : ClM} {e : Expr} {es : List Expr} {R : Nat → Bool} {f : Fn} {ms : Xa} {np : Nat}
theorem RpA.ofSlots {K : PySem.W.Frag} {I H : Hp} (ex : Same I H) : ∀ {vs : List V} {ds : List D}, RpA K cl I vs ds → Gd K cl I H (vs.map some) (ds.map Slot.val) ∧ ∀ p, ¬ Fp (vs.map some) (ds.map Slot.val) p := by
  intro vs ds r
  have nown : ∀ (i : Nat) (o : SO), (ds.map Slot.val)[i]? ≠ some (.own o) := fun i o h => by
    rw [List.getElem?_map] at h
    cases q : ds[i]? with
    | none => rw [q] at h; cases h
    | some d => rw [q] at h; cases h
  refine ⟨⟨ex, by rw [List.length_map, List.length_map, r.length], fun i s ov h1 h2 => ?_, fun i j p o o' h1 => absurd h1 (nown i o)⟩, fun p ⟨i, o, h1, _⟩ => nown i o h1⟩
  rw [List.getElem?_map] at h1 h2
  cases q : ds[i]? with
  | none => rw [q] at h1; cases h1
  | some d =>
    rw [q] at h1
    cases h1
    obtain ⟨v, hv, rv⟩ := r.get q
    rw [hv] at h2
    cases h2
    exact ⟨v, rfl, rv⟩
theorem Gd.tr0 {K : PySem.W.Frag} {I H I' H' : Hp} {σ : L2.St} {env : MEnv} {F F' : Addr → Prop} (g : Gd K cl I H σ env) (t : Tr F I H F' I' H') (hF : ∀ p, ¬ F p) (ex : Same I' H') : Gd K cl I' H' σ env :=
  g.al ⟨t.ext, fun p o h => t.frame p o h (hF p), ex, fun p hp hi => t.nofr p hp (hF p) hi⟩
/-- all arguments by value -/
def eCall (f : Fn) (ms : Xa) : Xp := fun env => match ms env with
  | none => none
  | some (rs, e1) => match escL e1 rs with
    | none => none
    | some (ds, e2) => match f (ds.map .val) with
      | some (.d d, _) => some (.d d, e2)
      | some (.o o, _) => some (.d (so2d o), e2)
      | none => none
def fCall (f : Fn) (ms : Xa) : Xf := fun env => match ms env with
  | none => none
  | some (rs, e1) => match escL e1 rs with
    | none => none
    | some (ds, e2) => match f (ds.map .val) with
      | some (.o o, _) => some (o, e2)
      | _ => none
theorem call_core {K : PySem.W.Frag} {t : TA} (kk : AgOk K cl t ms) {σ : L2.St} {H I : Hp} {env : MEnv} {Q : VK} (g : Gd K cl I H σ env) {rs : List Rv} {e1 e2 : MEnv} {ds : List D} {rv : RetV} {outs : List Slot}
    (q1 : ms env = some (rs, e1)) (hnp : rs.length = np) (q2 : escL e1 rs = some (ds, e2)) (q3 : f (ds.map .val) = some (rv, outs))
    (k' : ∀ v I' H', Gd K cl I' H' σ e2 → Tr (Fp σ env) I H (Fp σ e2) I' H' → RetOk K cl (Fp σ env) H (Fp σ e2) I' H' v rv → Q v H') : tCall (spG K cl np R f) [] E0 t σ H Q := by
  refine kk σ H I env rs e1 _ g q1 fun vs I1 H1 g1 t1 r1 => ?_
  obtain ⟨I2, g2, t2, r2⟩ := escL_ok g1 r1 q2
  obtain ⟨ga, fa⟩ := RpA.ofSlots g2.ex r2
  show spG K cl np R f (vs ++ []) H1 Q E0
  rw [List.append_nil]
  refine ⟨by rw [r1.length]; exact hnp, I2, ds.map .val, rv, outs, ga, fun i o h => ?_, q3, fun v I3 H3 g3 t3 rk => ?_⟩
  · exfalso
    rw [List.getElem?_map] at h
    cases q : ds[i]? with
    | none => rw [q] at h; cases h
    | some d => rw [q] at h; cases h
  · have g4 : Gd K cl I3 H3 σ e2 := g2.tr0 t3 fa g3.ex
    have t12 := t1.trans t2
    have t3' : Tr (Fp σ e2) I2 H1 (Fp σ e2) I3 H3 := (⟨t3.ext, fun p o h _ => t3.frame p o h (fa p), fun p hp _ hi => t3.nofr p hp (fa p) hi, fun p h => .inl h, t3.dom⟩)
    refine k' v I3 H3 g4 (t12.trans t3') ?_
    cases rv with
    | d d => exact rk
    | o o =>
      obtain ⟨a, ho, ea, ia, ha, so, fr, nf⟩ := rk
      have hn : H1 a = none := fr.resolve_left (fa a)
      refine ⟨a, ho, ea, ia, ha, so, t12.back (.inr hn), fun h => ?_⟩
      exact nf_fresh g2 hn h
theorem me_call (hm : MA X cl es ms) (hp : ∀ t, PA X es t → PE X e (tCall (spG X.K cl np R f) [] E0 t)) (hnp : ∀ env rs e1, ms env = some (rs, e1) → rs.length = np) : ME X cl e (eCall f ms) := by
  obtain ⟨t, p, kk⟩ := hm
  refine ⟨_, hp t p, fun σ H I env r env' Q g hme k' => ?_⟩
  unfold eCall at hme
  cases q1 : ms env with
  | none => simp [q1] at hme
  | some p1 =>
    obtain ⟨rs, e1⟩ := p1
    simp only [q1] at hme
    cases q2 : escL e1 rs with
    | none => simp [q2] at hme
    | some p2 =>
      obtain ⟨ds, e2⟩ := p2
      simp only [q2] at hme
      cases q3 : f (ds.map .val) with
      | none => simp [q3] at hme
      | some p3 =>
        obtain ⟨rv, outs⟩ := p3
        refine call_core kk g q1 (hnp _ _ _ q1) q2 q3 fun v I3 H3 g3 t3 rk => ?_
        cases rv with
        | d d =>
          simp only [q3, Option.some.injEq, Prod.mk.injEq] at hme
          obtain ⟨rfl, rfl⟩ := hme
          exact k' v I3 H3 g3 t3 rk
        | o o =>
          simp only [q3, Option.some.injEq, Prod.mk.injEq] at hme
          obtain ⟨rfl, rfl⟩ := hme
          obtain ⟨a, ho, ea, ia, ha, so, fr, nf⟩ := rk
          subst ea
          exact k' _ _ H3 (g3.frz ia ha nf) (t3.frzN fr ia) (so.frz ia)
theorem mf_call (hm : MA X cl es ms) (hp : ∀ t, PA X es t → PE X e (tCall (spG X.K cl np R f) [] E0 t)) (hnp : ∀ env rs e1, ms env = some (rs, e1) → rs.length = np) : MF X cl e (fCall f ms) := by
  obtain ⟨t, p, kk⟩ := hm
  refine ⟨_, hp t p, fun σ H I env r env' Q g hme k' => ?_⟩
  unfold fCall at hme
  cases q1 : ms env with
  | none => simp [q1] at hme
  | some p1 =>
    obtain ⟨rs, e1⟩ := p1
    simp only [q1] at hme
    cases q2 : escL e1 rs with
    | none => simp [q2] at hme
    | some p2 =>
      obtain ⟨ds, e2⟩ := p2
      simp only [q2] at hme
      cases q3 : f (ds.map .val) with
      | none => simp [q3] at hme
      | some p3 =>
        obtain ⟨rv, outs⟩ := p3
        refine call_core kk g q1 (hnp _ _ _ q1) q2 q3 fun v I3 H3 g3 t3 rk => ?_
        cases rv with
        | d d => simp [q3] at hme
        | o o =>
          simp only [q3, Option.some.injEq, Prod.mk.injEq] at hme
          obtain ⟨rfl, rfl⟩ := hme
          obtain ⟨a, ho, ea, ia, ha, so, fr, nf⟩ := rk
          subst ea
          exact k' a ho I3 H3 g3 t3 ia ha so fr nf
/-- the first argument a slot, handed over with what it owns -/
def cR (f : Fn) (ms : Xa) : MEnv → Option (RetV × MEnv) := fun env => match ms env with
  | some (.sl i :: rs, e1) => match escL e1 rs with
    | none => none
    | some (ds, e2) => match e2[i]? with
      | some (.own o) => match f (.own o :: ds.map .val) with
        | some (rv, s :: _) => some (rv, e2.set i s)
        | _ => none
      | _ => none
  | _ => none
def eCallR (f : Fn) (ms : Xa) : Xp := fun env => match cR f ms env with
  | some (.d d, e) => some (.d d, e)
  | some (.o o, e) => some (.d (so2d o), e)
  | none => none
def fCallR (f : Fn) (ms : Xa) : Xf := fun env => match cR f ms env with
  | some (.o o, e) => some (o, e)
  | _ => none
theorem Gd.setSlot {K : PySem.W.Frag} {I H I' H' : Hp} {σ : L2.St} {env : MEnv} {i : Nat} {p : Addr} {o : SO} {s : Slot} {F' : Addr → Prop} (g : Gd K cl I H σ env) (hi : env[i]? = some (.own o)) (hp : σ[i]? = some (some (.ref p)))
    (t : Tr (fun b => b = p) I H F' I' H') (ex : Same I' H') (hs : SlotOk K cl I' H' (some (.ref p)) s) : Gd K cl I' H' σ (env.set i s) ∧ (∀ b, Fp σ (env.set i s) b → Fp σ env b) := by
  have hil : i < env.length := (List.getElem?_eq_some_iff.mp hi).1
  have fpi : ∀ b, Fp σ (env.set i s) b → Fp σ env b := fun b ⟨j, o1, h1, h2⟩ => by
    by_cases z : i = j
    · subst z
      rw [hp] at h2
      cases h2
      exact ⟨i, o, hi, hp⟩
    · rw [List.getElem?_set_ne z] at h1
      exact ⟨j, o1, h1, h2⟩
  refine ⟨⟨ex, by rw [List.length_set]; exact g.len, fun j s' ov h1 h2 => ?_, fun j k b o1 o2 h1 h2 h3 h4 => ?_⟩, fpi⟩
  · by_cases z : i = j
    · subst z
      rw [List.getElem?_set] at h1
      simp only [if_true] at h1
      rw [if_pos hil] at h1
      cases h1
      rw [hp] at h2
      cases h2
      exact hs
    · rw [List.getElem?_set_ne z] at h1
      have ok := g.ok j s' ov h1 h2
      cases s' with
      | none => trivial
      | val d =>
        obtain ⟨v, e1, r1⟩ := ok
        exact ⟨v, e1, r1.mono t.ext⟩
      | own o1 =>
        obtain ⟨p1, ho1, e1, ip1, hp1, so1⟩ := ok
        have np : p1 ≠ p := fun w => by
          subst w
          rw [e1] at h2
          exact z (g.inj i j p1 o o1 hi h1 hp h2)
        exact ⟨p1, ho1, e1, t.nofr p1 (by rw [hp1]; exact fun z => nomatch z) np ip1, t.frame p1 _ hp1 np, so1.mono t.ext⟩
  · have to : ∀ (j : Nat) (o1 : SO), (env.set i s)[j]? = some (Slot.own o1) → ∃ o1', env[j]? = some (Slot.own o1') := fun j o1 h => by
      by_cases z : i = j
      · subst z
        exact ⟨o, hi⟩
      · rw [List.getElem?_set_ne z] at h
        exact ⟨o1, h⟩
    obtain ⟨o1', h1'⟩ := to j o1 h1
    obtain ⟨o2', h2'⟩ := to k o2 h2
    exact g.inj j k b o1' o2' h1' h2' h3 h4
theorem escL_len : ∀ {rs : List Rv} {env e2 : MEnv} {ds : List D}, escL env rs = some (ds, e2) → ds.length = rs.length
  | [], env, e2, ds, h => by
    cases Option.some.inj h
    rfl
  | r :: rs, env, e2, ds, h => by
    unfold escL at h
    cases q : esc env r with
    | none => simp [q] at h
    | some p =>
      obtain ⟨d, e1⟩ := p
      simp only [q] at h
      cases q2 : escL e1 rs with
      | none => simp [q2] at h
      | some p2 =>
        obtain ⟨ds', e3⟩ := p2
        simp only [q2, Option.some.injEq, Prod.mk.injEq] at h
        obtain ⟨rfl, rfl⟩ := h
        rw [List.length_cons, List.length_cons, escL_len q2]
theorem gd_args1 {K : PySem.W.Frag} {I H : Hp} {p : Addr} {ho : HO} {o : SO} {vs : List V} {ds : List D} (ex : Same I H) (ip : I p = none) (hp : H p = some ho) (so : SoOk K cl I p ho o) (r : RpA K cl I vs ds) :
    Gd K cl I H ((V.ref p :: vs).map some) (Slot.own o :: ds.map .val) ∧ ∀ b, Fp ((V.ref p :: vs).map some) (Slot.own o :: ds.map .val) b ↔ b = p := by
  obtain ⟨ga, fa⟩ := RpA.ofSlots ex r
  refine ⟨⟨ex, by simp [r.length], fun i s ov h1 h2 => ?_, fun i j b o1 o2 h1 h2 h3 h4 => ?_⟩, fun b => ⟨fun ⟨i, o1, h1, h2⟩ => ?_, fun e => ⟨0, o, rfl, by rw [e]; rfl⟩⟩⟩
  · cases i with
    | zero =>
      cases h1
      cases h2
      exact ⟨p, ho, rfl, ip, hp, so⟩
    | succ i => exact ga.ok i s ov h1 h2
  · cases i with
    | zero =>
      cases j with
      | zero => rfl
      | succ j => exact absurd ⟨j, o2, h2, h4⟩ (fa b)
    | succ i => exact absurd ⟨i, o1, h1, h3⟩ (fa b)
  · cases i with
    | zero =>
      cases h2
      rfl
    | succ i => exact absurd ⟨i, o1, h1, h2⟩ (fa b)
theorem callR_core {K : PySem.W.Frag} (hR : R 0 = true) {σ : L2.St} {H1 I1 : Hp} {e1 e2 : MEnv} {Q : VK} {i : Nat} {rs : List Rv} {vs : List V} (g1 : Gd K cl I1 H1 σ e1) (r1 : RvA K cl I1 σ vs (.sl i :: rs))
    {ds : List D} {o : SO} {rv : RetV} {s : Slot} {outs : List Slot} (hnp : (rs.length + 1) = np) (q2 : escL e1 rs = some (ds, e2)) (q3 : e2[i]? = some (.own o)) (q4 : f (.own o :: ds.map .val) = some (rv, s :: outs))
    (k' : ∀ v I' H', Gd K cl I' H' σ (e2.set i s) → Tr (Fp σ e1) I1 H1 (Fp σ (e2.set i s)) I' H' → RetOk K cl (Fp σ e1) H1 (Fp σ (e2.set i s)) I' H' v rv → Q v H') : spG K cl np R f vs H1 Q E0 := by
  cases r1 with
  | cons rv0 rvs =>
    rename_i v0 vs'
    obtain ⟨I2, g2, t2, r2⟩ := escL_ok g1 rvs q2
    have hσ : σ[i]? = some (some v0) := rv0
    obtain ⟨p, ho, ep, ip, hp, so⟩ := g2.ok i _ _ q3 hσ
    cases ep
    obtain ⟨ga, fa⟩ := gd_args1 g2.ex ip hp so r2
    refine ⟨by rw [List.length_cons, RvA.length rvs]; exact hnp, I2, _, rv, _, ga, fun j o1 h => ?_, q4, fun v I3 H3 g3 t3 rk => ?_⟩
    · cases j with
      | zero => exact hR
      | succ j =>
        exfalso
        have h' : (ds.map Slot.val)[j]? = some (.own o1) := h
        rw [List.getElem?_map] at h'
        cases q : ds[j]? with
        | none => rw [q] at h'; cases h'
        | some d => rw [q] at h'; cases h'
    · have t3' : Tr (fun b => b = p) I2 H1 (Fp ((V.ref p :: vs').map some) (s :: outs)) I3 H3 := t3.more fun b h => (fa b).mp h
      have hs : SlotOk K cl I3 H3 (some (.ref p)) s := g3.ok 0 s _ rfl rfl
      obtain ⟨g4, fp4⟩ := g2.setSlot q3 hσ t3' g3.ex hs
      have fpp : Fp σ e2 p := ⟨i, o, q3, hσ⟩
      have t4 : Tr (Fp σ e2) I2 H1 (Fp σ (e2.set i s)) I3 H3 := ⟨t3'.ext, fun b u h nf => t3'.frame b u h fun z => nf (by rw [z]; exact fpp), fun b hb nf hi => t3'.nofr b hb (fun z => nf (by rw [z]; exact fpp)) hi, fun b h => .inl (fp4 b h), t3'.dom⟩
      refine k' v I3 H3 g4 (t2.trans t4) ?_
      cases rv with
      | d d => exact rk
      | o o' =>
        obtain ⟨a, ho', ea, ia, ha, so', fr, nf⟩ := rk
        have fr' : Fp σ e2 a ∨ H1 a = none := by
          rcases fr with fr | fr
          · rw [fa a] at fr
            rw [fr]
            exact .inl fpp
          · exact .inr fr
        refine ⟨a, ho', ea, ia, ha, so', t2.back fr', fun ⟨j, o1, h1, h2⟩ => ?_⟩
        by_cases z : i = j
        · subst z
          rw [hσ] at h2
          cases h2
          have hil : i < e2.length := (List.getElem?_eq_some_iff.mp q3).1
          rw [List.getElem?_set] at h1
          simp only [if_true] at h1
          rw [if_pos hil] at h1
          cases h1
          exact nf ⟨0, o1, rfl, rfl⟩
        · rw [List.getElem?_set_ne z] at h1
          rcases fr with fr | fr
          · rw [fa a] at fr
            subst fr
            exact z (g2.inj i j a o o1 q3 h1 hσ h2)
          · exact nf_fresh g2 fr ⟨j, o1, h1, h2⟩
theorem cR_ok {K : PySem.W.Frag} (hR : R 0 = true) {t : TA} (kk : AgOk K cl t ms) {σ : L2.St} {H I : Hp} {env env' : MEnv} {Q : VK} {rv : RetV} (g : Gd K cl I H σ env) (hm : cR f ms env = some (rv, env')) (hnp : ∀ env rs e1, ms env = some (rs, e1) → rs.length = np)
    (k' : ∀ v I' H', Gd K cl I' H' σ env' → Tr (Fp σ env) I H (Fp σ env') I' H' → RetOk K cl (Fp σ env) H (Fp σ env') I' H' v rv → Q v H') : tCall (spG K cl np R f) [] E0 t σ H Q := by
  unfold cR at hm
  cases q1 : ms env with
  | none => simp [q1] at hm
  | some p1 =>
    obtain ⟨rs, e1⟩ := p1
    rcases rs with _ | ⟨r, rs⟩
    · simp [q1] at hm
    · cases r with
      | d d => simp [q1] at hm
      | sl i =>
        simp only [q1] at hm
        cases q2 : escL e1 rs with
        | none => simp [q2] at hm
        | some p2 =>
          obtain ⟨ds, e2⟩ := p2
          simp only [q2] at hm
          cases q3 : e2[i]? with
          | none => simp [q3] at hm
          | some s0 =>
            cases s0 with
            | none => simp [q3] at hm
            | val d => simp [q3] at hm
            | own o =>
              simp only [q3] at hm
              cases q4 : f (.own o :: ds.map .val) with
              | none => simp [q4] at hm
              | some p4 =>
                obtain ⟨rv', outs⟩ := p4
                rcases outs with _ | ⟨s, outs⟩
                · simp [q4] at hm
                · simp only [q4, Option.some.injEq, Prod.mk.injEq] at hm
                  obtain ⟨rfl, rfl⟩ := hm
                  refine kk σ H I env _ e1 _ g q1 fun vs I1 H1 g1 t1 r1 => ?_
                  show spG K cl np R f (vs ++ []) H1 Q E0
                  rw [List.append_nil]
                  refine callR_core hR g1 r1 (hnp _ _ _ q1) q2 q3 q4 fun v I3 H3 g3 t3 rk => k' v I3 H3 g3 (t1.trans t3) ?_
                  cases rv' with
                  | d d => exact rk
                  | o o' =>
                    obtain ⟨a, ho', ea, ia, ha, so', fr, nf⟩ := rk
                    exact ⟨a, ho', ea, ia, ha, so', t1.back fr, nf⟩
theorem me_callR (hR : R 0 = true) (hm : MA X cl es ms) (hp : ∀ t, PA X es t → PE X e (tCall (spG X.K cl np R f) [] E0 t)) (hnp : ∀ env rs e1, ms env = some (rs, e1) → rs.length = np) : ME X cl e (eCallR f ms) := by
  obtain ⟨t, p, kk⟩ := hm
  refine ⟨_, hp t p, fun σ H I env r env' Q g hme k' => ?_⟩
  unfold eCallR at hme
  cases q1 : cR f ms env with
  | none => simp [q1] at hme
  | some p1 =>
    obtain ⟨rv, e1⟩ := p1
    refine cR_ok hR kk g q1 hnp fun v I3 H3 g3 t3 rk => ?_
    cases rv with
    | d d =>
      simp only [q1, Option.some.injEq, Prod.mk.injEq] at hme
      obtain ⟨rfl, rfl⟩ := hme
      exact k' v I3 H3 g3 t3 rk
    | o o =>
      simp only [q1, Option.some.injEq, Prod.mk.injEq] at hme
      obtain ⟨rfl, rfl⟩ := hme
      obtain ⟨a, ho, ea, ia, ha, so, fr, nf⟩ := rk
      subst ea
      exact k' _ _ H3 (g3.frz ia ha nf) (t3.frzN fr ia) (so.frz ia)
theorem mf_callR (hR : R 0 = true) (hm : MA X cl es ms) (hp : ∀ t, PA X es t → PE X e (tCall (spG X.K cl np R f) [] E0 t)) (hnp : ∀ env rs e1, ms env = some (rs, e1) → rs.length = np) : MF X cl e (fCallR f ms) := by
  obtain ⟨t, p, kk⟩ := hm
  refine ⟨_, hp t p, fun σ H I env r env' Q g hme k' => ?_⟩
  unfold fCallR at hme
  cases q1 : cR f ms env with
  | none => simp [q1] at hme
  | some p1 =>
    obtain ⟨rv, e1⟩ := p1
    refine cR_ok hR kk g q1 hnp fun v I3 H3 g3 t3 rk => ?_
    cases rv with
    | d d => simp [q1] at hme
    | o o =>
      simp only [q1, Option.some.injEq, Prod.mk.injEq] at hme
      obtain ⟨rfl, rfl⟩ := hme
      obtain ⟨a, ho, ea, ia, ha, so, fr, nf⟩ := rk
      subst ea
      exact k' a ho I3 H3 g3 t3 ia ha so fr nf
/-! borrowed arguments: slots keep what they own; the answer holds no list, dict, object -/
mutual
def flatD : D → Bool
  | .non => true
  | .bl _ => true
  | .int _ => true
  | .str _ => true
  | .tup xs => flatDs xs
  | .lst _ => false
  | .dct _ _ => false
  | .obj _ _ => false
  | .scr _ => false
  | .ktp _ => false
def flatDs : List D → Bool
  | [] => true
  | x :: xs => flatD x && flatDs xs
end
def frzAll (σ : L2.St) (env : MEnv) (I H : Hp) [∀ p, Decidable (Fp σ env p)] : Hp := fun p => if Fp σ env p then H p else I p
def thaw (σ : L2.St) (env : MEnv) (I : Hp) [∀ p, Decidable (Fp σ env p)] : Hp := fun p => if Fp σ env p then none else I p
mutual
theorem Rp.thaw {K : PySem.W.Frag} {σ : L2.St} {env : MEnv} {I : Hp} [∀ p, Decidable (Fp σ env p)] (hn : ∀ p xs, Fp σ env p → I p ≠ some (.tup xs)) (hn2 : ∀ p o xs, Fp σ env p → I p ≠ some (.frz o (.tup xs))) : ∀ {v : V} {d : D}, flatD d = true → Rp K cl I v d → Rp K cl (MP.thaw σ env I) v d
  | _, _, _, .non => .non
  | _, _, _, .bl b => .bl b
  | _, _, _, .int i => .int i
  | _, _, _, .str x => .str x
  | _, _, f, .tup (a := a) h r => .tup (by
      rcases h with ⟨us, h⟩ | h
      · refine .inl ⟨us, ?_⟩
        have : ¬ Fp σ env a := fun z => by
          unfold xT at h
          split at h
          · exact hn a _ z h
          · exact hn2 a _ _ z h
        unfold MP.thaw
        rw [if_neg this]
        exact h
      · exact .inr h) (RpA.thaw hn hn2 (by simpa [flatD] using f) r)
  | _, _, f, .lst h r => by simp [flatD] at f
  | _, _, f, .scr h r => by simp [flatD] at f
  | _, _, f, .ktp h r => by simp [flatD] at f
  | _, _, f, .dK h k r => by simp [flatD] at f
  | _, _, f, .dT h nk k r => by simp [flatD] at f
  | _, _, f, .obj c h l r => by simp [flatD] at f
theorem RpA.thaw {K : PySem.W.Frag} {σ : L2.St} {env : MEnv} {I : Hp} [∀ p, Decidable (Fp σ env p)] (hn : ∀ p xs, Fp σ env p → I p ≠ some (.tup xs)) (hn2 : ∀ p o xs, Fp σ env p → I p ≠ some (.frz o (.tup xs))) : ∀ {vs : List V} {ds : List D}, flatDs ds = true → RpA K cl I vs ds → RpA K cl (MP.thaw σ env I) vs ds
  | _, _, _, .nil => .nil
  | _, _, f, .cons h t => .cons (Rp.thaw hn hn2 (by simp [flatDs] at f; exact f.1) h) (RpA.thaw hn hn2 (by simp [flatDs] at f; exact f.2) t)
end
def eCallB (f : Fn) (ms : Xa) : Xp := fun env => match ms env with
  | none => none
  | some (rs, e1) => match vwL e1 rs with
    | none => none
    | some ds => match f (ds.map .val) with
      | some (.d d, _) => if flatD d then some (.d d, e1) else none
      | _ => none
open Classical in
theorem me_callB (hm : MA X cl es ms) (hp : ∀ t, PA X es t → PE X e (tCall (spG X.K cl np R f) [] E0 t)) (hnp : ∀ env rs e1, ms env = some (rs, e1) → rs.length = np) : ME X cl e (eCallB f ms) := by
  obtain ⟨t, p, kk⟩ := hm
  refine ⟨_, hp t p, fun σ H I env r env' Q g hme k' => ?_⟩
  unfold eCallB at hme
  cases q1 : ms env with
  | none => simp [q1] at hme
  | some p1 =>
    obtain ⟨rs, e1⟩ := p1
    simp only [q1] at hme
    cases q2 : vwL e1 rs with
    | none => simp [q2] at hme
    | some ds =>
      simp only [q2] at hme
      cases q3 : f (ds.map .val) with
      | none => simp [q3] at hme
      | some p3 =>
        obtain ⟨rv, outs⟩ := p3
        cases rv with
        | o o => simp [q3] at hme
        | d d =>
          simp only [q3] at hme
          by_cases hf : flatD d = true
          · rw [if_pos hf] at hme
            simp only [Option.some.injEq, Prod.mk.injEq] at hme
            obtain ⟨rfl, rfl⟩ := hme
            refine kk σ H I env rs e1 _ g q1 fun vs I1 H1 g1 t1 r1 => ?_
            have own : ∀ p, Fp σ e1 p → I1 p = none ∧ ∃ ho o, H1 p = some ho ∧ SoOk X.K cl I1 p ho o := fun p ⟨j, o, h1, h2⟩ => by
              obtain ⟨p', ho, ep, ip, hp', so⟩ := g1.ok j _ _ h1 h2
              cases ep
              exact ⟨ip, ho, o, hp', so⟩
            have sI : Same I1 (frzAll σ e1 I1 H1) := fun b u hb => by
              have : ¬ Fp σ e1 b := fun z => by
                rw [(own b z).1] at hb
                cases hb
              unfold frzAll
              rw [if_neg this]
              exact hb
            have sH : Same (frzAll σ e1 I1 H1) H1 := fun b u hb => by
              unfold frzAll at hb
              by_cases z : Fp σ e1 b
              · rw [if_pos z] at hb
                exact hb
              · rw [if_neg z] at hb
                exact g1.ex b u hb
            have one : ∀ (v : V) (r : Rv) (d : D), RvOk X.K cl I1 σ v r → vw e1 r = some d → Rp X.K cl (frzAll σ e1 I1 H1) v d := fun v r d h q => by
              cases r with
              | d d1 =>
                cases Option.some.inj q
                exact Rp.mono sI h
              | sl j =>
                have hσ : σ[j]? = some (some v) := h
                unfold vw at q
                cases q6 : e1[j]? with
                | none => simp [q6] at q
                | some s =>
                  cases s with
                  | none => simp [q6] at q
                  | val d2 =>
                    simp [q6] at q
                    subst q
                    obtain ⟨v2, e2, r2⟩ := g1.ok j _ _ q6 hσ
                    cases e2
                    exact r2.mono sI
                  | own o2 =>
                    simp [q6] at q
                    subst q
                    obtain ⟨p, ho, e2, ip, hp', so⟩ := g1.ok j _ _ q6 hσ
                    cases e2
                    have z : Fp σ e1 p := ⟨j, o2, q6, hσ⟩
                    have h1 : (frzAll σ e1 I1 H1) p = some ho := by
                      unfold frzAll
                      rw [if_pos z]
                      exact hp'
                    have s2 : Same (upd I1 p ho) (frzAll σ e1 I1 H1) := fun b u hb => by
                      by_cases w : b = p
                      · subst w
                        rw [upd_same] at hb
                        cases hb
                        exact h1
                      · rw [upd_ne w] at hb
                        exact sI b u hb
                    exact (so.frz ip).mono s2
            have all : ∀ {vs : List V} {rs : List Rv} {ds : List D}, RvA X.K cl I1 σ vs rs → vwL e1 rs = some ds → RpA X.K cl (frzAll σ e1 I1 H1) vs ds := by
              intro vs rs
              induction rs generalizing vs with
              | nil =>
                intro ds ra e
                cases ra
                cases Option.some.inj e
                exact .nil
              | cons r rs ih =>
                intro ds ra e
                cases ra with
                | cons h t =>
                  unfold vwL at e
                  cases q : vw e1 r with
                  | none => simp [q] at e
                  | some d0 =>
                    cases q5 : vwL e1 rs with
                    | none => simp [q, q5] at e
                    | some ds' =>
                      simp only [q, q5, Option.some.injEq] at e
                      subst e
                      exact .cons (one _ _ _ h q) (ih t q5)
            obtain ⟨ga, fa⟩ := RpA.ofSlots sH (all r1 q2)
            show spG X.K cl np R f (vs ++ []) H1 Q E0
            rw [List.append_nil]
            refine ⟨by rw [r1.length]; exact hnp _ _ _ q1, frzAll σ e1 I1 H1, ds.map .val, .d d, outs, ga, fun i o h => ?_, q3, fun v I3 H3 g3 t3 rk => ?_⟩
            · exfalso
              rw [List.getElem?_map] at h
              cases q : ds[i]? with
              | none => rw [q] at h; cases h
              | some d => rw [q] at h; cases h
            · have keep : ∀ p u, H1 p = some u → H3 p = some u := fun p u h => t3.frame p u h (fa p)
              have shape : ∀ p, Fp σ e1 p → ∃ ho o, H3 p = some ho ∧ SoOk X.K cl I1 p ho o := fun p z => by
                obtain ⟨_, ho, o, h, so⟩ := own p z
                exact ⟨ho, o, keep p ho h, so⟩
              have n1 : ∀ p xs, Fp σ e1 p → I3 p ≠ some (.tup xs) := fun p xs z h => by
                obtain ⟨ho, o, h3, so⟩ := shape p z
                rw [g3.ex p _ h] at h3
                cases h3
                cases so
              have n2 : ∀ p o xs, Fp σ e1 p → I3 p ≠ some (.frz o (.tup xs)) := fun p o xs z h => by
                obtain ⟨ho, o, h3, so⟩ := shape p z
                rw [g3.ex p _ h] at h3
                cases h3
                cases so
              have s13 : Same I1 (MP.thaw σ e1 I3) := fun b u hb => by
                have nb : ¬ Fp σ e1 b := fun z => by
                  rw [(own b z).1] at hb
                  cases hb
                unfold MP.thaw
                rw [if_neg nb]
                exact t3.ext b u (sI b u hb)
              refine k' v (MP.thaw σ e1 I3) H3 ⟨fun b u hb => ?_, g1.len, fun i s ov h1 h2 => ?_, g1.inj⟩ (t1.trans ⟨s13, fun p o h _ => keep p o h, fun p hp nf hi => ?_, fun p h => .inl h, t3.dom⟩) (Rp.thaw n1 n2 hf rk)
              · unfold MP.thaw at hb
                by_cases z : Fp σ e1 b
                · rw [if_pos z] at hb
                  cases hb
                · rw [if_neg z] at hb
                  exact g3.ex b u hb
              · have ok := g1.ok i s ov h1 h2
                cases s with
                | none => trivial
                | val d2 =>
                  obtain ⟨v2, e2, r2⟩ := ok
                  exact ⟨v2, e2, r2.mono s13⟩
                | own o2 =>
                  obtain ⟨p, ho, e2, ip, hp', so⟩ := ok
                  subst e2
                  have z : Fp σ e1 p := ⟨i, o2, h1, h2⟩
                  refine ⟨p, ho, rfl, ?_, keep p ho hp', so.mono s13⟩
                  unfold MP.thaw
                  rw [if_pos z]
              · unfold MP.thaw
                rw [if_neg nf]
                refine t3.nofr p hp (fa p) ?_
                unfold frzAll
                rw [if_neg nf]
                exact hi
          · rw [if_neg hf] at hme
            cases hme
end
end MP
set_option Elab.async false
set_option linter.all false
set_option maxRecDepth 100000
set_option maxHeartbeats 4000000
namespace MP
open PySem PySem.Spec PyProof.Rows L2

/-! ### data for == -/
mutual
def pyD : D → PyData
  | .non => .none
  | .bl b => .bool b
  | .int i => .int i
  | .str x => .str x
  | .tup xs => .tuple (pyDs xs)
  | .lst xs => .list (pyDs xs)
  | .dct _ _ => .dict []
  | .obj _ _ => .dict []
  | .scr _ => .dict []
  | .ktp _ => .dict []
def pyDs : List D → List PyData
  | [] => []
  | x :: xs => pyD x :: pyDs xs
end
mutual
/-- data, without dicts and objects -/
def layD : D → Bool
  | .non => true
  | .bl _ => true
  | .int _ => true
  | .str x => PyData.strOk x
  | .tup xs => layDs xs
  | .lst xs => layDs xs
  | .dct _ _ => false
  | .obj _ _ => false
  | .scr _ => false
  | .ktp _ => false
def layDs : List D → Bool
  | [] => true
  | x :: xs => layD x && layDs xs
end
mutual
def depD : D → Nat
  | .tup xs => depDs xs + 1
  | .lst xs => depDs xs + 1
  | _ => 0
def depDs : List D → Nat
  | [] => 0
  | x :: xs => max (depD x) (depDs xs)
end
def shD (d : D) : Bool := layD d && decide (depD d ≤ 64)
mutual
def eqD : D → D → Bool
  | .non, .non => true
  | .bl a, .bl b => a == b
  | .bl a, .int j => (if a then 1 else 0) == j
  | .int i, .bl b => i == (if b then 1 else 0)
  | .int i, .int j => i == j
  | .str x, .str y => x == y
  | .tup xs, .tup ys => eqDs xs ys
  | .lst xs, .lst ys => eqDs xs ys
  | _, _ => false
def eqDs : List D → List D → Bool
  | [], [] => true
  | x :: xs, y :: ys => eqD x y && eqDs xs ys
  | _, _ => false
end
mutual
theorem lay_py : ∀ d : D, layD d = true → (pyD d).canLay0 = true
  | .non, _ => by simp only [pyD, PyData.canLay0]
  | .bl _, _ => by simp only [pyD, PyData.canLay0]
  | .int _, _ => by simp only [pyD, PyData.canLay0]
  | .str x, h => by
    simp only [pyD, PyData.canLay0]
    exact h
  | .tup xs, h => by
    simp only [pyD, PyData.canLay0]
    exact lay_pys xs (by simpa only [layD] using h)
  | .lst xs, h => by
    simp only [pyD, PyData.canLay0]
    exact lay_pys xs (by simpa only [layD] using h)
  | .dct _ _, h => by simp [layD] at h
  | .obj _ _, h => by simp [layD] at h
  | .scr _, h => by simp [layD] at h
  | .ktp _, h => by simp [layD] at h
theorem lay_pys : ∀ xs : List D, layDs xs = true → PyData.canLayAll0 (pyDs xs) = true
  | [], _ => by simp only [pyDs, PyData.canLayAll0]
  | x :: xs, h => by
    simp only [layDs, Bool.and_eq_true] at h
    simp only [pyDs, PyData.canLayAll0, lay_py x h.1, lay_pys xs h.2, Bool.and_self]
end
mutual
theorem dep_py : ∀ d : D, layD d = true → (pyD d).depth = depD d
  | .non, _ => by simp only [pyD, PyData.depth, depD]
  | .bl _, _ => by simp only [pyD, PyData.depth, depD]
  | .int _, _ => by simp only [pyD, PyData.depth, depD]
  | .str x, _ => by simp only [pyD, PyData.depth, depD]
  | .tup xs, h => by
    have := dep_pys xs (by simpa only [layD] using h)
    simp only [pyD, PyData.depth, depD, this]
  | .lst xs, h => by
    have := dep_pys xs (by simpa only [layD] using h)
    simp only [pyD, PyData.depth, depD, this]
  | .dct _ _, h => by simp [layD] at h
  | .obj _ _, h => by simp [layD] at h
  | .scr _, h => by simp [layD] at h
  | .ktp _, h => by simp [layD] at h
theorem dep_pys : ∀ xs : List D, layDs xs = true → PyData.depthAll (pyDs xs) = depDs xs
  | [], _ => by simp only [pyDs, PyData.depthAll, depDs]
  | x :: xs, h => by
    simp only [layDs, Bool.and_eq_true] at h
    simp only [pyDs, PyData.depthAll, depDs, dep_py x h.1, dep_pys xs h.2]
end
theorem sh_py {d : D} (h : shD d = true) : SeqAt.shaped (pyD d) = true := by
  unfold shD at h
  rw [Bool.and_eq_true] at h
  unfold SeqAt.shaped
  rw [lay_py d h.1, Bool.true_and]
  rw [dep_py d h.1]
  exact h.2
mutual
theorem eq_py : ∀ d e : D, layD d = true → layD e = true → PyData.eqv (pyD d) (pyD e) = eqD d e
  | .non, e, _, he => by cases e <;> simp_all [pyD, PyData.eqv, eqD, layD]
  | .bl _, e, _, he => by cases e <;> simp_all [pyD, PyData.eqv, eqD, layD]
  | .int _, e, _, he => by cases e <;> simp_all [pyD, PyData.eqv, eqD, layD]
  | .str x, e, _, he => by cases e <;> simp_all [pyD, PyData.eqv, eqD, layD]
  | .tup xs, e, h, he => by
    cases e with
    | tup ys =>
      simp only [pyD, PyData.eqv, eqD]
      exact eq_pys xs ys (by simpa only [layD] using h) (by simpa only [layD] using he)
    | _ => simp_all [pyD, PyData.eqv, eqD, layD]
  | .lst xs, e, h, he => by
    cases e with
    | lst ys =>
      simp only [pyD, PyData.eqv, eqD]
      exact eq_pys xs ys (by simpa only [layD] using h) (by simpa only [layD] using he)
    | _ => simp_all [pyD, PyData.eqv, eqD, layD]
  | .dct _ _, _, h, _ => by simp [layD] at h
  | .obj _ _, _, h, _ => by simp [layD] at h
  | .scr _, _, h, _ => by simp [layD] at h
  | .ktp _, _, h, _ => by simp [layD] at h
theorem eq_pys : ∀ xs ys : List D, layDs xs = true → layDs ys = true → PyData.eqvAll (pyDs xs) (pyDs ys) = eqDs xs ys
  | [], [], _, _ => by simp only [pyDs, PyData.eqvAll, eqDs]
  | [], y :: ys, _, _ => by simp only [pyDs, PyData.eqvAll, eqDs]
  | x :: xs, [], _, _ => by simp only [pyDs, PyData.eqvAll, eqDs]
  | x :: xs, y :: ys, h, he => by
    simp only [layDs, Bool.and_eq_true] at h he
    simp only [pyDs, PyData.eqvAll, eqDs, eq_py x y h.1 he.1, eq_pys xs ys h.2 he.2]
end
section
variable {K : PySem.W.Frag} {cl : ClM} {I H : Hp}
mutual
theorem Rp.dp (e : Same I H) : ∀ {v : V} {d : D}, Rp K cl I v d → layD d = true → Dp K H v (pyD d)
  | _, _, .non, _ => by simp only [pyD]; exact .non
  | _, _, .bl b, _ => by simp only [pyD]; exact .bl b
  | _, _, .int i, _ => by simp only [pyD]; exact .int i
  | _, _, .str x, _ => by simp only [pyD]; exact .str x
  | _, _, .tup h r, l => by
    simp only [pyD]
    exact .tup ((h.mono e).sq) (RpA.dp e r (by simpa only [layD] using l))
  | _, _, .lst h r, l => by
    simp only [pyD]
    exact .lst (SqL.of (e _ _ h)) (RpA.dp e r (by simpa only [layD] using l))
  | _, _, .scr h r, l => by simp [layD] at l
  | _, _, .ktp h r, l => by simp [layD] at l
  | _, _, .dK h k r, l => by simp [layD] at l
  | _, _, .dT h nk k r, l => by simp [layD] at l
  | _, _, .obj c h n r, l => by simp [layD] at l
theorem RpA.dp (e : Same I H) : ∀ {vs : List V} {ds : List D}, RpA K cl I vs ds → layDs ds = true → DpAll K H vs (pyDs ds)
  | _, _, .nil, _ => by simp only [pyDs]; exact .nil
  | _, _, .cons h t, l => by
    simp only [layDs, Bool.and_eq_true] at l
    simp only [pyDs]
    exact .cons (Rp.dp e h l.1) (RpA.dp e t l.2)
end
theorem Vw.dp {v : V} {d : D} (e : Same I H) (h : Vw K cl I H v d) (l : layD d = true) : Dp K H v (pyD d) := by
  rcases h with h | ⟨p, ho, o, rfl, ip, hp, so, rfl⟩
  · exact h.dp e l
  · cases so with
    | lst r =>
      simp only [so2d, pyD]
      exact .lst (SqL.of hp) (RpA.dp e r (by simpa only [so2d, layD] using l))
    | dK k r => simp [so2d, layD] at l
    | dT nk k r => simp [so2d, layD] at l
    | ins c n r => simp [so2d, layD] at l
end

/-! ### operators by values -/
section
variable {X : Cx} {cl : ClM}
theorem opm_int {f : Value → Value → Sem Value} {C : Int → Int → Prop} [∀ i j, Decidable (C i j)] {gi : Int → Int → Int} (ho : OpR X f (rI C fun i j => .int (gi i j))) :
    OpM X cl f (fun x y => match x, y with | .int i, .int j => if C i j then some (.int (gi i j)) else none | _, _ => none) := by
  refine ⟨_, ho, fun I H v w x y z Q ex hv hw hg k => ?_⟩
  cases x with
  | int i =>
    cases y with
    | int j =>
      by_cases c : C i j
      · simp only [c, if_true, Option.some.injEq] at hg
        subst hg
        cases hv.int
        cases hw.int
        exact ⟨i, j, rfl, rfl, c, k _ I H (Al.refl ex) (.int _)⟩
      · simp only [c, if_false] at hg
        cases hg
    | _ => cases hg
  | _ => cases hg
theorem opm_int0 {f : Value → Value → Sem Value} {gi : Int → Int → Int} (ho : OpR X f (rI0 fun i j => .int (gi i j))) :
    OpM X cl f (fun x y => match x, y with | .int i, .int j => some (.int (gi i j)) | _, _ => none) := by
  refine ⟨_, ho, fun I H v w x y z Q ex hv hw hg k => ?_⟩
  cases x with
  | int i =>
    cases y with
    | int j =>
      simp only [Option.some.injEq] at hg
      subst hg
      cases hv.int
      cases hw.int
      exact ⟨i, j, rfl, rfl, k _ I H (Al.refl ex) (.int _)⟩
    | _ => cases hg
  | _ => cases hg
theorem opm_cmp {f : Value → Value → Sem Value} {gi : Int → Int → Bool} (ho : OpR X f (rI0 fun i j => .bl (gi i j))) :
    OpM X cl f (fun x y => match x, y with | .int i, .int j => some (.bl (gi i j)) | _, _ => none) := by
  refine ⟨_, ho, fun I H v w x y z Q ex hv hw hg k => ?_⟩
  cases x with
  | int i =>
    cases y with
    | int j =>
      simp only [Option.some.injEq] at hg
      subst hg
      cases hv.int
      cases hw.int
      exact ⟨i, j, rfl, rfl, k _ I H (Al.refl ex) (.bl _)⟩
    | _ => cases hg
  | _ => cases hg
def gSub : D → D → Option D := fun x y => match x, y with | .int i, .int j => some (.int (i - j)) | _, _ => none
theorem om_sub : OpM X cl (binaryOp .Sub) gSub := opm_int0 op_sub
def gFdiv : D → D → Option D := fun x y => match x, y with | .int i, .int j => if 0 < j ∧ j.natAbs.log2 < 9000 then some (.int (i / j)) else none | _, _ => none
theorem om_fdiv : OpM X cl (binaryOp .FloorDiv) gFdiv := opm_int (C := fun _ j => 0 < j ∧ j.natAbs.log2 < 9000) (gi := fun i j => i / j) op_fdivW
def gMod : D → D → Option D := fun x y => match x, y with | .int i, .int j => if 0 < j then some (.int (i % j)) else none | _, _ => none
theorem om_mod : OpM X cl (binaryOp .Mod) gMod := opm_int (C := fun _ j => 0 < j) (gi := fun i j => i % j) op_mod
def gPow : D → D → Option D := fun x y => match x, y with | .int i, .int j => if 0 ≤ j ∧ j ≤ 1000000 ∧ i.natAbs < 2 ^ 64 then some (.int (i ^ j.toNat)) else none | _, _ => none
theorem om_pow : OpM X cl (binaryOp .Pow) gPow := opm_int (C := fun i j => 0 ≤ j ∧ j ≤ 1000000 ∧ i.natAbs < 2 ^ 64) (gi := fun i j => i ^ j.toNat) op_pow
def gShl : D → D → Option D := fun x y => match x, y with | .int i, .int j => if 0 ≤ j ∧ j ≤ 1000000 ∧ i.natAbs < 2 ^ 64 then some (.int (i * 2 ^ j.toNat)) else none | _, _ => none
theorem om_shl : OpM X cl (binaryOp .LShift) gShl := opm_int (C := fun i j => 0 ≤ j ∧ j ≤ 1000000 ∧ i.natAbs < 2 ^ 64) (gi := fun i j => i * 2 ^ j.toNat) op_shl
def gShr : D → D → Option D := fun x y => match x, y with | .int i, .int j => if 0 ≤ j then some (.int (i / 2 ^ j.toNat)) else none | _, _ => none
theorem om_shr : OpM X cl (binaryOp .RShift) gShr := opm_int (C := fun _ j => 0 ≤ j) (gi := fun i j => i / 2 ^ j.toNat) op_shr
def gAnd : D → D → Option D := fun x y => match x, y with | .int i, .int j => some (.int (Builtin.bitAnd i j)) | _, _ => none
theorem om_and : OpM X cl (binaryOp .BitAnd) gAnd := opm_int0 op_and
def gOr : D → D → Option D := fun x y => match x, y with | .int i, .int j => some (.int (Builtin.bitOr i j)) | _, _ => none
theorem om_or : OpM X cl (binaryOp .BitOr) gOr := opm_int0 op_or
def gXor : D → D → Option D := fun x y => match x, y with | .int i, .int j => some (.int (Builtin.bitXor i j)) | _, _ => none
theorem om_xor : OpM X cl (binaryOp .BitXor) gXor := opm_int0 op_xor
def gLt : D → D → Option D := fun x y => match x, y with | .int i, .int j => some (.bl (decide (i < j))) | _, _ => none
theorem om_lt : OpM X cl (compareOp .Lt) gLt := opm_cmp op_lt
def gLe : D → D → Option D := fun x y => match x, y with | .int i, .int j => some (.bl (decide (i ≤ j))) | _, _ => none
theorem om_le : OpM X cl (compareOp .LtE) gLe := opm_cmp op_le
def gGt : D → D → Option D := fun x y => match x, y with | .int i, .int j => some (.bl (decide (j < i))) | _, _ => none
theorem om_gt : OpM X cl (compareOp .Gt) gGt := opm_cmp op_gt
def gGe : D → D → Option D := fun x y => match x, y with | .int i, .int j => some (.bl (decide (j ≤ i))) | _, _ => none
theorem om_ge : OpM X cl (compareOp .GtE) gGe := opm_cmp op_ge
def gEq : D → D → Option D := fun x y => match x, y with
  | .int i, .int j => some (.bl (i == j))
  | x, y => if shD x && shD y then some (.bl (eqD x y)) else none
def gNe : D → D → Option D := fun x y => match x, y with
  | .int i, .int j => some (.bl (!(i == j)))
  | x, y => if shD x && shD y then some (.bl (!eqD x y)) else none
theorem gEq_cases {x y z : D} (h : gEq x y = some z) : shD x = true ∧ shD y = true ∧ z = .bl (eqD x y) := by
  unfold gEq at h
  split at h
  · cases Option.some.inj h
    exact ⟨by simp [shD, layD, depD], by simp [shD, layD, depD], by simp [eqD]⟩
  · split at h
    · rename_i hc
      rw [Bool.and_eq_true] at hc
      cases Option.some.inj h
      exact ⟨hc.1, hc.2, rfl⟩
    · cases h
theorem gNe_cases {x y z : D} (h : gNe x y = some z) : shD x = true ∧ shD y = true ∧ z = .bl (!eqD x y) := by
  unfold gNe at h
  split at h
  · cases Option.some.inj h
    exact ⟨by simp [shD, layD, depD], by simp [shD, layD, depD], by simp [eqD]⟩
  · split at h
    · rename_i hc
      rw [Bool.and_eq_true] at hc
      cases Option.some.inj h
      exact ⟨hc.1, hc.2, rfl⟩
    · cases h
theorem lay_sh {d : D} (h : shD d = true) : layD d = true := by
  unfold shD at h
  rw [Bool.and_eq_true] at h
  exact h.1
theorem om_eq (hu : X.A.units + 64 < cLine) : OpM X cl (compareOp .Eq) gEq := by
  refine ⟨_, op_eqD hu, fun I H v w x y z Q ex hv hw hg k => ?_⟩
  obtain ⟨sx, sy, rfl⟩ := gEq_cases hg
  refine ⟨pyD x, pyD y, hv.dp ex (lay_sh sx), hw.dp ex (lay_sh sy), sh_py sx, sh_py sy, ?_⟩
  rw [eq_py x y (lay_sh sx) (lay_sh sy)]
  exact k _ I H (Al.refl ex) (.bl _)
theorem om_ne (hu : X.A.units + 64 < cLine) : OpM X cl (compareOp .NotEq) gNe := by
  refine ⟨_, op_neD hu, fun I H v w x y z Q ex hv hw hg k => ?_⟩
  obtain ⟨sx, sy, rfl⟩ := gNe_cases hg
  refine ⟨pyD x, pyD y, hv.dp ex (lay_sh sx), hw.dp ex (lay_sh sy), sh_py sx, sh_py sy, ?_⟩
  rw [eq_py x y (lay_sh sx) (lay_sh sy)]
  exact k _ I H (Al.refl ex) (.bl _)
/-! in, not in: lists, tuples -/
def rInS (K : PySem.W.Frag) (neg : Bool) : R2 := fun x y H Q => ∃ d ds, Dp K H x d ∧ (Dp K H y (.list ds) ∨ Dp K H y (.tuple ds)) ∧ SeqAt.shaped d = true ∧ PyData.canLayAll0 ds = true ∧ Q (.bl (if neg then !ds.any (fun z => PyData.eqv z d) else ds.any fun z => PyData.eqv z d)) H
theorem op_inS (hu : X.A.units + 65 < cLine) : OpR X (compareOp .In) (rInS X.K false) := by
  intro pins s σ H x y v u Q I rx ry h
  obtain ⟨d, ds, hd, he, sd, se, q⟩ := h
  obtain ⟨as, r1⟩ := Dp.reads I d x v hd rx
  rcases he with he | he
  · obtain ⟨bs, r2⟩ := Dp.reads I (.list ds) y u he ry
    exact SeqAt.in_list_reads r2 r1 se (SeqAt.canLay_of_shaped sd) (room_in_shaped sd hu) ⟨.bl _, H, I, rfl, q⟩
  · obtain ⟨bs, r2⟩ := Dp.reads I (.tuple ds) y u he ry
    exact SeqAt.in_tuple_reads r2 r1 se (SeqAt.canLay_of_shaped sd) (room_in_shaped sd hu) ⟨.bl _, H, I, rfl, q⟩
theorem op_notInS (hu : X.A.units + 65 < cLine) : OpR X (compareOp .NotIn) (rInS X.K true) := by
  intro pins s σ H x y v u Q I rx ry h
  obtain ⟨d, ds, hd, he, sd, se, q⟩ := h
  obtain ⟨as, r1⟩ := Dp.reads I d x v hd rx
  rcases he with he | he
  · obtain ⟨bs, r2⟩ := Dp.reads I (.list ds) y u he ry
    exact SeqAt.notIn_list_reads r2 r1 se (SeqAt.canLay_of_shaped sd) (room_in_shaped sd hu) ⟨.bl _, H, I, rfl, q⟩
  · obtain ⟨bs, r2⟩ := Dp.reads I (.tuple ds) y u he ry
    exact SeqAt.notIn_tuple_reads r2 r1 se (SeqAt.canLay_of_shaped sd) (room_in_shaped sd hu) ⟨.bl _, H, I, rfl, q⟩
def anyEq (d : D) (ds : List D) : Bool := ds.any fun z => eqD z d
def gIn (neg : Bool) : D → D → Option D := fun x y => match y with
  | .lst ds => if shD x && layDs ds then some (.bl (if neg then !anyEq x ds else anyEq x ds)) else none
  | .tup ds => if shD x && layDs ds then some (.bl (if neg then !anyEq x ds else anyEq x ds)) else none
  | _ => none
theorem anyEq_py {d : D} (hd : layD d = true) : ∀ {ds : List D}, layDs ds = true → ((pyDs ds).any fun z => PyData.eqv z (pyD d)) = anyEq d ds
  | [], _ => rfl
  | x :: xs, h => by
    simp only [layDs, Bool.and_eq_true] at h
    have ih := anyEq_py hd h.2
    unfold anyEq at ih ⊢
    rw [pyDs, List.any_cons, List.any_cons, eq_py x d h.1 hd, ih]
theorem gIn_sem {K : PySem.W.Frag} {neg : Bool} {I H : Hp} {v w : V} {x y z : D} {Q : VK} (ex : Same I H) (hv : Vw K cl I H v x) (hw : Vw K cl I H w y) (hg : gIn neg x y = some z) (k : ∀ u I' H', Al I H I' H' → Rp K cl I' u z → Q u H') : rInS K neg v w H Q := by
  have fin : ∀ ds, (shD x && layDs ds) = true → (Dp K H w (.list (pyDs ds)) ∨ Dp K H w (.tuple (pyDs ds))) → z = .bl (if neg then !anyEq x ds else anyEq x ds) → rInS K neg v w H Q := fun ds hc hd ez => by
    rw [Bool.and_eq_true] at hc
    refine ⟨pyD x, pyDs ds, hv.dp ex (lay_sh hc.1), hd, sh_py hc.1, lay_pys ds hc.2, ?_⟩
    rw [anyEq_py (lay_sh hc.1) hc.2]
    subst ez
    exact k _ I H (Al.refl ex) (.bl _)
  cases y with
  | lst ds =>
    unfold gIn at hg
    by_cases hc : (shD x && layDs ds) = true
    · simp only [hc, if_true, Option.some.injEq] at hg
      refine fin ds hc (.inl ?_) hg.symm
      rw [Bool.and_eq_true] at hc
      have := hw.dp ex (show layD (.lst ds) = true by simpa only [layD] using hc.2)
      simpa only [pyD] using this
    · simp only [hc] at hg
      cases hg
  | tup ds =>
    unfold gIn at hg
    by_cases hc : (shD x && layDs ds) = true
    · simp only [hc, if_true, Option.some.injEq] at hg
      refine fin ds hc (.inr ?_) hg.symm
      rw [Bool.and_eq_true] at hc
      have := hw.dp ex (show layD (.tup ds) = true by simpa only [layD] using hc.2)
      simpa only [pyD] using this
    · simp only [hc] at hg
      cases hg
  | _ => cases hg
theorem om_in (hu : X.A.units + 65 < cLine) : OpM X cl (compareOp .In) (gIn false) := ⟨_, op_inS hu, fun _ _ _ _ _ _ _ _ ex hv hw hg k => gIn_sem ex hv hw hg k⟩
theorem om_notIn (hu : X.A.units + 65 < cLine) : OpM X cl (compareOp .NotIn) (gIn true) := ⟨_, op_notInS hu, fun _ _ _ _ _ _ _ _ ex hv hw hg k => gIn_sem ex hv hw hg k⟩
/-! is None -/
def isN : D → Bool | .non => true | _ => false
def gIsN (neg : Bool) : D → D → Option D := fun x y => match y with | .non => some (.bl (if neg then !isN x else isN x)) | _ => none
theorem vw_isN {K : PySem.W.Frag} {I H : Hp} {v : V} {x : D} (hv : Vw K cl I H v x) : decide (v = .non) = isN x := by
  cases x with
  | non => rw [hv.non]; rfl
  | _ =>
    refine decide_eq_false ?_
    rintro rfl
    rcases hv with h | ⟨p, ho, o, e, _⟩
    · cases h
    · cases e
theorem om_isN : OpM X cl (compareOp .Is) (gIsN false) := ⟨_, op_isN, fun I H v w x y z Q ex hv hw hg k => by
  cases y with
  | non =>
    cases Option.some.inj hg
    cases hw.non
    refine ⟨rfl, ?_⟩
    rw [vw_isN hv]
    exact k _ I H (Al.refl ex) (.bl _)
  | _ => cases hg⟩
theorem om_isNotN : OpM X cl (compareOp .IsNot) (gIsN true) := ⟨_, op_notN, fun I H v w x y z Q ex hv hw hg k => by
  cases y with
  | non =>
    cases Option.some.inj hg
    cases hw.non
    refine ⟨rfl, ?_⟩
    rw [vw_isN hv]
    exact k _ I H (Al.refl ex) (.bl _)
  | _ => cases hg⟩
/-! + : ints, lists, tuples -/
def gAdd : D → D → Option D := fun x y => match x, y with
  | .int i, .int j => some (.int (i + j))
  | .tup xs, .tup ys => if xs.length + ys.length ≤ 16777216 then some (.tup (xs ++ ys)) else none
  | .lst xs, .lst ys => if xs.length + ys.length ≤ 16777216 then some (.lst (xs ++ ys)) else none
  | _, _ => none
theorem RpA.nil_iff {K : PySem.W.Frag} {I : Hp} {vs : List V} {ds : List D} (h : RpA K cl I vs ds) : vs = [] ↔ ds = [] := by
  cases h <;> simp
theorem om_add : OpM X cl (binaryOp .Add) gAdd := by
  refine ⟨_, OpR.or op_add (OpR.or op_catX op_cat), fun I H v w x y z Q ex hv hw hg k => ?_⟩
  cases x with
  | int i =>
    cases y with
    | int j =>
      cases Option.some.inj hg
      cases hv.int
      cases hw.int
      exact .inl ⟨i, j, rfl, rfl, k _ I H (Al.refl ex) (.int _)⟩
    | _ => cases hg
  | tup xs =>
    cases y with
    | tup ys =>
      unfold gAdd at hg
      by_cases hl : xs.length + ys.length ≤ 16777216
      · simp only [hl, if_true, Option.some.injEq] at hg
        subst hg
        obtain ⟨a, vs, rfl, hs, r, rp⟩ := hv.tup ex
        obtain ⟨b, ws, rfl, hs2, r2, rp2⟩ := hw.tup ex
        refine .inr (.inl ⟨a, b, vs, ws, rfl, rfl, hs, hs2, by rw [r.length, r2.length]; exact hl, fun e1 => ?_, fun e1 e2 => ?_, fun _ _ p us hp => ?_⟩)
        · have e3 := r.nil_iff.mp e1
          subst e3
          exact k _ I H (Al.refl ex) rp2
        · have e3 := r2.nil_iff.mp e2
          subst e3
          rw [List.append_nil] at k
          exact k _ I H (Al.refl ex) rp
        · have al : Al I H (upd I p (xT us (vs ++ ws))) (upd H p (xT us (vs ++ ws))) := Al.new ex hp
          exact k _ _ _ al (.tup .new ((r.append r2).mono al.ext))
      · simp only [hl, if_false] at hg
        cases hg
    | _ => cases hg
  | lst xs =>
    cases y with
    | lst ys =>
      unfold gAdd at hg
      by_cases hl : xs.length + ys.length ≤ 16777216
      · simp only [hl, if_true, Option.some.injEq] at hg
        subst hg
        obtain ⟨a, vs, rfl, hs, r⟩ := hv.lst ex
        obtain ⟨b, ws, rfl, hs2, r2⟩ := hw.lst ex
        refine .inr (.inr ⟨a, b, vs, ws, rfl, rfl, hs, hs2, by rw [r.length, r2.length]; exact hl, fun p hp => ?_⟩)
        have al : Al I H (upd I p (.lst (vs ++ ws))) (upd H p (.lst (vs ++ ws))) := Al.new ex hp
        exact k _ _ _ al (.lst upd_same ((r.append r2).mono al.ext))
      · simp only [hl, if_false] at hg
        cases hg
    | _ => cases hg
  | _ => cases hg
/-! operators that make a list of their own -/
def OpF (X : Cx) (cl : ClM) (f : Value → Value → Sem Value) (g : D → D → Option SO) : Prop := ∃ r : R2, OpR X f r ∧
  ∀ (I H : Hp) (v w : V) (x y : D) (o : SO) (Q : VK), Same I H → Vw X.K cl I H v x → Vw X.K cl I H w y → g x y = some o → (∀ p ho I' H', Al I H I' H' → I' p = none → H p = none → H' p = some ho → SoOk X.K cl I' p ho o → Q (.ref p) H') → r v w H Q
def fBin (g : D → D → Option SO) (m1 m2 : Xp) : Xf := fun env => match m1 env with
  | none => none
  | some (r1, e1) => match m2 e1 with
    | none => none
    | some (r2, e2) => match vw e2 r1, vw e2 r2 with
      | some x, some y => match g x y with
        | some o => some (o, e2)
        | none => none
      | _, _ => none
theorem fr_bin {r : R2} {ta tb : TE} {g : D → D → Option SO} {m1 m2 : Xp} (h1 : EvOk X.K cl ta m1) (h2 : EvOk X.K cl tb m2)
    (hr : ∀ (I H : Hp) (v w : V) (x y : D) (o : SO) (Q : VK), Same I H → Vw X.K cl I H v x → Vw X.K cl I H w y → g x y = some o → (∀ p ho I' H', Al I H I' H' → I' p = none → H p = none → H' p = some ho → SoOk X.K cl I' p ho o → Q (.ref p) H') → r v w H Q) : FrOk X.K cl (tOp r ta tb) (fBin g m1 m2) := by
  intro σ H I env o env' Q gd hm k
  unfold fBin at hm
  cases q1 : m1 env with
  | none => simp [q1] at hm
  | some p1 =>
    obtain ⟨r1, e1⟩ := p1
    simp only [q1] at hm
    cases q2 : m2 e1 with
    | none => simp [q2] at hm
    | some p2 =>
      obtain ⟨r2, e2⟩ := p2
      simp only [q2] at hm
      cases q3 : vw e2 r1 with
      | none => simp [q3] at hm
      | some x =>
        cases q4 : vw e2 r2 with
        | none => simp [q3, q4] at hm
        | some y =>
          simp only [q3, q4] at hm
          cases q5 : g x y with
          | none => simp [q5] at hm
          | some z =>
            simp only [q5, Option.some.injEq, Prod.mk.injEq] at hm
            obtain ⟨rfl, rfl⟩ := hm
            refine h1 σ H I env r1 e1 _ gd q1 fun v I1 H1 g1 t1 k1 => ?_
            refine h2 σ H1 I1 e1 r2 e2 _ g1 q2 fun w I2 H2 g2 t2 k2 => ?_
            refine hr I2 H2 v w x y z Q g2.ex (vw_ok g2 (k1.mono t2.ext) q3) (vw_ok g2 k2 q4) q5 fun p ho I3 H3 a ip hp2 hp so => ?_
            have t12 := t1.trans t2
            exact k p ho I3 H3 (g2.al a) (t12.trans a.tr) ip hp so (t12.back (.inr hp2)) (nf_fresh g2 hp2)
theorem mf_op {op : Operator} {g : D → D → Option SO} {a b : Expr} {pos : Pos} {m1 m2 : Xp} (ho : OpF X cl (binaryOp op) g) (h1 : ME X cl a m1) (h2 : ME X cl b m2) : MF X cl (.BinOp a op b pos) (fBin g m1 m2) := by
  obtain ⟨r, hr, hw⟩ := ho
  obtain ⟨ta, pa, ea⟩ := h1
  obtain ⟨tb, pb, eb⟩ := h2
  exact ⟨_, pe_op hr pa pb, fr_bin ea eb hw⟩
def fgAdd : D → D → Option SO := fun x y => match x, y with
  | .lst xs, .lst ys => if xs.length + ys.length ≤ 16777216 then some (.lst (xs ++ ys)) else none
  | _, _ => none
theorem of_add : OpF X cl (binaryOp .Add) fgAdd := by
  refine ⟨_, op_cat, fun I H v w x y z Q ex hv hw hg k => ?_⟩
  cases x with
  | lst xs =>
    cases y with
    | lst ys =>
      unfold fgAdd at hg
      by_cases hl : xs.length + ys.length ≤ 16777216
      · simp only [hl, if_true, Option.some.injEq] at hg
        subst hg
        obtain ⟨a, vs, rfl, hs, r⟩ := hv.lst ex
        obtain ⟨b, ws, rfl, hs2, r2⟩ := hw.lst ex
        refine ⟨a, b, vs, ws, rfl, rfl, hs, hs2, by rw [r.length, r2.length]; exact hl, fun p hp => ?_⟩
        exact k p _ I _ (Al.newH ex hp) (ex.free hp) hp upd_same (.lst (r.append r2))
      · simp only [hl, if_false] at hg
        cases hg
    | _ => cases hg
  | _ => cases hg
def okK : Int → Bool
  | .ofNat n => Nat.ble n 9223372036854775807
  | .negSucc n => Nat.ble n 9223372036854775807
theorem okK_ok {i : Int} (h : okK i = true) : -(2 ^ 63) ≤ i ∧ i < 2 ^ 63 := by
  cases i with
  | ofNat n =>
    have := Nat.le_of_ble_eq_true h
    rw [Int.ofNat_eq_natCast]
    omega
  | negSucc n =>
    have := Nat.le_of_ble_eq_true h
    rw [Int.negSucc_eq]
    omega
theorem okK_of {i : Int} (h : -(2 ^ 63) ≤ i ∧ i < 2 ^ 63) : okK i = true := by
  cases i with
  | ofNat n =>
    rw [Int.ofNat_eq_natCast] at h
    exact Nat.ble_eq_true_of_le (by omega)
  | negSucc n =>
    rw [Int.negSucc_eq] at h
    exact Nat.ble_eq_true_of_le (by omega)
def fgMul : D → D → Option SO := fun x y => match x, y with
  | .lst xs, .int k => if okK k ∧ xs.length * k.toNat ≤ 16777216 then some (.lst (List.replicate k.toNat xs).flatten) else none
  | _, _ => none
theorem of_mul : OpF X cl (binaryOp .Mult) fgMul := by
  refine ⟨_, op_rep, fun I H v w x y z Q ex hv hw hg k => ?_⟩
  cases x with
  | lst xs =>
    cases y with
    | int j =>
      unfold fgMul at hg
      by_cases hl : okK j = true ∧ xs.length * j.toNat ≤ 16777216
      · simp only [hl, if_true, Option.some.injEq] at hg
        simp at hg
        subst hg
        obtain ⟨a, vs, rfl, hs, r⟩ := hv.lst ex
        cases hw.int
        refine ⟨a, j, vs, rfl, rfl, hs, (okK_ok hl.1).1, (okK_ok hl.1).2, by rw [r.length]; exact hl.2, fun p hp => ?_⟩
        exact k p _ I _ (Al.newH ex hp) (ex.free hp) hp upd_same (.lst (r.rep j.toNat))
      · simp only [hl, if_false] at hg
        cases hg
    | _ => cases hg
  | _ => cases hg
end
end MP
set_option Elab.async false
set_option linter.all false
set_option maxRecDepth 100000
set_option maxHeartbeats 4000000
namespace MP
open PySem PySem.Spec PyProof.Rows L2
theorem tuple_mul_self (l : Addr) (items : Array Value) (n : Nat) (sl : Array (Option Value)) (dd : Option Addr) (x : Int) (u : Tok) (c0 : (decide (x < -(2 ^ 63)) || decide (x ≥ 2 ^ 63)) = false) (c1 : (items.isEmpty || x == 1) = true) :
    Meets (Builtin.«tuple.__mul__» ⟨[.ref l, .int x u], []⟩) (fun _ R s => s.heap.get? l = some { cls := .type "tuple", dict := dd, data := .seq items n, slots := sl } ∧
      R (.ok (.ret (Value.ref l))) s) :=
  .of_wp fun prog w A R s h => by
    obtain ⟨hp, g, d, tk, os⟩ := s
    obtain ⟨hl, h⟩ := h
    have f1 := AutoSeq1.idx_int
    wp_walk using wpAny_loadPart' hl
    repeat (first
      | (refine wpAny_ite_false (decide_eq_false (by rw [c0]; exact Bool.false_ne_true)) ?_; wp_walk using wpAny_loadPart' hl)
      | (refine wpAny_ite_true (decide_eq_true c1) ?_; wp_walk using wpAny_loadPart' hl))
    exact ⟨_, rfl, h⟩
theorem tuple_mul_zero (l : Addr) (items : Array Value) (n : Nat) (sl : Array (Option Value)) (dd : Option Addr) (x : Int) (u : Tok) (c0 : (decide (x < -(2 ^ 63)) || decide (x ≥ 2 ^ 63)) = false) (c1 : (items.isEmpty || x == 1) = false) (c2 : (decide (x ≤ 0) || items.isEmpty) = true) :
    Meets (Builtin.«tuple.__mul__» ⟨[.ref l, .int x u], []⟩) (fun _ R s => s.heap.get? l = some { cls := .type "tuple", dict := dd, data := .seq items n, slots := sl } ∧
      R (.ok (.ret (Value.ref s.heap.objs.size))) { s with heap := s.heap.push { cls := Value.type "tuple", data := Data.seq #[] }, toks := s.toks }) :=
  .of_wp fun prog w A R s h => by
    obtain ⟨hp, g, d, tk, os⟩ := s
    obtain ⟨hl, h⟩ := h
    have f1 := AutoSeq1.idx_int
    wp_walk using wpAny_loadPart' hl
    repeat (first
      | (refine wpAny_ite_false (decide_eq_false (by rw [c0]; exact Bool.false_ne_true)) ?_; wp_walk using wpAny_loadPart' hl)
      | (refine wpAny_ite_false (decide_eq_false (by rw [c1]; exact Bool.false_ne_true)) ?_; wp_walk using wpAny_loadPart' hl)
      | (refine wpAny_ite_true (decide_eq_true c2) ?_; wp_walk using wpAny_loadPart' hl))
    exact ⟨_, rfl, h⟩
def rRepA (K : PySem.W.Frag) : R2 := fun x y H Q => ∃ l k xs, x = .ref l ∧ y = .int k ∧ SqT K H l xs ∧ okK k = true ∧ ((2 ≤ k ∧ xs ≠ []) → k ≤ 1000 ∧ xs.length ≤ 1000) ∧ (xs = [] ∨ k = 1 → Q (.ref l) H) ∧
  (¬ (xs = [] ∨ k = 1) → NewT H Q (List.replicate k.toNat xs).flatten)
theorem op_repA {X : Cx} : OpR X (binaryOp .Mult) (rRepA X.K) := by
  intro pins s σ H x y v u Q I rx ry h
  obtain ⟨l, k, xs, rfl, rfl, hT, hok, hbig, q1, q2⟩ := h
  obtain ⟨k1, k2⟩ := okK_ok hok
  cases rx
  obtain ⟨t, rfl⟩ := ry
  obtain ⟨its, r, ⟨⟨cls, dd, data, sl⟩, ho, hc, n, hd⟩, hs⟩ := I.tuple hT
  simp only at hc hd
  subst hc hd
  have hle : its.length = xs.length := r.length.symm
  have hem : its.toArray.isEmpty = xs.isEmpty := by
    cases its <;> cases xs <;> first | rfl | (simp at hle)
  have c0 : (decide (k < -(2 ^ 63)) || decide (k ≥ 2 ^ 63)) = false := by
    rw [decide_eq_false (by omega), decide_eq_false (by omega)] <;> rfl
  by_cases hb : 2 ≤ k ∧ xs ≠ []
  · obtain ⟨h1, h2⟩ := hbig hb
    have hn : ¬ (xs = [] ∨ k = 1) := fun z => by
      rcases z with z | z
      · exact hb.2 z
      · omega
    have k0 := hb.1
    have hi : its.toArray.isEmpty = false := by
      rw [hem]
      cases xs with
      | nil => exact absurd rfl hb.2
      | cons a b => rfl
    have c1 : (its.toArray.isEmpty || k == 1) = false := by
      rw [hi, Bool.false_or]
      exact beq_eq_false_iff_ne.mpr (by omega)
    have c2 : (decide (k ≤ 0) || its.toArray.isEmpty) = false := by
      rw [hi, Bool.or_false]
      exact decide_eq_false (by omega)
    have hsz : (its.toArray.size : Int) = xs.length := by
      rw [List.size_toArray, hle]
    have hm : (its.toArray.size : Int) * k ≤ 1000000 := by
      rw [hsz]
      have a1 : (xs.length : Int) * k ≤ 1000 * k := Int.mul_le_mul_of_nonneg_right (by omega) (by omega)
      omega
    have hm2 : k.toNat * xs.length ≤ 1000 * 1000 := Nat.mul_le_mul (by omega) h2
    have c3 : ¬ (its.toArray.size : Int) * k > (2 ^ 63 - 1) / 8 := by omega
    have c4 : Builtin.Tuple.tupleTooMany ((its.toArray.size : Int) * k) = false := by
      show decide ((its.toArray.size : Int) * k > (sizeLine : Nat)) = false
      rw [sizeLine_eq]
      exact decide_eq_false (by omega)
    have flen : ∀ {α : Type} (l : List α), l.length = xs.length → (List.replicate k.toNat l).flatten.length ≤ sizeLine := fun l hl => by
      rw [lm_len_rep_flat, hl, sizeLine_eq]
      omega
    refine wpAny_binaryOp_repeat_ref (T := "tuple") (U := "int") (by decide) ⟨_, ho, rfl⟩ (fun s' => typeIs_int s' k t) noFill_tuple_mul F.fills_int_mul F.slot_int_rmul repeat_tuple F.slot_int_index.lookup
      (call_meets F.slot_int_rmul (typeIs_int s k t) F.entry_int_rmul (F.args_int_rmul_2 _ _) (int_rmul_tuple k t l its.toArray n dd sl)
        ⟨ho, rfl, ⟨_, ho, rfl⟩, call_meets F.slot_tuple_mul ⟨_, ho, rfl⟩ F.entry_tuple_mul (F.args_tuple_mul_2 _ _) (tuple_mulW l its.toArray n dd sl k t c0 c1 c2 c3 c4 (by rw [size_rep, List.size_toArray]; exact flen its hle)) ⟨ho, ?_⟩⟩)
    rw [size_rep]
    exact epX (t' := s.toks) I (flen xs rfl) (r.rep k.toNat) (q2 hn)
  · skip
    by_cases hs1 : xs = [] ∨ k = 1
    · have c1 : (its.toArray.isEmpty || k == 1) = true := by
        rw [hem]
        rcases hs1 with z | z
        · rw [z]
          rfl
        · rw [z]
          simp
      exact wpAny_binaryOp_repeat_ref (T := "tuple") (U := "int") (by decide) ⟨_, ho, rfl⟩ (fun s' => typeIs_int s' k t) noFill_tuple_mul F.fills_int_mul F.slot_int_rmul repeat_tuple F.slot_int_index.lookup
        (call_meets F.slot_int_rmul (typeIs_int s k t) F.entry_int_rmul (F.args_int_rmul_2 _ _) (int_rmul_tuple k t l its.toArray n dd sl)
          ⟨ho, rfl, ⟨_, ho, rfl⟩, call_meets F.slot_tuple_mul ⟨_, ho, rfl⟩ F.entry_tuple_mul (F.args_tuple_mul_2 _ _) (tuple_mul_self l its.toArray n sl dd k t c0 c1) ⟨ho, ⟨.ref l, H, I, rfl, q1 hs1⟩⟩⟩)
    · have ne : xs ≠ [] := fun z => hs1 (.inl z)
      have n1 : k ≠ 1 := fun z => hs1 (.inr z)
      have kle : k ≤ 0 := by
        have : ¬ 2 ≤ k := fun z => hb ⟨z, ne⟩
        omega
      have c1 : (its.toArray.isEmpty || k == 1) = false := by
        rw [hem]
        cases xs with
        | nil => exact absurd rfl ne
        | cons a b =>
          show (false || k == 1) = false
          rw [Bool.false_or]
          exact beq_eq_false_iff_ne.mpr n1
      have c2 : (decide (k ≤ 0) || its.toArray.isEmpty) = true := by
        rw [decide_eq_true kle]
        rfl
      refine wpAny_binaryOp_repeat_ref (T := "tuple") (U := "int") (by decide) ⟨_, ho, rfl⟩ (fun s' => typeIs_int s' k t) noFill_tuple_mul F.fills_int_mul F.slot_int_rmul repeat_tuple F.slot_int_index.lookup
        (call_meets F.slot_int_rmul (typeIs_int s k t) F.entry_int_rmul (F.args_int_rmul_2 _ _) (int_rmul_tuple k t l its.toArray n dd sl)
          ⟨ho, rfl, ⟨_, ho, rfl⟩, call_meets F.slot_tuple_mul ⟨_, ho, rfl⟩ F.entry_tuple_mul (F.args_tuple_mul_2 _ _) (tuple_mul_zero l its.toArray n sl dd k t c0 c1 c2) ⟨ho, ?_⟩⟩)
      have ez : (List.replicate k.toNat xs).flatten = [] := by
        rw [show k.toNat = 0 by omega]
        rfl
      have q2' := q2 hs1
      rw [ez] at q2'
      exact epX (t' := s.toks) (us := []) (xs := []) I (Nat.zero_le _) .nil q2'
section
variable {X : Cx} {cl : ClM}
def mulOk (i j : Int) : Bool := decide (i.natAbs < 2 ^ 64) || decide (j.natAbs < 2 ^ 64) || decide (i.natAbs.log2 + j.natAbs.log2 < 1000000)
def gMul : D → D → Option D := fun x y => match x, y with
  | .int i, .int j => if mulOk i j then some (.int (i * j)) else none
  | .tup xs, .int k => if okK k && (decide (k < 2) || xs.isEmpty || (decide (k ≤ 1000) && decide (xs.length ≤ 1000))) then some (.tup (List.replicate k.toNat xs).flatten) else none
  | .lst xs, .int k => if okK k && decide (xs.length * k.toNat ≤ 16777216) then some (.lst (List.replicate k.toNat xs).flatten) else none
  | _, _ => none
theorem op_mulA : OpR X (binaryOp .Mult) (rI (fun i j => mulOk i j = true) fun i j => .int (i * j)) := by
  intro pins s σ H x y v u Q I rx ry h
  obtain ⟨i, j, rfl, rfl, c, q⟩ := h
  unfold mulOk at c
  rw [Bool.or_eq_true, Bool.or_eq_true] at c
  rcases c with (c | c) | c
  · have c' := of_decide_eq_true c
    exact op_mul pins s σ H _ _ v u Q I rx ry ⟨i, j, rfl, rfl, .inl (by omega), q⟩
  · have c' := of_decide_eq_true c
    exact op_mul pins s σ H _ _ v u Q I rx ry ⟨i, j, rfl, rfl, .inr (by omega), q⟩
  · exact op_mulW pins s σ H _ _ v u Q I rx ry ⟨i, j, rfl, rfl, (show i.natAbs.log2 + j.natAbs.log2 < 1000000 from of_decide_eq_true c), q⟩
theorem om_mul : OpM X cl (binaryOp .Mult) gMul := by
  refine ⟨_, OpR.or op_mulA (OpR.or op_repA op_rep), fun I H v w x y z Q ex hv hw hg k => ?_⟩
  cases x with
  | int i =>
    cases y with
    | int j =>
      unfold gMul at hg
      by_cases c : mulOk i j = true
      · simp only [c, if_true, Option.some.injEq] at hg
        subst hg
        cases hv.int
        cases hw.int
        exact .inl ⟨i, j, rfl, rfl, c, k _ I H (Al.refl ex) (.int _)⟩
      · simp only [c] at hg
        cases hg
    | _ => cases hg
  | tup xs =>
    cases y with
    | int j =>
      unfold gMul at hg
      by_cases c : (okK j && (decide (j < 2) || xs.isEmpty || (decide (j ≤ 1000) && decide (xs.length ≤ 1000)))) = true
      · simp only [c, if_true, Option.some.injEq] at hg
        subst hg
        obtain ⟨a, vs, rfl, hs, r, rp⟩ := hv.tup ex
        cases hw.int
        rw [Bool.and_eq_true] at c
        refine .inr (.inl ⟨a, j, vs, rfl, rfl, hs, c.1, fun ⟨h2, hne⟩ => ?_, fun h => ?_, fun h p us hp => ?_⟩)
        · have c2 := c.2
          rw [Bool.or_eq_true, Bool.or_eq_true, Bool.and_eq_true] at c2
          rcases c2 with (c2 | c2) | c2
          · have := of_decide_eq_true c2
            omega
          · rw [List.isEmpty_iff] at c2
            exact absurd (r.nil_iff.mpr c2) hne
          · exact ⟨of_decide_eq_true c2.1, by rw [r.length]; exact of_decide_eq_true c2.2⟩
        · have e : (List.replicate j.toNat xs).flatten = xs := by
            rcases h with h | h
            · have := r.nil_iff.mp h
              subst this
              induction j.toNat with
              | zero => rfl
              | succ n ih => rw [List.replicate_succ, List.flatten_cons, ih]; rfl
            · subst h
              show (List.replicate 1 xs).flatten = xs
              simp
          rw [e] at k
          exact k _ I H (Al.refl ex) rp
        · have al : Al I H (upd I p (xT us (List.replicate j.toNat vs).flatten)) (upd H p (xT us (List.replicate j.toNat vs).flatten)) := Al.new ex hp
          exact k _ _ _ al (.tup .new ((r.rep j.toNat).mono al.ext))
      · simp only [c] at hg
        cases hg
    | _ => cases hg
  | lst xs =>
    cases y with
    | int j =>
      unfold gMul at hg
      by_cases c : (okK j && decide (xs.length * j.toNat ≤ 16777216)) = true
      · simp only [c, if_true, Option.some.injEq] at hg
        subst hg
        rw [Bool.and_eq_true] at c
        obtain ⟨a, vs, rfl, hs, r⟩ := hv.lst ex
        cases hw.int
        refine .inr (.inr ⟨a, j, vs, rfl, rfl, hs, (okK_ok c.1).1, (okK_ok c.1).2, by rw [r.length]; exact of_decide_eq_true c.2, fun p hp => ?_⟩)
        have al : Al I H (upd I p (.lst (List.replicate j.toNat vs).flatten)) (upd H p (.lst (List.replicate j.toNat vs).flatten)) := Al.new ex hp
        exact k _ _ _ al (.lst upd_same ((r.rep j.toNat).mono al.ext))
      · simp only [c] at hg
        cases hg
    | _ => cases hg
  | _ => cases hg
/-! unary minus -/
def eUn (g : D → Option D) (m : Xp) : Xp := fun env => match m env with
  | none => none
  | some (r, e1) => match vw e1 r with
    | none => none
    | some d => match g d with
      | some z => some (.d z, e1)
      | none => none
def gNeg : D → Option D := fun d => match d with | .int i => some (.int (-i)) | _ => none
theorem me_neg {a : Expr} {m : Xp} {pos : Pos} (h : ME X cl a m) : ME X cl (.UnaryOp .USub a pos) (eUn gNeg m) := by
  obtain ⟨t, p, k⟩ := h
  refine ⟨_, pe_un un_neg p, fun σ H I env r env' Q g hm kk => ?_⟩
  unfold eUn at hm
  cases q : m env with
  | none => simp [q] at hm
  | some pr =>
    obtain ⟨r1, e1⟩ := pr
    simp only [q] at hm
    cases q2 : vw e1 r1 with
    | none => simp [q2] at hm
    | some d =>
      simp only [q2] at hm
      cases d with
      | int i =>
        simp only [gNeg, Option.some.injEq, Prod.mk.injEq] at hm
        obtain ⟨rfl, rfl⟩ := hm
        refine k σ H I env r1 e1 _ g q fun v I1 H1 g1 t1 rv => ?_
        have ev := (vw_ok g1 rv q2).int
        subst ev
        exact ⟨i, rfl, kk _ I1 H1 g1 t1 (.int _)⟩
      | _ => simp [gNeg] at hm

/-! ### subscripts -/
def gIx : D → D → Option D := fun x y => match x, y with
  | .lst xs, .int i => atI xs i
  | .tup xs, .int i => atI xs i
  | _, _ => none
theorem RpA.atI {K : PySem.W.Frag} {I : Hp} {vs : List V} {ds : List D} {i : Int} {d : D} (r : RpA K cl I vs ds) (h : L2.atI ds i = some d) : ∃ v, L2.atI vs i = some v ∧ Rp K cl I v d := by
  unfold L2.atI at h ⊢
  rw [r.length]
  cases q : ixN ds.length i with
  | none => rw [q] at h; cases h
  | some j =>
    rw [q] at h
    exact r.get (i := j) h
theorem me_ix {a b : Expr} {m1 m2 : Xp} {pos : Pos} (h1 : ME X cl a m1) (h2 : ME X cl b m2) (hs : PlainIx b) : ME X cl (.Subscript a b pos) (eBin gIx m1 m2) := by
  obtain ⟨ta, pa, ea⟩ := h1
  obtain ⟨tb, pb, eb⟩ := h2
  refine ⟨_, pe_ix ix_seq pa pb hs, ev_bin ea eb fun I H v w x y z Q ex hv hw hg k => ?_⟩
  cases x with
  | lst xs =>
    cases y with
    | int i =>
      obtain ⟨p, vs, rfl, hs, r⟩ := hv.lst ex
      cases hw.int
      obtain ⟨u, hu, ru⟩ := r.atI hg
      exact .inl ⟨p, vs, i, u, rfl, rfl, SqL.of hs, hu, k u I H (Al.refl ex) ru⟩
    | _ => cases hg
  | tup xs =>
    cases y with
    | int i =>
      obtain ⟨p, vs, rfl, hs, r, _⟩ := hv.tup ex
      cases hw.int
      obtain ⟨u, hu, ru⟩ := r.atI hg
      exact .inr (.inl ⟨p, vs, i, u, rfl, rfl, hs, hu, k u I H (Al.refl ex) ru⟩)
    | _ => cases hg
  | _ => cases hg
/-! slices -/
abbrev Xo := MEnv → Option (Option Int × MEnv)
def MO (X : Cx) (cl : ClM) (e : Option Expr) (m : Xo) : Prop := ∃ t, PO X e t ∧ ∀ (σ : L2.St) (H I : Hp) (env : MEnv) (o : Option Int) (env' : MEnv) (Q : Option Int → Hp → Prop), Gd X.K cl I H σ env → m env = some (o, env') →
  (∀ I' H', Gd X.K cl I' H' σ env' → Tr (Fp σ env) I H (Fp σ env') I' H' → Q o H') → t σ H Q
def oNo : Xo := fun env => some (none, env)
def oSm (m : Xp) : Xo := fun env => match m env with
  | none => none
  | some (r, e1) => match vw e1 r with
    | some (.int i) => some (some i, e1)
    | _ => none
theorem mo_no : MO X cl none oNo := ⟨_, po_none, fun σ H I env o env' Q g hm k => by
  cases Option.some.inj hm
  exact k I H g Tr.refl⟩
theorem mo_some {e : Expr} {m : Xp} (h : ME X cl e m) : MO X cl (some e) (oSm m) := by
  obtain ⟨t, p, k⟩ := h
  refine ⟨_, po_some p, fun σ H I env o env' Q g hm kk => ?_⟩
  unfold oSm at hm
  cases q : m env with
  | none => simp [q] at hm
  | some pr =>
    obtain ⟨r1, e1⟩ := pr
    simp only [q] at hm
    cases q2 : vw e1 r1 with
    | none => simp [q2] at hm
    | some d =>
      cases d with
      | int i =>
        simp only [q2, Option.some.injEq, Prod.mk.injEq] at hm
        obtain ⟨rfl, rfl⟩ := hm
        refine k σ H I env r1 e1 _ g q fun v I1 H1 g1 t1 rv => ?_
        have ev := (vw_ok g1 rv q2).int
        subst ev
        exact ⟨i, rfl, kk I1 H1 g1 t1⟩
      | _ => simp [q2] at hm
def cutD (xs : List D) (lo hi : Option Int) : List D := (xs.drop (HT.sIx xs.length 0 lo)).take (HT.sIx xs.length xs.length hi - HT.sIx xs.length 0 lo)
theorem RpA.cut {K : PySem.W.Frag} {I : Hp} {vs : List V} {ds : List D} (r : RpA K cl I vs ds) (lo hi : Option Int) : RpA K cl I (cutV vs lo hi) (cutD ds lo hi) := by
  unfold cutV cutD
  rw [r.length]
  exact (r.drop _).take _
def gSl (d : D) (lo hi : Option Int) : Option D := match d with
  | .lst xs => some (.lst (cutD xs lo hi))
  | .tup xs => some (.tup (cutD xs lo hi))
  | _ => none
def eSl (m : Xp) (ml mh : Xo) : Xp := fun env => match m env with
  | none => none
  | some (r, e1) => match ml e1 with
    | none => none
    | some (lo, e2) => match mh e2 with
      | none => none
      | some (hi, e3) => match vw e3 r with
        | none => none
        | some d => match gSl d lo hi with
          | some z => some (.d z, e3)
          | none => none
theorem me_sl {a : Expr} {lo hi : Option Expr} {m : Xp} {ml mh : Xo} {p2 pos : Pos} (h : ME X cl a m) (hl : MO X cl lo ml) (hh : MO X cl hi mh) : ME X cl (.Subscript a (.Slice lo hi none p2) pos) (eSl m ml mh) := by
  obtain ⟨t, p, k⟩ := h
  obtain ⟨tl, pl, kl⟩ := hl
  obtain ⟨th, ph, kh⟩ := hh
  refine ⟨_, pe_slice (SlR.or sl_tupX sl_list) p pl ph, fun σ H I env r env' Q g hm kk => ?_⟩
  unfold eSl at hm
  cases q : m env with
  | none => simp [q] at hm
  | some pr =>
    obtain ⟨r1, e1⟩ := pr
    simp only [q] at hm
    cases q2 : ml e1 with
    | none => simp [q2] at hm
    | some pr2 =>
      obtain ⟨lo', e2⟩ := pr2
      simp only [q2] at hm
      cases q3 : mh e2 with
      | none => simp [q3] at hm
      | some pr3 =>
        obtain ⟨hi', e3⟩ := pr3
        simp only [q3] at hm
        cases q4 : vw e3 r1 with
        | none => simp [q4] at hm
        | some d =>
          simp only [q4] at hm
          cases q5 : gSl d lo' hi' with
          | none => simp [q5] at hm
          | some z =>
            simp only [q5, Option.some.injEq, Prod.mk.injEq] at hm
            obtain ⟨rfl, rfl⟩ := hm
            refine k σ H I env r1 e1 _ g q fun v I1 H1 g1 t1 rv => ?_
            refine kl σ H1 I1 e1 lo' e2 _ g1 q2 fun I2 H2 g2 t2 => ?_
            refine kh σ H2 I2 e2 hi' e3 _ g2 q3 fun I3 H3 g3 t3 => ?_
            have t13 := (t1.trans t2).trans t3
            have hv := vw_ok g3 (rv.mono (t2.ext.trans t3.ext)) q4
            cases d with
            | tup xs =>
              cases Option.some.inj q5
              obtain ⟨a, vs, rfl, hs, rr, rp⟩ := hv.tup g3.ex
              refine .inl ⟨a, vs, rfl, hs, fun hw => ?_, fun _ b us hb => ?_⟩
              · have e : cutD xs lo' hi' = xs := by
                  unfold cutD
                  rw [← rr.length, hw.1, hw.2, rr.length]
                  simp
                rw [e] at kk
                exact kk _ I3 H3 g3 t13 rp
              · have al : Al I3 H3 (upd I3 b (xT us (cutV vs lo' hi'))) (upd H3 b (xT us (cutV vs lo' hi'))) := Al.new g3.ex hb
                exact kk _ _ _ (g3.al al) (t13.trans al.tr) (.tup .new ((rr.cut lo' hi').mono al.ext))
            | lst xs =>
              cases Option.some.inj q5
              obtain ⟨a, vs, rfl, hs, rr⟩ := hv.lst g3.ex
              refine .inr ⟨a, vs, rfl, SqL.of hs, fun b hb => ?_⟩
              have al : Al I3 H3 (upd I3 b (.lst (cutV vs lo' hi'))) (upd H3 b (.lst (cutV vs lo' hi'))) := Al.new g3.ex hb
              exact kk _ _ _ (g3.al al) (t13.trans al.tr) (.lst upd_same ((rr.cut lo' hi').mono al.ext))
            | _ => cases q5
/-! a slice of a list, as a list of its own -/
def fSl (m : Xp) (ml mh : Xo) : Xf := fun env => match m env with
  | none => none
  | some (r, e1) => match ml e1 with
    | none => none
    | some (lo, e2) => match mh e2 with
      | none => none
      | some (hi, e3) => match vw e3 r with
        | some (.lst xs) => some (.lst (cutD xs lo hi), e3)
        | _ => none
theorem mf_sl {a : Expr} {lo hi : Option Expr} {m : Xp} {ml mh : Xo} {p2 pos : Pos} (h : ME X cl a m) (hl : MO X cl lo ml) (hh : MO X cl hi mh) : MF X cl (.Subscript a (.Slice lo hi none p2) pos) (fSl m ml mh) := by
  obtain ⟨t, p, k⟩ := h
  obtain ⟨tl, pl, kl⟩ := hl
  obtain ⟨th, ph, kh⟩ := hh
  refine ⟨_, pe_slice sl_list p pl ph, fun σ H I env r env' Q g hm kk => ?_⟩
  unfold fSl at hm
  cases q : m env with
  | none => simp [q] at hm
  | some pr =>
    obtain ⟨r1, e1⟩ := pr
    simp only [q] at hm
    cases q2 : ml e1 with
    | none => simp [q2] at hm
    | some pr2 =>
      obtain ⟨lo', e2⟩ := pr2
      simp only [q2] at hm
      cases q3 : mh e2 with
      | none => simp [q3] at hm
      | some pr3 =>
        obtain ⟨hi', e3⟩ := pr3
        simp only [q3] at hm
        cases q4 : vw e3 r1 with
        | none => simp [q4] at hm
        | some d =>
          cases d with
          | lst xs =>
            simp only [q4, Option.some.injEq, Prod.mk.injEq] at hm
            obtain ⟨rfl, rfl⟩ := hm
            refine k σ H I env r1 e1 _ g q fun v I1 H1 g1 t1 rv => ?_
            refine kl σ H1 I1 e1 lo' e2 _ g1 q2 fun I2 H2 g2 t2 => ?_
            refine kh σ H2 I2 e2 hi' e3 _ g2 q3 fun I3 H3 g3 t3 => ?_
            have t13 := (t1.trans t2).trans t3
            have hv := vw_ok g3 (rv.mono (t2.ext.trans t3.ext)) q4
            obtain ⟨a, vs, rfl, hs, rr⟩ := hv.lst g3.ex
            refine ⟨a, vs, rfl, SqL.of hs, fun b hb => ?_⟩
            have al : Al I3 H3 I3 (upd H3 b (.lst (cutV vs lo' hi'))) := Al.newH g3.ex hb
            exact kk b _ _ _ (g3.al al) (t13.trans al.tr) (g3.ex.free hb) upd_same (.lst (rr.cut lo' hi')) (t13.back (.inr hb)) (nf_fresh g3 hb)
          | _ => simp [q4] at hm
/-! ### calls of built-ins by values -/
def CaM (X : Cx) (cl : ClM) (fv : Value) (g : List D → Option D) : Prop := ∃ r, CallR X fv r ∧
  ∀ (I H : Hp) (vs : List V) (ds : List D) (z : D) (Q : VK), Same I H → VwA X.K cl I H vs ds → g ds = some z → (∀ u I' H', Al I H I' H' → Rp X.K cl I' u z → Q u H') → r vs H Q
def CaF (X : Cx) (cl : ClM) (fv : Value) (g : List D → Option SO) : Prop := ∃ r, CallR X fv r ∧
  ∀ (I H : Hp) (vs : List V) (ds : List D) (o : SO) (Q : VK), Same I H → VwA X.K cl I H vs ds → g ds = some o → (∀ p ho I' H', Al I H I' H' → I' p = none → H p = none → H' p = some ho → SoOk X.K cl I' p ho o → Q (.ref p) H') → r vs H Q
def eCB (g : List D → Option D) (ms : Xa) : Xp := fun env => match ms env with
  | none => none
  | some (rs, e1) => match vwL e1 rs with
    | none => none
    | some ds => match g ds with
      | some z => some (.d z, e1)
      | none => none
def fCB (g : List D → Option SO) (ms : Xa) : Xf := fun env => match ms env with
  | none => none
  | some (rs, e1) => match vwL e1 rs with
    | none => none
    | some ds => match g ds with
      | some z => some (z, e1)
      | none => none
theorem me_cb {e : Expr} {es : List Expr} {fv : Value} {g : List D → Option D} {ms : Xa} (hc : CaM X cl fv g) (hm : MA X cl es ms) (hp : ∀ r t, CallR X fv r → PA X es t → PE X e (tCB r t)) : ME X cl e (eCB g ms) := by
  obtain ⟨r, cr, sem⟩ := hc
  obtain ⟨t, p, k⟩ := hm
  refine ⟨_, hp r t cr p, fun σ H I env r' env' Q gd hme kk => ?_⟩
  unfold eCB at hme
  cases q : ms env with
  | none => simp [q] at hme
  | some pr =>
    obtain ⟨rs, e1⟩ := pr
    simp only [q] at hme
    cases q2 : vwL e1 rs with
    | none => simp [q2] at hme
    | some ds =>
      simp only [q2] at hme
      cases q3 : g ds with
      | none => simp [q3] at hme
      | some z =>
        simp only [q3, Option.some.injEq, Prod.mk.injEq] at hme
        obtain ⟨rfl, rfl⟩ := hme
        refine k σ H I env rs e1 _ gd q fun vs I1 H1 g1 t1 r1 => ?_
        exact sem I1 H1 vs ds z Q g1.ex (vwL_ok g1 r1 q2) q3 fun u I2 H2 al ru => kk u I2 H2 (g1.al al) (t1.trans al.tr) ru
theorem mf_cb {e : Expr} {es : List Expr} {fv : Value} {g : List D → Option SO} {ms : Xa} (hc : CaF X cl fv g) (hm : MA X cl es ms) (hp : ∀ r t, CallR X fv r → PA X es t → PE X e (tCB r t)) : MF X cl e (fCB g ms) := by
  obtain ⟨r, cr, sem⟩ := hc
  obtain ⟨t, p, k⟩ := hm
  refine ⟨_, hp r t cr p, fun σ H I env r' env' Q gd hme kk => ?_⟩
  unfold fCB at hme
  cases q : ms env with
  | none => simp [q] at hme
  | some pr =>
    obtain ⟨rs, e1⟩ := pr
    simp only [q] at hme
    cases q2 : vwL e1 rs with
    | none => simp [q2] at hme
    | some ds =>
      simp only [q2] at hme
      cases q3 : g ds with
      | none => simp [q3] at hme
      | some z =>
        simp only [q3, Option.some.injEq, Prod.mk.injEq] at hme
        obtain ⟨rfl, rfl⟩ := hme
        refine k σ H I env rs e1 _ gd q fun vs I1 H1 g1 t1 r1 => ?_
        exact sem I1 H1 vs ds z Q g1.ex (vwL_ok g1 r1 q2) q3 fun p ho I2 H2 al ip hp0 hp2 so => kk p ho I2 H2 (g1.al al) (t1.trans al.tr) ip hp2 so (t1.back (.inr hp0)) (nf_fresh g1 hp0)
theorem VwA.one {K : PySem.W.Frag} {I H : Hp} {vs : List V} {d : D} (h : VwA K cl I H vs [d]) : ∃ v, vs = [v] ∧ Vw K cl I H v d := by
  cases h with
  | cons h t =>
    cases t
    exact ⟨_, rfl, h⟩
theorem VwA.two {K : PySem.W.Frag} {I H : Hp} {vs : List V} {d e : D} (h : VwA K cl I H vs [d, e]) : ∃ v w, vs = [v, w] ∧ Vw K cl I H v d ∧ Vw K cl I H w e := by
  cases h with
  | cons h t =>
    obtain ⟨w, rfl, h2⟩ := t.one
    exact ⟨_, _, rfl, h, h2⟩
def gLen : List D → Option D := fun ds => match ds with
  | [.lst xs] => some (.int xs.length)
  | [.tup xs] => some (.int xs.length)
  | _ => none
theorem cm_len : CaM X cl (.builtin "len") gLen := by
  refine ⟨_, call_len_seq, fun I H vs ds z Q ex hv hg k => ?_⟩
  unfold gLen at hg
  split at hg
  · cases Option.some.inj hg
    obtain ⟨v, rfl, h⟩ := hv.one
    obtain ⟨a, ws, rfl, hs, r⟩ := h.lst ex
    refine ⟨a, ws, rfl, .inl (SqL.of hs), ?_⟩
    rw [r.length]
    exact k _ I H (Al.refl ex) (.int _)
  · cases Option.some.inj hg
    obtain ⟨v, rfl, h⟩ := hv.one
    obtain ⟨a, ws, rfl, hs, r, _⟩ := h.tup ex
    refine ⟨a, ws, rfl, .inr hs, ?_⟩
    rw [r.length]
    exact k _ I H (Al.refl ex) (.int _)
  · cases hg
def gInt : List D → Option D := fun ds => match ds with
  | [.int i] => some (.int i)
  | [.bl b] => some (.int (if b then 1 else 0))
  | _ => none
theorem cm_int : CaM X cl (.type "int") gInt := by
  refine ⟨_, call_int1, fun I H vs ds z Q ex hv hg k => ?_⟩
  unfold gInt at hg
  split at hg
  · cases Option.some.inj hg
    obtain ⟨v, rfl, h⟩ := hv.one
    cases h.int
    exact .inl ⟨_, rfl, k _ I H (Al.refl ex) (.int _)⟩
  · cases Option.some.inj hg
    obtain ⟨v, rfl, h⟩ := hv.one
    cases h.bl
    exact .inr ⟨_, rfl, k _ I H (Al.refl ex) (.int _)⟩
  · cases hg
def gAbs : List D → Option D := fun ds => match ds with
  | [.int i] => some (.int (if i < 0 then -i else i))
  | _ => none
theorem cm_abs : CaM X cl (.builtin "abs") gAbs := by
  refine ⟨_, call_abs, fun I H vs ds z Q ex hv hg k => ?_⟩
  unfold gAbs at hg
  split at hg
  · cases Option.some.inj hg
    obtain ⟨v, rfl, h⟩ := hv.one
    cases h.int
    exact ⟨_, rfl, k _ I H (Al.refl ex) (.int _)⟩
  · cases hg
/-- the ints of a list -/
def intsD : List D → Option (List Int)
  | [] => some []
  | .int i :: r => match intsD r with
    | some ns => some (i :: ns)
    | none => none
  | _ => none
theorem intsD_eq : ∀ {ds : List D} {ns : List Int}, intsD ds = some ns → ds = ns.map D.int
  | [], ns, h => by
    cases Option.some.inj h
    rfl
  | d :: r, ns, h => by
    cases d with
    | int i =>
      unfold intsD at h
      cases q : intsD r with
      | none => simp [q] at h
      | some ms =>
        simp only [q, Option.some.injEq] at h
        subst h
        rw [intsD_eq q]
        rfl
    | _ => cases h
theorem intsD_map : ∀ ns : List Int, intsD (ns.map D.int) = some ns
  | [] => rfl
  | n :: ns => by
    show (match intsD (ns.map D.int) with | some ns => some (n :: ns) | none => none) = _
    rw [intsD_map ns]
def boolsD : List D → Option (List Bool)
  | [] => some []
  | .bl i :: r => match boolsD r with
    | some ns => some (i :: ns)
    | none => none
  | _ => none
theorem boolsD_eq : ∀ {ds : List D} {ns : List Bool}, boolsD ds = some ns → ds = ns.map D.bl
  | [], ns, h => by
    cases Option.some.inj h
    rfl
  | d :: r, ns, h => by
    cases d with
    | bl i =>
      unfold boolsD at h
      cases q : boolsD r with
      | none => simp [q] at h
      | some ms =>
        simp only [q, Option.some.injEq] at h
        subst h
        rw [boolsD_eq q]
        rfl
    | _ => cases h
theorem boolsD_map : ∀ ns : List Bool, boolsD (ns.map D.bl) = some ns
  | [] => rfl
  | n :: ns => by
    show (match boolsD (ns.map D.bl) with | some ns => some (n :: ns) | none => none) = _
    rw [boolsD_map ns]
theorem RpA.bls {K : PySem.W.Frag} {I : Hp} : ∀ {vs : List V} {ns : List Bool}, RpA K cl I vs (ns.map D.bl) → vs = ns.map V.bl
  | _, [], .nil => rfl
  | _, n :: ns, .cons h t => by
    cases h
    rw [RpA.bls t]
    rfl
def gSum : List D → Option D := fun ds => match ds with
  | [.lst xs] => match intsD xs with
    | some ns => some (.int ns.sum)
    | none => none
  | _ => none
theorem cm_sum (hc : X.calm = true) : CaM X cl (.builtin "sum") gSum := by
  refine ⟨_, cr_sum hc, fun I H vs ds z Q ex hv hg k => ?_⟩
  unfold gSum at hg
  split at hg
  · rename_i xs
    cases q : intsD xs with
    | none => simp [q] at hg
    | some ns =>
      simp only [q, Option.some.injEq] at hg
      subst hg
      obtain ⟨v, rfl, h⟩ := hv.one
      obtain ⟨a, ws, rfl, hs, r⟩ := h.lst ex
      rw [intsD_eq q] at r
      have e := r.ints
      subst e
      exact ⟨a, ns, rfl, SqL.of hs, k _ I H (Al.refl ex) (.int _)⟩
  · cases hg
def gAll : List D → Option D := fun ds => match ds with
  | [.lst xs] => match boolsD xs with
    | some ns => some (.bl (ns.all id))
    | none => none
  | _ => none
theorem cm_all (hc : X.calm = true) : CaM X cl (.builtin "all") gAll := by
  refine ⟨_, cr_all hc, fun I H vs ds z Q ex hv hg k => ?_⟩
  unfold gAll at hg
  split at hg
  · rename_i xs
    cases q : boolsD xs with
    | none => simp [q] at hg
    | some ns =>
      simp only [q, Option.some.injEq] at hg
      subst hg
      obtain ⟨v, rfl, h⟩ := hv.one
      obtain ⟨a, ws, rfl, hs, r⟩ := h.lst ex
      rw [boolsD_eq q] at r
      have e := r.bls
      subst e
      exact ⟨a, ns, rfl, SqL.of hs, k _ I H (Al.refl ex) (.bl _)⟩
  · cases hg
def gAny : List D → Option D := fun ds => match ds with
  | [.lst xs] => match boolsD xs with
    | some ns => some (.bl (ns.any id))
    | none => none
  | _ => none
theorem cm_any (hc : X.calm = true) : CaM X cl (.builtin "any") gAny := by
  refine ⟨_, cr_any hc, fun I H vs ds z Q ex hv hg k => ?_⟩
  unfold gAny at hg
  split at hg
  · rename_i xs
    cases q : boolsD xs with
    | none => simp [q] at hg
    | some ns =>
      simp only [q, Option.some.injEq] at hg
      subst hg
      obtain ⟨v, rfl, h⟩ := hv.one
      obtain ⟨a, ws, rfl, hs, r⟩ := h.lst ex
      rw [boolsD_eq q] at r
      have e := r.bls
      subst e
      exact ⟨a, ns, rfl, SqL.of hs, k _ I H (Al.refl ex) (.bl _)⟩
  · cases hg
def maxI : Int → List Int → Int := fun m ns => ns.foldl (fun a b => if a < b then b else a) m
def minI : Int → List Int → Int := fun m ns => ns.foldl (fun a b => if b < a then b else a) m
theorem maxI_ok : ∀ (ns : List Int) (m : Int), maxI m ns ∈ m :: ns ∧ ∀ y ∈ m :: ns, y ≤ maxI m ns
  | [], m => by simp [maxI]
  | n :: ns, m => by
    by_cases c : m < n
    · have e : maxI m (n :: ns) = maxI n ns := by
        unfold maxI
        rw [List.foldl_cons, if_pos c]
      obtain ⟨h1, h2⟩ := maxI_ok ns n
      rw [e]
      refine ⟨List.mem_cons_of_mem _ h1, fun y hy => ?_⟩
      rcases List.mem_cons.mp hy with rfl | hy
      · have := h2 n List.mem_cons_self
        omega
      · exact h2 y hy
    · have e : maxI m (n :: ns) = maxI m ns := by
        unfold maxI
        rw [List.foldl_cons, if_neg c]
      obtain ⟨h1, h2⟩ := maxI_ok ns m
      rw [e]
      refine ⟨?_, fun y hy => ?_⟩
      · rcases List.mem_cons.mp h1 with h | h
        · rw [h]
          exact List.mem_cons_self
        · exact List.mem_cons_of_mem _ (List.mem_cons_of_mem _ h)
      · rcases List.mem_cons.mp hy with rfl | hy
        · exact h2 y List.mem_cons_self
        · rcases List.mem_cons.mp hy with rfl | hy
          · have := h2 m List.mem_cons_self
            omega
          · exact h2 y (List.mem_cons_of_mem _ hy)
theorem minI_ok : ∀ (ns : List Int) (m : Int), minI m ns ∈ m :: ns ∧ ∀ y ∈ m :: ns, minI m ns ≤ y
  | [], m => by simp [minI]
  | n :: ns, m => by
    by_cases c : n < m
    · have e : minI m (n :: ns) = minI n ns := by
        unfold minI
        rw [List.foldl_cons, if_pos c]
      obtain ⟨h1, h2⟩ := minI_ok ns n
      rw [e]
      refine ⟨List.mem_cons_of_mem _ h1, fun y hy => ?_⟩
      rcases List.mem_cons.mp hy with rfl | hy
      · have := h2 n List.mem_cons_self
        omega
      · exact h2 y hy
    · have e : minI m (n :: ns) = minI m ns := by
        unfold minI
        rw [List.foldl_cons, if_neg c]
      obtain ⟨h1, h2⟩ := minI_ok ns m
      rw [e]
      refine ⟨?_, fun y hy => ?_⟩
      · rcases List.mem_cons.mp h1 with h | h
        · rw [h]
          exact List.mem_cons_self
        · exact List.mem_cons_of_mem _ (List.mem_cons_of_mem _ h)
      · rcases List.mem_cons.mp hy with rfl | hy
        · exact h2 y List.mem_cons_self
        · rcases List.mem_cons.mp hy with rfl | hy
          · have := h2 m List.mem_cons_self
            omega
          · exact h2 y (List.mem_cons_of_mem _ hy)
def gMax : List D → Option D := fun ds => match ds with
  | [.lst xs] => match intsD xs with
    | some (n :: ns) => some (.int (maxI n ns))
    | _ => none
  | _ => none
theorem cm_max (hc : X.calm = true) : CaM X cl (.builtin "max") gMax := by
  refine ⟨_, cr_max hc, fun I H vs ds z Q ex hv hg k => ?_⟩
  unfold gMax at hg
  split at hg
  · rename_i xs
    cases q : intsD xs with
    | none => simp [q] at hg
    | some ns =>
      cases ns with
      | nil => simp [q] at hg
      | cons n ns =>
        simp only [q, Option.some.injEq] at hg
        subst hg
        obtain ⟨v, rfl, h⟩ := hv.one
        obtain ⟨a, ws, rfl, hs, r⟩ := h.lst ex
        rw [intsD_eq q] at r
        have e := r.ints
        subst e
        refine ⟨a, n :: ns, rfl, SqL.of hs, by simp, fun m hm hmax => ?_⟩
        obtain ⟨m1, m2⟩ := maxI_ok ns n
        have em : m = maxI n ns := by
          have a1 := m2 m hm
          have a2 := hmax _ m1
          omega
        rw [em]
        exact k _ I H (Al.refl ex) (.int _)
  · cases hg
def gMin : List D → Option D := fun ds => match ds with
  | [.lst xs] => match intsD xs with
    | some (n :: ns) => some (.int (minI n ns))
    | _ => none
  | _ => none
theorem cm_min (hc : X.calm = true) : CaM X cl (.builtin "min") gMin := by
  refine ⟨_, cr_min hc, fun I H vs ds z Q ex hv hg k => ?_⟩
  unfold gMin at hg
  split at hg
  · rename_i xs
    cases q : intsD xs with
    | none => simp [q] at hg
    | some ns =>
      cases ns with
      | nil => simp [q] at hg
      | cons n ns =>
        simp only [q, Option.some.injEq] at hg
        subst hg
        obtain ⟨v, rfl, h⟩ := hv.one
        obtain ⟨a, ws, rfl, hs, r⟩ := h.lst ex
        rw [intsD_eq q] at r
        have e := r.ints
        subst e
        refine ⟨a, n :: ns, rfl, SqL.of hs, by simp, fun m hm hmin => ?_⟩
        obtain ⟨m1, m2⟩ := minI_ok ns n
        have em : m = minI n ns := by
          have a1 := m2 m hm
          have a2 := hmin _ m1
          omega
        rw [em]
        exact k _ I H (Al.refl ex) (.int _)
  · cases hg
def gMax2 : List D → Option D := fun ds => match ds with
  | [.int i, .int j] => some (.int (if j > i then j else i))
  | _ => none
theorem cm_max2 (hc : X.calm = true) : CaM X cl (.builtin "max") gMax2 := by
  refine ⟨_, call_max2 hc, fun I H vs ds z Q ex hv hg k => ?_⟩
  unfold gMax2 at hg
  split at hg
  · cases Option.some.inj hg
    obtain ⟨v, w, rfl, h, h2⟩ := hv.two
    cases h.int
    cases h2.int
    exact ⟨_, _, rfl, k _ I H (Al.refl ex) (.int _)⟩
  · cases hg
def gMin2 : List D → Option D := fun ds => match ds with
  | [.int i, .int j] => some (.int (if j < i then j else i))
  | _ => none
theorem cm_min2 (hc : X.calm = true) : CaM X cl (.builtin "min") gMin2 := by
  refine ⟨_, call_min2 hc, fun I H vs ds z Q ex hv hg k => ?_⟩
  unfold gMin2 at hg
  split at hg
  · cases Option.some.inj hg
    obtain ⟨v, w, rfl, h, h2⟩ := hv.two
    cases h.int
    cases h2.int
    exact ⟨_, _, rfl, k _ I H (Al.refl ex) (.int _)⟩
  · cases hg
/-! list(x), tuple(x) -/
def fgList : List D → Option SO := fun ds => match ds with
  | [.lst xs] => some (.lst xs)
  | [.tup xs] => some (.lst xs)
  | [.scr xs] => some (.lst xs)
  | _ => none
theorem cf_list : CaF X cl (.type "list") fgList := by
  refine ⟨_, call_list_of, fun I H vs ds o Q ex hv hg k => ?_⟩
  unfold fgList at hg
  split at hg
  · cases Option.some.inj hg
    obtain ⟨v, rfl, h⟩ := hv.one
    obtain ⟨a, ws, rfl, hs, r⟩ := h.lst ex
    exact ⟨a, ws, rfl, .inl (SqL.of hs), fun l hl => k l _ I _ (Al.newH ex hl) (ex.free hl) hl upd_same (.lst r)⟩
  · cases Option.some.inj hg
    obtain ⟨v, rfl, h⟩ := hv.one
    obtain ⟨a, ws, rfl, hs, r, _⟩ := h.tup ex
    exact ⟨a, ws, rfl, .inr hs, fun l hl => k l _ I _ (Al.newH ex hl) (ex.free hl) hl upd_same (.lst r)⟩
  · cases Option.some.inj hg
    obtain ⟨v, rfl, h⟩ := hv.one
    rcases h with h | ⟨p, ho, o, rfl, ip, hp, so, ed⟩
    · cases h with
      | scr hs r => exact ⟨_, _, rfl, .inl (ex.seq hs), fun l hl => k l _ I _ (Al.newH ex hl) (ex.free hl) hl upd_same (.lst r)⟩
    · cases so <;> cases ed
  · cases hg
def gTuple : List D → Option D := fun ds => match ds with
  | [.lst xs] => some (.tup xs)
  | [.tup xs] => some (.tup xs)
  | _ => none
theorem cm_tuple : CaM X cl (.type "tuple") gTuple := by
  refine ⟨_, call_tuple_ofX, fun I H vs ds o Q ex hv hg k => ?_⟩
  unfold gTuple at hg
  split at hg
  · cases Option.some.inj hg
    obtain ⟨v, rfl, h⟩ := hv.one
    obtain ⟨a, ws, rfl, hs, r⟩ := h.lst ex
    refine ⟨a, ws, rfl, .inl ⟨SqL.of hs, fun l us hl => ?_⟩⟩
    have al : Al I H (upd I l (xT us ws)) (upd H l (xT us ws)) := Al.new ex hl
    exact k _ _ _ al (.tup .new (r.mono al.ext))
  · cases Option.some.inj hg
    obtain ⟨v, rfl, h⟩ := hv.one
    obtain ⟨a, ws, rfl, hs, r, rp⟩ := h.tup ex
    exact ⟨a, ws, rfl, .inr ⟨hs, k _ I H (Al.refl ex) rp⟩⟩
  · cases hg
end
end MP
set_option Elab.async false
set_option linter.all false
set_option maxRecDepth 100000
set_option maxHeartbeats 4000000
namespace MP
open PySem PySem.Spec PyProof.Rows L2
open AutoSeq1 (wpAny_loadPart')
theorem meets_enumerate_newT (l : Addr) (items : Array Value) (n : Nat) (dct : Option Addr) (sl : Array (Option Value)) :
    Meets (Builtin.«enumerate.__new__» ⟨[.type "enumerate", .ref l], []⟩) (fun _ R s => s.heap.get? l = some { cls := .type "tuple", dict := dct, data := .seq items n, slots := sl } ∧
      R (.ok (.ret (.ref (s.heap.push { cls := .type "tuple_iterator", data := .fields #[.ref l, .int 0 0] }).objs.size)))
        { s with heap := (s.heap.push { cls := .type "tuple_iterator", data := .fields #[.ref l, .int 0 0] }).push { cls := .type "enumerate", data := .fields #[.none, .bool false, .ref s.heap.objs.size, rawInt 0, .none, .none] } }) :=
  .of_wp fun prog w A R s h => by
    obtain ⟨hp, g, d, tk, os⟩ := s; obtain ⟨hl, h⟩ := h
    have hsub := sub_enumerate
    have hL : Heap.IsTuple (Shared.heap ⟨hp, g, d, tk, os⟩) l items := ⟨_, hl, rfl, n, rfl⟩
    wp_walk using wpAny_loadPart' hl
    refine wpAny_stack_any fun st => wpAny_pure ?_
    split
    · rename_i c _ _ _ _ _
      cases (c == Value.type "enumerate")
      · wp_walk using wpAny_loadPart' hl, wpAny_pyIter_tuple hL
        exact ⟨_, rfl, h⟩
      · wp_walk using wpAny_loadPart' hl, wpAny_pyIter_tuple hL
        exact ⟨_, rfl, h⟩
    · wp_walk using wpAny_loadPart' hl, wpAny_pyIter_tuple hL
      exact ⟨_, rfl, h⟩
section
variable {prog : Program} {w : World} {A : Around} {E : Value → Shared → Prop} {s : Shared}
theorem call_enumerate_tuple {l : Addr} {items : Array Value} {Q : Value → Shared → Prop} (hL : s.heap.IsTuple l items)
    (h : ∀ h', IsEnum h' (s.heap.objs.size + 1) s.heap.objs.size 0 .none → h'.IsTupleIter s.heap.objs.size l 0 → h'.objs.size = s.heap.objs.size + 2 →
      (∀ b o, s.heap.get? b = some o → h'.get? b = some o) → Q (.ref (s.heap.objs.size + 1)) { s with heap := h' }) :
    wpAny (model prog w) A (call (.type "enumerate") [.ref l]) Q E s := by
  obtain ⟨⟨c, dct, dt, sl⟩, hl, hc, n, hd⟩ := hL
  replace hc : c = .type "tuple" := hc
  replace hd : dt = .seq items n := hd
  subst hc hd
  refine callType_new F.called_enumerate (by decide) (F.typeCall_enumerate_1 _) (F.newCall_enumerate_1 _) (fun obj => F.args_object_init_2 obj _) F.entry_enumerate_new
    (meets_enumerate_newT l items n dct sl) ⟨hl, ?_⟩
  have hz : (s.heap.push { cls := .type "tuple_iterator", data := .fields #[.ref l, .int 0 0] }).objs.size = s.heap.objs.size + 1 := Heap.size_push ..
  show _ ∧ _
  rw [hz]
  have he : IsEnum ((s.heap.push { cls := .type "tuple_iterator", data := .fields #[.ref l, .int 0 0] }).push
      { cls := .type "enumerate", data := .fields #[.none, .bool false, .ref s.heap.objs.size, rawInt 0, .none, .none] }) (s.heap.objs.size + 1) s.heap.objs.size 0 .none := by
    have := Heap.get?_push_size (s.heap.push { cls := .type "tuple_iterator", data := .fields #[.ref l, .int 0 0] })
      (o := { cls := .type "enumerate", data := .fields #[.none, .bool false, .ref s.heap.objs.size, rawInt 0, .none, .none] }) rfl
    rw [hz] at this; exact this
  refine ⟨⟨_, he, rfl⟩, h _ he ⟨_, Heap.get?_push_of_some _ (Heap.get?_push_size _ rfl), rfl, rfl⟩ (by rw [Heap.size_push, hz]) fun b o x => Heap.get?_push_of_some _ (Heap.get?_push_of_some _ x)⟩
end
def IteT (K : PySem.W.Frag) (a : Addr) : It :=
  ⟨fun i H => ∃ (xs : List V) (x : V), SqT K H a xs ∧ xs[i]? = some x, fun i H v H' => ∃ T us x, v = .ref T ∧ H T = none ∧ H' = upd H T (MP.xT us [.int (i : Nat), x]) ∧ ∀ xs, SqT K H a xs → xs[i]? = some x, fun i H => ∃ xs : List V, SqT K H a xs ∧ xs.length ≤ i⟩
theorem turn_enumT {P : Program} {w : World} {K : PySem.W.Frag} {elts : List Expr} {kk : Nat} {tpos : Pos} (a e it : Addr) (hta : a ≠ it) (hea : e ≠ a) :
    Turn P w K (.Tuple elts kk tpos) (IteT K a) [e, it] e (fun i h => (∃ old, IsEnum h e it ((i : Nat) : Int) old) ∧ h.IsTupleIter it a i ∧ e ≠ it) where
  mem := by simp
  obj := fun i h st b hb => by
    obtain ⟨⟨old, he⟩, ⟨o, ho, hc, hd⟩, _⟩ := st
    have e' : b = e ∨ b = it := by simpa using hb
    rcases e' with z | z
    · rw [z]; exact ⟨_, he, fun v q => nomatch q⟩
    · rw [z]; exact ⟨o, ho, fun v q => by rw [hd] at q; cases q⟩
  keep := fun i h h' st k => let ⟨⟨old, he⟩, hi, hne⟩ := st; ⟨⟨old, k e (by simp) _ he⟩, hi.at fun o q => k it (by simp) o q, hne⟩
  item := by
    intro X hP hw hK hc i pins s σ H E I hf st hg
    subst hP hw hK
    obtain ⟨⟨old, he⟩, hit, hne⟩ := st
    obtain ⟨xs, x, hq, hx⟩ := hg
    obtain ⟨its, rv, p, hz⟩ := I.tuple hq
    obtain ⟨u, hu, ru⟩ := rv.get hx
    have hel : e < s.heap.objs.size := Heap.lt_size he
    have hil : it < s.heap.objs.size := by obtain ⟨_, q, _⟩ := hit; exact Heap.lt_size q
    have hlt : i < its.toArray.size := by
      have := (List.getElem?_eq_some_iff.mp hu).1
      simpa using this
    refine wpAny_pyNext_enum_itemD (Draws.tuple (prog := X.prog) (w := X.w) (A := X.A.in1) (I.ok.hd hc) it a hta its.toArray) he ⟨hit, show s.heap.IsTuple a its.toArray from p⟩ hlt hne (by simp [hne, hea]) fun x' h' tk hPx ho hst' hT hsz hk => ?_
    have ex : x' = u := by
      have h1 : its.toArray[i]? = some u := by simpa using hu
      rw [h1] at hPx
      exact (Option.some.inj hPx).symm
    subst ex
    refine ⟨_, rfl, wpAny_letOwnedTupleGo_enum (s := { s with heap := h', toks := tk + 1 }) ho fun h'' he' sb => ?_⟩
    have hT2 : h''.get? s.heap.objs.size = some { cls := .type "tuple", data := .seq #[.int i tk, x'] } := (sb.2 _ (Nat.ne_of_gt hel)).trans hT
    have new : ObjOk X.prog X.w (upd H s.heap.objs.size (MP.xT #[.int i tk, x'] [.int (i : Nat), x])) h'' s.heap.objs.size (MP.xT #[.int i tk, x'] [.int (i : Nat), x]) :=
      MP.okX hT2 (by show 2 ≤ sizeLine; decide) (.cons ⟨_, rfl⟩ (.cons ru .nil))
    have I1 : Inv X pins σ (upd H s.heap.objs.size (MP.xT #[.int i tk, x'] [.int (i : Nat), x])) { s with heap := h'', toks := tk + 1 } :=
      I.turnedNew (ch := [e, it]) (fun b ob hb q => (sb.2 b (fun z => hb (by simp [z]))).trans (hk b ob (fun z => hb (by simp [z])) (fun z => hb (by simp [z])) q)) hf (Nat.le_refl _) new
    refine ⟨.ref s.heap.objs.size, _, I1, rfl, ⟨_, _, x, rfl, I.hok.fresh (Nat.le_refl _), rfl, fun ys hy => by rw [I.tuple_inj hy hq]; exact hx⟩, ⟨⟨x', ?_⟩, hst'.1.at fun o q => (sb.2 it (Ne.symm hne)).trans q, hne⟩, fun b hb => ?_⟩
    · have e1 : ((i + 1 : Nat) : Int) = (i : Int) + 1 := by omega
      rw [e1]; exact he'
    · have hb' : b < s.heap.objs.size := by
        have e' : b = e ∨ b = it := by simpa using hb
        rcases e' with z | z
        · rw [z]; exact hel
        · rw [z]; exact hil
      rw [upd_ne (Nat.ne_of_lt hb')]
      exact (hf b hb).1
  done := by
    intro X hP hw hK hc i pins s σ H E I hf st hg
    subst hP hw hK
    obtain ⟨⟨old, he⟩, hit, hne⟩ := st
    obtain ⟨xs, hq, hx⟩ := hg
    obtain ⟨its, rv, p, hz⟩ := I.tuple hq
    obtain ⟨f0, f1, f2, f3, f4, f5⟩ := hf it (by simp)
    have hl := rv.length
    have hT : s.TypeIs (.ref e) "enumerate" := ⟨_, he, rfl⟩
    unfold pyNext
    refine wpAny_bind (wpAny_attempt (wpAny_callSpecial?_slot (name := Str.ofString "__next__") hT F.slot_enumerate_next
      (wpAny_call_entry F.slot_enumerate_next hT F.entry_enumerate_next ?_ (F.args_enumerate_next_1 _))))
    show wpAny _ _ (field (.ref e) 2 >>= _) _ _ _
    refine wpAny_bind (wpAny_field he rfl (x := .ref it) rfl ?_)
    refine wpAny_bind (wpAny_nextOf_tuple_end (A := X.A.in1) (I.ok.hd hc) hit (show s.heap.IsTuple a its.toArray from p) (by simp; omega) fun h' x he' hx' => ?_)
    obtain ⟨o, ho, hcc⟩ := hx'
    refine wpAny_bind (wpAny_isInstance (T := "StopIteration") (b := true) ⟨o, ho, hcc⟩ isSubtype_stop ?_)
    exact wpAny_pure ⟨rfl, I.turned (t' := s.toks) (fun b o hb q => he' b o hb q) f0 f1 f3 f4 f5⟩
  self := fun A i s Q E st h => let ⟨⟨_, he⟩, _⟩ := st; wpAny_pyIter_enum he h
def iEnumA (K : PySem.W.Frag) (ta : TA) : TI := fun σ H R => ta σ H fun vs H1 => ∃ a xs, vs = [.ref a] ∧ ((SqL K H1 a xs ∧ R (Ite K a) H1) ∨ (SqT K H1 a xs ∧ R (IteT K a) H1))
theorem pi_enumA {X : Cx} {e : Expr} {ta : TA} {p pos tpos : Pos} {elts : List Expr} {kk : Nat} (hg : Gl X "enumerate") (hm : X.mg "enumerate" = none) (ha : PA X [e] ta) (hs : starEach [e] X.env = [(false, eval e X.env)] := by rfl) :
    PI X (.Tuple elts kk tpos) (.Call (.Name "enumerate" p) [e] [] pos) (iEnumA X.K ta) := by
  refine ⟨fun pins s σ H R I h => ?_⟩
  refine Call_ (ld_blt I hg hm boot_enumerate (PyProof.Rows.callWith_type1 (thn (ha.run pos pins s σ H _ I h) fun us s1 ⟨vs, H1, I1, r1, q1⟩ => ?_) hs rfl))
  obtain ⟨a, xs, ex, hq⟩ := q1
  subst ex
  cases r1 with
  | cons r rr =>
    cases rr
    cases r
    have fin : ∀ b, b ∈ [s1.heap.objs.size + 1, s1.heap.objs.size] → FpOk X pins H1 b := fun b hb => by
      have e' : b = s1.heap.objs.size + 1 ∨ b = s1.heap.objs.size := by simpa using hb
      have hle : s1.heap.objs.size ≤ b := by
        rcases e' with z | z
        · rw [z]; exact Nat.le_add_right _ _
        · rw [z]; exact Nat.le_refl _
      exact I1.fpOk hle (I1.hok.fresh hle)
    rcases hq with ⟨hq, q⟩ | ⟨hq, q⟩
    · obtain ⟨its, rv, p', hz⟩ := I1.list hq
      refine call_enumerate_list p'.isList fun h' he hit hsz hk => wpAny_pyIter_enum he ?_
      have I2 : Inv X pins σ H1 { s1 with heap := h' } := I1.kept (t' := s1.toks) hk
      exact ⟨s1.heap.objs.size + 1, [s1.heap.objs.size + 1, s1.heap.objs.size], _, _, H1, rfl, I2, turn_enum a (s1.heap.objs.size + 1) s1.heap.objs.size, ⟨⟨.none, he⟩, hit, Nat.succ_ne_self _⟩, fin, q⟩
    · obtain ⟨its, rv, p', hz⟩ := I1.tuple hq
      have hal : a < s1.heap.objs.size := by
        obtain ⟨o, ho, _⟩ := id p'
        exact Heap.lt_size ho
      refine call_enumerate_tuple (show s1.heap.IsTuple a its.toArray from p') fun h' he hit hsz hk => wpAny_pyIter_enum he ?_
      have I2 : Inv X pins σ H1 { s1 with heap := h' } := I1.kept (t' := s1.toks) hk
      exact ⟨s1.heap.objs.size + 1, [s1.heap.objs.size + 1, s1.heap.objs.size], _, _, H1, rfl, I2, turn_enumT a (s1.heap.objs.size + 1) s1.heap.objs.size (Nat.ne_of_lt hal) (Nat.ne_of_gt (Nat.lt_succ_of_lt hal)), ⟨⟨.none, he⟩, hit, Nat.succ_ne_self _⟩, fin, q⟩
end MP
set_option Elab.async false
set_option linter.all false
set_option maxRecDepth 100000
set_option maxHeartbeats 4000000
namespace MP
open PySem PySem.Spec PyProof.Rows L2
open PySem.W (krv_pick)

/-! ### t[::-1] of a tuple -/
section
variable {prog : Program} {w : World} {A : Around} {E : Value → Shared → Prop} {s : Shared}
theorem sliceApplied_rev {sl : Addr} {vs : Value} {n : Nat} {Q : Int × Int × Nat → Shared → Prop} (hs : s.heap.IsSliceOf sl .none .none vs) (ps : IsPart vs (some (-1)))
    (h : Q ((n : Int) - 1, -1, n) s) : wpAny (model prog w) A (Builtin.Slice.sliceApplied (.ref sl) (pure (n : Int))) Q E s := by
  obtain ⟨os, hos, hcs, hds⟩ := id hs
  unfold Builtin.Slice.sliceApplied Builtin.Slice.sliceFields
  refine wpAny_bind (wpAny_bind (wpAny_field hos hds (x := .none) rfl (wpAny_bind (wpAny_field hos hds (x := .none) rfl (wpAny_bind (wpAny_field hos hds (x := vs) rfl (wpAny_pure ?_)))))))
  refine wpAny_bind (HT.slicePart_ ps ?_)
  show wpAny _ _ (if ((-1 : Int) == 0) = true then _ else _) _ _ s
  rw [if_neg (by decide)]
  refine wpAny_bind (HT.slicePart_ .none (wpAny_bind (HT.slicePart_ .none (wpAny_bind (wpAny_pure ?_)))))
  show wpAny _ _ (match Builtin.Slice.sliceAdjust none none (-1) (n : Int) with | (lo, hi) => pure (lo, (-1 : Int), Builtin.Slice.slicePlaces lo hi (-1))) _ _ s
  have e1 : Builtin.Slice.sliceAdjust none none (-1) (n : Int) = ((n : Int) - 1, -1) := by
    unfold Builtin.Slice.sliceAdjust
    simp
  rw [e1]
  show wpAny _ _ (pure ((n : Int) - 1, (-1 : Int), Builtin.Slice.slicePlaces ((n : Int) - 1) (-1) (-1))) _ _ s
  have e2 : Builtin.Slice.slicePlaces ((n : Int) - 1) (-1) (-1) = n := by
    unfold Builtin.Slice.slicePlaces
    simp
    split <;> omega
  rw [e2]
  exact wpAny_pure h
theorem pick_rev (xs : Array Value) : ((List.range xs.size).filterMap fun (m : Nat) => xs[(((xs.size : Int) - 1) + (m : Int) * (-1)).toNat]?).toArray = xs.toList.reverse.toArray := by
  congr 1
  apply List.ext_getElem?
  intro i
  have e : (List.range xs.size).filterMap (fun (m : Nat) => xs[(((xs.size : Int) - 1) + (m : Int) * (-1)).toNat]?) = (List.range xs.size).map fun m => xs.toList.reverse.getD m default := by
    have : ∀ k, k ≤ xs.size → (List.range k).filterMap (fun (m : Nat) => xs[(((xs.size : Int) - 1) + (m : Int) * (-1)).toNat]?) = (List.range k).map fun m => xs.toList.reverse.getD m default := by
      intro k
      induction k with
      | zero => intro _; rfl
      | succ k ih =>
        intro hk
        rw [List.range_succ, List.filterMap_append, List.map_append, ih (by omega)]
        congr 1
        have h1 : (((xs.size : Int) - 1) + (k : Int) * (-1)).toNat = xs.size - 1 - k := by omega
        have h2 : xs.size - 1 - k < xs.size := by omega
        rw [List.filterMap_cons, h1]
        rw [Array.getElem?_eq_getElem h2]
        simp only [List.filterMap_nil, List.map_cons, List.map_nil]
        congr 1
        rw [List.getD_eq_getElem?_getD, List.getElem?_reverse (by simpa using (by omega : k < xs.size))]
        simp [h2]
    exact this xs.size (Nat.le_refl _)
  rw [e, List.getElem?_map]
  by_cases h : i < xs.size
  · rw [List.getElem?_range h]
    have h3 : i < xs.toList.reverse.length := by simpa using h
    rw [List.getElem?_eq_getElem h3]
    simp [List.getD_eq_getElem?_getD, List.getElem?_eq_getElem h3]
  · rw [List.getElem?_eq_none_iff.mpr (by simpa using h), List.getElem?_eq_none_iff.mpr (by simpa using h)]
    rfl
theorem getItem_tuple_rev {t sl : Addr} {items : Array Value} {vs : Value} {Q : Value → Shared → Prop} (ht : IsTup s.heap t items) (hs : s.heap.IsSliceOf sl .none .none vs) (ps : IsPart vs (some (-1)))
    (h : Q (.ref s.heap.objs.size) { s with heap := s.heap.push { cls := .type "tuple", data := .seq items.toList.reverse.toArray } })
    (hsz : items.size ≤ sizeLine) : wpAny (model prog w) A (getItem (.ref t) (.ref sl)) Q E s := by
  have htake : sizeOk (.seq items.toList.reverse.toArray) := by
    show items.toList.reverse.toArray.size ≤ sizeLine
    simpa using hsz
  obtain ⟨os, hos, hcs, hds⟩ := id hs
  have hTs : s.TypeIs (.ref sl) "slice" := ⟨os, hos, hcs⟩
  unfold getItem
  try with_reducible refine wpAny_holding ?_
  first | refine wpAny_bind (wpAny_pure ?_) | skip
  refine wpAny_bind (wpAny_sequenceKey ht.typeIs (by decide) ?_)
  refine wpAny_bind (wpAny_callSpecial?_slot (name := Str.ofString "__getitem__") ht.typeIs PyProof.Rows.slot_tuple_getitem
    (wpAny_call_entry PyProof.Rows.slot_tuple_getitem ht.typeIs entry_tuple_getitem ?_ (args_tuple_getitem _ _)))
  show wpAny _ _ (Builtin.Tuple.tupleItemsOf (.ref t) >>= _) _ _ s
  refine wpAny_bind (tupleItemsOf_ ht ?_)
  refine wpAny_bind (wpAny_typeOf hTs ?_)
  rw [if_pos (by decide)]
  refine wpAny_bind (sliceApplied_rev hs ps ?_)
  have hno : ¬ ((((items.size : Int) - 1) == 0 && (-1 : Int) == 1 && items.size == items.size) = true) := by
    simp
  show wpAny _ _ (if (((items.size : Int) - 1) == 0 && (-1 : Int) == 1 && items.size == items.size) = true then _ else _) _ _ s
  rw [if_neg hno, pick_rev]
  first
    | exact wpAny_bind (m := Builtin.Tuple.tupleExact _) (wpAny_newObj_type (wpAny_pure ⟨_, rfl, wpAny_pure h⟩) htake)
    | exact wpAny_bind (m := Builtin.Tuple.tupleExact _) (wpAny_newObj_type (wpAny_bind (wpAny_pure (wpAny_pure ⟨_, rfl, wpAny_pure h⟩))) htake)
    | exact wpAny_bind (wpAny_bind (m := Builtin.Tuple.tupleExact _) (wpAny_newObj_type (wpAny_pure (wpAny_pure ⟨_, rfl, wpAny_pure h⟩)) htake))
    | exact wpAny_bind (wpAny_bind (m := Builtin.Tuple.tupleExact _) (wpAny_newObj_type (wpAny_pure ⟨_, rfl, wpAny_pure h⟩) htake))
end
section
variable {X : Cx} {cl : ClM}
def tRevA (K : PySem.W.Frag) (te : TE) : TE := fun σ H Q => te σ H fun x H1 => (∃ a xs, x = .ref a ∧ SqL K H1 a xs ∧ ∀ p, H1 p = none → Q (.ref p) (upd H1 p (.lst xs.reverse))) ∨
  ∃ a xs, x = .ref a ∧ SqT K H1 a xs ∧ NewT H1 Q xs.reverse
theorem pe_revA {e : Expr} {te : TE} {k : Nat} {p1 p2 p3 pos : Pos} (he : PE X e te) : PE X (.Subscript e (.Slice none none (some (.UnaryOp .USub (.Constant (.int 1) k p1) p2)) p3) pos) (tRevA X.K te) := by
  refine ⟨fun pins s σ H Q I h => ?_⟩
  refine Subscript_ (thn (he.run pins s σ H _ I h) fun v s1 ⟨x, H1, I1, r1, q1⟩ => ?_)
  have go : ∀ (a : Addr), x = .ref a → (∀ (s4 : Shared) (vs : Value), IsPart vs (some (-1)) → Inv X pins σ H1 s4 → Inv X pins σ H1 { s4 with heap := s4.heap.push { cls := .type "slice", data := .fields #[.none, .none, vs] } } →
      wpAny (model X.prog X.w) X.A (subscriptTail e (.Slice none none (some (.UnaryOp .USub (.Constant (.int 1) k p1) p2)) p3) (.ref a) (.ref s4.heap.objs.size)) (EP X pins σ Q) X.xe { s4 with heap := s4.heap.push { cls := .type "slice", data := .fields #[.none, .none, vs] } }) →
      wpAny (model X.prog X.w) X.A (eval (.Slice none none (some (.UnaryOp .USub (.Constant (.int 1) k p1) p2)) p3) X.env) (fun u s' => wpAny (model X.prog X.w) X.A (subscriptTail e (.Slice none none (some (.UnaryOp .USub (.Constant (.int 1) k p1) p2)) p3) (.ref a) u) (EP X pins σ Q) X.xe s') X.xe s1 := by
    intro a ex fin
    have hst : PO X (some (.UnaryOp .USub (.Constant (.int 1) k p1) p2)) (tPart (tUn (rU fun i => .int (-i)) (tC (.int 1)))) := po_some (pe_un un_neg pe_int)
    refine wpAny_Slice (thn (po_none.run pins s1 σ H1 (fun o H2 => o = none ∧ H2 = H1) I1 ⟨rfl, rfl⟩) fun vl s2 ⟨l, H2, I2, pl, el, e2⟩ => ?_)
    subst el e2
    refine thn (po_none.run pins s2 σ H2 (fun o H3 => o = none ∧ H3 = H2) I2 ⟨rfl, rfl⟩) fun vu s3 ⟨u, H3, I3, pu, eu, e3⟩ => ?_
    subst eu e3
    refine thn (hst.run pins s3 σ H3 (fun o H4 => o = some (-1) ∧ H4 = H3) I3 ⟨1, rfl, -1, rfl, rfl, rfl⟩) fun vs s4 ⟨o, H4, I4, ps, eo, e4⟩ => ?_
    subst eo e4
    cases pl
    cases pu
    exact fin s4 vs ps I4 (I4.kept (t' := s4.toks) fun b ob q => Heap.get?_push_of_some _ q)
  rcases q1 with ⟨a, xs, ex, hx, q⟩ | ⟨a, xs, ex, hx, q⟩
  · subst ex
    cases r1
    refine go a rfl fun s4 vs ps I4 I5 => ?_
    obtain ⟨its, r, ht, hz⟩ := I5.list hx
    have hlen := r.length
    refine tail_any (ops := [.ref a, .ref s4.heap.objs.size]) ht.isList.typeIs (PySem.slot_list_getitem.lookup) ?_ (by with_unfolding_all rfl)
    refine wpAny_getItem_list_slice ht.isList (Heap.IsSliceOf.new _ .none .none vs) .none .none ps (by decide) ?_ (by rw [List.size_toArray]; omega)
    rw [PySem.W.krv_pick]
    refine ⟨.ref _, _, I5.laid (t' := s4.toks) (o := .lst xs.reverse) (fun b ob q => Heap.get?_push_of_some _ q) (Nat.le_refl _) ?_, rfl, q _ (I5.hok.fresh (Nat.le_refl _))⟩
    exact ⟨by rw [List.length_reverse]; exact hz, _, 0, r.reverse, Heap.get?_push_size _ rfl⟩
  · subst ex
    cases r1
    refine go a rfl fun s4 vs ps I4 I5 => ?_
    obtain ⟨its, r, ht, hz⟩ := I5.tuple hx
    have hlen := r.length
    refine tail_any (ops := [.ref a, .ref s4.heap.objs.size]) ht.typeIs (PyProof.Rows.slot_tuple_getitem.lookup) ?_ (by with_unfolding_all rfl)
    refine getItem_tuple_rev ht (Heap.IsSliceOf.new _ .none .none vs) ps ?_ (by rw [List.size_toArray]; omega)
    exact epX (s := { s4 with heap := s4.heap.push { cls := .type "slice", data := .fields #[.none, .none, vs] } }) (t' := s4.toks) I5 (by rw [List.length_reverse]; exact hz) r.reverse q
def gRev : D → Option D := fun d => match d with
  | .lst xs => some (.lst xs.reverse)
  | .tup xs => some (.tup xs.reverse)
  | _ => none
theorem me_rev {a : Expr} {m : Xp} {k : Nat} {p1 p2 p3 pos : Pos} (h : ME X cl a m) : ME X cl (.Subscript a (.Slice none none (some (.UnaryOp .USub (.Constant (.int 1) k p1) p2)) p3) pos) (eUn gRev m) := by
  obtain ⟨t, p, kk⟩ := h
  refine ⟨_, pe_revA p, fun σ H I env r env' Q g hm k' => ?_⟩
  unfold eUn at hm
  cases q : m env with
  | none => simp [q] at hm
  | some pr =>
    obtain ⟨r1, e1⟩ := pr
    simp only [q] at hm
    cases q2 : vw e1 r1 with
    | none => simp [q2] at hm
    | some d =>
      simp only [q2] at hm
      cases d with
      | lst xs =>
        simp only [gRev, Option.some.injEq, Prod.mk.injEq] at hm
        obtain ⟨rfl, rfl⟩ := hm
        refine kk σ H I env r1 e1 _ g q fun v I1 H1 g1 t1 rv => ?_
        obtain ⟨b, vs, rfl, hs, rr⟩ := (vw_ok g1 rv q2).lst g1.ex
        refine .inl ⟨b, vs, rfl, SqL.of hs, fun c hc => ?_⟩
        have al : Al I1 H1 (upd I1 c (.lst vs.reverse)) (upd H1 c (.lst vs.reverse)) := Al.new g1.ex hc
        exact k' _ _ _ (g1.al al) (t1.trans al.tr) (.lst upd_same (rr.reverse.mono al.ext))
      | tup xs =>
        simp only [gRev, Option.some.injEq, Prod.mk.injEq] at hm
        obtain ⟨rfl, rfl⟩ := hm
        refine kk σ H I env r1 e1 _ g q fun v I1 H1 g1 t1 rv => ?_
        obtain ⟨b, vs, rfl, hs, rr, _⟩ := (vw_ok g1 rv q2).tup g1.ex
        refine .inr ⟨b, vs, rfl, hs, fun c us hc => ?_⟩
        have al : Al I1 H1 (upd I1 c (xT us vs.reverse)) (upd H1 c (xT us vs.reverse)) := Al.new g1.ex hc
        exact k' _ _ _ (g1.al al) (t1.trans al.tr) (.tup .new (rr.reverse.mono al.ext))
      | _ => simp [gRev] at hm

/-! ### list(range(..)), tuple(range(..)) -/
abbrev Xr := MEnv → Option (Int × Int × MEnv)
def MR (X : Cx) (cl : ClM) (e : Expr) (m : Xr) : Prop := ∃ t, PRg X e t ∧ ∀ (σ : L2.St) (H I : Hp) (env : MEnv) (a b : Int) (env' : MEnv) (Q : Int → Int → Hp → Prop), Gd X.K cl I H σ env → m env = some (a, b, env') →
  (∀ I' H', Gd X.K cl I' H' σ env' → Tr (Fp σ env) I H (Fp σ env') I' H' → Q a b H') → t σ H Q
def rg1 (m : Xp) : Xr := fun env => match m env with
  | none => none
  | some (r, e1) => match vw e1 r with
    | some (.int n) => some (0, n, e1)
    | _ => none
def rg2 (m m' : Xp) : Xr := fun env => match m env with
  | none => none
  | some (r, e1) => match m' e1 with
    | none => none
    | some (r', e2) => match vw e2 r, vw e2 r' with
      | some (.int i), some (.int j) => some (i, j, e2)
      | _, _ => none
theorem mr_1 {e a : Expr} {m : Xp} (h : ME X cl a m) (hp : ∀ t, PE X a t → PRg X e (tRg1 t)) : MR X cl e (rg1 m) := by
  obtain ⟨t, p, k⟩ := h
  refine ⟨_, hp t p, fun σ H I env i j env' Q g hm kk => ?_⟩
  unfold rg1 at hm
  cases q : m env with
  | none => simp [q] at hm
  | some pr =>
    obtain ⟨r, e1⟩ := pr
    simp only [q] at hm
    cases q2 : vw e1 r with
    | none => simp [q2] at hm
    | some d =>
      cases d with
      | int n =>
        simp only [q2, Option.some.injEq, Prod.mk.injEq] at hm
        obtain ⟨rfl, rfl, rfl⟩ := hm
        refine k σ H I env r e1 _ g q fun v I1 H1 g1 t1 r1 => ?_
        have ev := (vw_ok g1 r1 q2).int
        subst ev
        exact ⟨_, rfl, kk I1 H1 g1 t1⟩
      | _ => simp [q2] at hm
theorem mr_2 {e a b : Expr} {m m' : Xp} (h : ME X cl a m) (h' : ME X cl b m') (hp : ∀ t u, PE X a t → PE X b u → PRg X e (tRg2 t u)) : MR X cl e (rg2 m m') := by
  obtain ⟨t, p, k⟩ := h
  obtain ⟨u, p', k'⟩ := h'
  refine ⟨_, hp t u p p', fun σ H I env i j env' Q g hm kk => ?_⟩
  unfold rg2 at hm
  cases q : m env with
  | none => simp [q] at hm
  | some pr =>
    obtain ⟨r, e1⟩ := pr
    simp only [q] at hm
    cases q' : m' e1 with
    | none => simp [q'] at hm
    | some pr' =>
      obtain ⟨r', e2⟩ := pr'
      simp only [q'] at hm
      cases q2 : vw e2 r with
      | none => simp [q2] at hm
      | some d =>
        cases d with
        | int n =>
          cases q3 : vw e2 r' with
          | none => simp [q2, q3] at hm
          | some d' =>
            cases d' with
            | int n' =>
              simp only [q2, q3, Option.some.injEq, Prod.mk.injEq] at hm
              obtain ⟨rfl, rfl, rfl⟩ := hm
              refine k σ H I env r e1 _ g q fun v I1 H1 g1 t1 r1 => ?_
              refine k' σ H1 I1 e1 r' e2 _ g1 q' fun v' I2 H2 g2 t2 r2 => ?_
              have ev := (vw_ok g2 (r1.mono t2.ext) q2).int
              have ev' := (vw_ok g2 r2 q3).int
              subst ev
              subst ev'
              exact ⟨_, _, rfl, rfl, kk I2 H2 g2 (t1.trans t2)⟩
            | _ => simp [q2, q3] at hm
        | _ => simp [q2] at hm
def okRg (a b : Int) : Bool := okR a && okR b && decide ((b - a).toNat ≤ 16777216)
theorem okRg_ok {a b : Int} (h : okRg a b = true) : RgOk a b := by
  unfold okRg at h
  rw [Bool.and_eq_true, Bool.and_eq_true] at h
  exact ⟨(okR_ok h.1.1).1, (okR_ok h.1.1).2, (okR_ok h.1.2).1, (okR_ok h.1.2).2, of_decide_eq_true h.2⟩
theorem rp_rg {K : PySem.W.Frag} {I : Hp} (a b : Int) : RpA K cl I (rgV a b) (rgD a (b - a).toNat) := by
  have : rgD a (b - a).toNat = ((List.range (b - a).toNat).map fun (i : Nat) => a + (i : Int)).map D.int := by
    unfold rgD
    rw [List.map_map]
    rfl
  rw [this]
  have h2 : rgV a b = ((List.range (b - a).toNat).map fun (i : Nat) => a + (i : Int)).map V.int := by
    unfold rgV
    rw [List.map_map]
    rfl
  rw [h2]
  exact RpA.ofInts _
def fLrg (m : Xr) : Xf := fun env => match m env with
  | none => none
  | some (a, b, e1) => if okRg a b then some (.lst (rgD a (b - a).toNat), e1) else none
theorem mf_lrg {e e2 : Expr} {m : Xr} (h : MR X cl e m) (hp : ∀ t, PRg X e t → PE X e2 (tLstRg t)) : MF X cl e2 (fLrg m) := by
  obtain ⟨t, p, k⟩ := h
  refine ⟨_, hp t p, fun σ H I env o env' Q g hm kk => ?_⟩
  unfold fLrg at hm
  cases q : m env with
  | none => simp [q] at hm
  | some pr =>
    obtain ⟨a, b, e1⟩ := pr
    simp only [q] at hm
    by_cases ok : okRg a b = true
    · rw [if_pos ok] at hm
      simp only [Option.some.injEq, Prod.mk.injEq] at hm
      obtain ⟨rfl, rfl⟩ := hm
      refine k σ H I env a b e1 _ g q fun I1 H1 g1 t1 => ⟨okRg_ok ok, fun c hc => ?_⟩
      have al : Al I1 H1 I1 (upd H1 c (.lst (rgV a b))) := Al.newH g1.ex hc
      exact kk c _ _ _ (g1.al al) (t1.trans al.tr) (g1.ex.free hc) upd_same (.lst (rp_rg a b)) (t1.back (.inr hc)) (nf_fresh g1 hc)
    · rw [if_neg ok] at hm
      cases hm
def eTrg (m : Xr) : Xp := fun env => match m env with
  | none => none
  | some (a, b, e1) => if okRg a b then some (.d (.tup (rgD a (b - a).toNat)), e1) else none
theorem me_trg {e e2 : Expr} {m : Xr} (h : MR X cl e m) (hp : ∀ t, PRg X e t → PE X e2 (tTupRgX t)) : ME X cl e2 (eTrg m) := by
  obtain ⟨t, p, k⟩ := h
  refine ⟨_, hp t p, fun σ H I env o env' Q g hm kk => ?_⟩
  unfold eTrg at hm
  cases q : m env with
  | none => simp [q] at hm
  | some pr =>
    obtain ⟨a, b, e1⟩ := pr
    simp only [q] at hm
    by_cases ok : okRg a b = true
    · rw [if_pos ok] at hm
      simp only [Option.some.injEq, Prod.mk.injEq] at hm
      obtain ⟨rfl, rfl⟩ := hm
      refine k σ H I env a b e1 _ g q fun I1 H1 g1 t1 => ⟨okRg_ok ok, fun c us hc => ?_⟩
      have al : Al I1 H1 (upd I1 c (xT us (rgV a b))) (upd H1 c (xT us (rgV a b))) := Al.new g1.ex hc
      exact kk _ _ _ (g1.al al) (t1.trans al.tr) (.tup .new ((rp_rg a b).mono al.ext))
    · rw [if_neg ok] at hm
      cases hm

/-! ### enumerate, zip -/
def enumD : Nat → List D → List D
  | _, [] => []
  | i, d :: ds => .tup [.int (i : Nat), d] :: enumD (i + 1) ds
theorem enumD_get : ∀ (ds : List D) (k i : Nat), (enumD k ds)[i]? = (ds[i]?).map fun d => D.tup [.int ((k + i : Nat) : Int), d]
  | [], _, _ => rfl
  | d :: ds, k, 0 => rfl
  | d :: ds, k, i + 1 => by
    show (enumD (k + 1) ds)[i]? = (ds[i]?).map _
    rw [enumD_get ds (k + 1) i, Nat.add_right_comm k 1 i]
    rfl
theorem rp_pair {K : PySem.W.Frag} {I1 H1 : Hp} {T : Addr} {us : Array Value} {v w : V} {d e : D} (ex : Same I1 H1) (hT : H1 T = none) (h1 : Rp K cl I1 v d) (h2 : Rp K cl I1 w e) : ∃ I2, Al I1 H1 I2 (upd H1 T (xT us [v, w])) ∧ Rp K cl I2 (.ref T) (.tup [d, e]) := by
  have al : Al I1 H1 (upd I1 T (xT us [v, w])) (upd H1 T (xT us [v, w])) := Al.new ex hT
  exact ⟨_, al, .tup .new (.cons (h1.mono al.ext) (.cons (h2.mono al.ext) .nil))⟩
theorem iteT_ok {K : PySem.W.Frag} {I : Hp} {a : Addr} {vs : List V} {ds : List D} (hs : SqT K I a vs) (hr : RpA K cl I vs ds) : ItOk K cl I (IteT K a) (enumD 0 ds) := by
  intro i I1 H1 s1 s2
  have hs1 : SqT K H1 a vs := same_t (s1.trans s2) hs
  rw [enumD_get]
  refine ⟨fun hn => ⟨vs, hs1, ?_⟩, fun d hd => ?_⟩
  · rw [hr.length]
    cases q : ds[i]? with
    | none => exact List.getElem?_eq_none_iff.mp q
    | some d => rw [q] at hn; cases hn
  · cases q : ds[i]? with
    | none => rw [q] at hd; cases hd
    | some d0 =>
      rw [q] at hd
      cases hd
      obtain ⟨v, hv, rv⟩ := hr.get q
      refine ⟨⟨vs, v, hs1, hv⟩, fun x H2 ⟨T, us, x', e1, hT, e2, e3⟩ => ?_⟩
      subst e1
      subst e2
      have e4 := e3 vs hs1
      rw [hv] at e4
      cases e4
      rw [Nat.zero_add]
      exact rp_pair s2 hT (.int _) (rv.mono s1)
def iEn (ms : Xa) : Xi := fun env => match ms env with
  | some ([r], e1) => match esc e1 r with
    | some (.tup ds, e2) => some (enumD 0 ds, e2)
    | _ => none
  | _ => none
theorem mi_enum {e a : Expr} {tg : Expr} {ms : Xa} (h : MA X cl [a] ms) (hp : ∀ ta, PA X [a] ta → PI X tg e (iEnumA X.K ta)) : MI X cl tg e (iEn ms) := by
  obtain ⟨t, p, k⟩ := h
  refine ⟨_, hp t p, fun σ H I env ds env' Rr g hm kk => ?_⟩
  unfold iEn at hm
  cases q : ms env with
  | none => simp [q] at hm
  | some pr =>
    obtain ⟨rs, e1⟩ := pr
    rcases rs with _ | ⟨r, _ | ⟨r', rs⟩⟩
    · simp [q] at hm
    · simp only [q] at hm
      cases q2 : esc e1 r with
      | none => simp [q2] at hm
      | some p2 =>
        obtain ⟨d, e2⟩ := p2
        refine k σ H I env [r] e1 _ g q fun vs I1 H1 g1 t1 r1 => ?_
        cases r1 with
        | cons rv rn =>
          cases rn
          obtain ⟨I2, g2, t2, r2⟩ := esc_ok g1 rv q2
          cases d with
          | tup ds' =>
            simp only [q2, Option.some.injEq, Prod.mk.injEq] at hm
            obtain ⟨rfl, rfl⟩ := hm
            cases r2 with
            | tup hs hr => exact ⟨_, _, rfl, .inr ⟨(hs.mono g2.ex).sq, kk _ I2 H1 g2 (t1.trans t2) (iteT_ok hs.sq hr)⟩⟩
          | _ => simp [q2] at hm
    · simp [q] at hm
def zipD : List D → List D → List D
  | x :: xs, y :: ys => .tup [x, y] :: zipD xs ys
  | _, _ => []
theorem zipD_get : ∀ (xs ys : List D) (i : Nat), (zipD xs ys)[i]? = match xs[i]?, ys[i]? with | some x, some y => some (.tup [x, y]) | _, _ => none
  | [], _, i => by simp [zipD]
  | x :: xs, [], i => by
    simp only [zipD, List.getElem?_nil]
    cases (x :: xs)[i]? <;> rfl
  | x :: xs, y :: ys, 0 => rfl
  | x :: xs, y :: ys, i + 1 => by
    show (zipD xs ys)[i]? = _
    rw [zipD_get xs ys i]
    rfl
def iZp (ms : Xa) : Xi := fun env => match ms env with
  | some ([r, r'], e1) => match escL e1 [r, r'] with
    | some ([.lst xs, .lst ys], e2) => some (zipD xs ys, e2)
    | some ([.tup xs, .tup ys], e2) => some (zipD xs ys, e2)
    | _ => none
  | _ => none
/-! ### methods of a slot's own list -/
def gMt := List D → List D → Option (D × List D)
def MtL (X : Cx) (cl : ClM) (r : V → List V → Hp → VK → Prop) (g : gMt) : Prop := ∀ (I H : Hp) (p : Addr) (vs ws : List V) (xs args : List D) (res : D) (xs' : List D) (Q : VK), I p = none → H p = some (.lst vs) → RpA X.K cl I vs xs → RpA X.K cl I ws args → g xs args = some (res, xs') →
  (∀ v vs', Rp X.K cl I v res → RpA X.K cl I vs' xs' → Q v (upd H p (.lst vs'))) → r (.ref p) ws H Q
theorem own_upd {K : PySem.W.Frag} {I H : Hp} {σ : L2.St} {env : MEnv} {i : Nat} {p : Addr} {ho : HO} {o o' : SO} (g : Gd K cl I H σ env) (hi : env[i]? = some (.own o)) (hp : σ[i]? = some (some (.ref p))) (so : SoOk K cl I p ho o') :
    Gd K cl I (upd H p ho) σ (env.set i (.own o')) ∧ Tr (Fp σ env) I H (Fp σ (env.set i (.own o'))) I (upd H p ho) := by
  obtain ⟨p', ho0, ep, ip, hp0, so0⟩ := g.ok i _ _ hi hp
  cases ep
  have t : Tr (fun b => b = p) I H (fun _ => False) I (upd H p ho) := ⟨Same.refl _, fun b u h n => by rw [upd_ne n]; exact h, fun _ _ _ h => h, fun _ h => h.elim, fun b hb => by
    by_cases z : b = p
    · rw [z, upd_same]
      exact fun w => nomatch w
    · rw [upd_ne z]
      exact hb⟩
  have ex : Same I (upd H p ho) := fun b u hb => by
    rw [upd_ne (ne_of_none hb ip)]
    exact g.ex b u hb
  obtain ⟨g2, f2⟩ := g.setSlot (s := .own o') hi hp t ex ⟨p, ho, rfl, ip, upd_same, so⟩
  have fpp : Fp σ env p := ⟨i, o, hi, hp⟩
  exact ⟨g2, ⟨t.ext, fun b u h nf => t.frame b u h fun z => nf (by rw [z]; exact fpp), fun b hb nf h => h, fun b h => .inl (f2 b h), t.dom⟩⟩
def ownL (env : MEnv) (i : Nat) : Option (List D) := match env[i]? with
  | some (.own (.lst xs)) => some xs
  | _ => none
theorem ownL_eq {env : MEnv} {i : Nat} {xs : List D} (h : ownL env i = some xs) : env[i]? = some (.own (.lst xs)) := by
  unfold ownL at h
  split at h
  · rename_i q
    rw [q, Option.some.inj h]
  · cases h
def eMt (g : gMt) (i : Nat) (ms : Xa) : Xp := fun env => match ownL env i with
  | none => none
  | some _ => match ms env with
    | none => none
    | some (rs, e1) => match escL e1 rs with
      | none => none
      | some (args, e2) => match ownL e2 i with
        | none => none
        | some xs => match g xs args with
          | none => none
          | some (res, xs') => some (.d res, e2.set i (.own (.lst xs')))
theorem me_mt {e : Expr} {es : List Expr} {i : Nat} {g : gMt} {ms : Xa} {r : V → List V → Hp → VK → Prop} (hr : MtL X cl r g) (hm : MA X cl es ms) (hp : ∀ t, PA X es t → PE X e (tBM X.K "list" r (tVar i) t)) : ME X cl e (eMt g i ms) := by
  obtain ⟨t, p, k⟩ := hm
  refine ⟨_, hp t p, fun σ H I env r' env' Q gd hme kk => ?_⟩
  unfold eMt at hme
  cases q0 : ownL env i with
  | none => simp [q0] at hme
  | some xs0 =>
    simp only [q0] at hme
    cases q : ms env with
    | none => simp [q] at hme
    | some pr =>
      obtain ⟨rs, e1⟩ := pr
      simp only [q] at hme
      cases q2 : escL e1 rs with
      | none => simp [q2] at hme
      | some pr2 =>
        obtain ⟨args, e2⟩ := pr2
        simp only [q2] at hme
        cases q3 : ownL e2 i with
        | none => simp [q3] at hme
        | some xs =>
          simp only [q3] at hme
          cases q4 : g xs args with
          | none => simp [q4] at hme
          | some pr4 =>
            obtain ⟨res, xs'⟩ := pr4
            simp only [q4, Option.some.injEq, Prod.mk.injEq] at hme
            obtain ⟨rfl, rfl⟩ := hme
            have w0 := ownL_eq q0
            have hil : i < σ.length := by
              rw [gd.len]
              exact (List.getElem?_eq_some_iff.mp w0).1
            obtain ⟨ov, hov⟩ : ∃ ov, σ[i]? = some ov := ⟨σ[i], List.getElem?_eq_getElem hil⟩
            obtain ⟨a, ho, ea, ia, ha, so⟩ := gd.ok i _ ov w0 hov
            subst ea
            cases so with
            | lst r0 =>
              refine ⟨.ref a, hov, .inl ⟨rfl, _, SqL.of ha⟩, ?_⟩
              refine k σ H I env rs e1 _ gd q fun ws I1 H1 g1 t1 r1 => ?_
              obtain ⟨I2, g2, t2, r2⟩ := escL_ok g1 r1 q2
              have w3 := ownL_eq q3
              obtain ⟨a', ho', ea', ia', ha', so'⟩ := g2.ok i _ _ w3 hov
              cases ea'
              cases so' with
              | lst r3 =>
                refine hr I2 H1 a _ ws xs args res xs' Q ia' ha' r3 r2 q4 fun v vs' rv rvs => ?_
                obtain ⟨g4, t4⟩ := own_upd (o' := .lst xs') g2 w3 hov (.lst rvs)
                exact kk v I2 _ g4 ((t1.trans t2).trans t4) rv
theorem me_mt0 {e : Expr} {i : Nat} {g : gMt} {r : V → List V → Hp → VK → Prop} (hr : MtL X cl r g) (hp : PE X e (tBM0 X.K "list" r (tVar i))) : ME X cl e (eMt g i aNil) := by
  refine ⟨_, hp, fun σ H I env r' env' Q gd hme kk => ?_⟩
  unfold eMt at hme
  cases q0 : ownL env i with
  | none => simp [q0] at hme
  | some xs =>
    simp only [q0, aNil, escL] at hme
    cases q4 : g xs [] with
    | none => simp [q4] at hme
    | some pr4 =>
      obtain ⟨res, xs'⟩ := pr4
      simp only [q4, Option.some.injEq, Prod.mk.injEq] at hme
      obtain ⟨rfl, rfl⟩ := hme
      have w0 := ownL_eq q0
      have hil : i < σ.length := by
        rw [gd.len]
        exact (List.getElem?_eq_some_iff.mp w0).1
      obtain ⟨ov, hov⟩ : ∃ ov, σ[i]? = some ov := ⟨σ[i], List.getElem?_eq_getElem hil⟩
      obtain ⟨a, ho, ea, ia, ha, so⟩ := gd.ok i _ ov w0 hov
      subst ea
      cases so with
      | lst r0 =>
        refine ⟨.ref a, hov, .inl ⟨rfl, _, SqL.of ha⟩, ?_⟩
        refine hr I H a _ [] xs [] res xs' Q ia ha r0 .nil q4 fun v vs' rv rvs => ?_
        obtain ⟨g4, t4⟩ := own_upd (o' := .lst xs') gd w0 hov (.lst rvs)
        exact kk v I _ g4 t4 rv
def gAppend : gMt := fun xs args => match args with
  | [d] => if xs.length < 16777216 then some (.non, xs ++ [d]) else none
  | _ => none
theorem ml_append : MtL X cl rAppend gAppend := by
  intro I H p vs ws xs args res xs' Q ip hp r ra hg k
  unfold gAppend at hg
  split at hg
  · split at hg
    · rename_i hlt
      simp only [Option.some.injEq, Prod.mk.injEq] at hg
      obtain ⟨rfl, rfl⟩ := hg
      cases ra with
      | cons h t =>
        cases t
        exact ⟨p, vs, _, rfl, rfl, hp, by rw [r.length]; exact hlt, k _ _ .non (r.append (.cons h .nil))⟩
    · cases hg
  · cases hg
def gPop : gMt := fun xs args => match args with
  | [] => match xs[xs.length - 1]? with
    | some y => some (y, xs.dropLast)
    | none => none
  | _ => none
theorem RpA.dropLast {K : PySem.W.Frag} {I : Hp} : ∀ {vs : List V} {ds : List D}, RpA K cl I vs ds → RpA K cl I vs.dropLast ds.dropLast
  | _, _, .nil => .nil
  | _, _, .cons h .nil => .nil
  | _, _, .cons h (.cons h2 t) => .cons h (RpA.dropLast (.cons h2 t))
theorem ml_pop : MtL X cl rPop gPop := by
  intro I H p vs ws xs args res xs' Q ip hp r ra hg k
  unfold gPop at hg
  split at hg
  · cases q : xs[xs.length - 1]? with
    | none => simp [q] at hg
    | some y =>
      simp only [q, Option.some.injEq, Prod.mk.injEq] at hg
      obtain ⟨rfl, rfl⟩ := hg
      cases ra
      obtain ⟨v, hv, rv⟩ := r.get q
      exact ⟨p, vs, v, rfl, rfl, hp, by rw [r.length]; exact hv, k _ _ rv r.dropLast⟩
  · cases hg
def gPopAt : gMt := fun xs args => match args with
  | [.int i] => if okK i = false then none else match ixN xs.length i with
    | some j => match xs[j]? with
      | some y => some (y, xs.eraseIdx j)
      | none => none
    | none => none
  | _ => none
theorem ml_popAt : MtL X cl rPopAt gPopAt := by
  intro I H p vs ws xs args res xs' Q ip hp r ra hg k
  unfold gPopAt at hg
  split at hg
  · rename_i i
    cases q0 : okK i with
    | false => simp [q0] at hg
    | true =>
      simp only [q0] at hg
      cases q : ixN xs.length i with
      | none => simp [q] at hg
      | some j =>
        simp only [q] at hg
        cases q2 : xs[j]? with
        | none => simp [q2] at hg
        | some y =>
          simp only [q2] at hg
          simp at hg
          obtain ⟨rfl, rfl⟩ := hg
          cases ra with
          | cons h t =>
            cases t
            cases h
            obtain ⟨v, hv, rv⟩ := r.get q2
            obtain ⟨h1, h2, h3, h4⟩ := ixN_seq q
            exact ⟨p, vs, i, j, v, rfl, rfl, hp, (okK_ok q0).1, (okK_ok q0).2, by rw [r.length]; exact h1, hv, k _ _ rv (r.eraseIdx j)⟩
  · cases hg
end
end MP
set_option Elab.async false
set_option linter.all false
set_option maxRecDepth 100000
set_option maxHeartbeats 4000000
namespace MP
open PySem PySem.Spec PyProof.Rows L2
section
variable {X : Cx} {cl : ClM} {R : Nat → Bool}
/-! ### xs[i] = e -/
def sSetIx (i : Nat) (me mi : Xp) : Xs := fun env => match me env with
  | none => none
  | some (r, e1) => match esc e1 r with
    | none => none
    | some (d, e2) => match ownL e2 i with
      | none => none
      | some _ => match mi e2 with
        | none => none
        | some (ri, e3) => match vw e3 ri with
          | some (.int k) => match ownL e3 i with
            | none => none
            | some xs => match ixN xs.length k with
              | none => none
              | some j => some (.nx, e3.set i (.own (.lst (xs.set j d))))
          | _ => none
theorem ms_setIx {st : Stmt} {e x : Expr} {i : Nat} {me mi : Xp} (he : ME X cl e me) (hi : ME X cl x mi) (hp : ∀ te ti, PE X e te → PE X x ti → PS X st (L2.tAsg te (L2.gSub (tVar i) ti rSetL))) : MS X cl R st (sSetIx i me mi) := by
  obtain ⟨te, pe, ke⟩ := he
  obtain ⟨ti, pi, ki⟩ := hi
  refine ⟨_, hp te ti pe pi, fun σ H I env fl env' Dn g hm kk => ?_⟩
  unfold sSetIx at hm
  cases q1 : me env with
  | none => simp [q1] at hm
  | some p1 =>
    obtain ⟨r, e1⟩ := p1
    simp only [q1] at hm
    cases q2 : esc e1 r with
    | none => simp [q2] at hm
    | some p2 =>
      obtain ⟨d, e2⟩ := p2
      simp only [q2] at hm
      cases q0 : ownL e2 i with
      | none => simp [q0] at hm
      | some xs0 =>
        simp only [q0] at hm
        cases q3 : mi e2 with
        | none => simp [q3] at hm
        | some p3 =>
          obtain ⟨ri, e3⟩ := p3
          simp only [q3] at hm
          cases q4 : vw e3 ri with
          | none => simp [q4] at hm
          | some dk =>
            cases dk with
            | int k =>
              simp only [q4] at hm
              cases q5 : ownL e3 i with
              | none => simp [q5] at hm
              | some xs =>
                simp only [q5] at hm
                cases q6 : ixN xs.length k with
                | none => simp [q6] at hm
                | some j =>
                  simp only [q6, Option.some.injEq, Prod.mk.injEq] at hm
                  obtain ⟨rfl, rfl⟩ := hm
                  refine ke σ H I env r e1 _ g q1 fun v I1 H1 g1 t1 r1 => ?_
                  obtain ⟨I2, g2, t2, r2⟩ := esc_ok g1 r1 q2
                  have w0 := ownL_eq q0
                  have hil : i < σ.length := by
                    rw [g2.len]
                    exact (List.getElem?_eq_some_iff.mp w0).1
                  obtain ⟨ov, hov⟩ : ∃ ov, σ[i]? = some ov := ⟨σ[i], List.getElem?_eq_getElem hil⟩
                  obtain ⟨a, ho, ea, ia, ha, so⟩ := g2.ok i _ ov w0 hov
                  subst ea
                  refine ⟨.ref a, hov, ?_⟩
                  refine ki σ H1 I2 e2 ri e3 _ g2 q3 fun u I3 H3 g3 t3 r3 => ?_
                  have w5 := ownL_eq q5
                  obtain ⟨a', ho', ea', ia', ha', so'⟩ := g3.ok i _ _ w5 hov
                  cases ea'
                  cases so' with
                  | lst r5 =>
                    have eu := (vw_ok g3 r3 q4).int
                    subst eu
                    refine ⟨a, _, k, j, rfl, rfl, ha', by rw [r5.length]; exact q6, ?_⟩
                    obtain ⟨g4, t4⟩ := own_upd (o' := .lst (xs.set j d)) g3 w5 hov (.lst (r5.set (r2.mono t3.ext) j))
                    exact kk σ I3 _ g4 (((t1.trans t2).trans t3).trans t4) (fun _ _ => rfl)
            | _ => simp [q4] at hm

/-! ### fields -/
/-- what the top tells of a class and its fields -/
structure ClsOk (K : PySem.W.Frag) (cl : ClM) (c : Nat) (C : Addr) (ns : List Str) : Prop where
  at_ : cl c = some (C, ns)
  cls : Cls K C
  nd : ns.Nodup
  no : ∀ f ∈ ns, NoAttr K C f
  few : ns.length < 1000
theorem lookup_zip : ∀ {ns : List Str} {vs : List V} {j : Nat} {f : Str} {v : V}, ns.Nodup → ns[j]? = some f → vs[j]? = some v → (ns.zip vs).lookup f = some v
  | [], _, _, _, _, _, h, _ => by simp at h
  | n :: ns, [], j, _, _, _, _, h => by simp at h
  | n :: ns, w :: vs, 0, f, v, _, h1, h2 => by
    simp at h1 h2
    subst h1
    subst h2
    rw [List.zip_cons_cons, List.lookup_cons]
    simp
  | n :: ns, w :: vs, j + 1, f, v, nd, h1, h2 => by
    have nd' := List.nodup_cons.mp nd
    have h1' : ns[j]? = some f := by simpa using h1
    have hne : (f == n) = false := by
      refine beq_eq_false_iff_ne.mpr fun e => nd'.1 ?_
      rw [← e]
      exact List.mem_of_getElem? h1'
    rw [List.zip_cons_cons, List.lookup_cons, hne]
    exact lookup_zip nd'.2 h1' (by simpa using h2)
theorem lookup_fs {ns : List Str} {vs : List V} {j : Nat} {f : Str} {v : V} (nd : ns.Nodup) (hle : vs.length ≤ ns.length) (h1 : ns[j]? = some f) (h2 : vs[j]? = some v) : ((ns.take vs.length).zip vs).lookup f = some v := by
  have hj : j < vs.length := (List.getElem?_eq_some_iff.mp h2).1
  exact lookup_zip (nd.sublist (List.take_sublist _ _)) (by rw [List.getElem?_take_of_lt hj]; exact h1) h2
def gFld (c j : Nat) : D → Option D := fun d => match d with
  | .obj c' fs => if c' = c then fs[j]? else none
  | _ => none
theorem Vw.obj {K : PySem.W.Frag} {I H : Hp} {v : V} {c : Nat} {fs : List D} {C : Addr} {ns : List Str} (e : Same I H) (h : Vw K cl I H v (.obj c fs)) (hc : cl c = some (C, ns)) :
    ∃ a dx vs, v = .ref a ∧ H a = some (.ins C dx ((ns.take vs.length).zip vs)) ∧ vs.length ≤ ns.length ∧ RpA K cl I vs fs := by
  rcases h with h | ⟨p, ho, o, rfl, ip, hp, so, ed⟩
  · cases h with
    | obj c' h' l r =>
      rw [hc] at c'
      cases c'
      exact ⟨_, _, _, rfl, e _ _ h', l, r⟩
  · cases so with
    | ins c' l r =>
      cases ed
      rw [hc] at c'
      cases c'
      exact ⟨p, _, _, rfl, hp, l, r⟩
    | lst r => cases ed
    | dK k r => cases ed
    | dT nk k r => cases ed
theorem me_fld {e o : Expr} {f : Str} {m : Xp} {c j : Nat} {C : Addr} {ns : List Str} (T : ClsOk X.K cl c C ns) (hf : ns[j]? = some f) (h : ME X cl o m) (hp : ∀ t, PE X o t → PE X e (tFld X.K t f)) : ME X cl e (eUn (gFld c j) m) := by
  obtain ⟨t, p, k⟩ := h
  refine ⟨_, hp t p, fun σ H I env r env' Q g hm kk => ?_⟩
  unfold eUn at hm
  cases q : m env with
  | none => simp [q] at hm
  | some pr =>
    obtain ⟨r1, e1⟩ := pr
    simp only [q] at hm
    cases q2 : vw e1 r1 with
    | none => simp [q2] at hm
    | some d =>
      simp only [q2] at hm
      cases d with
      | obj c' fs =>
        unfold gFld at hm
        by_cases ec : c' = c
        · simp only [ec, if_true] at hm
          subst ec
          cases q3 : fs[j]? with
          | none => simp [q3] at hm
          | some z =>
            simp only [q3, Option.some.injEq, Prod.mk.injEq] at hm
            obtain ⟨rfl, rfl⟩ := hm
            refine k σ H I env r1 e1 _ g q fun v I1 H1 g1 t1 rv => ?_
            obtain ⟨a, dx, vs, rfl, ha, hle, rr⟩ := (vw_ok g1 rv q2).obj g1.ex T.at_
            obtain ⟨u, hu, ru⟩ := rr.get q3
            exact ⟨a, C, dx, _, u, rfl, ha, T.cls, T.no f (List.mem_of_getElem? hf), lookup_fs T.nd hle hf hu, kk u I1 H1 g1 t1 ru⟩
        · simp [ec] at hm
      | _ => simp [gFld] at hm
/-! self.f = e, self a slot's own object -/
def ownI (env : MEnv) (i : Nat) : Option (Nat × List D) := match env[i]? with
  | some (.own (.ins c fs)) => some (c, fs)
  | _ => none
theorem ownI_eq {env : MEnv} {i c : Nat} {fs : List D} (h : ownI env i = some (c, fs)) : env[i]? = some (.own (.ins c fs)) := by
  unfold ownI at h
  split at h
  · rename_i q
    cases Option.some.inj h
    exact q
  · cases h
def sFldSet (i c j : Nat) (me : Xp) : Xs := fun env => match me env with
  | none => none
  | some (r, e1) => match esc e1 r with
    | none => none
    | some (d, e2) => match ownI e2 i with
      | none => none
      | some (c', fs) => if c' = c then (if j < fs.length then some (.nx, e2.set i (.own (.ins c (fs.set j d)))) else if j = fs.length then some (.nx, e2.set i (.own (.ins c (fs ++ [d])))) else none) else none
theorem putF_set : ∀ {ns : List Str} {vs : List V} {j : Nat} {f : Str} {v : V}, ns.Nodup → ns[j]? = some f → j < vs.length → putF f v (ns.zip vs) = ns.zip (vs.set j v)
  | [], _, _, _, _, _, h, _ => by simp at h
  | n :: ns, [], j, _, _, _, _, h => by simp at h
  | n :: ns, w :: vs, 0, f, v, _, h1, _ => by
    simp at h1
    subst h1
    rw [List.zip_cons_cons]
    show (if n = n then (n, v) :: ns.zip vs else _) = _
    rw [if_pos rfl]
    rfl
  | n :: ns, w :: vs, j + 1, f, v, nd, h1, h2 => by
    have nd' := List.nodup_cons.mp nd
    have h1' : ns[j]? = some f := by simpa using h1
    have hne : ¬ n = f := fun e => nd'.1 (by rw [e]; exact List.mem_of_getElem? h1')
    rw [List.zip_cons_cons]
    show (if n = f then _ else (n, w) :: putF f v (ns.zip vs)) = _
    rw [if_neg hne, putF_set nd'.2 h1' (by simpa using h2)]
    rfl
theorem putF_new : ∀ {ns : List Str} {vs : List V} {f : Str} {v : V}, ns.Nodup → ns[vs.length]? = some f → putF f v ((ns.take vs.length).zip vs) = (ns.take (vs.length + 1)).zip (vs ++ [v])
  | [], vs, _, _, _, h => by simp at h
  | n :: ns, [], f, v, nd, h => by
    simp at h
    subst h
    rfl
  | n :: ns, w :: vs, f, v, nd, h => by
    have nd' := List.nodup_cons.mp nd
    have h' : ns[vs.length]? = some f := by simpa using h
    have hne : ¬ n = f := fun e => nd'.1 (by rw [e]; exact List.mem_of_getElem? h')
    show (if n = f then _ else (n, w) :: putF f v ((ns.take vs.length).zip vs)) = _
    rw [if_neg hne, putF_new nd'.2 h']
    rfl
theorem ms_fldSet {st : Stmt} {e : Expr} {f : Str} {me : Xp} {i c j : Nat} {C : Addr} {ns : List Str} (T : ClsOk X.K cl c C ns) (hf : ns[j]? = some f) (he : ME X cl e me) (hp : ∀ te, PE X e te → PS X st (sFld X.K (tVar i) te f)) : MS X cl R st (sFldSet i c j me) := by
  obtain ⟨te, pe, ke⟩ := he
  refine ⟨_, hp te pe, fun σ H I env fl env' Dn g hm kk => ?_⟩
  unfold sFldSet at hm
  cases q1 : me env with
  | none => simp [q1] at hm
  | some p1 =>
    obtain ⟨r, e1⟩ := p1
    simp only [q1] at hm
    cases q2 : esc e1 r with
    | none => simp [q2] at hm
    | some p2 =>
      obtain ⟨d, e2⟩ := p2
      simp only [q2] at hm
      cases q0 : ownI e2 i with
      | none => simp [q0] at hm
      | some p0 =>
        obtain ⟨c', fs⟩ := p0
        simp only [q0] at hm
        by_cases ec : c' = c
        · rw [if_pos ec] at hm
          subst ec
          refine ke σ H I env r e1 _ g q1 fun v I1 H1 g1 t1 r1 => ?_
          obtain ⟨I2, g2, t2, r2⟩ := esc_ok g1 r1 q2
          have w0 := ownI_eq q0
          have hil : i < σ.length := by
            rw [g2.len]
            exact (List.getElem?_eq_some_iff.mp w0).1
          obtain ⟨ov, hov⟩ : ∃ ov, σ[i]? = some ov := ⟨σ[i], List.getElem?_eq_getElem hil⟩
          obtain ⟨a, ho, ea, ia, ha, so⟩ := g2.ok i _ ov w0 hov
          subst ea
          cases so with
          | ins hc hle rr =>
            rename_i C' dx ns' vs
            rw [T.at_] at hc
            cases hc
            have hlen := rr.length
            have hjn : j < ns.length := (List.getElem?_eq_some_iff.mp hf).1
            have hfew : ((ns.take vs.length).zip vs).length < 1000 := by
              rw [List.length_zip, List.length_take]
              have := T.few
              omega
            refine ⟨.ref a, hov, a, C, dx, _, rfl, ha, T.cls, T.no f (List.mem_of_getElem? hf), hfew, ?_⟩
            by_cases hj : j < fs.length
            · rw [if_pos hj] at hm
              simp only [Option.some.injEq, Prod.mk.injEq] at hm
              obtain ⟨rfl, rfl⟩ := hm
              have ep : putF f v ((ns.take vs.length).zip vs) = (ns.take (vs.set j v).length).zip (vs.set j v) := by
                rw [List.length_set]
                refine putF_set (T.nd.sublist (List.take_sublist _ _)) ?_ (by omega)
                rw [List.getElem?_take_of_lt (by omega)]
                exact hf
              rw [ep]
              obtain ⟨g4, t4⟩ := own_upd (o' := .ins c' (fs.set j d)) g2 w0 hov (.ins (dx := dx) (vs := vs.set j v) T.at_ (by rw [List.length_set]; exact hle) (rr.set r2 j))
              exact kk σ I2 _ g4 ((t1.trans t2).trans t4) (fun _ _ => rfl)
            · rw [if_neg hj] at hm
              by_cases hj2 : j = fs.length
              · rw [if_pos hj2] at hm
                simp only [Option.some.injEq, Prod.mk.injEq] at hm
                obtain ⟨rfl, rfl⟩ := hm
                have ej : j = vs.length := by omega
                have ep : putF f v ((ns.take vs.length).zip vs) = (ns.take (vs ++ [v]).length).zip (vs ++ [v]) := by
                  rw [List.length_append]
                  exact putF_new T.nd (by rw [← ej]; exact hf)
                rw [ep]
                obtain ⟨g4, t4⟩ := own_upd (o' := .ins c' (fs ++ [d])) g2 w0 hov (.ins (dx := dx) (vs := vs ++ [v]) T.at_ (by rw [List.length_append]; show vs.length + 1 ≤ ns.length; omega) (rr.append (.cons r2 .nil)))
                exact kk σ I2 _ g4 ((t1.trans t2).trans t4) (fun _ _ => rfl)
              · rw [if_neg hj2] at hm
                cases hm
        · rw [if_neg ec] at hm
          cases hm
end

/-! ### making an object -/
section
variable {X : Cx} {cl : ClM} {e : Expr} {es : List Expr} {R : Nat → Bool} {f : Fn} {ms : Xa} {np : Nat}
/-- C(args): __init__ over the new object -/
def fMake (c : Nat) (f : Fn) (ms : Xa) : Xf := fun env => match ms env with
  | none => none
  | some (rs, e1) => match escL e1 rs with
    | none => none
    | some (ds, e2) => match f (.own (.ins c []) :: ds.map .val) with
      | some (.d .non, .own o :: _) => some (o, e2)
      | _ => none
theorem mf_make {c : Nat} {C : Addr} {ns : List Str} (T : cl c = some (C, ns)) (hR : R 0 = true) (hm : MA X cl es ms) (hp : ∀ t, PA X es t → PE X e (tMake C (spG X.K cl np R f) [] E0 t)) (hnp : ∀ env rs e1, ms env = some (rs, e1) → rs.length + 1 = np) : MF X cl e (fMake c f ms) := by
  obtain ⟨t, p, kk⟩ := hm
  refine ⟨_, hp t p, fun σ H I env r env' Q g hme k' => ?_⟩
  unfold fMake at hme
  cases q1 : ms env with
  | none => simp [q1] at hme
  | some p1 =>
    obtain ⟨rs, e1⟩ := p1
    simp only [q1] at hme
    cases q2 : escL e1 rs with
    | none => simp [q2] at hme
    | some p2 =>
      obtain ⟨ds, e2⟩ := p2
      simp only [q2] at hme
      cases q3 : f (.own (.ins c []) :: ds.map .val) with
      | none => simp [q3] at hme
      | some p3 =>
        obtain ⟨rv, outs⟩ := p3
        cases rv with
        | o o => simp [q3] at hme
        | d dn =>
          cases dn with
          | non =>
            rcases outs with _ | ⟨s, outs⟩
            · simp [q3] at hme
            · cases s with
              | none => simp [q3] at hme
              | val d => simp [q3] at hme
              | own o =>
                simp only [q3, Option.some.injEq, Prod.mk.injEq] at hme
                obtain ⟨rfl, rfl⟩ := hme
                refine kk σ H I env rs e1 _ g q1 fun vs I1 H1 g1 t1 r1 => ?_
                obtain ⟨I2, g2, t2, r2⟩ := escL_ok g1 r1 q2
                intro x dx hx hdx hne
                show spG X.K cl np R f (.ref x :: (vs ++ [])) _ _ E0
                rw [List.append_nil]
                have e0 : Same H1 (upd (upd H1 dx (.own x)) x (.ins C dx [])) := fun b u hb => by
                  rw [upd_ne (ne_of_none hb hx), upd_ne (ne_of_none hb hdx)]
                  exact hb
                have exI : Same I2 (upd (upd H1 dx (.own x)) x (.ins C dx [])) := g2.ex.trans e0
                have ix : I2 x = none := g2.ex.free hx
                obtain ⟨ga, fa⟩ := gd_args1 (cl := cl) (K := X.K) (o := .ins c []) exI ix upd_same (SoOk.ins (ns := ns) (vs := []) (dx := dx) T (Nat.zero_le _) .nil) r2
                refine ⟨by rw [List.length_cons, r1.length]; exact hnp _ _ _ q1, I2, _, .d .non, _, ga, fun j o1 h => ?_, q3, fun v I3 H3 g3 t3 rk => ?_⟩
                · cases j with
                  | zero => exact hR
                  | succ j =>
                    exfalso
                    have h' : (ds.map Slot.val)[j]? = some (.own o1) := h
                    rw [List.getElem?_map] at h'
                    cases q : ds[j]? with
                    | none => rw [q] at h'; cases h'
                    | some d => rw [q] at h'; cases h'
                · have ev : v = .non := by
                    have rk' : Rp X.K cl I3 v .non := rk
                    cases rk'
                    rfl
                  refine ⟨ev, ?_⟩
                  obtain ⟨p0, ho, ep, ip, hp0, so⟩ := g3.ok 0 _ _ rfl rfl
                  cases ep
                  -- the caller's own: nothing of it has changed
                  have old : ∀ b, H1 b ≠ none → b ≠ x := fun b hb z => hb (by rw [z]; exact hx)
                  have hb2 : ∀ b u, H1 b = some u → (upd (upd H1 dx (.own x)) x (.ins C dx [])) b = some u := fun b u h => e0 b u h
                  have nfa : ∀ b, b ≠ x → ¬ Fp ((V.ref x :: vs).map some) (Slot.own (.ins c []) :: ds.map .val) b := fun b n h => n ((fa b).mp h)
                  have tt : Tr (Fp σ e2) I2 H1 (Fp σ e2) I3 H3 := ⟨t3.ext, fun b u h _ => t3.frame b u (hb2 b u h) (nfa b (old b (by rw [h]; exact fun z => nomatch z))),
                    fun b hb _ hi => t3.nofr b (by
                      cases q : H1 b with
                      | none => exact absurd q hb
                      | some u => rw [hb2 b u q]; exact fun z => nomatch z) (nfa b (old b hb)) hi, fun b h => .inl h, fun b hb => t3.dom b (by
                      cases q : H1 b with
                      | none => exact absurd q hb
                      | some u => rw [hb2 b u q]; exact fun z => nomatch z)⟩
                  have nfx : ¬ Fp σ e2 x := nf_fresh g2 hx
                  have g4 : Gd X.K cl I3 H3 σ e2 := by
                    refine ⟨g3.ex, g2.len, fun i s ov h1 h2 => ?_, g2.inj⟩
                    have ok := g2.ok i s ov h1 h2
                    cases s with
                    | none => trivial
                    | val d2 =>
                      obtain ⟨v2, e2', r2'⟩ := ok
                      exact ⟨v2, e2', r2'.mono t3.ext⟩
                    | own o2 =>
                      obtain ⟨p2, ho2, e2', ip2, hp2, so2⟩ := ok
                      have hn : H1 p2 ≠ none := by
                        rw [hp2]
                        exact fun z => nomatch z
                      refine ⟨p2, ho2, e2', t3.nofr p2 ?_ (nfa p2 (old p2 hn)) ip2, t3.frame p2 ho2 (hb2 p2 ho2 hp2) (nfa p2 (old p2 hn)), so2.mono t3.ext⟩
                      rw [hb2 p2 ho2 hp2]
                      exact fun z => nomatch z
                  exact k' x ho I3 H3 g4 ((t1.trans t2).trans tt) ip hp0 so ((t1.trans t2).back (.inr hx)) nfx
          | _ => simp [q3] at hme
end
end MP
set_option Elab.async false
set_option linter.all false
set_option maxRecDepth 100000
set_option maxHeartbeats 4000000
namespace MP
open PySem PySem.Spec PyProof.Rows L2
section
variable {X : Cx} {cl : ClM} {R : Nat → Bool}
/-- a, b = e, f, both local -/
def sPar (i j : Nat) (ms : Xa) : Xs := fun env => match ms env with
  | none => none
  | some (rs, e1) => match escL e1 rs with
    | some ([d, d'], e2) => if i < e2.length ∧ j < e2.length then some (.nx, (e2.set i (.val d)).set j (.val d')) else none
    | _ => none
theorem ms_par {st : Stmt} {es : List Expr} {i j : Nat} {ms : Xa} (h : MA X cl es ms) (hp : ∀ t, PA X es t → PS X st (tPar i j t)) (h1 : R i = false) (h2 : R j = false) : MS X cl R st (sPar i j ms) := by
  obtain ⟨t, p, k⟩ := h
  refine ⟨_, hp t p, fun σ H I env fl env' Dn g hm kk => ?_⟩
  unfold sPar at hm
  cases q : ms env with
  | none => simp [q] at hm
  | some pr =>
    obtain ⟨rs, e1⟩ := pr
    simp only [q] at hm
    refine k σ H I env rs e1 _ g q fun vs I1 H1 g1 t1 r1 => ?_
    cases q2 : escL e1 rs with
    | none => simp [q2] at hm
    | some p2 =>
      obtain ⟨ds, e2⟩ := p2
      obtain ⟨I2, g2, t2, r2⟩ := escL_ok g1 r1 q2
      cases r2 with
      | nil => simp [q2] at hm
      | cons ra r2 =>
        cases r2 with
        | nil => simp [q2] at hm
        | cons rb r2 =>
          cases r2 with
          | cons _ _ => simp [q2] at hm
          | nil =>
            rename_i v d v' d'
            simp only [q2] at hm
            by_cases hl : i < e2.length ∧ j < e2.length
            · rw [if_pos hl] at hm
              simp only [Option.some.injEq, Prod.mk.injEq] at hm
              obtain ⟨rfl, rfl⟩ := hm
              refine ⟨v, v', rfl, kk _ I2 H1 ((g2.setVal ra).setVal rb) ((t1.trans t2).less fun p h => h.setVal.setVal) fun a ha => ?_⟩
              rw [List.getElem?_set_ne, List.getElem?_set_ne]
              · rintro rfl
                rw [h1] at ha
                cases ha
              · rintro rfl
                rw [h2] at ha
                cases ha
            · rw [if_neg hl] at hm
              cases hm
/-! a list or a tuple walked -/
def iSq (m : Xp) : Xi := fun env => match m env with
  | none => none
  | some (r, e1) => match esc e1 r with
    | some (.lst ds, e2) => some (ds, e2)
    | some (.tup ds, e2) => some (ds, e2)
    | _ => none
theorem mi_sq {e tg : Expr} {m : Xp} (h : ME X cl e m) : MI X cl tg e (iSq m) := by
  obtain ⟨t, p, k⟩ := h
  refine ⟨fun σ H R => iList X.K t σ H R ∨ iTup X.K t σ H R, ⟨fun pins s σ H R I h => ?_⟩, fun σ H I env ds env' Rr g hm kk => ?_⟩
  · rcases h with h | h
    · exact (pi_list p).run pins s σ H R I h
    · exact (pi_tup p).run pins s σ H R I h
  · unfold iSq at hm
    cases q : m env with
    | none => simp [q] at hm
    | some pr =>
      obtain ⟨r, e1⟩ := pr
      simp only [q] at hm
      cases q2 : esc e1 r with
      | none => simp [q2] at hm
      | some p2 =>
        obtain ⟨d, e2⟩ := p2
        cases d with
        | lst ds' =>
          simp only [q2, Option.some.injEq, Prod.mk.injEq] at hm
          obtain ⟨rfl, rfl⟩ := hm
          refine .inl (k σ H I env r e1 _ g q fun v I1 H1 g1 t1 r1 => ?_)
          obtain ⟨I2, g2, t2, r2⟩ := esc_ok g1 r1 q2
          cases r2 with
          | lst hs hr => exact ⟨_, rfl, ⟨_, SqL.of (g2.ex _ _ hs)⟩, kk _ I2 H1 g2 (t1.trans t2) (itl_ok (SqL.of hs) hr)⟩
        | tup ds' =>
          simp only [q2, Option.some.injEq, Prod.mk.injEq] at hm
          obtain ⟨rfl, rfl⟩ := hm
          refine .inr (k σ H I env r e1 _ g q fun v I1 H1 g1 t1 r1 => ?_)
          obtain ⟨I2, g2, t2, r2⟩ := esc_ok g1 r1 q2
          cases r2 with
          | tup hs hr => exact ⟨_, rfl, ⟨_, (hs.mono g2.ex).sq⟩, kk _ I2 H1 g2 (t1.trans t2) (itt_ok (hs.sq) hr)⟩
        | _ => simp [q2] at hm
/-! calls without arguments -/
theorem ag_nil : AgOk X.K cl tNil aNil := fun σ H I env rs env' Q g hm k => by
  cases Option.some.inj hm
  exact k [] I H g Tr.refl .nil
def eCall0 (f : Fn) : Xp := eCall f aNil
def fCall0 (f : Fn) : Xf := fCall f aNil
theorem me_call0 {e : Expr} {f : Fn} {R' : Nat → Bool} (hp : PE X e (tCall (spG X.K cl 0 R' f) [] E0 tNil)) : ME X cl e (eCall0 f) := by
  refine ⟨_, hp, fun σ H I env r env' Q g hme k' => ?_⟩
  unfold eCall0 eCall aNil escL at hme
  simp only [List.map_nil] at hme
  cases q3 : f [] with
  | none => simp [q3] at hme
  | some p3 =>
    obtain ⟨rv, outs⟩ := p3
    refine call_core (f := f) (ds := []) (rs := []) ag_nil g rfl rfl rfl q3 fun v I3 H3 g3 t3 rk => ?_
    cases rv with
    | d d =>
      simp only [q3, Option.some.injEq, Prod.mk.injEq] at hme
      obtain ⟨rfl, rfl⟩ := hme
      exact k' v I3 H3 g3 t3 rk
    | o o =>
      simp only [q3, Option.some.injEq, Prod.mk.injEq] at hme
      obtain ⟨rfl, rfl⟩ := hme
      obtain ⟨a, ho, ea, ia, ha, so, fr, nf⟩ := rk
      subst ea
      exact k' _ _ H3 (g3.frz ia ha nf) (t3.frzN fr ia) (so.frz ia)
theorem mf_call0 {e : Expr} {f : Fn} {R' : Nat → Bool} (hp : PE X e (tCall (spG X.K cl 0 R' f) [] E0 tNil)) : MF X cl e (fCall0 f) := by
  refine ⟨_, hp, fun σ H I env r env' Q g hme k' => ?_⟩
  unfold fCall0 fCall aNil escL at hme
  simp only [List.map_nil] at hme
  cases q3 : f [] with
  | none => simp [q3] at hme
  | some p3 =>
    obtain ⟨rv, outs⟩ := p3
    refine call_core (f := f) (ds := []) (rs := []) ag_nil g rfl rfl rfl q3 fun v I3 H3 g3 t3 rk => ?_
    cases rv with
    | d d => simp [q3] at hme
    | o o =>
      simp only [q3, Option.some.injEq, Prod.mk.injEq] at hme
      obtain ⟨rfl, rfl⟩ := hme
      obtain ⟨a, ho, ea, ia, ha, so, fr, nf⟩ := rk
      subst ea
      exact k' a ho I3 H3 g3 t3 ia ha so fr nf
end
theorem hu_1 {A : Around} {k : Nat} (hr : Room k A) : A.units + 1 < cLine := by
  have := hr.un
  omega
theorem hu_64 {A : Around} {k : Nat} (hr : Room k A) : A.units + 64 < cLine := by
  have := hr.un
  omega
theorem hu_65 {A : Around} {k : Nat} (hr : Room k A) : A.units + 65 < cLine := by
  have := hr.un
  omega
/-! ### the law's end -/
def spLaw (K : PySem.W.Frag) : Sp := fun vs H Q _ => ∃ (a : Addr) (ns : List Int), vs = [.ref a] ∧ SqL K H a (ns.map V.int) ∧ ns.length ≤ 63 ∧ ∀ H', Q (.bl true) H'
theorem law_of {P : Program} {w : World} {K : PySem.W.Frag} {mg : Str → Option Value} {base : Heap} {CX : CXT} {k : Nat} {f : Addr} {fd : FuncData} {ps : List Str} {cl : ClM} {R : Nat → Bool} {fn : Nat → Fn} (hps : ps.length = 1)
    (F : ∀ N, FnOk P w K mg base CX k f fd ps (spG K cl ps.length R (fn N))) (h : ∀ ns : List Int, ns.length ≤ 63 → ∃ N outs, fn N [.val (.scr (ns.map D.int))] = some (.d (.bl true), outs)) : FnOk P w K mg base CX k f fd ps (spLaw K) := by
  have key : ∀ vs H Q E, spLaw K vs H Q E → ∃ N, spG K cl ps.length R (fn N) vs H Q E := by
    intro vs H Q E hsp
    obtain ⟨a, ns, rfl, hs, hlen, hq⟩ := hsp
    obtain ⟨N, outs, hf⟩ := h ns hlen
    let I : Hp := fun b => if b = a then H a else none
    have ex : Same I H := fun b u hb => by
      show H b = some u
      have hb' : (if b = a then H a else none) = some u := hb
      by_cases z : b = a
      · rw [if_pos z] at hb'
        rw [z]
        exact hb'
      · rw [if_neg z] at hb'
        cases hb'
    have hI : I a = H a := by
      show (if a = a then H a else none) = H a
      rw [if_pos rfl]
    have hs' : SqL K I a (ns.map V.int) := by
      rcases hs with (h | ⟨o, h⟩) | h
      · exact .inl (.inl (hI.trans h))
      · exact .inl (.inr ⟨o, hI.trans h⟩)
      · exact .inr h
    have rp : Rp K cl I (.ref a) (.scr (ns.map D.int)) := .scr hs' (RpA.ofInts ns)
    refine ⟨N, by rw [hps]; rfl, I, [.val (.scr (ns.map D.int))], _, outs, ⟨ex, rfl, fun i s ov h1 h2 => ?_, fun i j p o o' h1 => ?_⟩, fun i o h => ?_, hf, fun v I' H' g t rk => ?_⟩
    · cases i with
      | zero =>
        cases h1
        cases h2
        exact ⟨_, rfl, rp⟩
      | succ i => cases h1
    · cases i with
      | zero => cases h1
      | succ i => cases h1
    · cases i with
      | zero => cases h
      | succ i => cases h
    · have rk' : Rp K cl I' v (.bl true) := rk
      cases rk'
      exact hq H'
  refine ⟨fun vs H Q E h1 => ?_, fun A outer s H args us vs Q E hr e b r h1 => ?_⟩
  · obtain ⟨N, h2⟩ := key vs H Q E h1
    exact (F N).len vs H Q E h2
  · obtain ⟨N, h2⟩ := key vs H Q E h1
    exact (F N).run A outer s H args us vs Q E hr e b r h2
end MP
set_option Elab.async false
set_option linter.all false
set_option maxRecDepth 100000
set_option maxHeartbeats 4000000
namespace MP
open PySem PySem.Spec PyProof.Rows L2
/-! ### two clauses -/
def cLoop2 (vs : List Nat) (g : Xg) (t : Xt) (mi1 : Xi) (vs1 : List Nat) (g1 : Xg) (t1 : Xt) (m : Xp) : List D → List D → MEnv → Option (List D × MEnv)
  | [], acc, env => some (acc, env)
  | d :: ds, acc, env => match g d env with
    | none => none
    | some e1 => match t e1 with
      | none => none
      | some (false, e2) => cLoop2 vs g t mi1 vs1 g1 t1 m ds acc (wipeE e2 vs)
      | some (true, e2) => match mi1 e2 with
        | none => none
        | some (ds1, e3) => match cLoop vs1 g1 t1 m ds1 acc (wipeE e3 vs1) with
          | none => none
          | some (acc', e4) => cLoop2 vs g t mi1 vs1 g1 t1 m ds acc' (wipeE e4 vs)
def fComp2 (vs : List Nat) (mi : Xi) (g : Xg) (t : Xt) (mi1 : Xi) (vs1 : List Nat) (g1 : Xg) (t1 : Xt) (m : Xp) : Xf := fun env => match mi env with
  | none => none
  | some (ds, e1) => if okW e1 vs then match cLoop2 vs g t mi1 vs1 g1 t1 m ds [] (wipeE e1 vs) with
    | none => none
    | some (xs, e2) => some (.lst xs, restE e1 e2 vs)
    else none
theorem wipe_sub {σ : L2.St} {vs vs1 : List Nat} (h : ∀ i ∈ vs1, i ∈ vs) : wipe (wipe σ vs1) vs = wipe σ vs :=
  wipe_eq (wipe_length _ _) fun i hi => wipe_out fun z => hi (h i z)
section
variable {X : Cx} {cl : ClM} {tg iter tg1 iter1 elt e : Expr} {ifs ifs1 : List Expr} {vs vs1 : List Nat} {mi mi1 : Xi} {g g1 : Xg} {mt mt1 : Xt} {m : Xp} {scope : Scope}
theorem lc2_fr (hvs : ∀ i ∈ vs1, i ∈ vs) (hi : MI X cl tg iter mi) (hg : BlkAll X scope fun Y => MG Y cl (notIn vs) tg g) (ht : BlkAll X scope fun Y => MTs Y cl ifs mt)
    (hi1 : BlkAll X scope fun Y => MI Y cl tg1 iter1 mi1) (hg1 : BlkAll X scope fun Y => MG Y cl (notIn vs1) tg1 g1) (ht1 : BlkAll X scope fun Y => MTs Y cl ifs1 mt1) (he : BlkAll X scope fun Y => ME Y cl elt m) :
    ∃ wi tgt tt wi1 tgt1 tt1 te, PI X tg iter wi ∧ BlkAll X scope (fun Y => PG Y tg tgt) ∧ BlkAll X scope (fun Y => PTs Y ifs tt) ∧ BlkAll X scope (fun Y => PI Y tg1 iter1 wi1) ∧ BlkAll X scope (fun Y => PG Y tg1 tgt1) ∧ BlkAll X scope (fun Y => PTs Y ifs1 tt1) ∧ BlkAll X scope (fun Y => PE Y elt te) ∧
      FrOk X.K cl (tLc2 wi tgt tt wi1 tgt1 tt1 te vs vs1) (fComp2 vs mi g mt mi1 vs1 g1 mt1 m) := by
  obtain ⟨wi, pi, ki⟩ := hi
  obtain ⟨tgt, pg, kg⟩ := uni_g hg
  obtain ⟨tt, pt, kt⟩ := uni_t ht
  obtain ⟨wi1, pi1, ki1⟩ := uni_i hi1
  obtain ⟨tgt1, pg1, kg1⟩ := uni_g hg1
  obtain ⟨tt1, pt1, kt1⟩ := uni_t ht1
  obtain ⟨te, pe, ke⟩ := uni_e he
  refine ⟨wi, tgt, tt, wi1, tgt1, tt1, te, pi, pg, pt, pi1, pg1, pt1, pe, fun σ H I env o env' Q gd hm k => ?_⟩
  unfold fComp2 at hm
  cases q : mi env with
  | none => simp [q] at hm
  | some pr =>
    obtain ⟨ds, e1⟩ := pr
    simp only [q] at hm
    by_cases ok : okW e1 vs = true
    · rw [if_pos ok] at hm
      cases q2 : cLoop2 vs g mt mi1 vs1 g1 mt1 m ds [] (wipeE e1 vs) with
      | none => simp [q2] at hm
      | some pr2 =>
        obtain ⟨xs, e2⟩ := pr2
        simp only [q2, Option.some.injEq, Prod.mk.injEq] at hm
        obtain ⟨rfl, rfl⟩ := hm
        refine ki σ H I env ds e1 _ gd q fun J I1 H1 g1' t1 it => fun Da hD => ?_
        have nfD : ¬ Fp σ e1 Da := nf_fresh g1' hD
        have iD : I1 Da = none := g1'.ex.free hD
        have al0 : Al I1 H1 I1 (upd H1 Da (.lst [])) := Al.newH g1'.ex hD
        refine ⟨fun i j H2 => j = ds.length - i ∧ ∃ I2 env2 acc accV, Gd X.K cl I2 H2 (wipe σ vs) env2 ∧ Tr (Fp σ e1) I1 H1 (Fp (wipe σ vs) env2) I2 H2 ∧ I2 Da = none ∧ H2 Da = some (.lst accV) ∧ ¬ Fp (wipe σ vs) env2 Da ∧ RpA X.K cl I2 accV acc ∧
            cLoop2 vs g mt mi1 vs1 g1 mt1 m (ds.drop i) acc env2 = some (xs, e2),
          ⟨ds.length, rfl, I1, wipeE e1 vs, [], [], (g1'.al al0).wipe, ((al0.tr (F := Fp σ e1)).less fun p h => h.wipe), iD, upd_same, fun h => nfD h.wipe, .nil, q2⟩, fun i j H2 ⟨hj, I2, env2, acc, accV, g2, t2, i2, h2, nf2, ra, hw⟩ => ?_⟩
        obtain ⟨hstop, hgo⟩ := it i I2 H2 t2.ext g2.ex
        cases hd : ds[i]? with
        | none =>
          have hle : ds.length ≤ i := List.getElem?_eq_none_iff.mp hd
          rw [List.drop_eq_nil_of_le hle] at hw
          simp only [cLoop2, Option.some.injEq, Prod.mk.injEq] at hw
          obtain ⟨rfl, rfl⟩ := hw
          refine .inl ⟨hstop hd, ?_⟩
          have g3 : Gd X.K cl I2 H2 σ (restE e1 env2 vs) := Gd.rest g1' ok t2.ext g2
          have t3 : Tr (Fp σ e1) I1 H1 (Fp σ (restE e1 env2 vs)) I2 H2 := t2.less fun p h => Fp.rest ok h
          exact k Da _ I2 H2 g3 (t1.trans t3) i2 h2 (.lst ra) (t1.back (.inr hD)) fun h => nf2 (Fp.rest ok h)
        | some d =>
          have hlt : i < ds.length := (List.getElem?_eq_some_iff.mp hd).1
          have edr : ds.drop i = d :: ds.drop (i + 1) := by
            rw [List.drop_eq_getElem_cons hlt]
            congr 1
            exact (List.getElem?_eq_some_iff.mp hd).2
          rw [edr] at hw
          obtain ⟨go, yld⟩ := hgo d hd
          refine .inr ⟨go, fun H4 => ∃ I4 env4 acc4 accV4, Gd X.K cl I4 H4 (wipe σ vs) env4 ∧ Tr (Fp σ e1) I1 H1 (Fp (wipe σ vs) env4) I4 H4 ∧ I4 Da = none ∧ H4 Da = some (.lst accV4) ∧ ¬ Fp (wipe σ vs) env4 Da ∧ RpA X.K cl I4 accV4 acc4 ∧
            cLoop2 vs g mt mi1 vs1 g1 mt1 m (ds.drop (i + 1)) acc4 env4 = some (xs, e2), fun H4 h4 => ⟨ds.length - (i + 1), by omega, rfl, h4⟩, fun v H3 hy => ?_⟩
          obtain ⟨I3, al, rv⟩ := yld v H3 hy
          have g3 := g2.al al
          have t3 := t2.trans (al.tr (F := Fp (wipe σ vs) env2))
          have hDa2 : H2 Da ≠ none := by
            rw [h2]
            exact fun z => nomatch z
          have i3 : I3 Da = none := al.nofr Da hDa2 i2
          have h3 : H3 Da = some (.lst accV) := al.exH _ _ h2
          unfold cLoop2 at hw
          cases q3 : g d env2 with
          | none => simp [q3] at hw
          | some e3 =>
            simp only [q3] at hw
            refine kg (wipe σ vs) H3 I3 env2 d e3 v _ g3 rv q3 fun σ4 I4 H4 g4 t4 r4 l4 => ?_
            have ew : wipe σ4 vs = wipe σ vs := (wipe_eq l4 fun i hi => r4 i (notIn_t hi)).trans (wipe_eq (wipe_length _ _) fun i hi => wipe_out hi)
            refine ⟨ew, ?_⟩
            have t34 := t3.trans t4
            have hDa3 : H3 Da ≠ none := by
              rw [h3]
              exact fun z => nomatch z
            have i4 : I4 Da = none := t4.nofr Da hDa3 nf2 i3
            have h4 : H4 Da = some (.lst accV) := t4.frame _ _ h3 nf2
            have nf4 : ¬ Fp σ4 e3 Da := t4.notin hDa3 nf2
            cases q4 : mt e3 with
            | none => simp [q4] at hw
            | some pr4 =>
              obtain ⟨b4, e4⟩ := pr4
              refine kt σ4 H4 I4 e3 b4 e4 _ g4 q4 fun I5 H5 g5 t5 => ?_
              have hDa4 : H4 Da ≠ none := by
                rw [h4]
                exact fun z => nomatch z
              have i5 : I5 Da = none := t5.nofr Da hDa4 nf4 i4
              have h5 : H5 Da = some (.lst accV) := t5.frame _ _ h4 nf4
              have nf5 : ¬ Fp σ4 e4 Da := t5.notin hDa4 nf4
              have t45 := t34.trans t5
              cases b4 with
              | false =>
                simp only [q4] at hw
                show ∃ I4 env4 acc4 accV4, _
                refine ⟨I5, wipeE e4 vs, acc, accV, ?_, ?_, i5, h5, ?_, ra.mono ((al.ext.trans t4.ext).trans t5.ext), hw⟩
                · rw [← ew]
                  exact g5.wipe
                · rw [← ew]
                  exact t45.less fun p h => h.wipe
                · rw [← ew]
                  exact fun h => nf5 h.wipe
              | true =>
                simp only [q4] at hw
                show wi1 σ4 H5 _
                cases q5 : mi1 e4 with
                | none => simp [q5] at hw
                | some pr5 =>
                  obtain ⟨ds1, e5⟩ := pr5
                  simp only [q5] at hw
                  cases q6 : cLoop vs1 g1 mt1 m ds1 acc (wipeE e5 vs1) with
                  | none => simp [q6] at hw
                  | some pr6 =>
                    obtain ⟨acc', e6⟩ := pr6
                    simp only [q6] at hw
                    refine ki1 σ4 H5 I5 e4 ds1 e5 _ g5 q5 fun J1 I6 H6 g6 t6 it6 => ?_
                    have hDa5 : H5 Da ≠ none := by
                      rw [h5]
                      exact fun z => nomatch z
                    have i6 : I6 Da = none := t6.nofr Da hDa5 nf5 i5
                    have h6 : H6 Da = some (.lst accV) := t6.frame _ _ h5 nf5
                    have nf6 : ¬ Fp σ4 e5 Da := t6.notin hDa5 nf5
                    have t46 := t45.trans t6
                    have ra6 : RpA X.K cl I6 accV acc := ra.mono (((al.ext.trans t4.ext).trans t5.ext).trans t6.ext)
                    refine ⟨fun j k H7 => k = ds1.length - j ∧ ∃ I7 env7 acc7 accV7, Gd X.K cl I7 H7 (wipe σ4 vs1) env7 ∧ Tr (Fp σ e1) I1 H1 (Fp (wipe σ4 vs1) env7) I7 H7 ∧ I7 Da = none ∧ H7 Da = some (.lst accV7) ∧ ¬ Fp (wipe σ4 vs1) env7 Da ∧ RpA X.K cl I7 accV7 acc7 ∧ Same I6 I7 ∧
                        cLoop vs1 g1 mt1 m (ds1.drop j) acc7 env7 = some (acc', e6),
                      ⟨ds1.length, rfl, I6, wipeE e5 vs1, acc, accV, g6.wipe, t46.less fun p h => h.wipe, i6, h6, fun h => nf6 h.wipe, ra6, fun _ _ h => h, q6⟩, fun j k H7 ⟨hk, I7, env7, acc7, accV7, g7, t7, i7, h7, nf7, ra7, e67, hw7⟩ => ?_⟩
                    obtain ⟨hstop1, hgo1⟩ := it6 j I7 H7 e67 g7.ex
                    cases hd1 : ds1[j]? with
                    | none =>
                      have hle : ds1.length ≤ j := List.getElem?_eq_none_iff.mp hd1
                      rw [List.drop_eq_nil_of_le hle] at hw7
                      simp only [cLoop, Option.some.injEq, Prod.mk.injEq] at hw7
                      obtain ⟨rfl, rfl⟩ := hw7
                      refine .inl ⟨hstop1 hd1, ?_⟩
                      have ew1 : wipe (wipe σ4 vs1) vs = wipe σ vs := (wipe_sub hvs).trans ew
                      refine ⟨I7, wipeE env7 vs, acc7, accV7, ?_, ?_, i7, h7, ?_, ra7, hw⟩
                      · rw [← ew1]
                        exact g7.wipe
                      · rw [← ew1]
                        exact t7.less fun p h => h.wipe
                      · rw [← ew1]
                        exact fun h => nf7 h.wipe
                    | some d1 =>
                      have hlt1 : j < ds1.length := (List.getElem?_eq_some_iff.mp hd1).1
                      have edr1 : ds1.drop j = d1 :: ds1.drop (j + 1) := by
                        rw [List.drop_eq_getElem_cons hlt1]
                        congr 1
                        exact (List.getElem?_eq_some_iff.mp hd1).2
                      rw [edr1] at hw7
                      obtain ⟨go1, yld1⟩ := hgo1 d1 hd1
                      refine .inr ⟨go1, fun H8 => ∃ I7 env7 acc7 accV7, Gd X.K cl I7 H8 (wipe σ4 vs1) env7 ∧ Tr (Fp σ e1) I1 H1 (Fp (wipe σ4 vs1) env7) I7 H8 ∧ I7 Da = none ∧ H8 Da = some (.lst accV7) ∧ ¬ Fp (wipe σ4 vs1) env7 Da ∧ RpA X.K cl I7 accV7 acc7 ∧ Same I6 I7 ∧
                        cLoop vs1 g1 mt1 m (ds1.drop (j + 1)) acc7 env7 = some (acc', e6), fun H8 h8 => ⟨ds1.length - (j + 1), by omega, rfl, h8⟩, fun v1 H8 hy1 => ?_⟩
                      obtain ⟨I8, al8, rv8⟩ := yld1 v1 H8 hy1
                      have g8 := g7.al al8
                      have t8 := t7.trans (al8.tr (F := Fp (wipe σ4 vs1) env7))
                      have hDa7 : H7 Da ≠ none := by
                        rw [h7]
                        exact fun z => nomatch z
                      have i8 : I8 Da = none := al8.nofr Da hDa7 i7
                      have h8 : H8 Da = some (.lst accV7) := al8.exH _ _ h7
                      unfold cLoop at hw7
                      cases q8 : g1 d1 env7 with
                      | none => simp [q8] at hw7
                      | some e8 =>
                        simp only [q8] at hw7
                        refine kg1 (wipe σ4 vs1) H8 I8 env7 d1 e8 v1 _ g8 rv8 q8 fun σ9 I9 H9 g9 t9 r9 l9 => ?_
                        have ew9 : wipe σ9 vs1 = wipe σ4 vs1 := (wipe_eq l9 fun i hi => r9 i (notIn_t hi)).trans (wipe_eq (wipe_length _ _) fun i hi => wipe_out hi)
                        refine ⟨ew9, ?_⟩
                        have t89 := t8.trans t9
                        have hDa8 : H8 Da ≠ none := by
                          rw [h8]
                          exact fun z => nomatch z
                        have i9 : I9 Da = none := t9.nofr Da hDa8 nf7 i8
                        have h9 : H9 Da = some (.lst accV7) := t9.frame _ _ h8 nf7
                        have nf9 : ¬ Fp σ9 e8 Da := t9.notin hDa8 nf7
                        cases q9 : mt1 e8 with
                        | none => simp [q9] at hw7
                        | some pr9 =>
                          obtain ⟨b9, e9⟩ := pr9
                          refine kt1 σ9 H9 I9 e8 b9 e9 _ g9 q9 fun Ia Ha ga ta => ?_
                          have hDa9 : H9 Da ≠ none := by
                            rw [h9]
                            exact fun z => nomatch z
                          have ia : Ia Da = none := ta.nofr Da hDa9 nf9 i9
                          have ha : Ha Da = some (.lst accV7) := ta.frame _ _ h9 nf9
                          have nfa : ¬ Fp σ9 e9 Da := ta.notin hDa9 nf9
                          have t9a := t89.trans ta
                          have ext9 := (al8.ext.trans t9.ext).trans ta.ext
                          cases b9 with
                          | false =>
                            simp only [q9] at hw7
                            show ∃ I7 env7 acc7 accV7, _
                            refine ⟨Ia, wipeE e9 vs1, acc7, accV7, ?_, ?_, ia, ha, ?_, ra7.mono ext9, e67.trans ext9, hw7⟩
                            · rw [← ew9]
                              exact ga.wipe
                            · rw [← ew9]
                              exact t9a.less fun p h => h.wipe
                            · rw [← ew9]
                              exact fun h => nfa h.wipe
                          | true =>
                            simp only [q9] at hw7
                            show te σ9 Ha _
                            cases qb : m e9 with
                            | none => simp [qb] at hw7
                            | some prb =>
                              obtain ⟨rb, eb⟩ := prb
                              simp only [qb] at hw7
                              cases qc : esc eb rb with
                              | none => simp [qc] at hw7
                              | some prc =>
                                obtain ⟨x, ec⟩ := prc
                                simp only [qc] at hw7
                                by_cases hsz : acc7.length < 16777216
                                · rw [if_pos hsz] at hw7
                                  refine ke σ9 Ha Ia e9 rb eb _ ga qb fun y Ib Hb gb tb rb' => ?_
                                  obtain ⟨Ic, gc, tc, rc⟩ := esc_ok gb rb' qc
                                  have tbc := tb.trans tc
                                  have hDaa : Ha Da ≠ none := by
                                    rw [ha]
                                    exact fun z => nomatch z
                                  have ic : Ic Da = none := tbc.nofr Da hDaa nfa ia
                                  have hc : Hb Da = some (.lst accV7) := tbc.frame _ _ ha nfa
                                  have nfc : ¬ Fp σ9 ec Da := tbc.notin hDaa nfa
                                  have rac : RpA X.K cl Ic accV7 acc7 := ra7.mono (ext9.trans tbc.ext)
                                  refine ⟨accV7, hc, ?_, Ic, wipeE ec vs1, acc7 ++ [x], accV7 ++ [y], ?_, ?_, ic, upd_same, ?_, rac.append (.cons rc .nil), e67.trans (ext9.trans tbc.ext), hw7⟩
                                  · rw [rac.length]
                                    exact Nat.lt_of_lt_of_le hsz (by decide)
                                  · rw [← ew9]
                                    exact (gc.updH ic nfc).wipe
                                  · rw [← ew9]
                                    exact ((t9a.trans tbc).updN (.inr hD)).less fun p h => h.wipe
                                  · rw [← ew9]
                                    exact fun h => nfc h.wipe
                                · rw [if_neg hsz] at hw7
                                  cases hw7
    · rw [if_neg ok] at hm
      cases hm
theorem mf_lc2 (hvs : ∀ i ∈ vs1, i ∈ vs) (hi : MI X cl tg iter mi) (hg : BlkAll X scope fun Y => MG Y cl (notIn vs) tg g) (ht : BlkAll X scope fun Y => MTs Y cl ifs mt)
    (hi1 : BlkAll X scope fun Y => MI Y cl tg1 iter1 mi1) (hg1 : BlkAll X scope fun Y => MG Y cl (notIn vs1) tg1 g1) (ht1 : BlkAll X scope fun Y => MTs Y cl ifs1 mt1) (he : BlkAll X scope fun Y => ME Y cl elt m)
    (hp : ∀ wi tgt tt wi1 tgt1 tt1 te, PI X tg iter wi → BlkAll X scope (fun Y => PG Y tg tgt) → BlkAll X scope (fun Y => PTs Y ifs tt) → BlkAll X scope (fun Y => PI Y tg1 iter1 wi1) → BlkAll X scope (fun Y => PG Y tg1 tgt1) → BlkAll X scope (fun Y => PTs Y ifs1 tt1) → BlkAll X scope (fun Y => PE Y elt te) →
      PE X e (tLc2 wi tgt tt wi1 tgt1 tt1 te vs vs1)) : MF X cl e (fComp2 vs mi g mt mi1 vs1 g1 mt1 m) := by
  obtain ⟨wi, tgt, tt, wi1, tgt1, tt1, te, pi, pg, pt, pi1, pg1, pt1, pe, fr⟩ := lc2_fr hvs hi hg ht hi1 hg1 ht1 he
  exact ⟨_, hp wi tgt tt wi1 tgt1 tt1 te pi pg pt pi1 pg1 pt1 pe, fr⟩
theorem ms_setLc2 {R : Nat → Bool} {st : Stmt} {i : Nat} (hvs : ∀ i ∈ vs1, i ∈ vs) (hi : MI X cl tg iter mi) (hg : BlkAll X scope fun Y => MG Y cl (notIn vs) tg g) (ht : BlkAll X scope fun Y => MTs Y cl ifs mt)
    (hi1 : BlkAll X scope fun Y => MI Y cl tg1 iter1 mi1) (hg1 : BlkAll X scope fun Y => MG Y cl (notIn vs1) tg1 g1) (ht1 : BlkAll X scope fun Y => MTs Y cl ifs1 mt1) (he : BlkAll X scope fun Y => ME Y cl elt m)
    (hp : ∀ wi tgt tt wi1 tgt1 tt1 te, PI X tg iter wi → BlkAll X scope (fun Y => PG Y tg tgt) → BlkAll X scope (fun Y => PTs Y ifs tt) → BlkAll X scope (fun Y => PI Y tg1 iter1 wi1) → BlkAll X scope (fun Y => PG Y tg1 tgt1) → BlkAll X scope (fun Y => PTs Y ifs1 tt1) → BlkAll X scope (fun Y => PE Y elt te) →
      PS X st (L2.tAsg (tLc2 wi tgt tt wi1 tgt1 tt1 te vs vs1) (L2.gName i))) (hR : R i = false) : MS X cl R st (sAsg (eFrz (fComp2 vs mi g mt mi1 vs1 g1 mt1 m)) (gNm i)) := by
  obtain ⟨wi, tgt, tt, wi1, tgt1, tt1, te, pi, pg, pt, pi1, pg1, pt1, pe, fr⟩ := lc2_fr hvs hi hg ht hi1 hg1 ht1 he
  exact ⟨_, hp wi tgt tt wi1 tgt1 tt1 te pi pg pt pi1 pg1 pt1 pe, st_asg (ev_frz fr) (gt_name hR)⟩
theorem ms_setOLc2 {R : Nat → Bool} {st : Stmt} {i : Nat} (hvs : ∀ i ∈ vs1, i ∈ vs) (hi : MI X cl tg iter mi) (hg : BlkAll X scope fun Y => MG Y cl (notIn vs) tg g) (ht : BlkAll X scope fun Y => MTs Y cl ifs mt)
    (hi1 : BlkAll X scope fun Y => MI Y cl tg1 iter1 mi1) (hg1 : BlkAll X scope fun Y => MG Y cl (notIn vs1) tg1 g1) (ht1 : BlkAll X scope fun Y => MTs Y cl ifs1 mt1) (he : BlkAll X scope fun Y => ME Y cl elt m)
    (hp : ∀ wi tgt tt wi1 tgt1 tt1 te, PI X tg iter wi → BlkAll X scope (fun Y => PG Y tg tgt) → BlkAll X scope (fun Y => PTs Y ifs tt) → BlkAll X scope (fun Y => PI Y tg1 iter1 wi1) → BlkAll X scope (fun Y => PG Y tg1 tgt1) → BlkAll X scope (fun Y => PTs Y ifs1 tt1) → BlkAll X scope (fun Y => PE Y elt te) →
      PS X st (L2.tAsg (tLc2 wi tgt tt wi1 tgt1 tt1 te vs vs1) (L2.gName i))) (hR : R i = false) : MS X cl R st (sOwn (fComp2 vs mi g mt mi1 vs1 g1 mt1 m) i) := by
  obtain ⟨wi, tgt, tt, wi1, tgt1, tt1, te, pi, pg, pt, pi1, pg1, pt1, pe, fr⟩ := lc2_fr hvs hi hg ht hi1 hg1 ht1 he
  exact ⟨_, hp wi tgt tt wi1 tgt1 tt1 te pi pg pt pi1 pg1 pt1 pe, st_own fr hR⟩
end
/-! ### isinstance with a built-in type -/
def isiB (n : String) : D → Option Bool
  | .non => some (n == "NoneType")
  | .bl _ => some (n == "bool" || n == "int")
  | .int _ => some (n == "int")
  | .str _ => some (n == "str")
  | .tup _ => some (n == "tuple")
  | .lst _ => some (n == "list")
  | _ => none
def gIsi (n : String) : D → Option D := fun d => match isiB n d with
  | some b => some (.bl b)
  | none => none
structure IsiK (K : PySem.W.Frag) (n : String) : Prop where
  non : PySem.W.kitOne K (.type "NoneType") (.type n) = some (n == "NoneType")
  bl : PySem.W.kitOne K (.type "bool") (.type n) = some (n == "bool" || n == "int")
  int : PySem.W.kitOne K (.type "int") (.type n) = some (n == "int")
  str : PySem.W.kitOne K (.type "str") (.type n) = some (n == "str")
  tup : PySem.W.kitOne K (.type "tuple") (.type n) = some (n == "tuple")
  lst : PySem.W.kitOne K (.type "list") (.type n) = some (n == "list")
theorem isi_int {K : PySem.W.Frag} : IsiK K "int" := ⟨rfl, rfl, rfl, rfl, rfl, rfl⟩
theorem isi_bool {K : PySem.W.Frag} : IsiK K "bool" := ⟨rfl, rfl, rfl, rfl, rfl, rfl⟩
theorem isi_str {K : PySem.W.Frag} : IsiK K "str" := ⟨rfl, rfl, rfl, rfl, rfl, rfl⟩
theorem isi_tuple {K : PySem.W.Frag} : IsiK K "tuple" := ⟨rfl, rfl, rfl, rfl, rfl, rfl⟩
theorem isi_list {K : PySem.W.Frag} : IsiK K "list" := ⟨rfl, rfl, rfl, rfl, rfl, rfl⟩
theorem tyx_t {K : PySem.W.Frag} {H : Hp} {a : Addr} {xs : List V} (h : SqT K H a xs) : TyX K H (.ref a) (.type "tuple") := by
  rcases h with (h | ⟨o, h⟩) | ⟨o, its, n, h1, h2, _⟩
  · exact .base (.tup h)
  · exact .fTuple h
  · exact .kTuple h1 h2
theorem isi_ty {K : PySem.W.Frag} {cl : ClM} {I H : Hp} {v : V} {d : D} {n : String} {b : Bool} (N : IsiK K n) (e : Same I H) (h : Vw K cl I H v d) (hb : isiB n d = some b) : ∃ t, TyX K H v t ∧ PySem.W.kitOne K t (.type n) = some b := by
  cases d with
  | non =>
    cases h.non
    cases hb
    exact ⟨_, .base .non, N.non⟩
  | bl x =>
    cases h.bl
    cases hb
    exact ⟨_, .base (.bl x), N.bl⟩
  | int x =>
    cases h.int
    cases hb
    exact ⟨_, .base (.int x), N.int⟩
  | str x =>
    cases h.str
    cases hb
    exact ⟨_, .base (.str x), N.str⟩
  | tup xs =>
    obtain ⟨a, vs, rfl, hs, _⟩ := h.tup e
    cases hb
    exact ⟨_, tyx_t hs, N.tup⟩
  | lst xs =>
    obtain ⟨a, vs, rfl, hs, _⟩ := h.lst e
    cases hb
    exact ⟨_, .base (.lst hs), N.lst⟩
  | _ => cases hb
section
variable {X : Cx} {cl : ClM} {e e' : Expr} {m : Xp}
theorem me_isi {n : String} (N : IsiK X.K n) (h : ME X cl e m) (hp : ∀ t, PE X e t → PE X e' (tCB (rIsi X.K) (tCons t (tCons (tC (.ty n)) tNil)))) : ME X cl e' (eUn (gIsi n) m) := by
  obtain ⟨t, p, k⟩ := h
  refine ⟨_, hp t p, fun σ H I env r env' Q g hm kk => ?_⟩
  unfold eUn at hm
  cases q : m env with
  | none => simp [q] at hm
  | some pr =>
    obtain ⟨r1, e1⟩ := pr
    simp only [q] at hm
    cases q2 : vw e1 r1 with
    | none => simp [q2] at hm
    | some d =>
      simp only [q2] at hm
      unfold gIsi at hm
      cases q3 : isiB n d with
      | none => simp [q3] at hm
      | some b =>
        simp only [q3, Option.some.injEq, Prod.mk.injEq] at hm
        obtain ⟨rfl, rfl⟩ := hm
        refine k σ H I env r1 e1 _ g q fun v I1 H1 g1 t1 rv => ?_
        obtain ⟨ty, h1, h2⟩ := isi_ty N g1.ex (vw_ok g1 rv q2) q3
        exact ⟨v, .ty n, ty, .type n, b, rfl, .ty n, h1, h2, kk _ I1 H1 g1 t1 (.bl b)⟩
end
/-! ### methods by name -/
def aMth (c : Nat) (mo : Xp) (ms : Xa) : Xa := fun env => match mo env with
  | none => none
  | some (r, e1) => match vw e1 r with
    | some (.obj c' _) => if c' = c then match ms e1 with
      | none => none
      | some (rs, e2) => some (r :: rs, e2)
      else none
    | _ => none
/-- o, then the arguments, o an instance of the class at C -/
def tM (C : Addr) (mn : Str) (ta : TE) (t : TA) : TA := fun σ H Q => ta σ H fun x H1 => ∃ a dx fs, x = .ref a ∧ H1 a = some (.ins C dx fs) ∧ fs.lookup mn = none ∧ t σ H1 fun vs H2 => Q (x :: vs) H2
theorem lookup_no {ns : List Str} {vs : List V} {f : Str} (h : f ∉ ns) : (ns.zip vs).lookup f = none := by
  induction ns generalizing vs with
  | nil => rfl
  | cons n ns ih =>
    cases vs with
    | nil => rfl
    | cons v vs =>
      rw [List.zip_cons_cons, List.lookup_cons]
      have hne : (f == n) = false := beq_eq_false_iff_ne.mpr fun z => h (z ▸ List.mem_cons_self)
      rw [hne]
      exact ih fun z => h (List.mem_cons_of_mem _ z)
section
variable {X : Cx} {cl : ClM} {R : Nat → Bool} {e o : Expr} {es : List Expr} {mo : Xp} {ms : Xa} {f : Fn} {np : Nat}
theorem ag_meth {c : Nat} {C : Addr} {ns : List Str} {mn : Str} {ta : TE} {t : TA} (hc : cl c = some (C, ns)) (hn : mn ∉ ns) (k : EvOk X.K cl ta mo) (k2 : AgOk X.K cl t ms) : AgOk X.K cl (tM C mn ta t) (aMth c mo ms) := by
  intro σ H I env rs env' Q g hm k'
  unfold aMth at hm
  cases q1 : mo env with
  | none => simp [q1] at hm
  | some p1 =>
    obtain ⟨r, e1⟩ := p1
    simp only [q1] at hm
    cases q0 : vw e1 r with
    | none => simp [q0] at hm
    | some d =>
      simp only [q0] at hm
      cases d with
      | obj c' fs =>
        by_cases ec : c' = c
        · simp only [ec, if_true] at hm
          subst ec
          cases q2 : ms e1 with
          | none => simp [q2] at hm
          | some p2 =>
            obtain ⟨rs', e2⟩ := p2
            simp only [q2, Option.some.injEq, Prod.mk.injEq] at hm
            obtain ⟨rfl, rfl⟩ := hm
            refine k σ H I env r e1 _ g q1 fun v I1 H1 g1 t1 r1 => ?_
            obtain ⟨a, dx, vs, rfl, ha, hle, rr⟩ := (vw_ok g1 r1 q0).obj g1.ex hc
            refine ⟨a, dx, _, rfl, ha, lookup_no fun z => hn (List.mem_of_mem_take z), ?_⟩
            exact k2 σ H1 I1 e1 rs' e2 _ g1 q2 fun vs I2 H2 g2 t2 r2 => k' (_ :: vs) I2 H2 g2 (t1.trans t2) (.cons (r1.mono t2.ext) r2)
        · simp [ec] at hm
      | _ => simp at hm
theorem me_callA {t : TA} (kk : AgOk X.K cl t ms) (p : PE X e (tCall (spG X.K cl np R f) [] E0 t)) (hnp : ∀ env rs e1, ms env = some (rs, e1) → rs.length = np) : ME X cl e (eCall f ms) := by
  refine ⟨_, p, fun σ H I env r env' Q g hme k' => ?_⟩
  unfold eCall at hme
  cases q1 : ms env with
  | none => simp [q1] at hme
  | some p1 =>
    obtain ⟨rs, e1⟩ := p1
    simp only [q1] at hme
    cases q2 : escL e1 rs with
    | none => simp [q2] at hme
    | some p2 =>
      obtain ⟨ds, e2⟩ := p2
      simp only [q2] at hme
      cases q3 : f (ds.map .val) with
      | none => simp [q3] at hme
      | some p3 =>
        obtain ⟨rv, outs⟩ := p3
        refine call_core kk g q1 (hnp _ _ _ q1) q2 q3 fun v I3 H3 g3 t3 rk => ?_
        cases rv with
        | d d =>
          simp only [q3, Option.some.injEq, Prod.mk.injEq] at hme
          obtain ⟨rfl, rfl⟩ := hme
          exact k' v I3 H3 g3 t3 rk
        | o o =>
          simp only [q3, Option.some.injEq, Prod.mk.injEq] at hme
          obtain ⟨rfl, rfl⟩ := hme
          obtain ⟨a, ho, ea, ia, ha, so, fr, nf⟩ := rk
          subst ea
          exact k' _ _ H3 (g3.frz ia ha nf) (t3.frzN fr ia) (so.frz ia)
theorem aMth_len {c : Nat} {env : MEnv} {rs : List Rv} {e1 : MEnv} {n : Nat} (h : aMth c mo ms env = some (rs, e1)) (hn : ∀ env rs e1, ms env = some (rs, e1) → rs.length = n) : rs.length = n + 1 := by
  unfold aMth at h
  cases q1 : mo env with
  | none => simp [q1] at h
  | some p1 =>
    obtain ⟨r, e2⟩ := p1
    simp only [q1] at h
    split at h
    · split at h
      · cases q2 : ms e2 with
        | none => simp [q2] at h
        | some p2 =>
          obtain ⟨rs', e3⟩ := p2
          simp only [q2, Option.some.injEq, Prod.mk.injEq] at h
          obtain ⟨rfl, rfl⟩ := h
          rw [List.length_cons, hn _ _ _ q2]
      · cases h
    · cases h
theorem me_meth {c : Nat} {C : Addr} {ns : List Str} {mn : Str} (hc : cl c = some (C, ns)) (hn : mn ∉ ns) (ho : ME X cl o mo) (hm : MA X cl es ms) (hp : ∀ ta t, PE X o ta → PA X es t → PE X e (tMeth C mn (spG X.K cl (np + 1) R f) [] E0 ta t)) (hnp : ∀ env rs e1, ms env = some (rs, e1) → rs.length = np) :
    ME X cl e (eCall f (aMth c mo ms)) := by
  obtain ⟨ta, po, ko⟩ := ho
  obtain ⟨t, p, kk⟩ := hm
  exact me_callA (R := R) (np := np + 1) (t := tM C mn ta t) (ag_meth hc hn ko kk) (hp ta t po p) fun _ _ _ h => aMth_len h hnp
end
/-! ### a def that calls itself, so many times deep -/
theorem fnok_none {P : Program} {w : World} {K : PySem.W.Frag} {mg : Str → Option Value} {base : Heap} {CX : CXT} {k : Nat} {f : Addr} {fd : FuncData} {ps : List Str} {cl : ClM} {R : Nat → Bool} : FnOk P w K mg base CX k f fd ps (spG K cl ps.length R fun _ => none) :=
  ⟨fun vs H Q E h => h.1, fun A outer s H args us vs Q E _ _ _ _ h => by
    obtain ⟨_, I, args, ret, outs, _, _, hf, _⟩ := h
    cases hf⟩
/-! ### a chain of three comparisons -/
def tChain3 (r r' r'' : R2) (ta tb tc td : TE) : TE := fun σ H Q => ta σ H fun x H1 => tb σ H1 fun y H2 => r x y H2 fun z H3 => ∃ k, z = .bl k ∧
  (if k = true then tc σ H3 fun w' H4 => r' y w' H4 fun z' H5 => ∃ k', z' = .bl k' ∧ (if k' = true then td σ H5 fun u' H6 => r'' w' u' H6 Q else Q (.bl false) H5) else Q (.bl false) H3)
section
variable {X : Cx} {cl : ClM} {a b c d : Expr} {pos : Pos} {ta tb tc td : TE}
theorem pe_chain3 {op op' op'' : CmpOp} {r r' r'' : R2} (ho : OpR X (compareOp op) r) (ho' : OpR X (compareOp op') r') (ho'' : OpR X (compareOp op'') r'') (ha : PE X a ta) (hb : PE X b tb) (hc : PE X c tc) (hd : PE X d td)
    (hm : lastMarks [op, op', op''] [b, c, d] = false := by with_unfolding_all rfl) : PE X (.Compare a [op, op', op''] [b, c, d] pos) (tChain3 r r' r'' ta tb tc td) := by
  refine ⟨fun pins s σ H Q I h => ?_⟩
  refine Compare_chain (thn (ha.run pins s σ H _ I h) fun v s1 ⟨x, H1, I1, r1, q1⟩ => chain_link (thn (hb.run pins s1 σ H1 _ I1 q1) fun u s2 ⟨y, H2, I2, r2, q2⟩ =>
    thn (ho pins s2 σ H2 x y v u _ I2 r1 r2 q2) fun d s3 ⟨z, H3, I3, r3, k, e, q3⟩ => ?_)) hm
  subst e
  cases r3
  refine wpAny_truthy_bool ?_
  cases k with
  | false => exact ite_ff ⟨.bl false, H3, I3, rfl, q3⟩
  | true =>
    refine ite_tt (chain_link (thn (hc.run pins s3 σ H3 _ I3 q3) fun w' s4 ⟨z', H4, I4, r4, q4⟩ => thn (ho' pins s4 σ H4 y z' u w' _ I4 r2 r4 q4) fun d' s5 ⟨z2, H5, I5, r5, k', e', q5⟩ => ?_))
    subst e'
    cases r5
    refine wpAny_truthy_bool ?_
    cases k' with
    | false => exact ite_ff ⟨.bl false, H5, I5, rfl, q5⟩
    | true => exact ite_tt (chain_last (thn (hd.run pins s5 σ H5 _ I5 q5) fun w2 s6 ⟨z3, H6, I6, r6, q6⟩ => ho'' pins s6 σ H6 z' z3 w' w2 Q I6 r4 r6 q6))
def eChain3 (g g' g'' : D → D → Option D) (m1 m2 m3 m4 : Xp) : Xp := fun env => match m1 env with
  | none => none
  | some (r1, e1) => match m2 e1 with
    | none => none
    | some (r2, e2) => match vw e2 r1, vw e2 r2 with
      | some x, some y => match g x y with
        | some (.bl true) => match m3 e2 with
          | none => none
          | some (r3, e3) => match vw e3 r2, vw e3 r3 with
            | some y', some z => match g' y' z with
              | some (.bl true) => match m4 e3 with
                | none => none
                | some (r4, e4) => match vw e4 r3, vw e4 r4 with
                  | some z', some u => match g'' z' u with
                    | some w => some (.d w, e4)
                    | none => none
                  | _, _ => none
              | some (.bl false) => some (.d (.bl false), e3)
              | _ => none
            | _, _ => none
        | some (.bl false) => some (.d (.bl false), e2)
        | _ => none
      | _, _ => none
theorem me_chain3 {op op' op'' : CmpOp} {g g' g'' : D → D → Option D} {m1 m2 m3 m4 : Xp} (ho : OpM X cl (compareOp op) g) (ho' : OpM X cl (compareOp op') g') (ho'' : OpM X cl (compareOp op'') g'') (h1 : ME X cl a m1) (h2 : ME X cl b m2) (h3 : ME X cl c m3) (h4 : ME X cl d m4)
    (hm : lastMarks [op, op', op''] [b, c, d] = false := by with_unfolding_all rfl) : ME X cl (.Compare a [op, op', op''] [b, c, d] pos) (eChain3 g g' g'' m1 m2 m3 m4) := by
  obtain ⟨r, hr, hw⟩ := ho
  obtain ⟨r', hr', hw'⟩ := ho'
  obtain ⟨r'', hr'', hw''⟩ := ho''
  obtain ⟨ta, pa, h1⟩ := h1
  obtain ⟨tb, pb, h2⟩ := h2
  obtain ⟨tc, pc, h3⟩ := h3
  obtain ⟨td, pd, h4⟩ := h4
  refine ⟨_, pe_chain3 hr hr' hr'' pa pb pc pd hm, ?_⟩
  intro σ H I env rr env' Q gd hm k
  unfold eChain3 at hm
  cases q1 : m1 env with
  | none => simp [q1] at hm
  | some p1 =>
    obtain ⟨r1, e1⟩ := p1
    simp only [q1] at hm
    cases q2 : m2 e1 with
    | none => simp [q2] at hm
    | some p2 =>
      obtain ⟨r2, e2⟩ := p2
      simp only [q2] at hm
      cases q3 : vw e2 r1 with
      | none => simp [q3] at hm
      | some x =>
        cases q4 : vw e2 r2 with
        | none => simp [q3, q4] at hm
        | some y =>
          simp only [q3, q4] at hm
          cases q5 : g x y with
          | none => simp [q5] at hm
          | some z =>
            cases z with
            | bl bb =>
              refine h1 σ H I env r1 e1 _ gd q1 fun v I1 H1 g1 t1 k1 => ?_
              refine h2 σ H1 I1 e1 r2 e2 _ g1 q2 fun w I2 H2 g2 t2 k2 => ?_
              refine hw I2 H2 v w x y _ _ g2.ex (vw_ok g2 (k1.mono t2.ext) q3) (vw_ok g2 k2 q4) q5 fun u I3 H3 a ru => ?_
              have ru' : Rp X.K cl I3 u (.bl bb) := ru
              cases ru'
              have g3 := g2.al a
              have t3 := (t1.trans t2).trans a.tr
              refine ⟨bb, rfl, ?_⟩
              cases bb with
              | false =>
                simp only [q5, Option.some.injEq, Prod.mk.injEq] at hm
                obtain ⟨rfl, rfl⟩ := hm
                exact k _ I3 H3 g3 t3 (.bl false)
              | true =>
                simp only [q5] at hm
                cases q6 : m3 e2 with
                | none => simp [q6] at hm
                | some p3 =>
                  obtain ⟨r3, e3⟩ := p3
                  simp only [q6] at hm
                  cases q7 : vw e3 r2 with
                  | none => simp [q7] at hm
                  | some y' =>
                    cases q8 : vw e3 r3 with
                    | none => simp [q7, q8] at hm
                    | some z' =>
                      simp only [q7, q8] at hm
                      show tc σ H3 _
                      refine h3 σ H3 I3 e2 r3 e3 _ g3 q6 fun w2 I4 H4 g4 t4 k4 => ?_
                      cases q9 : g' y' z' with
                      | none => simp [q9] at hm
                      | some w' =>
                        cases w' with
                        | bl b2 =>
                          refine hw' I4 H4 w w2 y' z' _ _ g4.ex (vw_ok g4 ((k2.mono a.ext).mono t4.ext) q7) (vw_ok g4 k4 q8) q9 fun u I5 H5 a5 r5 => ?_
                          have r5' : Rp X.K cl I5 u (.bl b2) := r5
                          cases r5'
                          have g5 := g4.al a5
                          have t5 := (t3.trans t4).trans a5.tr
                          refine ⟨b2, rfl, ?_⟩
                          cases b2 with
                          | false =>
                            simp only [q9, Option.some.injEq, Prod.mk.injEq] at hm
                            obtain ⟨rfl, rfl⟩ := hm
                            exact k _ I5 H5 g5 t5 (.bl false)
                          | true =>
                            simp only [q9] at hm
                            cases qa : m4 e3 with
                            | none => simp [qa] at hm
                            | some p4 =>
                              obtain ⟨r4, e4⟩ := p4
                              simp only [qa] at hm
                              cases qb : vw e4 r3 with
                              | none => simp [qb] at hm
                              | some z2 =>
                                cases qc : vw e4 r4 with
                                | none => simp [qb, qc] at hm
                                | some u2 =>
                                  simp only [qb, qc] at hm
                                  cases qd : g'' z2 u2 with
                                  | none => simp [qd] at hm
                                  | some w3 =>
                                    simp only [qd, Option.some.injEq, Prod.mk.injEq] at hm
                                    obtain ⟨rfl, rfl⟩ := hm
                                    show td σ H5 _
                                    refine h4 σ H5 I5 e3 r4 e4 _ g5 qa fun w4 I6 H6 g6 t6 k6 => ?_
                                    exact hw'' I6 H6 w2 w4 z2 u2 w3 Q g6.ex (vw_ok g6 ((k4.mono a5.ext).mono t6.ext) qb) (vw_ok g6 k6 qc) qd fun u I7 H7 a7 r7 => k u I7 H7 (g6.al a7) ((t5.trans t6).trans a7.tr) r7
                        | _ => simp [q9] at hm
            | _ => simp [q5] at hm
end
/-! ### sum of a list or a tuple -/
section
variable {X : Cx} {cl : ClM}
def rSumA (K : PySem.W.Frag) : List V → Hp → VK → Prop := fun vs H Q => ∃ (a : Addr) (ns : List Int), vs = [V.ref a] ∧ (SqL K H a (ns.map V.int) ∨ SqT K H a (ns.map V.int)) ∧ Q (.int ns.sum) H
theorem cr_sumA (hc : X.calm = true) : CallR X (.builtin "sum") (rSumA X.K) := by
  intro pins s σ H vs us Q I r h
  obtain ⟨a, ns, rfl, hs | hs, q⟩ := h
  · exact cr_sum hc pins s σ H _ us Q I r ⟨a, ns, rfl, hs, q⟩
  · obtain ⟨its, rv, hl, _⟩ := I.tuple hs
    rw [Vals.ref1 r]
    have hi := rv.ints
    obtain ⟨xs, e⟩ := hi.allInts.items
    have hn : numsOf (intItems xs).toList = ns := by rw [← e]; exact hi.numsOf
    rw [nums_intItems] at hn
    rw [e] at hl
    obtain ⟨o, h1, h2, n, h3⟩ := hl
    refine PySem.W.ktm_sumG (I.ok.hd hc) ⟨o, h1, h2, n, h3⟩ fun h' tk t' hk => ?_
    rw [preSum_eq, List.take_of_length_le (by simp), hn]
    exact ⟨.int _, H, I.kept hk, ⟨_, rfl⟩, q⟩
def gSumA : List D → Option D := fun ds => match ds with
  | [.lst xs] => match intsD xs with
    | some ns => some (.int ns.sum)
    | none => none
  | [.tup xs] => match intsD xs with
    | some ns => some (.int ns.sum)
    | none => none
  | _ => none
theorem cm_sumA (hc : X.calm = true) : CaM X cl (.builtin "sum") gSumA := by
  refine ⟨_, cr_sumA hc, fun I H vs ds z Q ex hv hg k => ?_⟩
  unfold gSumA at hg
  split at hg
  · rename_i xs
    cases q : intsD xs with
    | none => simp [q] at hg
    | some ns =>
      simp only [q, Option.some.injEq] at hg
      subst hg
      obtain ⟨v, rfl, h⟩ := hv.one
      obtain ⟨a, ws, rfl, hs, r⟩ := h.lst ex
      rw [intsD_eq q] at r
      have e := r.ints
      subst e
      exact ⟨a, ns, rfl, .inl (SqL.of hs), k _ I H (Al.refl ex) (.int _)⟩
  · rename_i xs
    cases q : intsD xs with
    | none => simp [q] at hg
    | some ns =>
      simp only [q, Option.some.injEq] at hg
      subst hg
      obtain ⟨v, rfl, h⟩ := hv.one
      obtain ⟨a, ws, rfl, hs, r, _⟩ := h.tup ex
      rw [intsD_eq q] at r
      have e := r.ints
      subst e
      exact ⟨a, ns, rfl, .inr hs, k _ I H (Al.refl ex) (.int _)⟩
  · cases hg
end
end MP
set_option Elab.async false
set_option linter.all false
set_option maxRecDepth 100000
set_option maxHeartbeats 4000000
namespace MP
open PySem PySem.Spec PyProof.Rows L2
/-! ### dicts: keys -/
mutual
def eqKy : D → D → Bool
  | .non, .non => true
  | .int a, .int b => decide (a = b)
  | .str a, .str b => decide (a = b)
  | .tup a, .tup b => eqKs a b
  | _, _ => false
def eqKs : List D → List D → Bool
  | [], [] => true
  | x :: xs, y :: ys => eqKy x y && eqKs xs ys
  | _, _ => false
end
mutual
theorem eqKy_nk : ∀ a b : NestedKey, eqKy (nkE a) (nkE b) = decide (a = b)
  | .none, b => by cases b <;> simp [nkE, eqKy]
  | .num i, b => by cases b <;> simp [nkE, eqKy]
  | .text x, b => by cases b <;> simp [nkE, eqKy]
  | .tup as, .tup bs => by
    simp only [nkE, eqKy, eqKs_nk as bs]
    simp
  | .tup as, .none => by simp [nkE, eqKy]
  | .tup as, .num i => by simp [nkE, eqKy]
  | .tup as, .text x => by simp [nkE, eqKy]
theorem eqKs_nk : ∀ as bs : List NestedKey, eqKs (nkEs as) (nkEs bs) = decide (as = bs)
  | [], [] => by simp [nkEs, eqKs]
  | [], b :: bs => by simp [nkEs, eqKs]
  | a :: as, [] => by simp [nkEs, eqKs]
  | a :: as, b :: bs => by
    simp only [nkEs, eqKs, eqKy_nk a b, eqKs_nk as bs]
    simp
end
mutual
/-- data as a key: ints and tuples -/
def nkD : D → Option NestedKey
  | .int i => some (.num i)
  | .tup xs => match nkDs xs with
    | some ks => some (.tup ks)
    | none => none
  | _ => none
def nkDs : List D → Option (List NestedKey)
  | [] => some []
  | x :: xs => match nkD x, nkDs xs with
    | some k, some ks => some (k :: ks)
    | _, _ => none
end
mutual
theorem rp_nk {K : PySem.W.Frag} {cl : ClM} {I : Hp} : ∀ {d : D} {v : V} {k : NestedKey}, nkD d = some k → Rp K cl I v d → d = nkE k ∧ NkV K I k v
  | .int i, v, k, h, r => by
    cases Option.some.inj (show some (NestedKey.num i) = some k by simpa only [nkD] using h)
    cases r
    exact ⟨by simp only [nkE], .int i⟩
  | .tup xs, v, k, h, r => by
    simp only [nkD] at h
    cases q : nkDs xs with
    | none => simp [q] at h
    | some ks =>
      simp only [q, Option.some.injEq] at h
      subst h
      cases r with
      | tup hs hr =>
        obtain ⟨e, hl⟩ := rpA_nk q hr
        exact ⟨by simp only [nkE, ← e], .tup hs.sq hl⟩
  | .non, v, k, h, r => by simp [nkD] at h
  | .bl b, v, k, h, r => by simp [nkD] at h
  | .str x, v, k, h, r => by simp [nkD] at h
  | .lst xs, v, k, h, r => by simp [nkD] at h
  | .dct t kv, v, k, h, r => by simp [nkD] at h
  | .obj c fs, v, k, h, r => by simp [nkD] at h
  | .scr xs, v, k, h, r => by simp [nkD] at h
  | .ktp xs, v, k, h, r => by simp [nkD] at h
theorem rpA_nk {K : PySem.W.Frag} {cl : ClM} {I : Hp} : ∀ {ds : List D} {vs : List V} {ks : List NestedKey}, nkDs ds = some ks → RpA K cl I vs ds → ds = nkEs ks ∧ NkL K I ks vs
  | [], vs, ks, h, r => by
    cases Option.some.inj (show some [] = some ks by simpa only [nkDs] using h)
    cases r
    exact ⟨by simp only [nkEs], .nil⟩
  | x :: xs, vs, ks, h, r => by
    simp only [nkDs] at h
    cases q1 : nkD x with
    | none => simp [q1] at h
    | some k =>
      cases q2 : nkDs xs with
      | none => simp [q1, q2] at h
      | some ks' =>
        simp only [q1, q2, Option.some.injEq] at h
        subst h
        cases r with
        | cons h1 h2 =>
          obtain ⟨e1, n1⟩ := rp_nk q1 h1
          obtain ⟨e2, n2⟩ := rpA_nk q2 h2
          exact ⟨by simp only [nkEs, ← e1, ← e2], .cons n1 n2⟩
end
def keyOf : D → Option Key
  | .int i => some (.inl i)
  | .str s => some (.inr s)
  | _ => none
def keysOf : List D → Option (List Key)
  | [] => some []
  | d :: ds => match keyOf d, keysOf ds with
    | some k, some ks => some (k :: ks)
    | _, _ => none
theorem keyOf_eq {d : D} {k : Key} (h : keyOf d = some k) : d = keyD k := by
  cases d <;> simp [keyOf] at h <;> subst h <;> rfl
theorem keysOf_eq : ∀ {ds : List D} {ks : List Key}, keysOf ds = some ks → ds = ks.map keyD
  | [], ks, h => by
    cases Option.some.inj h
    rfl
  | d :: ds, ks, h => by
    unfold keysOf at h
    cases q1 : keyOf d with
    | none => simp [q1] at h
    | some k =>
      cases q2 : keysOf ds with
      | none => simp [q1, q2] at h
      | some ks' =>
        simp only [q1, q2, Option.some.injEq] at h
        subst h
        rw [keyOf_eq q1, keysOf_eq q2]
        rfl
theorem eqKy_key (a b : Key) : eqKy (keyD a) (keyD b) = decide (a = b) := by
  cases a <;> cases b <;> simp [eqKy, keyD]
/-- the right kind of key -/
def okKy (t : Bool) (k : D) : Bool := match t, k with
  | false, k => (keyOf k).isSome
  | true, .tup ks => match nkD (.tup ks) with
    | some k => okN k
    | none => false
  | true, _ => false
def dFind (kv : List (D × D)) (k : D) : Option D := (kv.find? fun p => eqKy p.1 k).map (·.2)
def dHas (kv : List (D × D)) (k : D) : Bool := kv.any fun p => eqKy p.1 k
def dPut (kv : List (D × D)) (k v : D) : List (D × D) := if dHas kv k then kv.map fun p => if eqKy p.1 k then (p.1, v) else p else kv ++ [(k, v)]
theorem keyV {K : PySem.W.Frag} {cl : ClM} {I H : Hp} {v : V} {k : Key} (h : Vw K cl I H v (keyD k)) : v = kV k := by
  cases k with
  | inl i => exact Vw.int h
  | inr s => exact Vw.str h
theorem keysV {K : PySem.W.Frag} {cl : ClM} {I : Hp} : ∀ {vs : List V} {ks : List Key}, RpA K cl I vs (ks.map keyD) → vs = ks.map kV
  | _, [], h => by
    cases h
    rfl
  | _, k :: ks, h => by
    cases h with
    | @cons v vs _ _ h t =>
      have : v = kV k := by
        cases k with
        | inl i => cases h; rfl
        | inr s => cases h; rfl
      rw [this, keysV t]
      rfl
section
variable {K : PySem.W.Frag} {cl : ClM} {I H : Hp} {κ : Type} [DecidableEq κ] (kd : κ → D)
theorem dFind_ok (hk : ∀ a b, eqKy (kd a) (kd b) = decide (a = b)) (k : κ) : ∀ {kvs : List (κ × V)} {ds : List D}, RpA K cl I (kvs.map (·.2)) ds →
    (dHas ((kvs.map fun p => kd p.1).zip ds) (kd k) = (valV kvs k).isSome) ∧ ∀ d, dFind ((kvs.map fun p => kd p.1).zip ds) (kd k) = some d → ∃ v, valV kvs k = some v ∧ Rp K cl I v d
  | [], ds, r => ⟨rfl, fun d h => by simp [dFind] at h⟩
  | (a, v) :: kvs, ds, r => by
    cases r with
    | cons h t =>
      rename_i d0 ds0
      obtain ⟨i1, i2⟩ := dFind_ok hk k t
      simp only [List.map_cons, List.zip_cons_cons, dHas, dFind, List.any_cons, List.find?_cons, hk] at i1 i2 ⊢
      by_cases e : a = k
      · subst e
        rw [valV_pos rfl]
        simp only [decide_true, Bool.true_or, Option.isSome_some, Option.map_some, Option.some.injEq, true_and]
        rintro d rfl
        exact ⟨v, rfl, h⟩
      · rw [valV_neg e]
        simp only [decide_eq_false e, Bool.false_or]
        exact ⟨i1, i2⟩
theorem dPut_map (hk : ∀ a b, eqKy (kd a) (kd b) = decide (a = b)) (k : κ) (d : D) : ∀ {kvs : List (κ × V)} {ds : List D}, (kvs.map (·.2)).length = ds.length → ∀ (v : V), ∃ ds', ((kvs.map fun p => kd p.1).zip ds).map (fun p => if eqKy p.1 (kd k) then (p.1, d) else p) = ((kvs.map fun kv => if kv.1 = k then (kv.1, v) else kv).map fun p => kd p.1).zip ds' ∧
    (∀ I', RpA K cl I' (kvs.map (·.2)) ds → Rp K cl I' v d → RpA K cl I' ((kvs.map fun kv => if kv.1 = k then (kv.1, v) else kv).map (·.2)) ds')
  | [], ds, _, v => ⟨[], by simp, fun I' _ _ => .nil⟩
  | (a, v0) :: kvs, [], hl, v => by simp at hl
  | (a, v0) :: kvs, d0 :: ds, hl, v => by
    obtain ⟨ds', h1, h2⟩ := dPut_map hk k d (kvs := kvs) (ds := ds) (by simpa using hl) v
    by_cases e : a = k
    · refine ⟨d :: ds', ?_, fun I' r rv => ?_⟩
      · simp only [List.map_cons, List.zip_cons_cons, hk, decide_eq_true e, if_pos e, h1, if_true]
      · cases r with
        | cons h t =>
          simp only [List.map_cons, if_pos e]
          exact .cons rv (h2 I' t rv)
    · refine ⟨d0 :: ds', ?_, fun I' r rv => ?_⟩
      · simp only [List.map_cons, List.zip_cons_cons, hk, decide_eq_false e, if_neg e, h1]
        simp
      · cases r with
        | cons h t =>
          simp only [List.map_cons, if_neg e]
          exact .cons h (h2 I' t rv)
theorem dPut_ok (hk : ∀ a b, eqKy (kd a) (kd b) = decide (a = b)) (k : κ) {v : V} {d : D} (rv : Rp K cl I v d) {kvs : List (κ × V)} {ds : List D} (r : RpA K cl I (kvs.map (·.2)) ds) :
    ∃ ds', dPut ((kvs.map fun p => kd p.1).zip ds) (kd k) d = ((putK kvs k v).map fun p => kd p.1).zip ds' ∧ RpA K cl I ((putK kvs k v).map (·.2)) ds' := by
  have h1 := (dFind_ok kd hk k r).1
  unfold dPut putK
  rw [h1, valV_any k kvs]
  cases q : (valV kvs k).isSome with
  | true =>
    simp only [if_true]
    obtain ⟨ds', h2, h3⟩ := dPut_map (K := K) (cl := cl) kd hk k d r.length v
    exact ⟨ds', h2, h3 I r rv⟩
  | false =>
    simp only [Bool.false_eq_true, if_false]
    refine ⟨ds ++ [d], ?_, ?_⟩
    · rw [List.map_append, List.zip_append (by rw [List.length_map, ← r.length, List.length_map])]
      rfl
    · rw [List.map_append]
      exact r.append (.cons rv .nil)
end
def gDix : D → D → Option D := fun x k => match x with
  | .dct t kv => if okKy t k then dFind kv k else none
  | _ => none
def gDin (neg : Bool) : D → D → Option D := fun k x => match x with
  | .dct t kv => if okKy t k then some (.bl (if neg then !dHas kv k else dHas kv k)) else none
  | _ => none
section
variable {K : PySem.W.Frag} {cl : ClM} {I H : Hp} {v y : V} {t : Bool} {kv : List (D × D)} {k : D}
theorem Vw.dctF (e : Same I H) (h : Vw K cl I H v (.dct false kv)) : ∃ a kvs ds, v = .ref a ∧ Rd H a (.dK kvs) ∧ kv = (kvs.map fun p => keyD p.1).zip ds ∧ RpA K cl I (kvs.map (·.2)) ds := by
  rcases h with h | ⟨p, ho, o, rfl, ip, hp, r, ed⟩
  · cases h with
    | dK hr hk r =>
      subst hk
      exact ⟨_, _, _, rfl, same_rd e hr, rfl, r⟩
  · cases r with
    | lst r => cases ed
    | dK hk r =>
      cases ed
      subst hk
      exact ⟨p, _, _, rfl, .inl hp, rfl, r⟩
    | dT nk hk r => cases ed
    | ins c l r => cases ed
theorem Vw.dctT (e : Same I H) (h : Vw K cl I H v (.dct true kv)) : ∃ a L ds, v = .ref a ∧ H a = some (NdO a L) ∧ NK K H L ∧ kv = ((kvN L).map fun p => nkE p.1).zip ds ∧ RpA K cl I ((kvN L).map (·.2)) ds := by
  rcases h with h | ⟨p, ho, o, rfl, ip, hp, r, ed⟩
  · cases h with
    | dT hr nk hk r =>
      subst hk
      exact ⟨_, _, _, rfl, e _ _ hr, nk.mono (same_t e), rfl, r⟩
  · cases r with
    | lst r => cases ed
    | dK hk r => cases ed
    | dT nk hk r =>
      cases ed
      subst hk
      exact ⟨p, _, _, rfl, hp, nk.mono (same_t e), rfl, r⟩
    | ins c l r => cases ed
/-- what the dict at hand holds at the key at hand -/
theorem dget_vw (e : Same I H) (h : Vw K cl I H v (.dct t kv)) (hy : Vw K cl I H y k) (ok : okKy t k = true) :
    ∃ a o, v = .ref a ∧ DGetU K H a y o ∧ dHas kv k = o.isSome ∧ ∀ d, dFind kv k = some d → ∃ u, o = some u ∧ Rp K cl I u d := by
  cases t with
  | false =>
    obtain ⟨a, kvs, ds, rfl, hr, rfl, r⟩ := h.dctF e
    unfold okKy at ok
    obtain ⟨kk, hk⟩ := Option.isSome_iff_exists.mp ok
    have := keyOf_eq hk
    subst this
    obtain ⟨h1, h2⟩ := dFind_ok keyD eqKy_key kk r
    rw [keyV hy]
    exact ⟨a, valV kvs kk, rfl, .inl (.inl ⟨kvs, kk, hr, rfl, rfl⟩), h1, h2⟩
  | true =>
    obtain ⟨a, L, ds, rfl, hr, nk, rfl, r⟩ := h.dctT e
    cases k with
    | tup ks =>
      have ok : (match nkD (.tup ks) with | some k => okN k | none => false) = true := ok
      split at ok
      · rename_i kk hk
        have hyr := hy.rp fun o z => by cases o <;> cases z
        obtain ⟨e1, hn⟩ := rp_nk hk hyr
        rw [e1]
        obtain ⟨h1, h2⟩ := dFind_ok nkE eqKy_nk kk r
        obtain ⟨b, vs, rfl, _⟩ := hy.tupP e
        exact ⟨a, valV (kvN L) kk, rfl, .inr ⟨L, kk, b, hr, nk, ok, rfl, hn.mono (same_t e), rfl⟩, h1, h2⟩
      · cases ok
    | _ => cases ok
end
section
variable {X : Cx} {cl : ClM} {R : Nat → Bool} {a b c : Expr} {m1 m2 m3 : Xp} {pos pos' : Pos}
theorem me_dix (hu : X.A.units + 64 < cLine) (h1 : ME X cl a m1) (h2 : ME X cl b m2) (hs : NoSl b) : ME X cl (.Subscript a b pos) (eBin gDix m1 m2) := by
  obtain ⟨ta, pa, ea⟩ := h1
  obtain ⟨tb, pb, eb⟩ := h2
  refine ⟨_, pe_dgetU hu pa pb hs, ev_bin (r := fun x y H Q => ∃ a v, x = .ref a ∧ DGetU X.K H a y (some v) ∧ Q v H) ea eb fun I H v w x y z Q ex hv hw hg k => ?_⟩
  unfold gDix at hg
  split at hg
  · rename_i t kv
    by_cases ok : okKy t y = true
    · rw [if_pos ok] at hg
      obtain ⟨p, o, rfl, g, _, h3⟩ := dget_vw ex hv hw ok
      obtain ⟨u, rfl, ru⟩ := h3 z hg
      exact ⟨p, u, rfl, g, k u I H (Al.refl ex) ru⟩
    · rw [if_neg ok] at hg
      cases hg
  · cases hg
theorem din_ev {ta tb : TE} (ea : EvOk X.K cl ta m1) (eb : EvOk X.K cl tb m2) : EvOk X.K cl (tDInU X.K ta tb) (eBin (gDin false) m1 m2) :=
  ev_bin (r := fun y x H Q => ∃ a o, x = .ref a ∧ DGetU X.K H a y o ∧ Q (.bl o.isSome) H) ea eb fun I H v w x y z Q ex hv hw hg k => by
    unfold gDin at hg
    split at hg
    · rename_i t kv
      by_cases ok : okKy t x = true
      · rw [if_pos ok] at hg
        obtain ⟨p, o, rfl, g, h3, _⟩ := dget_vw ex hw hv ok
        cases Option.some.inj hg
        refine ⟨p, o, rfl, g, ?_⟩
        rw [← h3]
        exact k _ I H (Al.refl ex) (.bl _)
      · rw [if_neg ok] at hg
        cases hg
    · cases hg
theorem dnin_ev {ta tb : TE} (ea : EvOk X.K cl ta m1) (eb : EvOk X.K cl tb m2) : EvOk X.K cl (tDNotInU X.K ta tb) (eBin (gDin true) m1 m2) :=
  ev_bin (r := fun y x H Q => ∃ a o, x = .ref a ∧ DGetU X.K H a y o ∧ Q (.bl (!o.isSome)) H) ea eb fun I H v w x y z Q ex hv hw hg k => by
    unfold gDin at hg
    split at hg
    · rename_i t kv
      by_cases ok : okKy t x = true
      · rw [if_pos ok] at hg
        obtain ⟨p, o, rfl, g, h3, _⟩ := dget_vw ex hw hv ok
        cases Option.some.inj hg
        refine ⟨p, o, rfl, g, ?_⟩
        rw [← h3]
        exact k _ I H (Al.refl ex) (.bl _)
      · rw [if_neg ok] at hg
        cases hg
    · cases hg
theorem me_din (hu : X.A.units + 64 < cLine) (h1 : ME X cl a m1) (h2 : ME X cl b m2) (hm : behindInMarks .In b = false := by rfl) : ME X cl (.Compare a [.In] [b] pos) (eBin (gDin false) m1 m2) := by
  obtain ⟨ta, pa, ea⟩ := h1
  obtain ⟨tb, pb, eb⟩ := h2
  exact ⟨_, pe_cmp (pc_dinU hu pa pb) hm, din_ev ea eb⟩
theorem mt_din (hu : X.A.units + 64 < cLine) (h1 : ME X cl a m1) (h2 : ME X cl b m2) (hm : behindInMarks .In b = false := by rfl) : MT X cl (.Compare a [.In] [b] pos) (tOfB (eBin (gDin false) m1 m2)) := by
  obtain ⟨ta, pa, ea⟩ := h1
  obtain ⟨tb, pb, eb⟩ := h2
  exact ⟨_, pt_cmp (pc_dinU hu pa pb) hm, tt_b (din_ev ea eb)⟩
theorem me_dnin (hu : X.A.units + 64 < cLine) (h1 : ME X cl a m1) (h2 : ME X cl b m2) (hm : behindInMarks .NotIn b = false := by rfl) : ME X cl (.Compare a [.NotIn] [b] pos) (eBin (gDin true) m1 m2) := by
  obtain ⟨ta, pa, ea⟩ := h1
  obtain ⟨tb, pb, eb⟩ := h2
  exact ⟨_, pe_cmp (pc_dnotinU hu pa pb) hm, dnin_ev ea eb⟩
theorem mt_dnin (hu : X.A.units + 64 < cLine) (h1 : ME X cl a m1) (h2 : ME X cl b m2) (hm : behindInMarks .NotIn b = false := by rfl) : MT X cl (.Compare a [.NotIn] [b] pos) (tOfB (eBin (gDin true) m1 m2)) := by
  obtain ⟨ta, pa, ea⟩ := h1
  obtain ⟨tb, pb, eb⟩ := h2
  exact ⟨_, pt_cmp (pc_dnotinU hu pa pb) hm, tt_b (dnin_ev ea eb)⟩
/-! {} -/
def fDict (t : Bool) : Xf := fun env => some (.dct t [], env)
theorem mf_dictK : MF X cl (.Dict [] [] pos) (fDict false) := ⟨_, pe_dnewK, fun σ H I env o env' Q g hm k => by
  cases Option.some.inj hm
  refine fun p hp => ?_
  have al : Al I H I (upd H p (.dK [])) := Al.newH g.ex hp
  exact k p _ I _ (g.al al) al.tr (g.ex.free hp) upd_same (.dK (ks := []) (ds := []) rfl .nil) (.inr hp) (nf_fresh g hp)⟩
theorem mf_dictT : MF X cl (.Dict [] [] pos) (fDict true) := ⟨_, pe_dnewN, fun σ H I env o env' Q g hm k => by
  cases Option.some.inj hm
  refine fun p hp => ?_
  have al : Al I H I (upd H p (NdO p [])) := Al.newH g.ex hp
  exact k p _ I _ (g.al al) al.tr (g.ex.free hp) upd_same (.dT (L := []) (ks := []) (ds := []) (fun q hq => by cases hq) rfl .nil) (.inr hp) (nf_fresh g hp)⟩
/-! d[k] = v, d a slot's own dict -/
def ownD (env : MEnv) (i : Nat) : Option (Bool × List (D × D)) := match env[i]? with
  | some (.own (.dct t kv)) => some (t, kv)
  | _ => none
theorem ownD_eq {env : MEnv} {i : Nat} {t : Bool} {kv : List (D × D)} (h : ownD env i = some (t, kv)) : env[i]? = some (.own (.dct t kv)) := by
  unfold ownD at h
  split at h
  · rename_i q
    cases Option.some.inj h
    exact q
  · cases h
def sDPut (i : Nat) (mk mv : Xp) : Xs := fun env => match mv env with
  | none => none
  | some (r, e1) => match esc e1 r with
    | none => none
    | some (d, e2) => match ownD e2 i with
      | none => none
      | some _ => match mk e2 with
        | none => none
        | some (rk, e3) => match vw e3 rk with
          | none => none
          | some k => match ownD e3 i with
            | none => none
            | some (t, kv) => if okKy t k && decide (kv.length < 16777216) then some (.nx, e3.set i (.own (.dct t (dPut kv k d)))) else none
theorem ms_dput {st : Stmt} {e x : Expr} {i : Nat} {me mk : Xp} (he : ME X cl e me) (hk : ME X cl x mk) (hp : ∀ te tk, PE X e te → PE X x tk → PS X st (sDPutU X.K (tVar i) tk te)) : MS X cl R st (MP.sDPut i mk me) := by
  obtain ⟨te, pe, ke⟩ := he
  obtain ⟨tk, pk, kk'⟩ := hk
  refine ⟨_, hp te tk pe pk, fun σ H I env fl env' Dn g hm kk => ?_⟩
  unfold MP.sDPut at hm
  cases q1 : me env with
  | none => simp [q1] at hm
  | some p1 =>
    obtain ⟨r, e1⟩ := p1
    simp only [q1] at hm
    cases q2 : esc e1 r with
    | none => simp [q2] at hm
    | some p2 =>
      obtain ⟨d, e2⟩ := p2
      simp only [q2] at hm
      cases q0 : ownD e2 i with
      | none => simp [q0] at hm
      | some tk0 =>
        simp only [q0] at hm
        cases q3 : mk e2 with
        | none => simp [q3] at hm
        | some p3 =>
          obtain ⟨rk, e3⟩ := p3
          simp only [q3] at hm
          cases q4 : vw e3 rk with
          | none => simp [q4] at hm
          | some k =>
            simp only [q4] at hm
            cases q5 : ownD e3 i with
            | none => simp [q5] at hm
            | some tkv =>
              obtain ⟨t, kv⟩ := tkv
              simp only [q5] at hm
              by_cases ok : (okKy t k && decide (kv.length < 16777216)) = true
              · rw [if_pos ok] at hm
                simp only [Option.some.injEq, Prod.mk.injEq] at hm
                obtain ⟨rfl, rfl⟩ := hm
                rw [Bool.and_eq_true] at ok
                obtain ⟨ok1, ok2⟩ := ok
                have ok2 := of_decide_eq_true ok2
                refine ke σ H I env r e1 _ g q1 fun v I1 H1 g1 t1 r1 => ?_
                obtain ⟨I2, g2, t2, r2⟩ := esc_ok g1 r1 q2
                have w0 := ownD_eq (t := tk0.1) (kv := tk0.2) q0
                have hil : i < σ.length := by
                  rw [g2.len]
                  exact (List.getElem?_eq_some_iff.mp w0).1
                obtain ⟨ov, hov⟩ : ∃ ov, σ[i]? = some ov := ⟨σ[i], List.getElem?_eq_getElem hil⟩
                obtain ⟨a, ho, ea, ia, ha, so⟩ := g2.ok i _ ov w0 hov
                subst ea
                refine ⟨.ref a, hov, ?_⟩
                refine kk' σ H1 I2 e2 rk e3 _ g2 q3 fun u I3 H3 g3 t3 r3 => ?_
                have w5 := ownD_eq q5
                obtain ⟨a', ho', ea', ia', ha', so'⟩ := g3.ok i _ _ w5 hov
                cases ea'
                have rv := r2.mono t3.ext
                have hy := vw_ok g3 r3 q4
                cases so' with
                | @dK kvs ks ds hks r5 =>
                  subst hks
                  unfold okKy at ok1
                  obtain ⟨kx, hkx⟩ := Option.isSome_iff_exists.mp ok1
                  have := keyOf_eq hkx
                  subst this
                  rw [keyV hy]
                  obtain ⟨ds', e5, r6⟩ := dPut_ok keyD eqKy_key kx rv r5
                  have hlen : kvs.length < sizeLine := by
                    have hz := r5.length
                    rw [List.length_map] at hz
                    rw [List.length_zip, List.length_map, hz, Nat.min_self] at ok2
                    rw [hz]
                    exact Nat.lt_of_lt_of_le ok2 (by decide)
                  refine ⟨a, _, rfl, .inl (.inl ⟨kvs, kx, ha', rfl, hlen, rfl⟩), ?_⟩
                  rw [e5] at kk
                  obtain ⟨g4, t4⟩ := own_upd (o' := .dct false (((putK kvs kx v).map fun p => keyD p.1).zip ds')) g3 w5 hov (.dK rfl r6)
                  exact kk σ I3 _ g4 (((t1.trans t2).trans t3).trans t4) (fun _ _ => rfl)
                | @dT L ks ds nk hks r5 =>
                  subst hks
                  cases k with
                  | tup kl =>
                    have ok1 : (match nkD (.tup kl) with | some k => okN k | none => false) = true := ok1
                    split at ok1
                    · rename_i kx hk
                      have hyr := hy.rp fun o z => by cases o <;> cases z
                      obtain ⟨e1, hn⟩ := rp_nk hk hyr
                      obtain ⟨b, vs, rfl, _⟩ := hy.tupP g3.ex
                      obtain ⟨ds', e5, r6⟩ := dPut_ok nkE eqKy_nk kx rv r5
                      have hlen : L.length < sizeLine := by
                        have hz := r5.length
                        rw [List.length_map] at hz
                        have hz2 : (kvN L).length = L.length := List.length_map _
                        rw [List.length_zip, List.length_map, hz, Nat.min_self] at ok2
                        rw [← hz2, hz]
                        exact Nat.lt_of_lt_of_le ok2 (by decide)
                      refine ⟨a, _, rfl, .inr ⟨L, kx, b, ha', nk.mono (same_t g3.ex), ok1, rfl, hn.mono (same_t g3.ex), hlen, rfl⟩, ?_⟩
                      rw [e1, e5, ← kvN_put L kx b v] at kk
                      rw [← kvN_put L kx b v] at r6
                      obtain ⟨g4, t4⟩ := own_upd (o' := .dct true (((kvN (putN L kx b v)).map fun p => nkE p.1).zip ds')) g3 w5 hov (.dT (nk.put ok1 hn v) rfl r6)
                      exact kk σ I3 _ g4 (((t1.trans t2).trans t3).trans t4) (fun _ _ => rfl)
                    · cases ok1
                  | _ => cases ok1
              · rw [if_neg ok] at hm
                cases hm
end
/-! len of a dict -/
def gLenD : List D → Option D := fun ds => match ds with
  | [.dct _ kv] => some (.int kv.length)
  | _ => none
theorem cm_lenD {X : Cx} {cl : ClM} : CaM X cl (.builtin "len") gLenD := by
  refine ⟨_, call_lenU, fun I H vs ds z Q ex hv hg k => ?_⟩
  unfold gLenD at hg
  split at hg
  · rename_i t kv
    cases Option.some.inj hg
    obtain ⟨v, rfl, h⟩ := hv.one
    cases t with
    | false =>
      obtain ⟨a, kvs, ds, rfl, hr, rfl, r⟩ := h.dctF ex
      have hz := r.length
      rw [List.length_map] at hz
      refine ⟨a, rfl, .inl ⟨kvs, hr, ?_⟩⟩
      have := k (.int kvs.length) I H (Al.refl ex)
      rw [List.length_zip, List.length_map, ← hz, Nat.min_self] at this
      exact this (.int _)
    | true =>
      obtain ⟨a, L, ds, rfl, hr, nk, rfl, r⟩ := h.dctT ex
      have hz := r.length
      rw [List.length_map] at hz
      have hz2 : (kvN L).length = L.length := List.length_map _
      refine ⟨a, rfl, .inr ⟨L, hr, nk, ?_⟩⟩
      have := k (.int L.length) I H (Al.refl ex)
      rw [List.length_zip, List.length_map, ← hz, Nat.min_self, hz2] at this
      exact this (.int _)
  · cases hg
end MP
set_option Elab.async false
set_option linter.all false
set_option maxRecDepth 100000
set_option maxHeartbeats 4000000
namespace MP
open PySem PySem.Spec PyProof.Rows L2
/-! ### set(l), l a list of ints -/
abbrev setNew (w : World) : Obj := { cls := .type "set", dict := none, data := .set #[] 0 (.fresh 0 0 (!w.params.followText "set-order")) }
section
variable {P : Program} {w : World} {A : Around} {E : Value → Shared → Prop} {s : Shared}
set_option maxHeartbeats 6400000 in
theorem call_set_lstI {l : Addr} {items : Array Value} (ns : List Int) {Q : Value → Shared → Prop} (hh : A.handled = none) (hl : s.heap.IsList l items) (hit : IntsAre items.toList ns) (hb : ns.length + 1 < scanBound)
    (h : ∀ (h' : Heap) (tk c : Nat), SetR w h' s.heap.objs.size (fun j => decide (j ∈ ns)) c → c ≤ ns.length → (∀ b o, s.heap.get? b = some o → h'.get? b = some o) → Q (.ref s.heap.objs.size) { s with heap := h', toks := tk }) :
    wpAny (model P w) A (call (.type "set") [.ref l]) Q E s := by
  have hisz : items.size = ns.length := by
    have q := IntsAre.length hit
    rw [Array.length_toList] at q
    exact q
  obtain ⟨c, tl, hmro⟩ := F.called_set.mro
  have hmade := F.called_set.made
  have hsub := F.called_set.sub
  refine wpAny_call (codeAny_of_tree ?_)
  show wpAny _ _ (callAny (.type "set") _) _ _ _
  refine wpAny_pure ⟨Code.quiet_builtin _ (by decide +kernel), codeAny_builtin F.entry_type_call ?_⟩
  rw [Around.under_plain (weight_type_call_type "set" [.ref l] []) rfl]
  have h1 := F.called_set.notType
  have h2 := F.called_set.canCreate
  have hct := F.typeCall_set_1 (.ref l)
  repeat (any_goals (first | assumption | wp_step))
  refine codeAny_mono (code_set_led1 (.ref l) (E := E) (Q₁ := fun obj s₁ => obj = .ref s.heap.objs.size ∧ s₁ = { s with heap := s.heap.push (setNew w) }) ⟨rfl, rfl⟩) fun r s₁ hr => ?_
  cases r with
  | error e => exact hr
  | ok fl =>
    cases fl with
    | ret obj =>
      obtain ⟨rfl, rfl⟩ := hr
      have hS : (s.heap.push (setNew w)).get? s.heap.objs.size = some (setNew w) := Heap.get?_push_size _ rfl
      have hT : Shared.TypeIs { s with heap := s.heap.push (setNew w) } (.ref s.heap.objs.size) "set" := ⟨_, hS, rfl⟩
      have hli := F.called_set.init.lookup
      have hbi := F.called_set.init.bind (.ref s.heap.objs.size)
      repeat (any_goals (first | assumption | wp_step))
      refine codeAny_mono (codeAny_call_builtin (R := wants (fun r s₂ => r = .none ∧ ∃ h' tk c, s₂ = { s with heap := h', toks := tk } ∧ SetR w h' s.heap.objs.size (fun j => decide (j ∈ ns)) c ∧ c ≤ ns.length ∧
          (∀ b o, s.heap.get? b = some o → h'.get? b = some o)) E) F.called_set.init.plain F.entry_set_init (check_set_init_1 hT ?_)) fun r₂ s₂ hr₂ => ?_
      · obtain ⟨ol, hol, hcl, nl, hdl⟩ := hl
        obtain ⟨ocls, odict, odata, oslots⟩ := ol
        simp only at hcl hdl
        subst hcl; subst hdl
        have hol' : (s.heap.push (setNew w)).get? l = some { cls := .type "list", dict := odict, data := .seq items nl, slots := oslots } := Heap.get?_push_of_some _ hol
        have hsls := F.sub_list_set
        have hslf := F.sub_list_frozenset
        have hne : (Value.type "list" == Value.type "dict") = false := by decide
        have hl1 : (s.heap.push (setNew w)).IsList l items := ⟨_, hol', rfl, nl, rfl⟩
        unfold Builtin.«set.__init__» noKeywords Builtin.Frozenset.updateFrom
        generalize hPI : pyIter = PI
        wp_walk
        subst hPI
        refine wpAny_pyIter_list hl1 ?_
        refine wpAny_bind (wpAny_runValue ?_)
        have hlS : l < s.heap.objs.size := Heap.lt_size hol
        have hh3 : A.in1.in1.in1.handled = none := by simp [hh]
        have hneI : l ≠ (s.heap.push (setNew w)).objs.size := by
          rw [Heap.size_push]
          exact fun e => Nat.lt_irrefl _ (Nat.lt_trans hlS (e ▸ Nat.lt_succ_self _))
        have hSf : s.heap.objs.size ∉ [(s.heap.push (setNew w)).objs.size, l] := by
          rw [Heap.size_push]
          simp only [List.mem_cons, List.not_mem_nil, or_false, not_or]
          exact ⟨fun e => Nat.succ_ne_self _ e.symm, fun e => Nat.lt_irrefl _ (e ▸ hlS)⟩
        have hval : ∀ (i : Nat) (v : Value), items[i]? = some v → ∃ k t, ns[i]? = some k ∧ v = .int k t := fun i v hv => by
          have hi : i < ns.length := by rw [← hisz]; exact (Array.getElem?_eq_some_iff.mp hv).1
          obtain ⟨t, e⟩ := IntsAre.int_at hit i v (by rw [Array.getElem?_toList]; exact hv)
          refine ⟨ns[i], t, List.getElem?_eq_getElem hi, ?_⟩
          rw [e, List.getD_eq_getElem?_getD, List.getElem?_eq_getElem hi] <;> rfl
        refine set_update_ints ((Walks.list hh3 _ l hneI items).toS) s.heap.objs.size hSf ns hisz hb hval (items.size - 0) 0 _ (by omega) (Nat.zero_le _)
          ⟨⟨_, Heap.get?_push_size _ rfl, rfl, rfl⟩, (hl1.push _)⟩ ?hS0 ?hR
        case hS0 =>
          exact ⟨0, Nat.le_refl 0, setR_new_at (Heap.get?_push_of_some _ hS)⟩
        case hR =>
          intro s' c' hm hc' hS'
          obtain ⟨h', g2, d', tk', os'⟩ := s'
          have eg : g2 = s.gens := hm.gens
          have ed : d' = s.drawn := hm.drawn
          have eo : os' = s.os := hm.os
          subst eg; subst ed; subst eo
          show wpAny _ _ _ _ _ _
          refine wpAny_pure ?_
          show wpAny _ _ (ret Value.none) _ _ _
          rw [hisz] at hc'
          refine wpAny_pure ⟨rfl, h', tk', c', rfl, hS', hc', fun b o e => ?_⟩
          have hb0 : b < s.heap.objs.size := Heap.lt_size e
          refine hm.heap b o ?_ (Heap.get?_push_of_some _ (Heap.get?_push_of_some _ e))
          simp only [List.mem_cons, List.not_mem_nil, or_false, not_or]
          rw [Heap.size_push]
          exact ⟨fun e => Nat.lt_irrefl _ (e ▸ hb0), fun e => Nat.lt_irrefl _ (Nat.lt_trans hb0 (e ▸ Nat.lt_succ_self _))⟩
      · cases r₂ with
        | error e => exact hr₂
        | ok fl =>
          cases fl with
          | ret v =>
            obtain ⟨rfl, h', tk, c, rfl, hS2, hc2, hk⟩ := hr₂
            repeat (any_goals (first | assumption | wp_step))
            exact h h' tk c hS2 hc2 hk
          | _ => exact hr₂.elim
    | _ => exact hr.elim
end

def rSetI (K : PySem.W.Frag) (w : World) : List V → Hp → VK → Prop := fun vs H Q => ∃ (l : Addr) (ns : List Int), vs = [.ref l] ∧ (SqL K H l (ns.map V.int) ∨ SqT K H l (ns.map V.int)) ∧ ns.length < 64 ∧
  ∀ p c, H p = none → c ≤ ns.length → Q (.ref p) (upd H p (SetO w p (fun j => decide (j ∈ ns)) c))
theorem cr_setI {X : Cx} (hc : X.calm = true) : CallR X (.type "set") (rSetI X.K X.w) := by
  intro pins s σ H vs us Q I r h
  obtain ⟨l, ns, rfl, hs, h64, q⟩ := h
  rw [Vals.ref1 r]
  have fin : ∀ (h' : Heap) (tk c : Nat), SetR X.w h' s.heap.objs.size (fun j => decide (j ∈ ns)) c → c ≤ ns.length → (∀ b o, s.heap.get? b = some o → h'.get? b = some o) →
      EP X pins σ Q (.ref s.heap.objs.size) { s with heap := h', toks := tk } := fun h' tk c R1 hcn k =>
    ⟨.ref _, _, I.laid (t' := tk) k (Nat.le_refl _) (setO_new R1), rfl, q _ c (I.hok.fresh (Nat.le_refl _)) hcn⟩
  rcases hs with hs | hs
  · obtain ⟨its, rv, pl, hz⟩ := I.list hs
    exact call_set_lstI ns (I.ok.hd hc) pl.isList (ints_of_vals rv) (by unfold scanBound; omega) fin
  · obtain ⟨its, rv, pt, hz⟩ := I.tuple hs
    exact call_set_tupI ns (I.ok.hd hc) (show s.heap.IsTuple l its.toArray from pt) (ints_of_vals rv) (by unfold scanBound; omega) fin
/-! ### rising lists of ints -/
def insS (k : Int) : List Int → List Int
  | [] => [k]
  | a :: r => if k < a then k :: a :: r else if k = a then a :: r else a :: insS k r
def srtS : List Int → List Int
  | [] => []
  | a :: r => insS a (srtS r)
theorem insS_mem (k j : Int) : ∀ l : List Int, j ∈ insS k l ↔ j = k ∨ j ∈ l
  | [] => by simp [insS]
  | a :: r => by
    unfold insS
    have ih := insS_mem k j r
    split
    · simp
    · split
      · rename_i h
        subst h
        simp
      · simp only [List.mem_cons, ih]
        constructor
        · rintro (h | h | h) <;> simp [h]
        · rintro (h | h | h) <;> simp [h]
theorem insS_pw (k : Int) : ∀ l : List Int, l.Pairwise (· < ·) → (insS k l).Pairwise (· < ·)
  | [], _ => by simp [insS]
  | a :: r, h => by
    unfold insS
    rw [List.pairwise_cons] at h
    split
    · rename_i hk
      rw [List.pairwise_cons]
      refine ⟨fun j hj => ?_, List.pairwise_cons.2 h⟩
      rcases List.mem_cons.1 hj with rfl | hj
      · exact hk
      · exact Int.lt_trans hk (h.1 j hj)
    · split
      · exact List.pairwise_cons.2 h
      · rw [List.pairwise_cons]
        refine ⟨fun j hj => ?_, insS_pw k r h.2⟩
        rcases (insS_mem k j r).1 hj with rfl | hj
        · omega
        · exact h.1 j hj
theorem srtS_mem (j : Int) : ∀ l : List Int, j ∈ srtS l ↔ j ∈ l
  | [] => by simp [srtS]
  | a :: r => by rw [srtS, insS_mem, srtS_mem j r, List.mem_cons]
theorem srtS_pw : ∀ l : List Int, (srtS l).Pairwise (· < ·)
  | [] => List.Pairwise.nil
  | a :: r => insS_pw a _ (srtS_pw r)
/-- a rising list is told by its members -/
theorem rise_ext : ∀ {l m : List Int}, l.Pairwise (· < ·) → m.Pairwise (· < ·) → (∀ j, j ∈ l ↔ j ∈ m) → l = m
  | [], [], _, _, _ => rfl
  | [], b :: m, _, _, h => absurd ((h b).2 List.mem_cons_self) (by simp)
  | a :: l, [], _, _, h => absurd ((h a).1 List.mem_cons_self) (by simp)
  | a :: l, b :: m, h1, h2, h => by
    rw [List.pairwise_cons] at h1 h2
    have hab : a = b := by
      rcases List.mem_cons.1 ((h a).1 List.mem_cons_self) with e | e
      · exact e
      · rcases List.mem_cons.1 ((h b).2 List.mem_cons_self) with e2 | e2
        · exact e2.symm
        · have := h1.1 b e2
          have := h2.1 a e
          omega
    subst hab
    rw [rise_ext h1.2 h2.2 fun j => ?_]
    have n1 : j ∈ l → j ≠ a := fun hj e => by
      have := h1.1 j hj
      omega
    have n2 : j ∈ m → j ≠ a := fun hj e => by
      have := h2.1 j hj
      omega
    have hj := h j
    simp only [List.mem_cons] at hj
    constructor
    · exact fun z => (hj.1 (.inr z)).resolve_left (n1 z)
    · exact fun z => (hj.2 (.inr z)).resolve_left (n2 z)
theorem srtS_id {l : List Int} (h : l.Pairwise (· < ·)) : srtS l = l := rise_ext (srtS_pw l) h fun j => srtS_mem j l
/-! ### sorted(set(l)) -/
def fgSS : List D → Option SO := fun ds => match ds with
  | [.lst xs] => match intsD xs with
    | some ns => if ns.length < 64 then some (.lst ((srtS ns).map .int)) else none
    | none => none
  | [.tup xs] => match intsD xs with
    | some ns => if ns.length < 64 then some (.lst ((srtS ns).map .int)) else none
    | none => none
  | _ => none
section
variable {X : Cx} {cl : ClM}
def tSS (K : PySem.W.Frag) (w : World) (t : TA) : TE := tCB (rSortedSet w) (tCons (tCB (rSetI K w) t) tNil)
theorem mf_ss {e a : Expr} {ms : Xa} (hm : MA X cl [a] ms) (hp : ∀ t, PA X [a] t → PE X e (tSS X.K X.w t)) : MF X cl e (fCB fgSS ms) := by
  obtain ⟨t, p, k⟩ := hm
  refine ⟨_, hp t p, fun σ H I env r' env' Q gd hme kk => ?_⟩
  unfold fCB at hme
  cases q : ms env with
  | none => simp [q] at hme
  | some pr =>
    obtain ⟨rs, e1⟩ := pr
    simp only [q] at hme
    cases q2 : vwL e1 rs with
    | none => simp [q2] at hme
    | some ds =>
      simp only [q2] at hme
      cases q3 : fgSS ds with
      | none => simp [q3] at hme
      | some z =>
        simp only [q3, Option.some.injEq, Prod.mk.injEq] at hme
        obtain ⟨rfl, rfl⟩ := hme
        refine k σ H I env rs e1 _ gd q fun vs I1 H1 g1 t1 r1 => ?_
        have hv := vwL_ok g1 r1 q2
        have fin : ∀ (l : Addr) (ns : List Int), vs = [.ref l] → (SqL X.K H1 l (ns.map V.int) ∨ SqT X.K H1 l (ns.map V.int)) → ns.length < 64 → z = .lst ((srtS ns).map .int) → rSetI X.K X.w vs H1 fun v H2 => tNil σ H2 fun ws H3 => rSortedSet X.w (v :: ws) H3 Q := by
          intro l ns ev hs h64 ez
          refine ⟨l, ns, ev, hs, h64, fun a c ha hca => ?_⟩
          refine ⟨a, _, c, rfl, upd_same, by omega, fun ns' b hpw hmem hlen hb => ?_⟩
          have e1 : ns' = srtS ns := rise_ext hpw (srtS_pw ns) fun j => by
            rw [srtS_mem, hmem, decide_eq_true_eq]
          subst e1
          subst ez
          have al1 : Al I1 H1 I1 (upd H1 a (SetO X.w a (fun j => decide (j ∈ ns)) c)) := Al.newH g1.ex ha
          have al2 := Al.newH (ho := .lst ((srtS ns).map V.int)) al1.ex hb
          have hb1 : H1 b = none := by
            by_cases eq : b = a
            · rw [eq]; exact ha
            · rw [upd_ne eq] at hb
              exact hb
          exact kk b _ _ _ (g1.al (al1.trans al2)) (t1.trans (al1.trans al2).tr) (g1.ex.free hb1) upd_same (.lst (RpA.ofInts _)) (t1.back (.inr hb1)) (nf_fresh g1 hb1)
        unfold fgSS at q3
        split at q3
        · rename_i xs
          cases q4 : intsD xs with
          | none => simp [q4] at q3
          | some ns =>
            simp only [q4] at q3
            by_cases h64 : ns.length < 64
            · rw [if_pos h64] at q3
              obtain ⟨v, rfl, h⟩ := hv.one
              obtain ⟨l, ws, rfl, hs, r⟩ := h.lst g1.ex
              rw [intsD_eq q4] at r
              have e := r.ints
              subst e
              exact fin l ns rfl (.inl (SqL.of hs)) h64 (Option.some.inj q3).symm
            · rw [if_neg h64] at q3
              cases q3
        · rename_i xs
          cases q4 : intsD xs with
          | none => simp [q4] at q3
          | some ns =>
            simp only [q4] at q3
            by_cases h64 : ns.length < 64
            · rw [if_pos h64] at q3
              obtain ⟨v, rfl, h⟩ := hv.one
              obtain ⟨l, ws, rfl, hs, r, _⟩ := h.tup g1.ex
              rw [intsD_eq q4] at r
              have e := r.ints
              subst e
              exact fin l ns rfl (.inr hs) h64 (Option.some.inj q3).symm
            · rw [if_neg h64] at q3
              cases q3
        · cases q3
@[simp] theorem fgSS_l (ns : List Int) : fgSS [.lst (ns.map .int)] = if ns.length < 64 then some (.lst ((srtS ns).map .int)) else none := by
  unfold fgSS
  simp only [intsD_map]
@[simp] theorem fgSS_t (ns : List Int) : fgSS [.tup (ns.map .int)] = if ns.length < 64 then some (.lst ((srtS ns).map .int)) else none := by
  unfold fgSS
  simp only [intsD_map]
/-! ### sorted(l), l a list of ints -/
def insI (k : Int) : List Int → List Int
  | [] => [k]
  | a :: r => if k ≤ a then k :: a :: r else a :: insI k r
def srtI : List Int → List Int
  | [] => []
  | a :: r => insI a (srtI r)
theorem insI_perm (k : Int) : ∀ l : List Int, (insI k l).Perm (k :: l)
  | [] => .refl _
  | a :: r => by
    unfold insI
    split
    · exact .refl _
    · exact ((insI_perm k r).cons a).trans (.swap k a r)
theorem srtI_perm : ∀ l : List Int, (srtI l).Perm l
  | [] => .refl _
  | a :: r => (insI_perm a _).trans ((srtI_perm r).cons a)
theorem insI_pw (k : Int) : ∀ l : List Int, l.Pairwise (· ≤ ·) → (insI k l).Pairwise (· ≤ ·)
  | [], _ => by simp [insI]
  | a :: r, h => by
    unfold insI
    rw [List.pairwise_cons] at h
    split
    · rename_i hk
      rw [List.pairwise_cons]
      refine ⟨fun j hj => ?_, List.pairwise_cons.2 h⟩
      rcases List.mem_cons.1 hj with rfl | hj
      · exact hk
      · exact Int.le_trans hk (h.1 j hj)
    · rw [List.pairwise_cons]
      refine ⟨fun j hj => ?_, insI_pw k r h.2⟩
      rcases List.mem_cons.1 ((insI_perm k r).mem_iff.1 hj) with rfl | hj
      · omega
      · exact h.1 j hj
theorem srtI_pw : ∀ l : List Int, (srtI l).Pairwise (· ≤ ·)
  | [] => List.Pairwise.nil
  | a :: r => insI_pw a _ (srtI_pw r)
theorem le_ext {l m : List Int} (h : l.Perm m) (h1 : l.Pairwise (· ≤ ·)) (h2 : m.Pairwise (· ≤ ·)) : l = m :=
  h.eq_of_pairwise (fun a b _ _ => Int.le_antisymm) h1 h2
def fgSI : List D → Option SO := fun ds => match ds with
  | [.lst xs] => match intsD xs with
    | some ns => some (.lst ((srtI ns).map .int))
    | none => none
  | _ => none
theorem cf_sortI : CaF X cl (.builtin "sorted") fgSI := by
  refine ⟨_, cr_sortedI, fun I H vs ds o Q ex hv hg k => ?_⟩
  unfold fgSI at hg
  split at hg
  · rename_i xs
    cases q : intsD xs with
    | none => simp [q] at hg
    | some ns =>
      simp only [q, Option.some.injEq] at hg
      subst hg
      obtain ⟨v, rfl, h⟩ := hv.one
      obtain ⟨a, ws, rfl, hs, r⟩ := h.lst ex
      rw [intsD_eq q] at r
      have e := r.ints
      subst e
      refine ⟨a, ns, rfl, SqL.of hs, fun ns' p hpm hpw hp => ?_⟩
      have e2 : ns' = srtI ns := le_ext (hpm.trans (srtI_perm ns).symm) hpw (srtI_pw ns)
      subst e2
      exact k p _ I _ (Al.newH ex hp) (ex.free hp) hp upd_same (.lst (RpA.ofInts _))
  · cases hg
@[simp] theorem fgSI_l (ns : List Int) : fgSI [.lst (ns.map .int)] = some (.lst ((srtI ns).map .int)) := by
  unfold fgSI
  simp only [intsD_map]
/-! ### methods of a list that is only read: l.index(x), l.count(x) -/
def eMv (g : List D → List D → Option D) (m : Xp) (ms : Xa) : Xp := fun env => match m env with
  | none => none
  | some (r, e1) => match vw e1 r with
    | some (.lst _) => match ms e1 with
      | none => none
      | some (rs, e2) => match vw e2 r, vwL e2 rs with
        | some (.lst xs), some ds => match g xs ds with
          | some z => some (.d z, e2)
          | none => none
        | _, _ => none
    | _ => none
@[simp] theorem eMv_s (g : List D → List D → Option D) (m : Xp) (ms : Xa) (env : MEnv) : eMv g m ms env = match m env with
  | none => none
  | some (r, e1) => match vw e1 r with
    | some (.lst _) => match ms e1 with
      | none => none
      | some (rs, e2) => match vw e2 r, vwL e2 rs with
        | some (.lst xs), some ds => match g xs ds with
          | some z => some (.d z, e2)
          | none => none
        | _, _ => none
    | _ => none := (rfl)
def MvL (X : Cx) (cl : ClM) (r : V → List V → Hp → VK → Prop) (g : List D → List D → Option D) : Prop := ∀ (I H : Hp) (v : V) (ws : List V) (xs ds : List D) (z : D) (Q : VK), Same I H → Vw X.K cl I H v (.lst xs) → VwA X.K cl I H ws ds → g xs ds = some z →
  (∀ u I' H', Al I H I' H' → Rp X.K cl I' u z → Q u H') → r v ws H Q
theorem me_mv {e o : Expr} {es : List Expr} {m : Xp} {ms : Xa} {g : List D → List D → Option D} {r : V → List V → Hp → VK → Prop} (hr : MvL X cl r g) (ho : ME X cl o m) (hm : MA X cl es ms)
    (hp : ∀ to t, PE X o to → PA X es t → PE X e (tBM X.K "list" r to t)) : ME X cl e (eMv g m ms) := by
  obtain ⟨to, po, ko⟩ := ho
  obtain ⟨t, p, k⟩ := hm
  refine ⟨_, hp to t po p, fun σ H I env r' env' Q gd hme kk => ?_⟩
  unfold eMv at hme
  cases q : m env with
  | none => simp [q] at hme
  | some pr =>
    obtain ⟨r1, e1⟩ := pr
    simp only [q] at hme
    split at hme
    · rename_i xs0 q2
      cases q3 : ms e1 with
      | none => simp [q3] at hme
      | some pr3 =>
        obtain ⟨rs, e2⟩ := pr3
        simp only [q3] at hme
        split at hme
        · rename_i xs ds q4 q5
          cases q6 : g xs ds with
          | none => simp [q6] at hme
          | some z =>
            simp only [q6, Option.some.injEq, Prod.mk.injEq] at hme
            obtain ⟨rfl, rfl⟩ := hme
            refine ko σ H I env r1 e1 _ gd q fun v I1 H1 g1 t1 rv => ?_
            obtain ⟨a, ws, rfl, hs, _⟩ := (vw_ok g1 rv q2).lst g1.ex
            refine ⟨.inl ⟨rfl, _, SqL.of hs⟩, ?_⟩
            refine k σ H1 I1 e1 rs e2 _ g1 q3 fun us I2 H2 g2 t2 r2 => ?_
            exact hr I2 H2 _ us xs ds z Q g2.ex (vw_ok g2 (rv.mono t2.ext) q4) (vwL_ok g2 r2 q5) q6 fun u I3 H3 al ru => kk u I3 H3 (g2.al al) ((t1.trans t2).trans al.tr) ru
        · cases hme
    · cases hme
def gIndex : List D → List D → Option D := fun xs ds => match ds with
  | [d] => if shD (.lst xs) && shD d then match xs.findIdx? (fun z => eqD z d) with
    | some j => some (.int (j : Nat))
    | none => none
    else none
  | _ => none
theorem pyDs_get : ∀ (xs : List D) (i : Nat), (pyDs xs)[i]? = (xs[i]?).map pyD
  | [], i => by simp [pyDs]
  | x :: xs, 0 => by simp [pyDs]
  | x :: xs, i + 1 => by
    have := pyDs_get xs i
    simpa [pyDs] using this
theorem layDs_get : ∀ {xs : List D} {i : Nat} {x : D}, layDs xs = true → xs[i]? = some x → layD x = true
  | x :: xs, 0, y, h, e => by
    simp only [layDs, Bool.and_eq_true] at h
    simp only [List.getElem?_cons_zero, Option.some.injEq] at e
    subst e
    exact h.1
  | x :: xs, i + 1, y, h, e => by
    simp only [layDs, Bool.and_eq_true] at h
    exact layDs_get (i := i) h.2 (by simpa using e)
theorem mv_index (hu : X.A.units + 65 < cLine) : MvL X cl (rIndexD X.K) gIndex := by
  intro I H v ws xs ds z Q ex hv hws hg k
  unfold gIndex at hg
  split at hg
  · rename_i d
    by_cases hc : (shD (.lst xs) && shD d) = true
    · rw [if_pos hc] at hg
      rw [Bool.and_eq_true] at hc
      split at hg
      · rename_i j q
        cases Option.some.inj hg
        obtain ⟨y, rfl, hy⟩ := hws.one
        obtain ⟨a, vs, rfl, _, _⟩ := hv.lst ex
        obtain ⟨hj, h1, h2⟩ := List.findIdx?_eq_some_iff_getElem.1 q
        have hl : layDs xs = true := by
          have := lay_sh hc.1
          simpa only [layD] using this
        refine ⟨a, y, pyD d, pyDs xs, j, pyD xs[j], rfl, rfl, ?_, hy.dp ex (lay_sh hc.2), ?_, sh_py hc.2, ?_, ?_, fun m z' hm hz => ?_, k _ I H (Al.refl ex) (.int _)⟩
        · have := hv.dp ex (lay_sh hc.1)
          simpa only [pyD] using this
        · have := sh_py hc.1
          simpa only [pyD] using this
        · rw [pyDs_get, List.getElem?_eq_getElem hj]
          rfl
        · rw [eq_py xs[j] d (layDs_get hl (List.getElem?_eq_getElem hj)) (lay_sh hc.2)]
          exact h1
        · rw [pyDs_get] at hz
          have hml : m < xs.length := by omega
          rw [List.getElem?_eq_getElem hml] at hz
          cases Option.some.inj hz
          rw [eq_py xs[m] d (layDs_get hl (List.getElem?_eq_getElem hml)) (lay_sh hc.2)]
          have := h2 m hm
          simpa using this
      · cases hg
    · rw [if_neg hc] at hg
      cases hg
  · cases hg
def gCount : List D → List D → Option D := fun xs ds => match ds, intsD xs with
  | [.int k], some ns => some (.int (ns.count k : Nat))
  | _, _ => none
theorem mv_count : MvL X cl (rCntI X.K) gCount := by
  intro I H v ws xs ds z Q ex hv hws hg k
  unfold gCount at hg
  split at hg
  · rename_i d ns q
    cases Option.some.inj hg
    obtain ⟨y, rfl, hy⟩ := hws.one
    cases hy.int
    obtain ⟨a, vs, rfl, hs, r⟩ := hv.lst ex
    rw [intsD_eq q] at r
    have e := r.ints
    subst e
    exact ⟨a, ns, _, rfl, rfl, SqL.of hs, k _ I H (Al.refl ex) (.int _)⟩
  · cases hg
/-! ### l[a::-1] -/
def pickN {α : Type} (xs : List α) (lo : Option Int) : List α :=
  (sliceRange (sliceBounds lo none (some (-1)) xs.length).1 (sliceBounds lo none (some (-1)) xs.length).2.1 (sliceBounds lo none (some (-1)) xs.length).2.2).filterMap (xs[·]?)
theorem vals_pick {xs : List V} {us : List Value} (h : Vals xs us) : ∀ js : List Nat, Vals (js.filterMap (xs[·]?)) (js.filterMap (us[·]?))
  | [] => .nil
  | j :: js => by
    have ih := vals_pick h js
    rw [List.filterMap_cons, List.filterMap_cons]
    by_cases hj : j < xs.length
    · have hj2 : j < us.length := by rw [← h.length]; exact hj
      obtain ⟨u, e, r⟩ := h.get (List.getElem?_eq_getElem hj)
      rw [List.getElem?_eq_getElem hj, e]
      exact .cons r ih
    · have hj2 : ¬ j < us.length := by rw [← h.length]; exact hj
      rw [List.getElem?_eq_none (by omega), List.getElem?_eq_none (by omega)]
      exact ih
theorem rpa_pick {K : PySem.W.Frag} {I : Hp} {vs : List V} {ds : List D} (h : RpA K cl I vs ds) : ∀ js : List Nat, RpA K cl I (js.filterMap (vs[·]?)) (js.filterMap (ds[·]?))
  | [] => .nil
  | j :: js => by
    have ih := rpa_pick h js
    rw [List.filterMap_cons, List.filterMap_cons]
    by_cases hj : j < ds.length
    · obtain ⟨u, e, r⟩ := h.get (List.getElem?_eq_getElem hj)
      rw [List.getElem?_eq_getElem hj, e]
      exact .cons r ih
    · have hj2 : ¬ j < vs.length := by rw [h.length]; exact hj
      rw [List.getElem?_eq_none (by omega), List.getElem?_eq_none (by omega)]
      exact ih
theorem slicePick_N (items : List Value) (lo : Option Int) : slicePick items.toArray lo none (some (-1)) = (pickN items lo).toArray := by
  unfold slicePick pickN
  simp
theorem pickN_le {α : Type} (xs : List α) (lo : Option Int) : (pickN xs lo).length ≤ xs.length := by
  unfold pickN
  refine Nat.le_trans (List.length_filterMap_le _ _) ?_
  refine sliceRange_length_le _ _ _ _ (fun h => ?_) (fun _ => ?_)
  · have : ¬ ((-1 : Int) > 0) := by decide
    exact absurd h this
  · unfold sliceBounds
    cases lo with
    | none => simp
    | some a =>
      simp
      omega
def tSlN (K : PySem.W.Frag) (te : TE) (tl : TO) : TE := fun σ H Q => te σ H fun x H1 => tl σ H1 fun l H2 => ∃ a xs, x = .ref a ∧ SqL K H2 a xs ∧ ∀ p, H2 p = none → Q (.ref p) (upd H2 p (.lst (pickN xs l)))
theorem pe_slN {e lo : Expr} {te : TE} {tl : TO} {k : Nat} {p1 p2 p3 pos : Pos} (he : PE X e te) (hl : PO X (some lo) tl) : PE X (.Subscript e (.Slice (some lo) none (some (.UnaryOp .USub (.Constant (.int 1) k p1) p2)) p3) pos) (tSlN X.K te tl) := by
  refine ⟨fun pins s σ H Q I h => ?_⟩
  refine Subscript_ (thn (he.run pins s σ H _ I h) fun v s1 ⟨x, H1, I1, r1, q1⟩ => ?_)
  have hst : PO X (some (.UnaryOp .USub (.Constant (.int 1) k p1) p2)) (tPart (tUn (rU fun i => .int (-i)) (tC (.int 1)))) := po_some (pe_un un_neg pe_int)
  refine wpAny_Slice (thn (hl.run pins s1 σ H1 _ I1 q1) fun vl s2 ⟨l, H2, I2, pl, q2⟩ => ?_)
  obtain ⟨a, xs, ex, hx, q⟩ := q2
  subst ex
  cases r1
  refine thn (po_none.run pins s2 σ H2 (fun o H3 => o = none ∧ H3 = H2) I2 ⟨rfl, rfl⟩) fun vu s3 ⟨u, H3, I3, pu, eu, e3⟩ => ?_
  subst eu e3
  refine thn (hst.run pins s3 σ H3 (fun o H4 => o = some (-1) ∧ H4 = H3) I3 ⟨1, rfl, -1, rfl, rfl, rfl⟩) fun vs s4 ⟨o, H4, I4, ps, eo, e4⟩ => ?_
  subst eo e4
  have I5 : Inv X pins σ H4 { s4 with heap := s4.heap.push { cls := .type "slice", data := .fields #[vl, vu, vs] } } := I4.kept (t' := s4.toks) fun b ob q => Heap.get?_push_of_some _ q
  obtain ⟨its, r, ht, hz⟩ := I5.list hx
  have hlen := r.length
  refine tail_any (ops := [.ref a, .ref s4.heap.objs.size]) ht.isList.typeIs (PySem.slot_list_getitem.lookup) ?_ (by with_unfolding_all rfl)
  refine wpAny_getItem_list_slice ht.isList (Heap.IsSliceOf.new _ vl vu vs) pl pu ps (by decide) ?_ (by rw [List.size_toArray]; omega)
  rw [slicePick_N]
  refine ⟨.ref _, _, I5.laid (t' := s4.toks) (o := .lst (pickN xs l)) (fun b ob q => Heap.get?_push_of_some _ q) (Nat.le_refl _) ?_, rfl, q _ (I5.hok.fresh (Nat.le_refl _))⟩
  refine ⟨Nat.le_trans (pickN_le xs l) hz, pickN its l, 0, ?_, Heap.get?_push_size _ rfl⟩
  unfold pickN
  rw [hlen]
  exact vals_pick r _
def fSlN (m : Xp) (ml : Xo) : Xf := fun env => match m env with
  | none => none
  | some (r, e1) => match ml e1 with
    | none => none
    | some (lo, e2) => match vw e2 r with
      | some (.lst xs) => some (.lst (pickN xs lo), e2)
      | _ => none
@[simp] theorem fSlN_s (m : Xp) (ml : Xo) (env : MEnv) : fSlN m ml env = match m env with
  | none => none
  | some (r, e1) => match ml e1 with
    | none => none
    | some (lo, e2) => match vw e2 r with
      | some (.lst xs) => some (.lst (pickN xs lo), e2)
      | _ => none := (rfl)
theorem mf_slN {a lo : Expr} {m : Xp} {ml : Xo} {k : Nat} {p1 p2 p3 pos : Pos} (h : ME X cl a m) (hl : MO X cl (some lo) ml) : MF X cl (.Subscript a (.Slice (some lo) none (some (.UnaryOp .USub (.Constant (.int 1) k p1) p2)) p3) pos) (fSlN m ml) := by
  obtain ⟨t, p, k1⟩ := h
  obtain ⟨tl, pl, kl⟩ := hl
  refine ⟨_, pe_slN p pl, fun σ H I env r env' Q g hm kk => ?_⟩
  unfold fSlN at hm
  cases q : m env with
  | none => simp [q] at hm
  | some pr =>
    obtain ⟨r1, e1⟩ := pr
    simp only [q] at hm
    cases q2 : ml e1 with
    | none => simp [q2] at hm
    | some pr2 =>
      obtain ⟨lo', e2⟩ := pr2
      simp only [q2] at hm
      cases q4 : vw e2 r1 with
      | none => simp [q4] at hm
      | some d =>
        cases d with
        | lst xs =>
          simp only [q4, Option.some.injEq, Prod.mk.injEq] at hm
          obtain ⟨rfl, rfl⟩ := hm
          refine k1 σ H I env r1 e1 _ g q fun v I1 H1 g1 t1 rv => ?_
          refine kl σ H1 I1 e1 lo' e2 _ g1 q2 fun I2 H2 g2 t2 => ?_
          have t12 := t1.trans t2
          obtain ⟨a, vs, rfl, hs, rr⟩ := (vw_ok g2 (rv.mono t2.ext) q4).lst g2.ex
          refine ⟨a, vs, rfl, SqL.of hs, fun b hb => ?_⟩
          have al : Al I2 H2 I2 (upd H2 b (.lst (pickN vs lo'))) := Al.newH g2.ex hb
          refine kk b _ _ _ (g2.al al) (t12.trans al.tr) (g2.ex.free hb) upd_same (.lst ?_) (t12.back (.inr hb)) (nf_fresh g2 hb)
          unfold pickN
          rw [rr.length]
          exact rpa_pick rr _
        | _ => simp [q4] at hm
end
end MP
set_option Elab.async false
set_option linter.all false
set_option maxRecDepth 100000
set_option maxHeartbeats 4000000
namespace MP
open PySem PySem.Spec PyProof.Rows L2
section
variable {X : Cx} {cl : ClM}
/-! ### l.extend(m), l.insert(i, x): l a slot's own list -/
def MtLs (X : Cx) (cl : ClM) (r : V → List V → Hp → VK → Prop) (g : gMt) : Prop := ∀ (I H : Hp) (p : Addr) (vs ws : List V) (xs args : List D) (res : D) (xs' : List D) (Q : VK), Same I H → I p = none → H p = some (.lst vs) → RpA X.K cl I vs xs → RpA X.K cl I ws args → g xs args = some (res, xs') →
  (∀ v vs', Rp X.K cl I v res → RpA X.K cl I vs' xs' → Q v (upd H p (.lst vs'))) → r (.ref p) ws H Q
theorem me_mts {e : Expr} {es : List Expr} {i : Nat} {g : gMt} {ms : Xa} {r : V → List V → Hp → VK → Prop} (hr : MtLs X cl r g) (hm : MA X cl es ms) (hp : ∀ t, PA X es t → PE X e (tBM X.K "list" r (tVar i) t)) : ME X cl e (eMt g i ms) := by
  obtain ⟨t, p, k⟩ := hm
  refine ⟨_, hp t p, fun σ H I env r' env' Q gd hme kk => ?_⟩
  unfold eMt at hme
  cases q0 : ownL env i with
  | none => simp [q0] at hme
  | some xs0 =>
    simp only [q0] at hme
    cases q : ms env with
    | none => simp [q] at hme
    | some pr =>
      obtain ⟨rs, e1⟩ := pr
      simp only [q] at hme
      cases q2 : escL e1 rs with
      | none => simp [q2] at hme
      | some pr2 =>
        obtain ⟨args, e2⟩ := pr2
        simp only [q2] at hme
        cases q3 : ownL e2 i with
        | none => simp [q3] at hme
        | some xs =>
          simp only [q3] at hme
          cases q4 : g xs args with
          | none => simp [q4] at hme
          | some pr4 =>
            obtain ⟨res, xs'⟩ := pr4
            simp only [q4, Option.some.injEq, Prod.mk.injEq] at hme
            obtain ⟨rfl, rfl⟩ := hme
            have w0 := ownL_eq q0
            have hil : i < σ.length := by
              rw [gd.len]
              exact (List.getElem?_eq_some_iff.mp w0).1
            obtain ⟨ov, hov⟩ : ∃ ov, σ[i]? = some ov := ⟨σ[i], List.getElem?_eq_getElem hil⟩
            obtain ⟨a, ho, ea, ia, ha, so⟩ := gd.ok i _ ov w0 hov
            subst ea
            cases so with
            | lst r0 =>
              refine ⟨.ref a, hov, .inl ⟨rfl, _, SqL.of ha⟩, ?_⟩
              refine k σ H I env rs e1 _ gd q fun ws I1 H1 g1 t1 r1 => ?_
              obtain ⟨I2, g2, t2, r2⟩ := escL_ok g1 r1 q2
              have w3 := ownL_eq q3
              obtain ⟨a', ho', ea', ia', ha', so'⟩ := g2.ok i _ _ w3 hov
              cases ea'
              cases so' with
              | lst r3 =>
                refine hr I2 H1 a _ ws xs args res xs' Q g2.ex ia' ha' r3 r2 q4 fun v vs' rv rvs => ?_
                obtain ⟨g4, t4⟩ := own_upd (o' := .lst xs') g2 w3 hov (.lst rvs)
                exact kk v I2 _ g4 ((t1.trans t2).trans t4) rv
def gExtend : gMt := fun xs args => match args with
  | [.lst ys] => if xs.length + ys.length ≤ 16777216 then some (.non, xs ++ ys) else none
  | _ => none
@[simp] theorem gExtend_l (xs ys : List D) : gExtend xs [.lst ys] = if xs.length + ys.length ≤ 16777216 then some (.non, xs ++ ys) else none := (rfl)
theorem ml_extend : MtLs X cl rExtend gExtend := by
  intro I H p vs ws xs args res xs' Q ex ip hp r ra hg k
  unfold gExtend at hg
  split at hg
  · rename_i ys
    split at hg
    · rename_i hlt
      simp only [Option.some.injEq, Prod.mk.injEq] at hg
      obtain ⟨rfl, rfl⟩ := hg
      cases ra with
      | cons h t =>
        cases t
        cases h with
        | lst hb rb =>
          refine ⟨p, _, vs, _, rfl, rfl, hp, ex _ _ hb, ?_, k _ _ .non (r.append rb)⟩
          rw [r.length, rb.length]
          exact Nat.le_trans hlt (by decide)
    · cases hg
  · cases hg
def rInsert : V → List V → Hp → VK → Prop := fun x vs H Q => ∃ (l : Addr) (xs : List V) (i : Int) (y : V), x = .ref l ∧ vs = [.int i, y] ∧ H l = some (.lst xs) ∧ xs.length < sizeLine ∧ 0 ≤ i ∧ i < 2 ^ 63 ∧
    Q .non (upd H l (.lst (xs.take i.toNat ++ [y] ++ xs.drop i.toNat)))
def gInsert : gMt := fun xs args => match args with
  | [.int i, y] => if okK i && decide (0 ≤ i) && decide (xs.length < 16777216) then some (.non, xs.take i.toNat ++ [y] ++ xs.drop i.toNat) else none
  | _ => none
@[simp] theorem gInsert_i (xs : List D) (i : Int) (y : D) : gInsert xs [.int i, y] = if okK i && decide (0 ≤ i) && decide (xs.length < 16777216) then some (.non, xs.take i.toNat ++ [y] ++ xs.drop i.toNat) else none := (rfl)
theorem ml_insert : MtLs X cl rInsert gInsert := by
  intro I H p vs ws xs args res xs' Q ex ip hp r ra hg k
  unfold gInsert at hg
  split at hg
  · rename_i i y
    split at hg
    · rename_i hc
      simp only [Bool.and_eq_true, decide_eq_true_eq] at hc
      simp only [Option.some.injEq, Prod.mk.injEq] at hg
      obtain ⟨rfl, rfl⟩ := hg
      cases ra with
      | cons h t =>
        cases t with
        | cons h2 t =>
          cases t
          cases h
          refine ⟨p, vs, i, _, rfl, rfl, hp, ?_, hc.1.2, (okK_ok hc.1.1).2, k _ _ .non (((r.take _).append (.cons h2 .nil)).append (r.drop _))⟩
          rw [r.length]
          exact Nat.lt_of_lt_of_le hc.2 (by decide)
    · cases hg
  · cases hg
end
section
variable {X : Cx} {cl : ClM} {e : Expr} {es : List Expr} {ms : Xa} {np : Nat} {R : Nat → Bool} {f : Fn}
/-! ### a call whose arguments stay the caller's own; the answer is a new list of plain things -/
def eCallL (f : Fn) (ms : Xa) : Xp := fun env => match ms env with
  | none => none
  | some (rs, e1) => match vwL e1 rs with
    | none => none
    | some ds => match f (ds.map .val) with
      | some (.o (.lst xs), _) => if flatDs xs then some (.d (.lst xs), e1) else none
      | _ => none
open Classical in
theorem me_callL (hm : MA X cl es ms) (hp : ∀ t, PA X es t → PE X e (tCall (spG X.K cl np R f) [] E0 t)) (hnp : ∀ env rs e1, ms env = some (rs, e1) → rs.length = np) : ME X cl e (eCallL f ms) := by
  obtain ⟨t, p, kk⟩ := hm
  refine ⟨_, hp t p, fun σ H I env r env' Q g hme k' => ?_⟩
  unfold eCallL at hme
  cases q1 : ms env with
  | none => simp [q1] at hme
  | some p1 =>
    obtain ⟨rs, e1⟩ := p1
    simp only [q1] at hme
    cases q2 : vwL e1 rs with
    | none => simp [q2] at hme
    | some ds =>
      simp only [q2] at hme
      cases q3 : f (ds.map .val) with
      | none => simp [q3] at hme
      | some p3 =>
        obtain ⟨rv, outs⟩ := p3
        cases rv with
        | d d => simp [q3] at hme
        | o o =>
          cases o with
          | dct t kv => simp [q3] at hme
          | ins c fs => simp [q3] at hme
          | lst xs =>
          simp only [q3] at hme
          by_cases hf : flatDs xs = true
          · rw [if_pos hf] at hme
            simp only [Option.some.injEq, Prod.mk.injEq] at hme
            obtain ⟨rfl, rfl⟩ := hme
            refine kk σ H I env rs e1 _ g q1 fun vs I1 H1 g1 t1 r1 => ?_
            have own : ∀ p, Fp σ e1 p → I1 p = none ∧ ∃ ho o, H1 p = some ho ∧ SoOk X.K cl I1 p ho o := fun p ⟨j, o, h1, h2⟩ => by
              obtain ⟨p', ho, ep, ip, hp', so⟩ := g1.ok j _ _ h1 h2
              cases ep
              exact ⟨ip, ho, o, hp', so⟩
            have sI : Same I1 (frzAll σ e1 I1 H1) := fun b u hb => by
              have : ¬ Fp σ e1 b := fun z => by
                rw [(own b z).1] at hb
                cases hb
              unfold frzAll
              rw [if_neg this]
              exact hb
            have sH : Same (frzAll σ e1 I1 H1) H1 := fun b u hb => by
              unfold frzAll at hb
              by_cases z : Fp σ e1 b
              · rw [if_pos z] at hb
                exact hb
              · rw [if_neg z] at hb
                exact g1.ex b u hb
            have one : ∀ (v : V) (r : Rv) (d : D), RvOk X.K cl I1 σ v r → vw e1 r = some d → Rp X.K cl (frzAll σ e1 I1 H1) v d := fun v r d h q => by
              cases r with
              | d d1 =>
                cases Option.some.inj q
                exact Rp.mono sI h
              | sl j =>
                have hσ : σ[j]? = some (some v) := h
                unfold vw at q
                cases q6 : e1[j]? with
                | none => simp [q6] at q
                | some s =>
                  cases s with
                  | none => simp [q6] at q
                  | val d2 =>
                    simp [q6] at q
                    subst q
                    obtain ⟨v2, e2, r2⟩ := g1.ok j _ _ q6 hσ
                    cases e2
                    exact r2.mono sI
                  | own o2 =>
                    simp [q6] at q
                    subst q
                    obtain ⟨p, ho, e2, ip, hp', so⟩ := g1.ok j _ _ q6 hσ
                    cases e2
                    have z : Fp σ e1 p := ⟨j, o2, q6, hσ⟩
                    have h1 : (frzAll σ e1 I1 H1) p = some ho := by
                      unfold frzAll
                      rw [if_pos z]
                      exact hp'
                    have s2 : Same (upd I1 p ho) (frzAll σ e1 I1 H1) := fun b u hb => by
                      by_cases w : b = p
                      · subst w
                        rw [upd_same] at hb
                        cases hb
                        exact h1
                      · rw [upd_ne w] at hb
                        exact sI b u hb
                    exact (so.frz ip).mono s2
            have all : ∀ {vs : List V} {rs : List Rv} {ds : List D}, RvA X.K cl I1 σ vs rs → vwL e1 rs = some ds → RpA X.K cl (frzAll σ e1 I1 H1) vs ds := by
              intro vs rs
              induction rs generalizing vs with
              | nil =>
                intro ds ra e
                cases ra
                cases Option.some.inj e
                exact .nil
              | cons r rs ih =>
                intro ds ra e
                cases ra with
                | cons h t =>
                  unfold vwL at e
                  cases q : vw e1 r with
                  | none => simp [q] at e
                  | some d0 =>
                    cases q5 : vwL e1 rs with
                    | none => simp [q, q5] at e
                    | some ds' =>
                      simp only [q, q5, Option.some.injEq] at e
                      subst e
                      exact .cons (one _ _ _ h q) (ih t q5)
            obtain ⟨ga, fa⟩ := RpA.ofSlots sH (all r1 q2)
            show spG X.K cl np R f (vs ++ []) H1 Q E0
            rw [List.append_nil]
            refine ⟨by rw [r1.length]; exact hnp _ _ _ q1, frzAll σ e1 I1 H1, ds.map .val, .o (.lst xs), outs, ga, fun i o h => ?_, q3, fun v I3 H3 g3 t3 rk => ?_⟩
            · exfalso
              rw [List.getElem?_map] at h
              cases q : ds[i]? with
              | none => rw [q] at h; cases h
              | some d => rw [q] at h; cases h
            · have keep : ∀ p u, H1 p = some u → H3 p = some u := fun p u h => t3.frame p u h (fa p)
              have shape : ∀ p, Fp σ e1 p → ∃ ho o, H3 p = some ho ∧ SoOk X.K cl I1 p ho o := fun p z => by
                obtain ⟨_, ho, o, h, so⟩ := own p z
                exact ⟨ho, o, keep p ho h, so⟩
              have n1 : ∀ p xs, Fp σ e1 p → I3 p ≠ some (.tup xs) := fun p xs z h => by
                obtain ⟨ho, o, h3, so⟩ := shape p z
                rw [g3.ex p _ h] at h3
                cases h3
                cases so
              have n2 : ∀ p o xs, Fp σ e1 p → I3 p ≠ some (.frz o (.tup xs)) := fun p o xs z h => by
                obtain ⟨ho, o, h3, so⟩ := shape p z
                rw [g3.ex p _ h] at h3
                cases h3
                cases so
              have s13 : Same I1 (MP.thaw σ e1 I3) := fun b u hb => by
                have nb : ¬ Fp σ e1 b := fun z => by
                  rw [(own b z).1] at hb
                  cases hb
                unfold MP.thaw
                rw [if_neg nb]
                exact t3.ext b u (sI b u hb)
              obtain ⟨pa, ho, rfl, ia, ha, so, hfr, _⟩ := rk
              have hn1 : H1 pa = none := hfr.resolve_left (fa pa)
              have nfp : ¬ Fp σ e1 pa := fun z => by
                obtain ⟨_, ho2, _, h, _⟩ := own pa z
                rw [hn1] at h
                cases h
              have iT : (MP.thaw σ e1 I3) pa = none := by
                unfold MP.thaw
                rw [if_neg nfp]
                exact ia
              have gT : Gd X.K cl (MP.thaw σ e1 I3) H3 σ e1 := by
                refine ⟨fun b u hb => ?_, g1.len, fun i s ov h1 h2 => ?_, g1.inj⟩
                · unfold MP.thaw at hb
                  by_cases z : Fp σ e1 b
                  · rw [if_pos z] at hb
                    cases hb
                  · rw [if_neg z] at hb
                    exact g3.ex b u hb
                · have ok := g1.ok i s ov h1 h2
                  cases s with
                  | none => trivial
                  | val d2 =>
                    obtain ⟨v2, e2, r2⟩ := ok
                    exact ⟨v2, e2, r2.mono s13⟩
                  | own o2 =>
                    obtain ⟨p, ho, e2, ip, hp', so⟩ := ok
                    subst e2
                    have z : Fp σ e1 p := ⟨i, o2, h1, h2⟩
                    refine ⟨p, ho, rfl, ?_, keep p ho hp', so.mono s13⟩
                    unfold MP.thaw
                    rw [if_pos z]
              have tT : Tr (Fp σ e1) I1 H1 (Fp σ e1) (MP.thaw σ e1 I3) H3 := by
                refine ⟨s13, fun p o h _ => keep p o h, fun p hp nf hi => ?_, fun p h => .inl h, t3.dom⟩
                unfold MP.thaw
                rw [if_neg nf]
                refine t3.nofr p hp (fa p) ?_
                unfold frzAll
                rw [if_neg nf]
                exact hi
              have soT : SoOk X.K cl (MP.thaw σ e1 I3) pa ho (.lst xs) := by
                cases so with
                | lst r => exact .lst (RpA.thaw n1 n2 hf r)
              exact k' (.ref pa) _ H3 (gT.frz iT ha nfp) ((t1.trans tT).frzN (t1.back (.inr hn1)) iT) (soT.frz iT)
          · rw [if_neg hf] at hme
            cases hme
end
end MP
set_option Elab.async false
set_option linter.all false
set_option maxRecDepth 100000
set_option maxHeartbeats 4000000
namespace MP
open PySem PySem.Spec PyProof.Rows L2 PpSet
/-! ### comprehensions that make sets of ints: one clause, two clauses -/
section
variable {X : Cx}
theorem addI_ok {pins : List (Addr × Obj)} {σ : L2.St} {H : Hp} {s : Shared} {E : Value → Shared → Prop} {D : Addr} {S : Int → Bool} {n : Nat} {y : Int} {tk : Tok} {Q : Value → Shared → Prop} (I : Inv X pins σ H s) (hD : H D = some (SetO X.w D S n)) (room : n + 1 < scanBound)
    (h : ∀ s', Inv X pins σ (upd H D (SetO X.w D (fun j => S j || decide (j = y)) (if S y = true then n else n + 1))) s' → Q .none s') : wpAny (model X.prog X.w) X.A (call (.builtin "set.add") [.ref D, .int y tk]) Q E s :=
  setR_add (setO_get I hD) room fun h' sb new => by
    have he : ∃ u, h'.get? D = some u := by
      obtain ⟨o, _, _, _, ho, _⟩ := id new
      exact ⟨o, ho⟩
    exact h _ (I.write (e := D) (t' := s.toks + 1) (by rw [hD]; trivial) (.inl rfl) (fun b u hb hu => (sb.2 b hb).trans hu) he (setO_new new))
end
section
variable {X : Cx}
/-- {elt for target in iter if ..}, elt an int: D the new set -/
def tScI (w : World) (wi : TI) (g : TG) (tt : TT) (te : TE) (vs : List Nat) : TE := fun σ H Q => wi σ H fun J H1 => ∀ D, H1 D = none → ∃ W : Nat → Nat → Hp → Prop, (∃ m, W 0 m (upd H1 D (SetO w D (fun _ => false) 0))) ∧ ∀ i m H, W i m H →
  (J.stop i H ∧ Q (.ref D) H) ∨ (J.go i H ∧ ∃ Nx : Hp → Prop, (∀ H', Nx H' → ∃ m', m' < m ∧ W (i + 1) m' H') ∧ ∀ x H', J.yld i H x H' → g x (wipe σ vs) H' fun σ2 H2 => wipe σ2 vs = wipe σ vs ∧ tt σ2 H2 fun b H3 =>
    if b = true then te σ2 H3 fun y H4 => ∃ (c : Int) (S : Int → Bool) (n : Nat), y = .int c ∧ H4 D = some (SetO w D S n) ∧ n + 1 < scanBound ∧ Nx (upd H4 D (SetO w D (fun j => S j || decide (j = c)) (if S c = true then n else n + 1))) else Nx H3)
theorem scI_core {pins : List (Addr × Obj)} {s : Shared} {σ : L2.St} {H : Hp} {Q : VK} {elt tg iter : Expr} {ifs : List Expr} {scope : Scope} {own : List (PySem.Str × Nat)} {pos pos' : Pos} {wi : TI} {g : TG} {tt : TT} {te : TE} {use : Option (Value → Sem Unit)} {Qf : Value → Shared → Prop}
    (hc : X.calm = true) (hN : X.N.Nodup) (I : Inv X pins σ H s) (hi : PI X tg iter wi) (ok : BlkOk X.N X.env.scope scope own)
    (hg : ∀ (s : Shared) (H : Hp) (C : Addr) (cl : List (PySem.Str × Addr)) (fp : List Addr), PG (X.blk s H scope (compEnvC scope cl C X.env) fp) tg g) (ht : ∀ (s : Shared) (H : Hp) (C : Addr) (cl : List (PySem.Str × Addr)) (fp : List Addr), PTs (X.blk s H scope (compEnvC scope cl C X.env) fp) ifs tt)
    (he : ∀ (s : Shared) (H : Hp) (C : Addr) (cl : List (PySem.Str × Addr)) (fp : List Addr), PE (X.blk s H scope (compEnvC scope cl C X.env) fp) elt te) (hs : ∀ x, foldedSetIterable iter X.env x = pure x)
    (h : tScI X.w wi g tt te (own.map (·.2)) σ H Q)
    (hRR : ∀ D C s' m H', Inv X pins σ H' s' → Q (.ref D) H' → s'.heap.Ns C m → FpOk X pins H' C → compPost (model X.prog X.w) X.A X.xe use Qf (.ref D) C (.ok .next) s') :
    wpAny (model X.prog X.w) X.A (comprehension (.SetComp elt [⟨tg, iter, ifs, 0⟩] scope pos) scope X.env pos' (newSet (.type "set")) false (eval iter X.env) use) Qf X.xe s := by
  have hfree : ∀ y ∈ scope.names, y.2 = .free → ∃ c, X.env.cells.lookup y.1 = some c := fun y hy e => by
    rcases ok.free y hy e with k | k
    · exact I.ok.has _ (.inl k)
    · exact I.ok.has _ (.inr k)
  refine wpAny_comprehension_free (use := use) rfl hs (closure_ok hfree) ok.kind (fun y hy e => by rw [ok.uniq y hy, e])
    (thn (hi.run pins s σ H _ I h) fun xv s1 hx => thn hx fun itv s2 h2 => ?_)
  obtain ⟨it, fp, tn, J, H2, e, I2, T, st2, f2, q⟩ := h2
  subst e
  refine newSet_ok (newEnv_comp ?_)
  generalize hD : s2.heap.objs.size = D
  have hDn : H2 D = none := I2.hok.fresh (Nat.le_of_eq hD)
  obtain ⟨W, ⟨m0, w0⟩, turn⟩ := q D hDn
  -- the new list
  generalize hs3 : ({ s2 with heap := s2.heap.push { cls := .type "set", dict := none, data := .set #[] 0 (.fresh 0 0 (!X.w.params.followText "set-order")) } } : Shared) = s3
  have I3 : Inv X pins σ (upd H2 D (SetO X.w D (fun _ => false) 0)) s3 := by
    rw [← hs3]
    refine I2.laid (t' := s2.toks) (fun b o e => Heap.get?_push_of_some _ e) (Nat.le_of_eq hD) ?_
    rw [← hD]
    exact setO_new (setR_fresh X.w)
  have h3 : s3.heap = s2.heap.push { cls := .type "set", dict := none, data := .set #[] 0 (.fresh 0 0 (!X.w.params.followText "set-order")) } := by rw [← hs3]
  have sz : ∀ b ∈ fp, b < s2.heap.objs.size := fun b hb => by
    obtain ⟨o, e, _⟩ := T.obj _ _ st2 b hb
    exact Heap.lt_size e
  have f3 : ∀ b ∈ fp, FpOk X pins (upd H2 D (SetO X.w D (fun _ => false) 0)) b ∧ b < s3.heap.objs.size := fun b hb => by
    have hlt := sz b hb
    refine ⟨⟨?_, (f2 b hb).2⟩, by rw [h3, Heap.size_push]; exact Nat.lt_succ_of_lt hlt⟩
    rw [upd_ne (by rw [← hD]; exact Nat.ne_of_lt hlt)]
    exact (f2 b hb).1
  have st3 : tn 0 s3.heap := T.keep _ _ _ st2 fun b _ o e => by rw [h3]; exact Heap.get?_push_of_some _ e
  have I4 := block_start I3 ok hN f3
  have pg := hg s3 (upd H2 D (SetO X.w D (fun _ => false) 0)) s3.heap.objs.size (cellsFrom (s3.heap.objs.size + 1) scope.names (cloFrom X.env.cells scope.names [])) fp
  have pt := ht s3 (upd H2 D (SetO X.w D (fun _ => false) 0)) s3.heap.objs.size (cellsFrom (s3.heap.objs.size + 1) scope.names (cloFrom X.env.cells scope.names [])) fp
  have pe := he s3 (upd H2 D (SetO X.w D (fun _ => false) 0)) s3.heap.objs.size (cellsFrom (s3.heap.objs.size + 1) scope.names (cloFrom X.env.cells scope.names [])) fp
  show codeAny _ _ (.compStart (.SetComp elt [⟨tg, iter, ifs, 0⟩] scope pos) 0 (.ref it) (.ref D) (compEnvC scope (cellsFrom (s3.heap.objs.size + 1) scope.names (cloFrom X.env.cells scope.names [])) s3.heap.objs.size X.env)) (compPost (model X.prog X.w) X.A X.xe use Qf (.ref D) s3.heap.objs.size) { s3 with heap := pushCells (s3.heap.push { cls := .type "dict", data := .dict #[] }) scope.names }
  have nfp : ∀ b ∈ fp, (upd H2 D (SetO X.w D (fun _ => false) 0)) b = none := fun b hb => (f3 b hb).1.1
  generalize hce : compEnvC scope (cellsFrom (s3.heap.objs.size + 1) scope.names (cloFrom X.env.cells scope.names [])) s3.heap.objs.size X.env = ce at I4 pg pt pe ⊢
  have cL : ce.locals = s3.heap.objs.size := by subst hce; rfl
  generalize hH3 : upd H2 D (SetO X.w D (fun _ => false) 0) = H3 at I3 I4 pg pt pe w0 nfp f3
  generalize hs4 : ({ s3 with heap := pushCells (s3.heap.push { cls := .type "dict", data := .dict #[] }) scope.names } : Shared) = s4 at I4 ⊢
  have st4 : tn 0 s4.heap := T.keep _ _ _ st3 fun b _ o e => by rw [← hs4]; exact pushCells_keeps _ _ _ _ (Heap.get?_push_of_some _ e)
  have stat : ∀ {σ' : L2.St} {H' : Hp} {s' : Shared}, Inv (X.blk s3 H3 scope ce fp) [] σ' H' s' → (∀ b ∈ fp, H' b = none) → ∀ b ∈ fp, FpOk (X.blk s3 H3 scope ce fp) [] H' b := fun {σ' H' s'} I' hn b hb =>
    ⟨hn b hb, (I'.ok.exf b hb).1, I'.ok.exfs b hb, .inl hb, fun x c e => (I'.ok.exf b hb).2 x c e, fun p hp => absurd (show p ∈ ([] : List (Addr × Obj)) ++ [] from hp) (by simp)⟩
  have loop : codeAny (model X.prog X.w) X.A (.compLoop (.SetComp elt [⟨tg, iter, ifs, 0⟩] scope pos) 0 (.ref it) (.ref D) ce) (compPost (model X.prog X.w) X.A X.xe use Qf (.ref D) s3.heap.objs.size) s4 := by
    refine compLoopS_any (fun n s' => ∃ i H', Inv (X.blk s3 H3 scope ce fp) [] (wipe σ (own.map (·.2))) H' s' ∧ tn i s'.heap ∧ (∀ b ∈ fp, H' b = none) ∧ W i n H') ?_ m0 ⟨0, H3, I4, st4, nfp, w0⟩
    rintro n s5 ⟨i, H5, I5, st5, n5, w5⟩
    rcases turn i n H5 w5 with ⟨stop, qq⟩ | ⟨go, Nx, hNx, step⟩
    · have td := T.done (X.blk s3 H3 scope ce fp) rfl rfl rfl hc i [] s5 _ H5 (fun _ _ => False) I5 (stat I5 n5) st5 stop
      refine thnF td fun r s6 ⟨hr, I6⟩ => ?_
      subst hr
      -- back in the def's context
      have I7 : Inv X pins σ H5 s6 := I3.call' (ch := fp) I6.os I6.base I6.hok I6.bare fun b hb => ⟨(f3 b hb).1.2.2.2.1, (f3 b hb).1.2.1, (f3 b hb).1.2.2.2.2.1, (f3 b hb).1.2.2.2.2.2⟩
      have nC : H5 s3.heap.objs.size = none := by
        have z : H5 ce.locals = none := I6.free
        rw [cL] at z
        exact z
      obtain ⟨m, hn, _⟩ := I6.loc
      have hn : s6.heap.Ns ce.locals m := hn
      rw [cL] at hn
      exact hRR D s3.heap.objs.size s6 m H5 I7 qq hn (I3.fpOk (Nat.le_refl _) nC)
    · have ti := T.item (X.blk s3 H3 scope ce fp) rfl rfl rfl hc i [] s5 _ H5 (fun _ _ => False) I5 (stat I5 n5) st5 go
      refine thnF ti fun r s6 ⟨u, hr, h6⟩ => ?_
      subst hr
      refine thnF h6 fun _ s7 ⟨x, H7, I7, r7, y7, st7, n7⟩ => ?_
      have I7' := I7.pinned (stat I7 n7) (T.obj _ _ st7)
      refine thnF (pg.run _ s7 _ H7 x u _ I7' r7 (step x H7 y7)) fun _ s8 ⟨σ8, H8, I8, hw8, q8⟩ => ?_
      refine thnF (pt.run _ s8 σ8 H8 _ I8 q8) fun b s9 ⟨H9, I9, q9⟩ => ?_
      -- the turn's end
      have fin : ∀ {s' : Shared} {H' : Hp}, Inv (X.blk s3 H3 scope ce fp) ([] ++ pinsAt fp s7.heap) σ8 H' s' → Nx H' → ∃ m, m < n ∧ ∃ i H', Inv (X.blk s3 H3 scope ce fp) [] (wipe σ (own.map (·.2))) H' s' ∧ tn i s'.heap ∧ (∀ b ∈ fp, H' b = none) ∧ W i m H' := fun {s' H'} I' nx => by
        obtain ⟨m', hm, w'⟩ := hNx H' nx
        have pin' : ∀ b ∈ fp, ∀ o, s7.heap.get? b = some o → s'.heap.get? b = some o ∧ H' b = none := fun b hb o e =>
          let z := I'.pin (b, o) (List.mem_append_right _ (List.mem_append_right _ (mem_pinsAt hb e)))
          ⟨z.1, z.2.1⟩
        have hl : (wipe σ (own.map (·.2))).length = σ8.length := by rw [← hw8, wipe_length]
        refine ⟨m', hm, i + 1, H', (I'.unpinned (pins := [])).weak hl (fun j v e => ?_), T.keep _ _ _ st7 fun b hb o e => (pin' b hb o e).1, fun b hb => ?_, w'⟩
        · rw [← hw8] at e
          exact (wipe_some e).1
        · obtain ⟨o, e, _⟩ := T.obj _ _ st7 b hb
          exact (pin' b hb o e).2
      cases b with
      | false =>
        simp only [Bool.false_eq_true, if_false] at q9 ⊢
        exact fin I9 q9
      | true =>
        simp only [if_true] at q9 ⊢
        refine thnF (pe.run _ s9 σ8 H9 _ I9 q9) fun z s10 ⟨yv, H10, I10, r10, cb, S0, n0, ey, hD10, hz10, nx⟩ => ?_
        subst ey
        obtain ⟨tk, rfl⟩ := r10
        exact addI_ok (X := X.blk s3 H3 scope ce fp) I10 hD10 hz10 fun s11 I11 => fin I11 nx
  exact codeAny_compStart_set loop (T.self X.A 0 _ _ _ st4 loop)
/-- as a value -/
theorem pe_scI {elt tg iter : Expr} {ifs : List Expr} {scope : Scope} {own : List (PySem.Str × Nat)} {pos : Pos} {wi : TI} {g : TG} {tt : TT} {te : TE} (hc : X.calm = true) (hN : X.N.Nodup) (hi : PI X tg iter wi) (ok : BlkOk X.N X.env.scope scope own)
    (hg : ∀ (s : Shared) (H : Hp) (C : Addr) (cl : List (PySem.Str × Addr)) (fp : List Addr), PG (X.blk s H scope (compEnvC scope cl C X.env) fp) tg g) (ht : ∀ (s : Shared) (H : Hp) (C : Addr) (cl : List (PySem.Str × Addr)) (fp : List Addr), PTs (X.blk s H scope (compEnvC scope cl C X.env) fp) ifs tt)
    (he : ∀ (s : Shared) (H : Hp) (C : Addr) (cl : List (PySem.Str × Addr)) (fp : List Addr), PE (X.blk s H scope (compEnvC scope cl C X.env) fp) elt te) (hs : ∀ x, foldedSetIterable iter X.env x = pure x := by intro _; rfl) :
    PE X (.SetComp elt [⟨tg, iter, ifs, 0⟩] scope pos) (tScI X.w wi g tt te (own.map (·.2))) := by
  refine ⟨fun pins s σ H Q I h => ?_⟩
  rw [eval_SetComp]
  refine scI_core hc hN I hi ok hg ht he hs h fun D C s' m H' I' q hn f => ⟨m, hn, fun h'' sb => ?_⟩
  obtain ⟨f0, f1, f2, f3, f4, f5⟩ := f
  exact ⟨.ref D, H', I'.turned (t' := s'.toks) (fun b o hb e => (sb.2 b hb).trans e) f0 f1 f3 f4 f5, rfl, q⟩
end
theorem scTurn2_out (elt t0 i0 t1 i1 : Expr) (ifs0 ifs1 : List Expr) (scope : Scope) (pos : Pos) (it acc : Value) (env : Env) :
    compTurn (.SetComp elt [⟨t0, i0, ifs0, 0⟩, ⟨t1, i1, ifs1, 0⟩] scope pos) 0 it acc env = (do
      standAt i0.pos
      match ← pyNext it with
      | none => pure (.done .next)
      | some v =>
        letOwnedTupleGo t0 it v
        assign t0 env v
        let mut ok := true
        for c in ifs0 do
          if ok then ok ← isTrue c env (eval c env)
        if ok then
          let x ← eval i1 env
          standAt i1.pos
          let x ← foldedSetIterable i1 env x
          let _ ← runOwn (.compStart (.SetComp elt [⟨t0, i0, ifs0, 0⟩, ⟨t1, i1, ifs1, 0⟩] scope pos) 1 (← holding [x] (pyIter x)) acc env) env
        again (.compLoop (.SetComp elt [⟨t0, i0, ifs0, 0⟩, ⟨t1, i1, ifs1, 0⟩] scope pos) 0 it acc env)) := by rfl
theorem scTurn2_in (elt t0 i0 t1 i1 : Expr) (ifs0 ifs1 : List Expr) (scope : Scope) (pos : Pos) (it acc : Value) (env : Env) :
    compTurn (.SetComp elt [⟨t0, i0, ifs0, 0⟩, ⟨t1, i1, ifs1, 0⟩] scope pos) 1 it acc env = (do
      standAt i1.pos
      match ← pyNext it with
      | none => pure (.done .next)
      | some v =>
        letOwnedTupleGo t1 it v
        assign t1 env v
        let mut ok := true
        for c in ifs1 do
          if ok then ok ← isTrue c env (eval c env)
        if ok then
          (do let v ← eval elt env; standAt elt.pos; let _ ← call (.builtin "set.add") [acc, v])
        again (.compLoop (.SetComp elt [⟨t0, i0, ifs0, 0⟩, ⟨t1, i1, ifs1, 0⟩] scope pos) 1 it acc env)) := by rfl

section
variable {prog : Program} {w : World} {A : Around} {R : Result → Shared → Prop} {s : Shared} {elt t0 i0 t1 i1 : Expr} {ifs0 ifs1 : List Expr} {scope : Scope} {pos : Pos} {it acc : Value} {env : Env}
/-- the loop of the first clause -/
theorem scLoop2_out (hs : ∀ x, foldedSetIterable i1 env x = pure x) (I : Nat → Shared → Prop)
    (turn : ∀ n s, I n s → wpAny (model prog w) A (pyNext it) (fun r s₁ => match r with
      | none => R (.ok .next) s₁
      | some v => wpAny (model prog w) A (letOwnedTupleGo t0 it v) (fun _ s₁' => wpAny (model prog w) A (assign t0 env v) (fun _ s₂ =>
          wpAny (model prog w) A (forIn ifs0 true fun c r => if r = true then do let ok ← isTrue c env (eval c env); pure (ForInStep.yield ok) else pure (ForInStep.yield r)) (fun ok s₃ =>
            if ok = true then wpAny (model prog w) A (eval i1 env) (fun x s₄ => wpAny (model prog w) A (pyIter x) (fun it1 s₅ =>
              codeAny (model prog w) A (.compStart (.SetComp elt [⟨t0, i0, ifs0, 0⟩, ⟨t1, i1, ifs1, 0⟩] scope pos) 1 it1 acc env) (fun r s' => match r with
                | .ok _ => ∃ m, m < n ∧ I m s'
                | .error _ => False) s₅) (notedBy (model prog w) A env fun e s' => R (.error e) s') s₄) (notedBy (model prog w) A env fun e s' => R (.error e) s') s₃
            else ∃ m, m < n ∧ I m s₃) (notedBy (model prog w) A env fun e s' => R (.error e) s') s₂) (notedBy (model prog w) A env fun e s' => R (.error e) s') s₁') (notedBy (model prog w) A env fun e s' => R (.error e) s') s₁) (notedBy (model prog w) A env fun e s' => R (.error e) s') s)
    (n : Nat) (h : I n s) :
    codeAny (model prog w) A (.compLoop (.SetComp elt [⟨t0, i0, ifs0, 0⟩, ⟨t1, i1, ifs1, 0⟩] scope pos) 0 it acc env) R s := by
  refine codeAny_loop rfl I (fun n s hI => ?_) n h
  show wpAny _ A ((compTurn (.SetComp elt [⟨t0, i0, ifs0, 0⟩, ⟨t1, i1, ifs1, 0⟩] scope pos) 0 it acc env).onRaise (fun x => do noteFrame x env; theTreesLotGoes x)) _ _ s
  refine wpAny_noted ?_
  rw [scTurn2_out]
  refine wpAny_bind (wpAny_standAt (wpAny_bind (wpAny_mono (turn n s hI) (fun r s₁ h₁ => ?_) fun _ _ h' => h')))
  cases r with
  | none => exact wpAny_pure h₁
  | some v =>
    refine wpAny_bind (wpAny_mono h₁ (fun _ s₁' h₁' => ?_) fun _ _ h' => h')
    refine wpAny_bind (wpAny_mono h₁' (fun _ s₂ h₂ => wpAny_bind (wpAny_mono h₂ (fun ok s₃ h₃ => ?_) fun _ _ h' => h')) fun _ _ h' => h')
    cases ok with
    | false => exact wpAny_pure ⟨rfl, h₃⟩
    | true =>
      refine wpAny_bind (wpAny_mono h₃ (fun x s₄ h₄ => ?_) fun _ _ h' => h')
      refine wpAny_bind (wpAny_standAt (wpAny_bind (wpAny_of_eq (hs x) (wpAny_bind (wpAny_holding (wpAny_mono h₄ (fun it1 s₅ h₅ => ?_) fun _ _ h' => h'))))))
      refine wpAny_bind (wpAny_runOwn ?_)
      rw [Around.mark_none]
      refine codeAny_mono h₅ fun r s' hr => ?_
      cases r with
      | ok f =>
        first
          | exact wpAny_pure ⟨rfl, hr⟩
          | exact wpAny_bind (wpAny_pure (wpAny_pure ⟨rfl, hr⟩))
      | error e => exact hr.elim
/-- the loop of the second -/
theorem scLoop2_in (I : Nat → Shared → Prop)
    (turn : ∀ n s, I n s → wpAny (model prog w) A (pyNext it) (fun r s₁ => match r with
      | none => R (.ok .next) s₁
      | some v => wpAny (model prog w) A (letOwnedTupleGo t1 it v) (fun _ s₁' => wpAny (model prog w) A (assign t1 env v) (fun _ s₂ =>
          wpAny (model prog w) A (forIn ifs1 true fun c r => if r = true then do let ok ← isTrue c env (eval c env); pure (ForInStep.yield ok) else pure (ForInStep.yield r)) (fun ok s₃ =>
            if ok = true then wpAny (model prog w) A (eval elt env) (fun x s₄ =>
              wpAny (model prog w) A (call (.builtin "set.add") [acc, x]) (fun _ s₅ => ∃ m, m < n ∧ I m s₅) (notedBy (model prog w) A env fun e s' => R (.error e) s') s₄) (notedBy (model prog w) A env fun e s' => R (.error e) s') s₃
            else ∃ m, m < n ∧ I m s₃) (notedBy (model prog w) A env fun e s' => R (.error e) s') s₂) (notedBy (model prog w) A env fun e s' => R (.error e) s') s₁') (notedBy (model prog w) A env fun e s' => R (.error e) s') s₁) (notedBy (model prog w) A env fun e s' => R (.error e) s') s)
    (n : Nat) (h : I n s) :
    codeAny (model prog w) A (.compLoop (.SetComp elt [⟨t0, i0, ifs0, 0⟩, ⟨t1, i1, ifs1, 0⟩] scope pos) 1 it acc env) R s := by
  refine codeAny_loop rfl I (fun n s hI => ?_) n h
  show wpAny _ A ((compTurn (.SetComp elt [⟨t0, i0, ifs0, 0⟩, ⟨t1, i1, ifs1, 0⟩] scope pos) 1 it acc env).onRaise (fun x => do noteFrame x env; theTreesLotGoes x)) _ _ s
  refine wpAny_noted ?_
  rw [scTurn2_in]
  refine wpAny_bind (wpAny_standAt (wpAny_bind (wpAny_mono (turn n s hI) (fun r s₁ h₁ => ?_) fun _ _ h' => h')))
  cases r with
  | none => exact wpAny_pure h₁
  | some v =>
    refine wpAny_bind (wpAny_mono h₁ (fun _ s₁' h₁' => ?_) fun _ _ h' => h')
    refine wpAny_bind (wpAny_mono h₁' (fun _ s₂ h₂ => wpAny_bind (wpAny_mono h₂ (fun ok s₃ h₃ => ?_) fun _ _ h' => h')) fun _ _ h' => h')
    cases ok with
    | false => exact wpAny_pure ⟨rfl, h₃⟩
    | true =>
      exact wpAny_bind (wpAny_bind (wpAny_mono h₃ (fun x s₄ h₄ => wpAny_bind (wpAny_standAt (wpAny_bind (wpAny_mono h₄ (fun _ s₅ h₅ => wpAny_pure (wpAny_pure ⟨rfl, h₅⟩)) fun _ _ h' => h')))) fun _ _ h' => h'))
/-- the second clause's start -/
theorem scStart1_ok (h0 : codeAny (model prog w) A (.compLoop (.SetComp elt [⟨t0, i0, ifs0, 0⟩, ⟨t1, i1, ifs1, 0⟩] scope pos) 1 it acc env) R s)
    (h : wpAny (model prog w) A (pyIter it) (fun it' s' => codeAny (model prog w) A (.compLoop (.SetComp elt [⟨t0, i0, ifs0, 0⟩, ⟨t1, i1, ifs1, 0⟩] scope pos) 1 it' acc env) R s')
      (notedBy (model prog w) A env fun x s' => R (.error x) s') s) :
    codeAny (model prog w) A (.compStart (.SetComp elt [⟨t0, i0, ifs0, 0⟩, ⟨t1, i1, ifs1, 0⟩] scope pos) 1 it acc env) R s := by
  refine codeAny_of_tree ?_
  show wpAny _ _ ((compStart (.SetComp elt [⟨t0, i0, ifs0, 0⟩, ⟨t1, i1, ifs1, 0⟩] scope pos) 1 it acc env).onRaise (fun x => do noteFrame x env; standAt theWindowsPlace)) _ _ s
  refine wpAny_notedAt ?_
  unfold compStart
  show wpAny _ _ (ask >>= _) _ _ s
  refine wpAny_bind (wpAny_askSetting (wpAny_ite ?_))
  split
  · first
      | exact wpAny_bind (wpAny_pure (wpAny_pure (And.intro rfl h0)))
      | exact wpAny_pure (And.intro rfl h0)
  · first
      | exact wpAny_bind (wpAny_rule (wpAny_bind (wpAny_standAt (wpAny_bind (wpAny_mono h (fun it' s' h' => wpAny_pure (And.intro rfl h')) fun _ _ x => x)))))
      | (refine wpAny_bind (wpAny_rule ?_); show wpAny _ _ (standAt i1.pos >>= _) _ _ s; exact wpAny_bind (wpAny_standAt (wpAny_bind (wpAny_mono h (fun it' s' h' => wpAny_pure (And.intro rfl h')) fun _ _ x => x))))
end

section
variable {X : Cx}
/-- [elt for tg in iter if .. for tg1 in iter1 if ..]: behind the first clause's store and tests the second source's own loop, from which Nx is reached. vs: the block's names; vs1: those of the second target -/
def tSc2 (w : World) (wi : TI) (g : TG) (tt : TT) (wi1 : TI) (g1 : TG) (tt1 : TT) (te : TE) (vs vs1 : List Nat) : TE := fun σ H Q => wi σ H fun J H1 => ∀ D, H1 D = none → ∃ W : Nat → Nat → Hp → Prop, (∃ m, W 0 m (upd H1 D (SetO w D (fun _ => false) 0))) ∧ ∀ i m H, W i m H →
  (J.stop i H ∧ Q (.ref D) H) ∨ (J.go i H ∧ ∃ Nx : Hp → Prop, (∀ H', Nx H' → ∃ m', m' < m ∧ W (i + 1) m' H') ∧ ∀ x H', J.yld i H x H' → g x (wipe σ vs) H' fun σ2 H2 => wipe σ2 vs = wipe σ vs ∧ tt σ2 H2 fun b H3 =>
    if b = true then wi1 σ2 H3 fun J1 H4 => ∃ W1 : Nat → Nat → Hp → Prop, (∃ m, W1 0 m H4) ∧ ∀ j k H, W1 j k H →
      (J1.stop j H ∧ Nx H) ∨ (J1.go j H ∧ ∃ Nx1 : Hp → Prop, (∀ H', Nx1 H' → ∃ k', k' < k ∧ W1 (j + 1) k' H') ∧ ∀ x H', J1.yld j H x H' → g1 x (wipe σ2 vs1) H' fun σ3 H5 => wipe σ3 vs1 = wipe σ2 vs1 ∧ tt1 σ3 H5 fun b H6 =>
        if b = true then te σ3 H6 fun y H7 => ∃ (c : Int) (S : Int → Bool) (n : Nat), y = .int c ∧ H7 D = some (SetO w D S n) ∧ n + 1 < scanBound ∧ Nx1 (upd H7 D (SetO w D (fun j => S j || decide (j = c)) (if S c = true then n else n + 1))) else Nx1 H6)
    else Nx H3)
theorem scI2_core {pins : List (Addr × Obj)} {s : Shared} {σ : L2.St} {H : Hp} {Q : VK} {elt tg iter tg1 iter1 : Expr} {ifs ifs1 : List Expr} {scope : Scope} {own : List (Str × Nat)} {vs1 : List Nat} {pos pos' : Pos} {wi wi1 : TI} {g g1 : TG} {tt tt1 : TT} {te : TE} {use : Option (Value → Sem Unit)} {Qf : Value → Shared → Prop}
    (hc : X.calm = true) (hN : X.N.Nodup) (I : Inv X pins σ H s) (hi : PI X tg iter wi) (ok : BlkOk X.N X.env.scope scope own) (hv : ∀ i ∈ vs1, i ∈ own.map (·.2))
    (hg : ∀ (s : Shared) (H : Hp) (C : Addr) (cl : List (Str × Addr)) (fp : List Addr), PG (X.blk s H scope (compEnvC scope cl C X.env) fp) tg g) (ht : ∀ (s : Shared) (H : Hp) (C : Addr) (cl : List (Str × Addr)) (fp : List Addr), PTs (X.blk s H scope (compEnvC scope cl C X.env) fp) ifs tt)
    (he : ∀ (s : Shared) (H : Hp) (C : Addr) (cl : List (Str × Addr)) (fp : List Addr), PE (X.blk s H scope (compEnvC scope cl C X.env) fp) elt te) (hs : ∀ x, foldedSetIterable iter X.env x = pure x)
    (hi1 : ∀ (s : Shared) (H : Hp) (C : Addr) (cl : List (Str × Addr)) (fp : List Addr), PI (X.blk s H scope (compEnvC scope cl C X.env) fp) tg1 iter1 wi1)
    (hg1 : ∀ (s : Shared) (H : Hp) (C : Addr) (cl : List (Str × Addr)) (fp : List Addr), PG (X.blk s H scope (compEnvC scope cl C X.env) fp) tg1 g1)
    (ht1 : ∀ (s : Shared) (H : Hp) (C : Addr) (cl : List (Str × Addr)) (fp : List Addr), PTs (X.blk s H scope (compEnvC scope cl C X.env) fp) ifs1 tt1)
    (hs1 : ∀ env x, foldedSetIterable iter1 env x = pure x)
    (h : tSc2 X.w wi g tt wi1 g1 tt1 te (own.map (·.2)) vs1 σ H Q)
    (hRR : ∀ D C s' m H', Inv X pins σ H' s' → Q (.ref D) H' → s'.heap.Ns C m → FpOk X pins H' C → compPost (model X.prog X.w) X.A X.xe use Qf (.ref D) C (.ok .next) s') :
    wpAny (model X.prog X.w) X.A (comprehension (.SetComp elt [⟨tg, iter, ifs, 0⟩, ⟨tg1, iter1, ifs1, 0⟩] scope pos) scope X.env pos' (newSet (.type "set")) false (eval iter X.env) use) Qf X.xe s := by
  have hfree : ∀ y ∈ scope.names, y.2 = .free → ∃ c, X.env.cells.lookup y.1 = some c := fun y hy e => by
    rcases ok.free y hy e with k | k
    · exact I.ok.has _ (.inl k)
    · exact I.ok.has _ (.inr k)
  refine wpAny_comprehension_free (use := use) rfl hs (closure_ok hfree) ok.kind (fun y hy e => by rw [ok.uniq y hy, e])
    (thn (hi.run pins s σ H _ I h) fun xv s1 hx => thn hx fun itv s2 h2 => ?_)
  obtain ⟨it, fp, tn, J, H2, e, I2, T, st2, f2, q⟩ := h2
  subst e
  refine newSet_ok (newEnv_comp ?_)
  generalize hD : s2.heap.objs.size = D
  have hDn : H2 D = none := I2.hok.fresh (Nat.le_of_eq hD)
  obtain ⟨W, ⟨m0, w0⟩, turn⟩ := q D hDn
  -- the new list
  generalize hs3 : ({ s2 with heap := s2.heap.push (setNew X.w) } : Shared) = s3
  have I3 : Inv X pins σ (upd H2 D (SetO X.w D (fun _ => false) 0)) s3 := by
    rw [← hs3]
    refine I2.laid (t' := s2.toks) (fun b o e => Heap.get?_push_of_some _ e) (Nat.le_of_eq hD) ?_
    rw [← hD]
    exact setO_new (setR_fresh X.w)
  have h3 : s3.heap = s2.heap.push (setNew X.w) := by rw [← hs3]
  have sz : ∀ b ∈ fp, b < s2.heap.objs.size := fun b hb => by
    obtain ⟨o, e, _⟩ := T.obj _ _ st2 b hb
    exact Heap.lt_size e
  have f3 : ∀ b ∈ fp, FpOk X pins (upd H2 D (SetO X.w D (fun _ => false) 0)) b ∧ b < s3.heap.objs.size := fun b hb => by
    have hlt := sz b hb
    refine ⟨⟨?_, (f2 b hb).2⟩, by rw [h3, Heap.size_push]; exact Nat.lt_succ_of_lt hlt⟩
    rw [upd_ne (by rw [← hD]; exact Nat.ne_of_lt hlt)]
    exact (f2 b hb).1
  have st3 : tn 0 s3.heap := T.keep _ _ _ st2 fun b _ o e => by rw [h3]; exact Heap.get?_push_of_some _ e
  have I4 := block_start I3 ok hN f3
  have pg := hg s3 (upd H2 D (SetO X.w D (fun _ => false) 0)) s3.heap.objs.size (cellsFrom (s3.heap.objs.size + 1) scope.names (cloFrom X.env.cells scope.names [])) fp
  have pt := ht s3 (upd H2 D (SetO X.w D (fun _ => false) 0)) s3.heap.objs.size (cellsFrom (s3.heap.objs.size + 1) scope.names (cloFrom X.env.cells scope.names [])) fp
  have pe := he s3 (upd H2 D (SetO X.w D (fun _ => false) 0)) s3.heap.objs.size (cellsFrom (s3.heap.objs.size + 1) scope.names (cloFrom X.env.cells scope.names [])) fp
  have pi1 := hi1 s3 (upd H2 D (SetO X.w D (fun _ => false) 0)) s3.heap.objs.size (cellsFrom (s3.heap.objs.size + 1) scope.names (cloFrom X.env.cells scope.names [])) fp
  have pg1 := hg1 s3 (upd H2 D (SetO X.w D (fun _ => false) 0)) s3.heap.objs.size (cellsFrom (s3.heap.objs.size + 1) scope.names (cloFrom X.env.cells scope.names [])) fp
  have pt1 := ht1 s3 (upd H2 D (SetO X.w D (fun _ => false) 0)) s3.heap.objs.size (cellsFrom (s3.heap.objs.size + 1) scope.names (cloFrom X.env.cells scope.names [])) fp
  show codeAny _ _ (.compStart (.SetComp elt [⟨tg, iter, ifs, 0⟩, ⟨tg1, iter1, ifs1, 0⟩] scope pos) 0 (.ref it) (.ref D) (compEnvC scope (cellsFrom (s3.heap.objs.size + 1) scope.names (cloFrom X.env.cells scope.names [])) s3.heap.objs.size X.env)) (compPost (model X.prog X.w) X.A X.xe use Qf (.ref D) s3.heap.objs.size) { s3 with heap := pushCells (s3.heap.push { cls := .type "dict", data := .dict #[] }) scope.names }
  have nfp : ∀ b ∈ fp, (upd H2 D (SetO X.w D (fun _ => false) 0)) b = none := fun b hb => (f3 b hb).1.1
  generalize hce : compEnvC scope (cellsFrom (s3.heap.objs.size + 1) scope.names (cloFrom X.env.cells scope.names [])) s3.heap.objs.size X.env = ce at I4 pg pt pe pi1 pg1 pt1 ⊢
  have cL : ce.locals = s3.heap.objs.size := by subst hce; rfl
  generalize hH3 : upd H2 D (SetO X.w D (fun _ => false) 0) = H3 at I3 I4 pg pt pe pi1 pg1 pt1 w0 nfp f3
  generalize hs4 : ({ s3 with heap := pushCells (s3.heap.push { cls := .type "dict", data := .dict #[] }) scope.names } : Shared) = s4 at I4 ⊢
  have st4 : tn 0 s4.heap := T.keep _ _ _ st3 fun b _ o e => by rw [← hs4]; exact pushCells_keeps _ _ _ _ (Heap.get?_push_of_some _ e)
  have stat : ∀ {σ' : L2.St} {H' : Hp} {s' : Shared}, Inv (X.blk s3 H3 scope ce fp) [] σ' H' s' → (∀ b ∈ fp, H' b = none) → ∀ b ∈ fp, FpOk (X.blk s3 H3 scope ce fp) [] H' b := fun {σ' H' s'} I' hn b hb =>
    ⟨hn b hb, (I'.ok.exf b hb).1, I'.ok.exfs b hb, .inl hb, fun x c e => (I'.ok.exf b hb).2 x c e, fun p hp => absurd (show p ∈ ([] : List (Addr × Obj)) ++ [] from hp) (by simp)⟩
  have loop : codeAny (model X.prog X.w) X.A (.compLoop (.SetComp elt [⟨tg, iter, ifs, 0⟩, ⟨tg1, iter1, ifs1, 0⟩] scope pos) 0 (.ref it) (.ref D) ce) (compPost (model X.prog X.w) X.A X.xe use Qf (.ref D) s3.heap.objs.size) s4 := by
    refine scLoop2_out (hs1 ce) (fun n s' => ∃ i H', Inv (X.blk s3 H3 scope ce fp) [] (wipe σ (own.map (·.2))) H' s' ∧ tn i s'.heap ∧ (∀ b ∈ fp, H' b = none) ∧ W i n H') ?_ m0 ⟨0, H3, I4, st4, nfp, w0⟩
    rintro n s5 ⟨i, H5, I5, st5, n5, w5⟩
    rcases turn i n H5 w5 with ⟨stop, qq⟩ | ⟨go, Nx, hNx, step⟩
    · have td := T.done (X.blk s3 H3 scope ce fp) rfl rfl rfl hc i [] s5 _ H5 (fun _ _ => False) I5 (stat I5 n5) st5 stop
      refine thnF td fun r s6 ⟨hr, I6⟩ => ?_
      subst hr
      -- back in the def's context
      have I7 : Inv X pins σ H5 s6 := I3.call' (ch := fp) I6.os I6.base I6.hok I6.bare fun b hb => ⟨(f3 b hb).1.2.2.2.1, (f3 b hb).1.2.1, (f3 b hb).1.2.2.2.2.1, (f3 b hb).1.2.2.2.2.2⟩
      have nC : H5 s3.heap.objs.size = none := by
        have z : H5 ce.locals = none := I6.free
        rw [cL] at z
        exact z
      obtain ⟨m, hn, _⟩ := I6.loc
      have hn : s6.heap.Ns ce.locals m := hn
      rw [cL] at hn
      exact hRR D s3.heap.objs.size s6 m H5 I7 qq hn (I3.fpOk (Nat.le_refl _) nC)
    · have ti := T.item (X.blk s3 H3 scope ce fp) rfl rfl rfl hc i [] s5 _ H5 (fun _ _ => False) I5 (stat I5 n5) st5 go
      refine thnF ti fun r s6 ⟨u, hr, h6⟩ => ?_
      subst hr
      refine thnF h6 fun _ s7 ⟨x, H7, I7, r7, y7, st7, n7⟩ => ?_
      have I7' := I7.pinned (stat I7 n7) (T.obj _ _ st7)
      refine thnF (pg.run _ s7 _ H7 x u _ I7' r7 (step x H7 y7)) fun _ s8 ⟨σ8, H8, I8, hw8, q8⟩ => ?_
      refine thnF (pt.run _ s8 σ8 H8 _ I8 q8) fun b s9 ⟨H9, I9, q9⟩ => ?_
      -- the turn's end, from any slots that know what the block knew at its start
      have fin : ∀ {σ9 : L2.St} {s' : Shared} {H' : Hp}, Inv (X.blk s3 H3 scope ce fp) ([] ++ pinsAt fp s7.heap) σ9 H' s' → (wipe σ (own.map (·.2))).length = σ9.length → (∀ (j : Nat) v, (wipe σ (own.map (·.2)))[j]? = some (some v) → σ9[j]? = some (some v)) → Nx H' →
          ∃ m, m < n ∧ ∃ i H', Inv (X.blk s3 H3 scope ce fp) [] (wipe σ (own.map (·.2))) H' s' ∧ tn i s'.heap ∧ (∀ b ∈ fp, H' b = none) ∧ W i m H' := fun {σ9 s' H'} I' hl hk nx => by
        obtain ⟨m', hm, w'⟩ := hNx H' nx
        have pin' : ∀ b ∈ fp, ∀ o, s7.heap.get? b = some o → s'.heap.get? b = some o ∧ H' b = none := fun b hb o e =>
          let z := I'.pin (b, o) (List.mem_append_right _ (List.mem_append_right _ (mem_pinsAt hb e)))
          ⟨z.1, z.2.1⟩
        refine ⟨m', hm, i + 1, H', (I'.unpinned (pins := [])).weak hl hk, T.keep _ _ _ st7 fun b hb o e => (pin' b hb o e).1, fun b hb => ?_, w'⟩
        obtain ⟨o, e, _⟩ := T.obj _ _ st7 b hb
        exact (pin' b hb o e).2
      have hl8 : (wipe σ (own.map (·.2))).length = σ8.length := by rw [← hw8, wipe_length]
      have hk8 : ∀ (j : Nat) v, (wipe σ (own.map (·.2)))[j]? = some (some v) → σ8[j]? = some (some v) := fun j v e => by
        rw [← hw8] at e
        exact (wipe_some e).1
      have hk9 : ∀ (j : Nat) v, (wipe σ (own.map (·.2)))[j]? = some (some v) → (wipe σ8 vs1)[j]? = some (some v) := fun j v e => by
        rw [← hw8] at e
        obtain ⟨e1, e2⟩ := wipe_some e
        rw [wipe_out fun z => e2 (hv j z)]
        exact e1
      cases b with
      | false =>
        simp only [Bool.false_eq_true, if_false] at q9 ⊢
        exact fin I9 hl8 hk8 q9
      | true =>
        simp only [if_true] at q9 ⊢
        refine thnF (pi1.run _ s9 σ8 H9 _ I9 q9) fun xv s10 hx => thnF hx fun itv s11 h11 => ?_
        obtain ⟨it1, fp1, tn1, J1, H11, e1, I11, T1, st11, f11, W1, ⟨m1, w1⟩, turn1⟩ := h11
        subst e1
        -- the inner loop
        have stat1 : ∀ {H' : Hp}, (∀ b ∈ fp1, H' b = none) → ∀ b ∈ fp1, FpOk (X.blk s3 H3 scope ce fp) ([] ++ pinsAt fp s7.heap) H' b := fun hn b hb => ⟨hn b hb, (f11 b hb).2⟩
        have loop1 : codeAny (model X.prog X.w) X.A (.compLoop (.SetComp elt [⟨tg, iter, ifs, 0⟩, ⟨tg1, iter1, ifs1, 0⟩] scope pos) 1 (.ref it1) (.ref D) ce)
            (fun r s' => match r with
              | .ok _ => ∃ m, m < n ∧ ∃ i H', Inv (X.blk s3 H3 scope ce fp) [] (wipe σ (own.map (·.2))) H' s' ∧ tn i s'.heap ∧ (∀ b ∈ fp, H' b = none) ∧ W i m H'
              | .error _ => False) s11 := by
          refine scLoop2_in (fun k s' => ∃ j H', Inv (X.blk s3 H3 scope ce fp) ([] ++ pinsAt fp s7.heap) (wipe σ8 vs1) H' s' ∧ tn1 j s'.heap ∧ (∀ b ∈ fp1, H' b = none) ∧ W1 j k H') ?_ m1 ⟨0, H11, I11.weak (wipe_length _ _) (fun j v e => (wipe_some e).1), st11, fun b hb => (f11 b hb).1, w1⟩
          rintro k s12 ⟨j, H12, I12, st12, n12, w12⟩
          rcases turn1 j k H12 w12 with ⟨stop1, nx1⟩ | ⟨go1, Nx1, hNx1, step1⟩
          · refine thnF (T1.done (X.blk s3 H3 scope ce fp) rfl rfl rfl hc j _ s12 (wipe σ8 vs1) H12 (fun _ _ => False) I12 (stat1 n12) st12 stop1) fun r s13 ⟨hr, I13⟩ => ?_
            subst hr
            exact fin I13 (hl8.trans (wipe_length σ8 vs1).symm) hk9 nx1
          · refine thnF (T1.item (X.blk s3 H3 scope ce fp) rfl rfl rfl hc j _ s12 (wipe σ8 vs1) H12 (fun _ _ => False) I12 (stat1 n12) st12 go1) fun r s13 ⟨u1, hr, h13⟩ => ?_
            subst hr
            refine thnF h13 fun _ s14 ⟨x1, H14, I14, r14, y14, st14, n14⟩ => ?_
            have I14' := I14.pinned (stat1 n14) (T1.obj _ _ st14)
            refine thnF (pg1.run _ s14 (wipe σ8 vs1) H14 x1 u1 _ I14' r14 (step1 x1 H14 y14)) fun _ s15 ⟨σ15, H15, I15, hw15, q15⟩ => ?_
            refine thnF (pt1.run _ s15 σ15 H15 _ I15 q15) fun b1 s16 ⟨H16, I16, q16⟩ => ?_
            have fin1 : ∀ {s' : Shared} {H' : Hp}, Inv (X.blk s3 H3 scope ce fp) (([] ++ pinsAt fp s7.heap) ++ pinsAt fp1 s14.heap) σ15 H' s' → Nx1 H' → ∃ m, m < k ∧ ∃ j H', Inv (X.blk s3 H3 scope ce fp) ([] ++ pinsAt fp s7.heap) (wipe σ8 vs1) H' s' ∧ tn1 j s'.heap ∧ (∀ b ∈ fp1, H' b = none) ∧ W1 j m H' := fun {s' H'} I' nx => by
              obtain ⟨m', hm, w'⟩ := hNx1 H' nx
              have pin' : ∀ b ∈ fp1, ∀ o, s14.heap.get? b = some o → s'.heap.get? b = some o ∧ H' b = none := fun b hb o e =>
                let z := I'.pin (b, o) (List.mem_append_right _ (List.mem_append_right _ (mem_pinsAt hb e)))
                ⟨z.1, z.2.1⟩
              refine ⟨m', hm, j + 1, H', I'.unpinned.weak (by rw [← hw15, wipe_length]) (fun j v e => by rw [← hw15] at e; exact (wipe_some e).1), T1.keep _ _ _ st14 fun b hb o e => (pin' b hb o e).1, fun b hb => ?_, w'⟩
              obtain ⟨o, e, _⟩ := T1.obj _ _ st14 b hb
              exact (pin' b hb o e).2
            cases b1 with
            | false =>
              simp only [Bool.false_eq_true, if_false] at q16 ⊢
              exact fin1 I16 q16
            | true =>
              simp only [if_true] at q16 ⊢
              refine thnF (pe.run _ s16 σ15 H16 _ I16 q16) fun z s17 ⟨yv, H17, I17, r17, cb, S0, n0, ey, hD17, hz17, nx⟩ => ?_
              subst ey
              obtain ⟨tk, rfl⟩ := r17
              exact addI_ok (X := X.blk s3 H3 scope ce fp) I17 hD17 hz17 fun s18 I18 => fin1 I18 nx
        exact scStart1_ok loop1 (T1.self X.A 0 _ _ _ st11 loop1)
  exact codeAny_compStart_set loop (T.self X.A 0 _ _ _ st4 loop)
theorem pe_scI2 {elt tg iter tg1 iter1 : Expr} {ifs ifs1 : List Expr} {scope : Scope} {own : List (Str × Nat)} {vs1 : List Nat} {pos : Pos} {wi wi1 : TI} {g g1 : TG} {tt tt1 : TT} {te : TE} (hc : X.calm = true) (hN : X.N.Nodup) (hi : PI X tg iter wi) (ok : BlkOk X.N X.env.scope scope own) (hv : ∀ i ∈ vs1, i ∈ own.map (·.2))
    (hg : ∀ (s : Shared) (H : Hp) (C : Addr) (cl : List (Str × Addr)) (fp : List Addr), PG (X.blk s H scope (compEnvC scope cl C X.env) fp) tg g) (ht : ∀ (s : Shared) (H : Hp) (C : Addr) (cl : List (Str × Addr)) (fp : List Addr), PTs (X.blk s H scope (compEnvC scope cl C X.env) fp) ifs tt)
    (hi1 : ∀ (s : Shared) (H : Hp) (C : Addr) (cl : List (Str × Addr)) (fp : List Addr), PI (X.blk s H scope (compEnvC scope cl C X.env) fp) tg1 iter1 wi1)
    (hg1 : ∀ (s : Shared) (H : Hp) (C : Addr) (cl : List (Str × Addr)) (fp : List Addr), PG (X.blk s H scope (compEnvC scope cl C X.env) fp) tg1 g1) (ht1 : ∀ (s : Shared) (H : Hp) (C : Addr) (cl : List (Str × Addr)) (fp : List Addr), PTs (X.blk s H scope (compEnvC scope cl C X.env) fp) ifs1 tt1)
    (he : ∀ (s : Shared) (H : Hp) (C : Addr) (cl : List (Str × Addr)) (fp : List Addr), PE (X.blk s H scope (compEnvC scope cl C X.env) fp) elt te) (hs : ∀ x, foldedSetIterable iter X.env x = pure x := by intro _; rfl) (hs1 : ∀ env x, foldedSetIterable iter1 env x = pure x := by intro _ _; rfl) :
    PE X (.SetComp elt [⟨tg, iter, ifs, 0⟩, ⟨tg1, iter1, ifs1, 0⟩] scope pos) (tSc2 X.w wi g tt wi1 g1 tt1 te (own.map (·.2)) vs1) := by
  refine ⟨fun pins s σ H Q I h => ?_⟩
  rw [eval_SetComp]
  refine scI2_core hc hN I hi ok hv hg ht he hs hi1 hg1 ht1 hs1 h fun D C s' m H' I' q hn f => ⟨m, hn, fun h'' sb => ?_⟩
  obtain ⟨f0, f1, f2, f3, f4, f5⟩ := f
  exact ⟨.ref D, H', I'.turned (t' := s'.toks) (fun b o hb e => (sb.2 b hb).trans e) f0 f1 f3 f4 f5, rfl, q⟩
end
end MP
set_option Elab.async false
set_option linter.all false
set_option maxRecDepth 100000
set_option maxHeartbeats 4000000
namespace MP
open PySem PySem.Spec PyProof.Rows L2
/-! ### sorted({.. for ..}), ints -/
def SI (w : World) (Da : Addr) (a : List Int × Nat) : HO := SetO w Da (fun j => decide (j ∈ a.1)) a.2
def RI (a : List Int × Nat) (acc : List D) : Prop := acc = a.1.map D.int ∧ a.2 ≤ a.1.length
theorem SI_nil (w : World) (Da : Addr) : SetO w Da (fun _ => false) 0 = SI w Da ([], 0) := by
  unfold SI
  congr 1
theorem SI_add (w : World) (Da : Addr) (a : List Int × Nat) (c : Int) : SetO w Da (fun j => decide (j ∈ a.1) || decide (j = c)) (if decide (c ∈ a.1) = true then a.2 else a.2 + 1) = SI w Da (a.1 ++ [c], if decide (c ∈ a.1) = true then a.2 else a.2 + 1) := by
  unfold SI
  congr 1
  funext j
  by_cases h : j ∈ a.1 <;> by_cases h2 : j = c <;> simp [h, h2]
theorem RI_add {a : List Int × Nat} {acc : List D} (h : RI a acc) (c : Int) : RI (a.1 ++ [c], if decide (c ∈ a.1) = true then a.2 else a.2 + 1) (acc ++ [.int c]) := by
  obtain ⟨h1, h2⟩ := h
  refine ⟨by rw [h1, List.map_append]; rfl, ?_⟩
  by_cases hc : c ∈ a.1
  · simp [hc]
    omega
  · simp [hc]
    omega
theorem mapint_inj : ∀ {a b : List Int}, a.map D.int = b.map D.int → a = b
  | [], [], _ => rfl
  | [], b :: bs, h => by simp at h
  | a :: as, [], h => by simp at h
  | a :: as, b :: bs, h => by
    simp only [List.map_cons, List.cons.injEq, D.int.injEq] at h
    rw [h.1, mapint_inj h.2]
theorem cLoop_pre {vs : List Nat} {g : Xg} {t : Xt} {m : Xp} : ∀ {ds acc xs : List D} {env e : MEnv}, cLoop vs g t m ds acc env = some (xs, e) → ∃ r, xs = acc ++ r
  | [], acc, xs, env, e, h => by
    simp only [cLoop, Option.some.injEq, Prod.mk.injEq] at h
    exact ⟨[], by rw [List.append_nil]; exact h.1.symm⟩
  | d :: ds, acc, xs, env, e, h => by
    unfold cLoop at h
    cases q3 : g d env with
    | none => simp [q3] at h
    | some e3 =>
      simp only [q3] at h
      cases q4 : t e3 with
      | none => simp [q4] at h
      | some pr4 =>
        obtain ⟨b4, e4⟩ := pr4
        cases b4 with
        | false =>
          simp only [q4] at h
          exact cLoop_pre h
        | true =>
          simp only [q4] at h
          cases q6 : m e4 with
          | none => simp [q6] at h
          | some pr6 =>
            obtain ⟨r6, e6⟩ := pr6
            simp only [q6] at h
            cases q7 : esc e6 r6 with
            | none => simp [q7] at h
            | some pr7 =>
              obtain ⟨x, e7⟩ := pr7
              simp only [q7] at h
              by_cases hsz : acc.length < 16777216
              · rw [if_pos hsz] at h
                obtain ⟨r, hr⟩ := cLoop_pre h
                exact ⟨[x] ++ r, by rw [hr, List.append_assoc]⟩
              · rw [if_neg hsz] at h
                cases h
theorem cLoop2_pre {vs vs1 : List Nat} {g g1 : Xg} {t t1 : Xt} {mi1 : Xi} {m : Xp} : ∀ {ds acc xs : List D} {env e : MEnv}, cLoop2 vs g t mi1 vs1 g1 t1 m ds acc env = some (xs, e) → ∃ r, xs = acc ++ r
  | [], acc, xs, env, e, h => by
    simp only [cLoop2, Option.some.injEq, Prod.mk.injEq] at h
    exact ⟨[], by rw [List.append_nil]; exact h.1.symm⟩
  | d :: ds, acc, xs, env, e, h => by
    unfold cLoop2 at h
    cases q3 : g d env with
    | none => simp [q3] at h
    | some e3 =>
      simp only [q3] at h
      cases q4 : t e3 with
      | none => simp [q4] at h
      | some pr4 =>
        obtain ⟨b4, e4⟩ := pr4
        cases b4 with
        | false =>
          simp only [q4] at h
          exact cLoop2_pre h
        | true =>
          simp only [q4] at h
          cases q5 : mi1 e4 with
          | none => simp [q5] at h
          | some pr5 =>
            obtain ⟨ds1, e5⟩ := pr5
            simp only [q5] at h
            cases q6 : cLoop vs1 g1 t1 m ds1 acc (wipeE e5 vs1) with
            | none => simp [q6] at h
            | some pr6 =>
              obtain ⟨acc', e6⟩ := pr6
              simp only [q6] at h
              obtain ⟨r1, h1⟩ := cLoop_pre q6
              obtain ⟨r, hr⟩ := cLoop2_pre h
              exact ⟨r1 ++ r, by rw [hr, h1, List.append_assoc]⟩
/-- what the list of all that is made must be: few ints -/
def fSS (m : Xf) : Xf := fun env => match m env with
  | some (.lst xs, e1) => match intsD xs with
    | some ns => if ns.length < 64 then some (.lst ((srtS ns).map .int), e1) else none
    | none => none
  | _ => none
@[simp] theorem fSS_s (m : Xf) (env : MEnv) : fSS m env = match m env with
  | some (.lst xs, e1) => match intsD xs with
    | some ns => if ns.length < 64 then some (.lst ((srtS ns).map .int), e1) else none
    | none => none
  | _ => none := (rfl)
theorem intsD_at {xs : List D} {ns : List Int} (h : intsD xs = some ns) {acc : List D} {x : D} {r : List D} (e : xs = acc ++ [x] ++ r) : (∃ c, x = .int c) ∧ acc.length < ns.length := by
  have h1 := intsD_eq h
  have hl : acc.length < ns.length := by
    have : xs.length = ns.length := by rw [h1, List.length_map]
    rw [← this, e]
    simp
  refine ⟨⟨ns[acc.length], ?_⟩, hl⟩
  have h2 : xs[acc.length]? = some x := by
    rw [e, List.append_assoc, List.getElem?_append_right (Nat.le_refl _)]
    simp
  rw [h1, List.getElem?_map, List.getElem?_eq_getElem hl] at h2
  exact (Option.some.inj h2).symm
def tSSc (w : World) (t : TE) : TE := tCB (rSortedSet w) (tCons t tNil)
section
variable {X : Cx} {cl : ClM} {tg iter tg1 iter1 elt e : Expr} {ifs ifs1 : List Expr} {vs vs1 : List Nat} {mi mi1 : Xi} {g g1 : Xg} {mt mt1 : Xt} {m : Xp} {scope : Scope}
theorem scI_fr (hi : MI X cl tg iter mi) (hg : BlkAll X scope fun Y => MG Y cl (notIn vs) tg g) (ht : BlkAll X scope fun Y => MTs Y cl ifs mt) (he : BlkAll X scope fun Y => ME Y cl elt m) :
    ∃ wi tgt tt te, PI X tg iter wi ∧ BlkAll X scope (fun Y => PG Y tg tgt) ∧ BlkAll X scope (fun Y => PTs Y ifs tt) ∧ BlkAll X scope (fun Y => PE Y elt te) ∧ FrOk X.K cl (tSSc X.w (tScI X.w wi tgt tt te vs)) (fSS (fComp vs mi g mt m)) := by
  obtain ⟨wi, pi, ki⟩ := hi
  obtain ⟨tgt, pg, kg⟩ := uni_g hg
  obtain ⟨tt, pt, kt⟩ := uni_t ht
  obtain ⟨te, pe, ke⟩ := uni_e he
  refine ⟨wi, tgt, tt, te, pi, pg, pt, pe, fun σ H I env o env' Q gd hm k => ?_⟩
  unfold fSS fComp at hm
  cases q : mi env with
  | none => simp [q] at hm
  | some pr =>
    obtain ⟨ds, e1⟩ := pr
    simp only [q] at hm
    by_cases ok : okW e1 vs = true
    · rw [if_pos ok] at hm
      cases q2 : cLoop vs g mt m ds [] (wipeE e1 vs) with
      | none => simp [q2] at hm
      | some pr2 =>
        obtain ⟨xs, e2⟩ := pr2
        simp only [q2] at hm
        cases qn : intsD xs with
        | none => simp [qn] at hm
        | some nsF =>
        simp only [qn] at hm
        by_cases h64 : nsF.length < 64
        rotate_left
        · rw [if_neg h64] at hm
          cases hm
        rw [if_pos h64] at hm
        simp only [Option.some.injEq, Prod.mk.injEq] at hm
        obtain ⟨rfl, rfl⟩ := hm
        refine ki σ H I env ds e1 _ gd q fun J I1 H1 g1 t1 it => fun Da hD => ?_
        have nfD : ¬ Fp σ e1 Da := nf_fresh g1 hD
        have iD : I1 Da = none := g1.ex.free hD
        have al0 : Al I1 H1 I1 (upd H1 Da (SetO X.w Da (fun _ => false) 0)) := Al.newH g1.ex hD
        refine ⟨fun i j H2 => j = ds.length - i ∧ ∃ I2 env2 acc accV, Gd X.K cl I2 H2 (wipe σ vs) env2 ∧ Tr (Fp σ e1) I1 H1 (Fp (wipe σ vs) env2) I2 H2 ∧ I2 Da = none ∧ H2 Da = some (SI X.w Da accV) ∧ ¬ Fp (wipe σ vs) env2 Da ∧ RI accV acc ∧
            cLoop vs g mt m (ds.drop i) acc env2 = some (xs, e2),
          ⟨ds.length, rfl, I1, wipeE e1 vs, [], ([], 0), (g1.al al0).wipe, ((al0.tr (F := Fp σ e1)).less fun p h => h.wipe), iD, by rw [upd_same, SI_nil], fun h => nfD h.wipe, ⟨rfl, Nat.le_refl _⟩, q2⟩, fun i j H2 ⟨hj, I2, env2, acc, accV, g2, t2, i2, h2, nf2, ra, hw⟩ => ?_⟩
        obtain ⟨hstop, hgo⟩ := it i I2 H2 t2.ext g2.ex
        cases hd : ds[i]? with
        | none =>
          have hle : ds.length ≤ i := List.getElem?_eq_none_iff.mp hd
          rw [List.drop_eq_nil_of_le hle] at hw
          simp only [cLoop, Option.some.injEq, Prod.mk.injEq] at hw
          obtain ⟨rfl, rfl⟩ := hw
          refine .inl ⟨hstop hd, ?_⟩
          have g3 : Gd X.K cl I2 H2 σ (restE e1 env2 vs) := Gd.rest g1 ok t2.ext g2
          have t3 : Tr (Fp σ e1) I1 H1 (Fp σ (restE e1 env2 vs)) I2 H2 := t2.less fun p h => Fp.rest ok h
          have en : accV.1 = nsF := by
            have := ra.1.symm.trans (intsD_eq qn)
            exact mapint_inj this
          have hle2 := ra.2
          refine ⟨Da, _, accV.2, rfl, h2, by rw [en] at hle2; omega, fun ns' b hpw hmem hlen hb => ?_⟩
          have e1' : ns' = srtS nsF := rise_ext hpw (srtS_pw nsF) fun j => by
            rw [srtS_mem, hmem, decide_eq_true_eq, en]
          subst e1'
          have al9 := Al.newH (ho := .lst ((srtS nsF).map V.int)) g3.ex hb
          have hb1 : H1 b = none := by
            cases qq : H1 b with
            | none => rfl
            | some u => exact absurd hb (t3.dom b (by rw [qq]; exact fun z => nomatch z))
          exact k b _ _ _ (g3.al al9) ((t1.trans t3).trans al9.tr) (g3.ex.free hb) upd_same (.lst (RpA.ofInts _)) ((t1.trans t3).back (.inr hb)) (nf_fresh g3 hb)
        | some d =>
          have hlt : i < ds.length := (List.getElem?_eq_some_iff.mp hd).1
          have edr : ds.drop i = d :: ds.drop (i + 1) := by
            rw [List.drop_eq_getElem_cons hlt]
            congr 1
            exact (List.getElem?_eq_some_iff.mp hd).2
          rw [edr] at hw
          obtain ⟨go, yld⟩ := hgo d hd
          refine .inr ⟨go, fun H4 => ∃ I4 env4 acc4 accV4, Gd X.K cl I4 H4 (wipe σ vs) env4 ∧ Tr (Fp σ e1) I1 H1 (Fp (wipe σ vs) env4) I4 H4 ∧ I4 Da = none ∧ H4 Da = some (SI X.w Da accV4) ∧ ¬ Fp (wipe σ vs) env4 Da ∧ RI accV4 acc4 ∧
            cLoop vs g mt m (ds.drop (i + 1)) acc4 env4 = some (xs, e2), fun H4 h4 => ⟨ds.length - (i + 1), by omega, rfl, h4⟩, fun v H3 hy => ?_⟩
          obtain ⟨I3, al, rv⟩ := yld v H3 hy
          have g3 := g2.al al
          have t3 := t2.trans (al.tr (F := Fp (wipe σ vs) env2))
          have hDa2 : H2 Da ≠ none := by
            rw [h2]
            exact fun z => nomatch z
          have i3 : I3 Da = none := al.nofr Da hDa2 i2
          have h3 : H3 Da = some (SI X.w Da accV) := al.exH _ _ h2
          unfold cLoop at hw
          cases q3 : g d env2 with
          | none => simp [q3] at hw
          | some e3 =>
            simp only [q3] at hw
            refine kg (wipe σ vs) H3 I3 env2 d e3 v _ g3 rv q3 fun σ4 I4 H4 g4 t4 r4 l4 => ?_
            have ew : wipe σ4 vs = wipe σ vs := (wipe_eq l4 fun i hi => r4 i (notIn_t hi)).trans (wipe_eq (wipe_length _ _) fun i hi => wipe_out hi)
            refine ⟨ew, ?_⟩
            have t34 := t3.trans t4
            have hDa3 : H3 Da ≠ none := by
              rw [h3]
              exact fun z => nomatch z
            have i4 : I4 Da = none := t4.nofr Da hDa3 nf2 i3
            have h4 : H4 Da = some (SI X.w Da accV) := t4.frame _ _ h3 nf2
            have nf4 : ¬ Fp σ4 e3 Da := t4.notin hDa3 nf2
            cases q4 : mt e3 with
            | none => simp [q4] at hw
            | some pr4 =>
              obtain ⟨b4, e4⟩ := pr4
              refine kt σ4 H4 I4 e3 b4 e4 _ g4 q4 fun I5 H5 g5 t5 => ?_
              have hDa4 : H4 Da ≠ none := by
                rw [h4]
                exact fun z => nomatch z
              have i5 : I5 Da = none := t5.nofr Da hDa4 nf4 i4
              have h5 : H5 Da = some (SI X.w Da accV) := t5.frame _ _ h4 nf4
              have nf5 : ¬ Fp σ4 e4 Da := t5.notin hDa4 nf4
              have t45 := t34.trans t5
              cases b4 with
              | false =>
                simp only [q4] at hw
                show ∃ I4 env4 acc4 accV4, _
                refine ⟨I5, wipeE e4 vs, acc, accV, ?_, ?_, i5, h5, ?_, ra, hw⟩
                · rw [← ew]
                  exact g5.wipe
                · rw [← ew]
                  exact t45.less fun p h => h.wipe
                · rw [← ew]
                  exact fun h => nf5 h.wipe
              | true =>
                simp only [q4] at hw
                show te σ4 H5 _
                cases q6 : m e4 with
                | none => simp [q6] at hw
                | some pr6 =>
                  obtain ⟨r6, e6⟩ := pr6
                  simp only [q6] at hw
                  cases q7 : esc e6 r6 with
                  | none => simp [q7] at hw
                  | some pr7 =>
                    obtain ⟨x, e7⟩ := pr7
                    simp only [q7] at hw
                    by_cases hsz : acc.length < 16777216
                    · rw [if_pos hsz] at hw
                      refine ke σ4 H5 I5 e4 r6 e6 _ g5 q6 fun y I6 H6 g6 t6 r6' => ?_
                      obtain ⟨I7, g7, t7, r7⟩ := esc_ok g6 r6' q7
                      have t67 := t6.trans t7
                      have hDa5 : H5 Da ≠ none := by
                        rw [h5]
                        exact fun z => nomatch z
                      have i7 : I7 Da = none := t67.nofr Da hDa5 nf5 i5
                      have h7 : H6 Da = some (SI X.w Da accV) := t67.frame _ _ h5 nf5
                      have nf7 : ¬ Fp σ4 e7 Da := t67.notin hDa5 nf5
                      obtain ⟨rr, hrr⟩ := cLoop_pre hw
                      obtain ⟨⟨c, rfl⟩, hll⟩ := intsD_at qn hrr
                      cases r7
                      have hle2 := ra.2
                      have hal : acc.length = accV.1.length := by rw [ra.1, List.length_map]
                      refine ⟨c, _, accV.2, rfl, h7, by unfold scanBound; omega, I7, wipeE e7 vs, acc ++ [.int c], (accV.1 ++ [c], if decide (c ∈ accV.1) = true then accV.2 else accV.2 + 1), ?_, ?_, i7, by rw [upd_same, SI_add], ?_, RI_add ra c, hw⟩
                      · rw [← ew]
                        exact (g7.updH i7 nf7).wipe
                      · rw [← ew]
                        exact ((t45.trans t67).updN (.inr hD)).less fun p h => h.wipe
                      · rw [← ew]
                        exact fun h => nf7 h.wipe
                    · rw [if_neg hsz] at hw
                      cases hw
    · rw [if_neg ok] at hm
      cases hm
theorem scI2_fr (hvs : ∀ i ∈ vs1, i ∈ vs) (hi : MI X cl tg iter mi) (hg : BlkAll X scope fun Y => MG Y cl (notIn vs) tg g) (ht : BlkAll X scope fun Y => MTs Y cl ifs mt)
    (hi1 : BlkAll X scope fun Y => MI Y cl tg1 iter1 mi1) (hg1 : BlkAll X scope fun Y => MG Y cl (notIn vs1) tg1 g1) (ht1 : BlkAll X scope fun Y => MTs Y cl ifs1 mt1) (he : BlkAll X scope fun Y => ME Y cl elt m) :
    ∃ wi tgt tt wi1 tgt1 tt1 te, PI X tg iter wi ∧ BlkAll X scope (fun Y => PG Y tg tgt) ∧ BlkAll X scope (fun Y => PTs Y ifs tt) ∧ BlkAll X scope (fun Y => PI Y tg1 iter1 wi1) ∧ BlkAll X scope (fun Y => PG Y tg1 tgt1) ∧ BlkAll X scope (fun Y => PTs Y ifs1 tt1) ∧ BlkAll X scope (fun Y => PE Y elt te) ∧
      FrOk X.K cl (tSSc X.w (tSc2 X.w wi tgt tt wi1 tgt1 tt1 te vs vs1)) (fSS (fComp2 vs mi g mt mi1 vs1 g1 mt1 m)) := by
  obtain ⟨wi, pi, ki⟩ := hi
  obtain ⟨tgt, pg, kg⟩ := uni_g hg
  obtain ⟨tt, pt, kt⟩ := uni_t ht
  obtain ⟨wi1, pi1, ki1⟩ := uni_i hi1
  obtain ⟨tgt1, pg1, kg1⟩ := uni_g hg1
  obtain ⟨tt1, pt1, kt1⟩ := uni_t ht1
  obtain ⟨te, pe, ke⟩ := uni_e he
  refine ⟨wi, tgt, tt, wi1, tgt1, tt1, te, pi, pg, pt, pi1, pg1, pt1, pe, fun σ H I env o env' Q gd hm k => ?_⟩
  unfold fSS fComp2 at hm
  cases q : mi env with
  | none => simp [q] at hm
  | some pr =>
    obtain ⟨ds, e1⟩ := pr
    simp only [q] at hm
    by_cases ok : okW e1 vs = true
    · rw [if_pos ok] at hm
      cases q2 : cLoop2 vs g mt mi1 vs1 g1 mt1 m ds [] (wipeE e1 vs) with
      | none => simp [q2] at hm
      | some pr2 =>
        obtain ⟨xs, e2⟩ := pr2
        simp only [q2] at hm
        cases qn : intsD xs with
        | none => simp [qn] at hm
        | some nsF =>
        simp only [qn] at hm
        by_cases h64 : nsF.length < 64
        rotate_left
        · rw [if_neg h64] at hm
          cases hm
        rw [if_pos h64] at hm
        simp only [Option.some.injEq, Prod.mk.injEq] at hm
        obtain ⟨rfl, rfl⟩ := hm
        refine ki σ H I env ds e1 _ gd q fun J I1 H1 g1' t1 it => fun Da hD => ?_
        have nfD : ¬ Fp σ e1 Da := nf_fresh g1' hD
        have iD : I1 Da = none := g1'.ex.free hD
        have al0 : Al I1 H1 I1 (upd H1 Da (SetO X.w Da (fun _ => false) 0)) := Al.newH g1'.ex hD
        refine ⟨fun i j H2 => j = ds.length - i ∧ ∃ I2 env2 acc accV, Gd X.K cl I2 H2 (wipe σ vs) env2 ∧ Tr (Fp σ e1) I1 H1 (Fp (wipe σ vs) env2) I2 H2 ∧ I2 Da = none ∧ H2 Da = some (SI X.w Da accV) ∧ ¬ Fp (wipe σ vs) env2 Da ∧ RI accV acc ∧
            cLoop2 vs g mt mi1 vs1 g1 mt1 m (ds.drop i) acc env2 = some (xs, e2),
          ⟨ds.length, rfl, I1, wipeE e1 vs, [], ([], 0), (g1'.al al0).wipe, ((al0.tr (F := Fp σ e1)).less fun p h => h.wipe), iD, by rw [upd_same, SI_nil], fun h => nfD h.wipe, ⟨rfl, Nat.le_refl _⟩, q2⟩, fun i j H2 ⟨hj, I2, env2, acc, accV, g2, t2, i2, h2, nf2, ra, hw⟩ => ?_⟩
        obtain ⟨hstop, hgo⟩ := it i I2 H2 t2.ext g2.ex
        cases hd : ds[i]? with
        | none =>
          have hle : ds.length ≤ i := List.getElem?_eq_none_iff.mp hd
          rw [List.drop_eq_nil_of_le hle] at hw
          simp only [cLoop2, Option.some.injEq, Prod.mk.injEq] at hw
          obtain ⟨rfl, rfl⟩ := hw
          refine .inl ⟨hstop hd, ?_⟩
          have g3 : Gd X.K cl I2 H2 σ (restE e1 env2 vs) := Gd.rest g1' ok t2.ext g2
          have t3 : Tr (Fp σ e1) I1 H1 (Fp σ (restE e1 env2 vs)) I2 H2 := t2.less fun p h => Fp.rest ok h
          have en : accV.1 = nsF := by
            have := ra.1.symm.trans (intsD_eq qn)
            exact mapint_inj this
          have hle2 := ra.2
          refine ⟨Da, _, accV.2, rfl, h2, by rw [en] at hle2; omega, fun ns' b hpw hmem hlen hb => ?_⟩
          have e1' : ns' = srtS nsF := rise_ext hpw (srtS_pw nsF) fun j => by
            rw [srtS_mem, hmem, decide_eq_true_eq, en]
          subst e1'
          have al9 := Al.newH (ho := .lst ((srtS nsF).map V.int)) g3.ex hb
          have hb1 : H1 b = none := by
            cases qq : H1 b with
            | none => rfl
            | some u => exact absurd hb (t3.dom b (by rw [qq]; exact fun z => nomatch z))
          exact k b _ _ _ (g3.al al9) ((t1.trans t3).trans al9.tr) (g3.ex.free hb) upd_same (.lst (RpA.ofInts _)) ((t1.trans t3).back (.inr hb)) (nf_fresh g3 hb)
        | some d =>
          have hlt : i < ds.length := (List.getElem?_eq_some_iff.mp hd).1
          have edr : ds.drop i = d :: ds.drop (i + 1) := by
            rw [List.drop_eq_getElem_cons hlt]
            congr 1
            exact (List.getElem?_eq_some_iff.mp hd).2
          rw [edr] at hw
          obtain ⟨go, yld⟩ := hgo d hd
          refine .inr ⟨go, fun H4 => ∃ I4 env4 acc4 accV4, Gd X.K cl I4 H4 (wipe σ vs) env4 ∧ Tr (Fp σ e1) I1 H1 (Fp (wipe σ vs) env4) I4 H4 ∧ I4 Da = none ∧ H4 Da = some (SI X.w Da accV4) ∧ ¬ Fp (wipe σ vs) env4 Da ∧ RI accV4 acc4 ∧
            cLoop2 vs g mt mi1 vs1 g1 mt1 m (ds.drop (i + 1)) acc4 env4 = some (xs, e2), fun H4 h4 => ⟨ds.length - (i + 1), by omega, rfl, h4⟩, fun v H3 hy => ?_⟩
          obtain ⟨I3, al, rv⟩ := yld v H3 hy
          have g3 := g2.al al
          have t3 := t2.trans (al.tr (F := Fp (wipe σ vs) env2))
          have hDa2 : H2 Da ≠ none := by
            rw [h2]
            exact fun z => nomatch z
          have i3 : I3 Da = none := al.nofr Da hDa2 i2
          have h3 : H3 Da = some (SI X.w Da accV) := al.exH _ _ h2
          unfold cLoop2 at hw
          cases q3 : g d env2 with
          | none => simp [q3] at hw
          | some e3 =>
            simp only [q3] at hw
            refine kg (wipe σ vs) H3 I3 env2 d e3 v _ g3 rv q3 fun σ4 I4 H4 g4 t4 r4 l4 => ?_
            have ew : wipe σ4 vs = wipe σ vs := (wipe_eq l4 fun i hi => r4 i (notIn_t hi)).trans (wipe_eq (wipe_length _ _) fun i hi => wipe_out hi)
            refine ⟨ew, ?_⟩
            have t34 := t3.trans t4
            have hDa3 : H3 Da ≠ none := by
              rw [h3]
              exact fun z => nomatch z
            have i4 : I4 Da = none := t4.nofr Da hDa3 nf2 i3
            have h4 : H4 Da = some (SI X.w Da accV) := t4.frame _ _ h3 nf2
            have nf4 : ¬ Fp σ4 e3 Da := t4.notin hDa3 nf2
            cases q4 : mt e3 with
            | none => simp [q4] at hw
            | some pr4 =>
              obtain ⟨b4, e4⟩ := pr4
              refine kt σ4 H4 I4 e3 b4 e4 _ g4 q4 fun I5 H5 g5 t5 => ?_
              have hDa4 : H4 Da ≠ none := by
                rw [h4]
                exact fun z => nomatch z
              have i5 : I5 Da = none := t5.nofr Da hDa4 nf4 i4
              have h5 : H5 Da = some (SI X.w Da accV) := t5.frame _ _ h4 nf4
              have nf5 : ¬ Fp σ4 e4 Da := t5.notin hDa4 nf4
              have t45 := t34.trans t5
              cases b4 with
              | false =>
                simp only [q4] at hw
                show ∃ I4 env4 acc4 accV4, _
                refine ⟨I5, wipeE e4 vs, acc, accV, ?_, ?_, i5, h5, ?_, ra, hw⟩
                · rw [← ew]
                  exact g5.wipe
                · rw [← ew]
                  exact t45.less fun p h => h.wipe
                · rw [← ew]
                  exact fun h => nf5 h.wipe
              | true =>
                simp only [q4] at hw
                show wi1 σ4 H5 _
                cases q5 : mi1 e4 with
                | none => simp [q5] at hw
                | some pr5 =>
                  obtain ⟨ds1, e5⟩ := pr5
                  simp only [q5] at hw
                  cases q6 : cLoop vs1 g1 mt1 m ds1 acc (wipeE e5 vs1) with
                  | none => simp [q6] at hw
                  | some pr6 =>
                    obtain ⟨acc', e6⟩ := pr6
                    simp only [q6] at hw
                    refine ki1 σ4 H5 I5 e4 ds1 e5 _ g5 q5 fun J1 I6 H6 g6 t6 it6 => ?_
                    have hDa5 : H5 Da ≠ none := by
                      rw [h5]
                      exact fun z => nomatch z
                    have i6 : I6 Da = none := t6.nofr Da hDa5 nf5 i5
                    have h6 : H6 Da = some (SI X.w Da accV) := t6.frame _ _ h5 nf5
                    have nf6 : ¬ Fp σ4 e5 Da := t6.notin hDa5 nf5
                    have t46 := t45.trans t6
                    have ra6 : RI accV acc := ra
                    refine ⟨fun j k H7 => k = ds1.length - j ∧ ∃ I7 env7 acc7 accV7, Gd X.K cl I7 H7 (wipe σ4 vs1) env7 ∧ Tr (Fp σ e1) I1 H1 (Fp (wipe σ4 vs1) env7) I7 H7 ∧ I7 Da = none ∧ H7 Da = some (SI X.w Da accV7) ∧ ¬ Fp (wipe σ4 vs1) env7 Da ∧ RI accV7 acc7 ∧ Same I6 I7 ∧
                        cLoop vs1 g1 mt1 m (ds1.drop j) acc7 env7 = some (acc', e6),
                      ⟨ds1.length, rfl, I6, wipeE e5 vs1, acc, accV, g6.wipe, t46.less fun p h => h.wipe, i6, h6, fun h => nf6 h.wipe, ra6, fun _ _ h => h, q6⟩, fun j k H7 ⟨hk, I7, env7, acc7, accV7, g7, t7, i7, h7, nf7, ra7, e67, hw7⟩ => ?_⟩
                    obtain ⟨hstop1, hgo1⟩ := it6 j I7 H7 e67 g7.ex
                    cases hd1 : ds1[j]? with
                    | none =>
                      have hle : ds1.length ≤ j := List.getElem?_eq_none_iff.mp hd1
                      rw [List.drop_eq_nil_of_le hle] at hw7
                      simp only [cLoop, Option.some.injEq, Prod.mk.injEq] at hw7
                      obtain ⟨rfl, rfl⟩ := hw7
                      refine .inl ⟨hstop1 hd1, ?_⟩
                      have ew1 : wipe (wipe σ4 vs1) vs = wipe σ vs := (wipe_sub hvs).trans ew
                      refine ⟨I7, wipeE env7 vs, acc7, accV7, ?_, ?_, i7, h7, ?_, ra7, hw⟩
                      · rw [← ew1]
                        exact g7.wipe
                      · rw [← ew1]
                        exact t7.less fun p h => h.wipe
                      · rw [← ew1]
                        exact fun h => nf7 h.wipe
                    | some d1 =>
                      have hlt1 : j < ds1.length := (List.getElem?_eq_some_iff.mp hd1).1
                      have edr1 : ds1.drop j = d1 :: ds1.drop (j + 1) := by
                        rw [List.drop_eq_getElem_cons hlt1]
                        congr 1
                        exact (List.getElem?_eq_some_iff.mp hd1).2
                      rw [edr1] at hw7
                      obtain ⟨go1, yld1⟩ := hgo1 d1 hd1
                      refine .inr ⟨go1, fun H8 => ∃ I7 env7 acc7 accV7, Gd X.K cl I7 H8 (wipe σ4 vs1) env7 ∧ Tr (Fp σ e1) I1 H1 (Fp (wipe σ4 vs1) env7) I7 H8 ∧ I7 Da = none ∧ H8 Da = some (SI X.w Da accV7) ∧ ¬ Fp (wipe σ4 vs1) env7 Da ∧ RI accV7 acc7 ∧ Same I6 I7 ∧
                        cLoop vs1 g1 mt1 m (ds1.drop (j + 1)) acc7 env7 = some (acc', e6), fun H8 h8 => ⟨ds1.length - (j + 1), by omega, rfl, h8⟩, fun v1 H8 hy1 => ?_⟩
                      obtain ⟨I8, al8, rv8⟩ := yld1 v1 H8 hy1
                      have g8 := g7.al al8
                      have t8 := t7.trans (al8.tr (F := Fp (wipe σ4 vs1) env7))
                      have hDa7 : H7 Da ≠ none := by
                        rw [h7]
                        exact fun z => nomatch z
                      have i8 : I8 Da = none := al8.nofr Da hDa7 i7
                      have h8 : H8 Da = some (SI X.w Da accV7) := al8.exH _ _ h7
                      unfold cLoop at hw7
                      cases q8 : g1 d1 env7 with
                      | none => simp [q8] at hw7
                      | some e8 =>
                        simp only [q8] at hw7
                        refine kg1 (wipe σ4 vs1) H8 I8 env7 d1 e8 v1 _ g8 rv8 q8 fun σ9 I9 H9 g9 t9 r9 l9 => ?_
                        have ew9 : wipe σ9 vs1 = wipe σ4 vs1 := (wipe_eq l9 fun i hi => r9 i (notIn_t hi)).trans (wipe_eq (wipe_length _ _) fun i hi => wipe_out hi)
                        refine ⟨ew9, ?_⟩
                        have t89 := t8.trans t9
                        have hDa8 : H8 Da ≠ none := by
                          rw [h8]
                          exact fun z => nomatch z
                        have i9 : I9 Da = none := t9.nofr Da hDa8 nf7 i8
                        have h9 : H9 Da = some (SI X.w Da accV7) := t9.frame _ _ h8 nf7
                        have nf9 : ¬ Fp σ9 e8 Da := t9.notin hDa8 nf7
                        cases q9 : mt1 e8 with
                        | none => simp [q9] at hw7
                        | some pr9 =>
                          obtain ⟨b9, e9⟩ := pr9
                          refine kt1 σ9 H9 I9 e8 b9 e9 _ g9 q9 fun Ia Ha ga ta => ?_
                          have hDa9 : H9 Da ≠ none := by
                            rw [h9]
                            exact fun z => nomatch z
                          have ia : Ia Da = none := ta.nofr Da hDa9 nf9 i9
                          have ha : Ha Da = some (SI X.w Da accV7) := ta.frame _ _ h9 nf9
                          have nfa : ¬ Fp σ9 e9 Da := ta.notin hDa9 nf9
                          have t9a := t89.trans ta
                          have ext9 := (al8.ext.trans t9.ext).trans ta.ext
                          cases b9 with
                          | false =>
                            simp only [q9] at hw7
                            show ∃ I7 env7 acc7 accV7, _
                            refine ⟨Ia, wipeE e9 vs1, acc7, accV7, ?_, ?_, ia, ha, ?_, ra7, e67.trans ext9, hw7⟩
                            · rw [← ew9]
                              exact ga.wipe
                            · rw [← ew9]
                              exact t9a.less fun p h => h.wipe
                            · rw [← ew9]
                              exact fun h => nfa h.wipe
                          | true =>
                            simp only [q9] at hw7
                            show te σ9 Ha _
                            cases qb : m e9 with
                            | none => simp [qb] at hw7
                            | some prb =>
                              obtain ⟨rb, eb⟩ := prb
                              simp only [qb] at hw7
                              cases qc : esc eb rb with
                              | none => simp [qc] at hw7
                              | some prc =>
                                obtain ⟨x, ec⟩ := prc
                                simp only [qc] at hw7
                                by_cases hsz : acc7.length < 16777216
                                · rw [if_pos hsz] at hw7
                                  refine ke σ9 Ha Ia e9 rb eb _ ga qb fun y Ib Hb gb tb rb' => ?_
                                  obtain ⟨Ic, gc, tc, rc⟩ := esc_ok gb rb' qc
                                  have tbc := tb.trans tc
                                  have hDaa : Ha Da ≠ none := by
                                    rw [ha]
                                    exact fun z => nomatch z
                                  have ic : Ic Da = none := tbc.nofr Da hDaa nfa ia
                                  have hc : Hb Da = some (SI X.w Da accV7) := tbc.frame _ _ ha nfa
                                  have nfc : ¬ Fp σ9 ec Da := tbc.notin hDaa nfa
                                  obtain ⟨rr, hrr⟩ := cLoop_pre hw7
                                  obtain ⟨rr2, hrr2⟩ := cLoop2_pre hw
                                  obtain ⟨⟨c, rfl⟩, hll⟩ := intsD_at qn (r := rr ++ rr2) (by rw [hrr2, hrr, List.append_assoc])
                                  cases rc
                                  have hle2 := ra7.2
                                  have hal : acc7.length = accV7.1.length := by rw [ra7.1, List.length_map]
                                  refine ⟨c, _, accV7.2, rfl, hc, by unfold scanBound; omega, Ic, wipeE ec vs1, acc7 ++ [.int c], (accV7.1 ++ [c], if decide (c ∈ accV7.1) = true then accV7.2 else accV7.2 + 1), ?_, ?_, ic, by rw [upd_same, SI_add], ?_, RI_add ra7 c, e67.trans (ext9.trans tbc.ext), hw7⟩
                                  · rw [← ew9]
                                    exact (gc.updH ic nfc).wipe
                                  · rw [← ew9]
                                    exact ((t9a.trans tbc).updN (.inr hD)).less fun p h => h.wipe
                                  · rw [← ew9]
                                    exact fun h => nfc h.wipe
                                · rw [if_neg hsz] at hw7
                                  cases hw7
    · rw [if_neg ok] at hm
      cases hm
theorem mf_sc (hi : MI X cl tg iter mi) (hg : BlkAll X scope fun Y => MG Y cl (notIn vs) tg g) (ht : BlkAll X scope fun Y => MTs Y cl ifs mt) (he : BlkAll X scope fun Y => ME Y cl elt m)
    (hp : ∀ wi tgt tt te, PI X tg iter wi → BlkAll X scope (fun Y => PG Y tg tgt) → BlkAll X scope (fun Y => PTs Y ifs tt) → BlkAll X scope (fun Y => PE Y elt te) → PE X e (tSSc X.w (tScI X.w wi tgt tt te vs))) : MF X cl e (fSS (fComp vs mi g mt m)) := by
  obtain ⟨wi, tgt, tt, te, pi, pg, pt, pe, fr⟩ := scI_fr hi hg ht he
  exact ⟨_, hp wi tgt tt te pi pg pt pe, fr⟩
theorem mf_sc2 (hvs : ∀ i ∈ vs1, i ∈ vs) (hi : MI X cl tg iter mi) (hg : BlkAll X scope fun Y => MG Y cl (notIn vs) tg g) (ht : BlkAll X scope fun Y => MTs Y cl ifs mt)
    (hi1 : BlkAll X scope fun Y => MI Y cl tg1 iter1 mi1) (hg1 : BlkAll X scope fun Y => MG Y cl (notIn vs1) tg1 g1) (ht1 : BlkAll X scope fun Y => MTs Y cl ifs1 mt1) (he : BlkAll X scope fun Y => ME Y cl elt m)
    (hp : ∀ wi tgt tt wi1 tgt1 tt1 te, PI X tg iter wi → BlkAll X scope (fun Y => PG Y tg tgt) → BlkAll X scope (fun Y => PTs Y ifs tt) → BlkAll X scope (fun Y => PI Y tg1 iter1 wi1) → BlkAll X scope (fun Y => PG Y tg1 tgt1) → BlkAll X scope (fun Y => PTs Y ifs1 tt1) → BlkAll X scope (fun Y => PE Y elt te) →
      PE X e (tSSc X.w (tSc2 X.w wi tgt tt wi1 tgt1 tt1 te vs vs1))) : MF X cl e (fSS (fComp2 vs mi g mt mi1 vs1 g1 mt1 m)) := by
  obtain ⟨wi, tgt, tt, wi1, tgt1, tt1, te, pi, pg, pt, pi1, pg1, pt1, pe, fr⟩ := scI2_fr hvs hi hg ht hi1 hg1 ht1 he
  exact ⟨_, hp wi tgt tt wi1 tgt1 tt1 te pi pg pt pi1 pg1 pt1 pe, fr⟩
end
end MP
set_option Elab.async false
set_option linter.all false
set_option maxRecDepth 100000
set_option maxHeartbeats 4000000
namespace MP
open PySem PySem.Spec PyProof.Rows L2
/-! ### methods of a list or of a tuple that are only read: t.count(x), t.index(x) -/
def tBMS (K : PySem.W.Frag) (rl rt : V → List V → Hp → VK → Prop) (to : TE) (t : TA) : TE := fun σ H Q => to σ H fun x H1 =>
  ((∃ p xs, x = .ref p ∧ SqL K H1 p xs) ∧ t σ H1 fun xs H2 => rl x xs H2 Q) ∨ ((∃ p xs, x = .ref p ∧ TupIn K H1 p xs ∧ plV xs = false) ∧ t σ H1 fun xs H2 => rt x xs H2 Q)
theorem pe_bmS {X : Cx} {o e : Expr} {es : List Expr} {to : TE} {t : TA} {name : Str} {apos cpos : Pos} {idl idt : String} {rl rt : V → List V → Hp → VK → Prop}
    (sl : PySem.Slot "list" name idl) (hl : typeOf (.builtin idl) = pure (.type "method_descriptor")) (ml : MtR X idl rl)
    (st : PySem.Slot "tuple" name idt) (ht : typeOf (.builtin idt) = pure (.type "method_descriptor")) (mt : MtR X idt rt)
    (ho : PE X o to) (ha : PA X (e :: es) t) (hbase : attributeBase o name X.env (eval o X.env) = eval o X.env := by rfl)
    (hfew : ((((backTo cpos (starEach (e :: es) X.env)).all fun x => !x.1) && (backToKw cpos (keywordEach [] X.env)).all fun x => x.1.isSome) && decide (((e :: es).length + ([] : List Keyword).length + if ([] : List Keyword).isEmpty = true then 0 else 1) < 30)) = true := by rfl)
    (hline : (apos.endLine == cpos.line) = true := by rfl) (hs : starEach (e :: es) X.env = (false, eval e X.env) :: starEach es X.env := by rfl)
    (hplain : ((backTo cpos (starEach es X.env)).any fun x => x.1) = false := by rfl) : PE X (.Call (.Attribute o name apos) (e :: es) [] cpos) (tBMS X.K rl rt to t) where
  run := fun pins s σ H Q I h => by
    have fin : ∀ {id : String} {r : V → List V → Hp → VK → Prop} (hm : MtR X id r) (x : V) (v : Value) (s1 : Shared) (H1 : Hp), Inv X pins σ H1 s1 → RelV x v → (t σ H1 fun xs H2 => r x xs H2 Q) →
        wpAny (model X.prog X.w) X.A (callWith cpos (.builtin id) [v] (backTo cpos (starEach (e :: es) X.env)) []) (EP X pins σ Q) X.xe s1 := fun {id r} hm x v s1 H1 I1 r1 q1 => by
      have hA := ha.run cpos pins s1 σ H1 (fun xs H2 => r x xs H2 Q) I1 q1
      rw [hs] at hA ⊢
      refine Calls.callWith_builtin ?_ (Calls.evalArgs_plain (thn hA fun us s2 ⟨vs, H2, I2, r2, q2⟩ => hm pins s2 σ H2 x vs v us Q I2 r1 r2 q2))
      show (false || _) = false
      rw [Bool.false_or]
      exact hplain
    refine wpAny_Call_method_late hbase hfew hline rfl (thn (ho.run pins s σ H _ I h) fun v s1 hx => ?_)
    obtain ⟨x, H1, I1, r1, q1⟩ := hx
    rcases q1 with ⟨⟨p, xs, rfl, hp⟩, q1⟩ | ⟨⟨p, xs, rfl, hp, hpl⟩, q1⟩
    · obtain ⟨h1, h2⟩ := tyV_is (T := "list") I1 r1 (.inl ⟨rfl, xs, hp⟩)
      exact ⟨"list", idl, F.plainAttrs_list, sl, hl, h1, h2, fin ml _ v s1 H1 I1 r1 q1⟩
    · rcases hp with ⟨us, hp⟩ | hp
      · rw [xT_ex hpl] at hp
        cases r1
        obtain ⟨ho1, _, its, _, hT⟩ := I1.hok _ _ hp
        exact ⟨"tuple", idt, F.plainAttrs_tuple, st, ht, hT.typeIs, fun a ea => by
          cases ea
          exact ⟨_, ho1, rfl⟩, fin mt (.ref p) _ s1 H1 I1 rfl q1⟩
      · obtain ⟨_, o, its, n, k1, k2, k3, k4, k5, k6⟩ := hp
        obtain ⟨h1, h2⟩ := tyV_is (T := "tuple") I1 r1 (.inr (.inl ⟨rfl, o, k1, k2, k3⟩))
        exact ⟨"tuple", idt, F.plainAttrs_tuple, st, ht, h1, h2, fin mt _ v s1 H1 I1 r1 q1⟩
def rCntX (K : PySem.W.Frag) : V → List V → Hp → VK → Prop := fun x xs H Q => ∃ p ns k, x = V.ref p ∧ xs = [V.int k] ∧ SqT K H p (List.map V.int ns) ∧ Q (V.int ↑(List.count k ns)) H
theorem mt_tcount {X : Cx} : MtR X "tuple.count" (rCntX X.K) := by
  rintro pins s σ H x xs v us Q I rx rxs ⟨p, ns, k, rfl, rfl, hs, q⟩
  cases rx
  obtain ⟨u, rfl, ru⟩ := rxs.one
  obtain ⟨t, rfl⟩ := ru
  obtain ⟨its, rv, ⟨⟨cls, dd, data, sl⟩, ho, hc, n, hd⟩, hz⟩ := I.tuple hs
  simp only at hc hd
  subst hc hd
  have hi := ints_of_vals rv
  refine call_meets F.slot_tuple_count ⟨_, ho, rfl⟩ F.entry_tuple_count (F.args_tuple_count_2 _ _) (SeqAt.tuple_countAt p its.toArray n dd sl (.int k t) (eqk k)) ⟨ho, fun y hy => (eqk_gives hi y (by simpa using hy)).at X.A.in1 s, ?_⟩
  exact ⟨.int (List.count k ns : Nat), H, I.tok (s.toks + 1), ⟨s.toks, by rw [eqk_count hi]⟩, q⟩
def eMw (g : List D → List D → Option D) (m : Xp) (ms : Xa) : Xp := fun env => match m env with
  | none => none
  | some (r, e1) => match vw e1 r with
    | some (.lst _) => match ms e1 with
      | none => none
      | some (rs, e2) => match vw e2 r, vwL e2 rs with
        | some (.lst xs), some ds => match g xs ds with
          | some z => some (.d z, e2)
          | none => none
        | _, _ => none
    | some (.tup xs) => if plD xs = true then none else match ms e1 with
      | none => none
      | some (rs, e2) => match vwL e2 rs with
        | some ds => match g xs ds with
          | some z => some (.d z, e2)
          | none => none
        | _ => none
    | _ => none
@[simp] theorem eMw_s (g : List D → List D → Option D) (m : Xp) (ms : Xa) (env : MEnv) : eMw g m ms env = match m env with
  | none => none
  | some (r, e1) => match vw e1 r with
    | some (.lst _) => match ms e1 with
      | none => none
      | some (rs, e2) => match vw e2 r, vwL e2 rs with
        | some (.lst xs), some ds => match g xs ds with
          | some z => some (.d z, e2)
          | none => none
        | _, _ => none
    | some (.tup xs) => if plD xs = true then none else match ms e1 with
      | none => none
      | some (rs, e2) => match vwL e2 rs with
        | some ds => match g xs ds with
          | some z => some (.d z, e2)
          | none => none
        | _ => none
    | _ => none := (rfl)
def MvT (X : Cx) (cl : ClM) (r : V → List V → Hp → VK → Prop) (g : List D → List D → Option D) : Prop := ∀ (I H : Hp) (p : Addr) (vs ws : List V) (xs ds : List D) (z : D) (Q : VK), Same I H → SqT X.K H p vs → RpA X.K cl I vs xs → VwA X.K cl I H ws ds → g xs ds = some z →
  (∀ u I' H', Al I H I' H' → Rp X.K cl I' u z → Q u H') → r (.ref p) ws H Q
theorem me_mw {X : Cx} {cl : ClM} {e o : Expr} {es : List Expr} {m : Xp} {ms : Xa} {g : List D → List D → Option D} {rl rt : V → List V → Hp → VK → Prop} (hr : MvL X cl rl g) (hr2 : MvT X cl rt g) (ho : ME X cl o m) (hm : MA X cl es ms)
    (hp : ∀ to t, PE X o to → PA X es t → PE X e (tBMS X.K rl rt to t)) : ME X cl e (eMw g m ms) := by
  obtain ⟨to, po, ko⟩ := ho
  obtain ⟨t, p, k⟩ := hm
  refine ⟨_, hp to t po p, fun σ H I env r' env' Q gd hme kk => ?_⟩
  unfold eMw at hme
  cases q : m env with
  | none => simp [q] at hme
  | some pr =>
    obtain ⟨r1, e1⟩ := pr
    simp only [q] at hme
    split at hme
    · rename_i xs0 q2
      cases q3 : ms e1 with
      | none => simp [q3] at hme
      | some pr3 =>
        obtain ⟨rs, e2⟩ := pr3
        simp only [q3] at hme
        split at hme
        · rename_i xs ds q4 q5
          cases q6 : g xs ds with
          | none => simp [q6] at hme
          | some z =>
            simp only [q6, Option.some.injEq, Prod.mk.injEq] at hme
            obtain ⟨rfl, rfl⟩ := hme
            refine ko σ H I env r1 e1 _ gd q fun v I1 H1 g1 t1 rv => ?_
            obtain ⟨a, ws, rfl, hs, _⟩ := (vw_ok g1 rv q2).lst g1.ex
            refine .inl ⟨⟨_, _, rfl, SqL.of hs⟩, ?_⟩
            refine k σ H1 I1 e1 rs e2 _ g1 q3 fun us I2 H2 g2 t2 r2 => ?_
            exact hr I2 H2 _ us xs ds z Q g2.ex (vw_ok g2 (rv.mono t2.ext) q4) (vwL_ok g2 r2 q5) q6 fun u I3 H3 al ru => kk u I3 H3 (g2.al al) ((t1.trans t2).trans al.tr) ru
        · cases hme
    · rename_i xs q2
      by_cases hpl : plD xs = true
      · rw [if_pos hpl] at hme
        cases hme
      rw [if_neg hpl] at hme
      cases q3 : ms e1 with
      | none => simp [q3] at hme
      | some pr3 =>
        obtain ⟨rs, e2⟩ := pr3
        simp only [q3] at hme
        split at hme
        · rename_i ds q5
          cases q6 : g xs ds with
          | none => simp [q6] at hme
          | some z =>
            simp only [q6, Option.some.injEq, Prod.mk.injEq] at hme
            obtain ⟨rfl, rfl⟩ := hme
            refine ko σ H I env r1 e1 _ gd q fun v I1 H1 g1 t1 rv => ?_
            have hv := vw_ok g1 rv q2
            rcases hv with hh | hh
            · cases hh with
              | @tup a vs _ s2 rr =>
                refine .inr ⟨⟨_, _, rfl, s2.mono g1.ex, plD_V rr hpl⟩, ?_⟩
                refine k σ H1 I1 e1 rs e2 _ g1 q3 fun us I2 H2 g2 t2 r2 => ?_
                exact hr2 I2 H2 a vs us xs ds z Q g2.ex ((s2.mono t2.ext).mono g2.ex).sq (rr.mono t2.ext) (vwL_ok g2 r2 q5) q6 fun u I3 H3 al ru => kk u I3 H3 (g2.al al) ((t1.trans t2).trans al.tr) ru
            · obtain ⟨p, ho, o, _, _, _, rO, ed⟩ := hh
              cases rO <;> cases ed
        · cases hme
    · cases hme
theorem mvt_count {X : Cx} {cl : ClM} : MvT X cl (rCntX X.K) gCount := by
  intro I H p vs ws xs ds z Q ex hs r hws hg k
  unfold gCount at hg
  split at hg
  · rename_i d ns q
    cases Option.some.inj hg
    obtain ⟨y, rfl, hy⟩ := hws.one
    cases hy.int
    rw [intsD_eq q] at r
    have e := r.ints
    subst e
    exact ⟨p, ns, _, rfl, rfl, hs, k _ I H (Al.refl ex) (.int _)⟩
  · cases hg
theorem me_count {X : Cx} {cl : ClM} {e o : Expr} {es : List Expr} {m : Xp} {ms : Xa} (ho : ME X cl o m) (hm : MA X cl es ms) (hp : ∀ to t, PE X o to → PA X es t → PE X e (tBMS X.K (rCntI X.K) (rCntX X.K) to t)) : ME X cl e (eMw gCount m ms) := me_mw mv_count mvt_count ho hm hp
end MP
set_option Elab.async false
set_option linter.all false
set_option maxRecDepth 100000
set_option maxHeartbeats 4000000
namespace MP
open PySem PySem.Spec PyProof.Rows L2
/-! ### range(i, j, -1) -/
def rgDn (lo : Int) (n : Nat) : List D := (List.range n).map fun (i : Nat) => D.int (lo - (i : Nat))
theorem rgDn_get {lo : Int} {n i : Nat} : (rgDn lo n)[i]? = if i < n then some (D.int (lo - (i : Nat))) else none := by
  unfold rgDn
  rw [List.getElem?_map]
  by_cases h : i < n
  · rw [if_pos h, List.getElem?_range h]
    rfl
  · rw [if_neg h, List.getElem?_eq_none_iff.mpr (by rw [List.length_range]; omega)]
    rfl
theorem itc_ok {cl : ClM} {K : PySem.W.Frag} {I : Hp} {lo : Int} {n : Nat} : ItOk K cl I (Itc lo (-1) n) (rgDn lo n) := by
  intro i I1 H1 s1 s2
  rw [rgDn_get]
  by_cases h : i < n
  · rw [if_pos h]
    refine ⟨fun z => (nomatch z), fun d hd => ⟨h, fun v H2 ⟨e1, e2⟩ => ?_⟩⟩
    subst e1
    subst e2
    cases hd
    rw [show lo + (i : Int) * -1 = lo - (i : Nat) by omega]
    exact ⟨I1, Al.refl s2, .int _⟩
  · rw [if_neg h]
    exact ⟨fun _ => Nat.le_of_not_lt h, fun d hd => nomatch hd⟩
theorem rgSz (i j : Int) : PySem.Builtin.Range.rangeSize i j (-1) = (i - j).toNat := by
  unfold PySem.Builtin.Range.rangeSize
  rw [if_neg (by decide)]
  by_cases h : i > j
  · rw [if_pos h, show (-(-1) : Int) = 1 by decide, Int.ediv_one]
    omega
  · rw [if_neg h]
    omega
theorem fits {x : Int} (h : -(2 ^ 63) ≤ x ∧ x < 2 ^ 63) : PySem.Builtin.Range.rangeFitsLong x = true := by
  unfold PySem.Builtin.Range.rangeFitsLong
  simp
  omega
theorem rgC_dn {i j : Int} (hi : -(2 ^ 62) ≤ i ∧ i < 2 ^ 62) (hj : -(2 ^ 62) ≤ j ∧ j < 2 ^ 62) : RgC i j (-1) (i - j).toNat := by
  refine ⟨by decide, by decide, ?_, rgSz i j⟩
  unfold PySem.Builtin.Range.small
  rw [rgSz, fits (x := i) (by omega), fits (x := j) (by omega), fits (x := -1) (by omega), fits (x := ((i - j).toNat : Int)) (by omega), if_neg (by decide), fits (x := j + (-1 + 1)) (by omega)]
  simp
def iR3 (ms : Xa) : Xi := fun env => match ms env with
  | some ([r, r', r2], e1) => match vw e1 r, vw e1 r', vw e1 r2 with
    | some (.int i), some (.int j), some (.int c) => if okR i && okR j && decide (c = -1) then some (rgDn i (i - j).toNat, e1) else none
    | _, _, _ => none
  | _ => none
@[simp] theorem iR3_s (ms : Xa) (env : MEnv) : iR3 ms env = match ms env with
  | some ([r, r', r2], e1) => match vw e1 r, vw e1 r', vw e1 r2 with
    | some (.int i), some (.int j), some (.int c) => if okR i && okR j && decide (c = -1) then some (rgDn i (i - j).toNat, e1) else none
    | _, _, _ => none
  | _ => none := (rfl)
theorem mi_r3 {X : Cx} {cl : ClM} {e a b c tg : Expr} {ms : Xa} (h : MA X cl [a, b, c] ms) (hp : ∀ ta, PA X [a, b, c] ta → PI X tg e (iRng3 ta)) : MI X cl tg e (iR3 ms) := by
  obtain ⟨t, p, k⟩ := h
  refine ⟨_, hp t p, fun σ H I env ds env' Rr g hm kk => ?_⟩
  unfold iR3 at hm
  split at hm
  · rename_i r r' r2 e1 q
    split at hm
    · rename_i i j cc q2 q3 q4
      by_cases ok : (okR i && okR j && decide (cc = -1)) = true
      · rw [if_pos ok] at hm
        simp only [Option.some.injEq, Prod.mk.injEq] at hm
        obtain ⟨rfl, rfl⟩ := hm
        rw [Bool.and_eq_true, Bool.and_eq_true] at ok
        have ec := of_decide_eq_true ok.2
        subst ec
        refine k σ H I env _ e1 _ g q fun vs I1 H1 g1 t1 r1 => ?_
        cases r1 with
        | cons rv rn =>
          cases rn with
          | cons rv2 rn2 =>
            cases rn2 with
            | cons rv3 rn3 =>
              cases rn3
              have ev := (vw_ok g1 rv q2).int
              have ev2 := (vw_ok g1 rv2 q3).int
              have ev3 := (vw_ok g1 rv3 q4).int
              subst ev
              subst ev2
              subst ev3
              exact ⟨i, j, -1, _, rfl, rgC_dn (okR_ok ok.1.1) (okR_ok ok.1.2), kk _ I1 H1 g1 t1 itc_ok⟩
      · rw [if_neg ok] at hm
        cases hm
    · cases hm
  · cases hm
end MP
set_option Elab.async false
set_option linter.all false
set_option maxRecDepth 100000
set_option maxHeartbeats 4000000
namespace MP
open PySem PySem.Spec PyProof.Rows L2
/-! ### tuples written at the top: what they are -/
theorem rp_kt {K : PySem.W.Frag} {cl : ClM} {I : Hp} {a : Addr} {us : Array Value} {n : Nat} {sl : Array (Option Value)} {vs : List V} {ds : List D} (l : List.lookup a K = some ⟨.type "tuple", none, .seq us n, sl⟩) (hz : Nat.ble us.size 1000 = true) (v : Vals vs us.toList) (r : RpA K cl I vs ds) (hp : plD ds = false) : Rp K cl I (.ref a) (.tup ds) :=
  .tup (.inr ⟨plD_V r (by rw [hp]; decide), _, us, n, l, rfl, rfl, rfl, Nat.le_trans (Nat.le_of_ble_eq_true hz) (by rw [sizeLine_eq]; decide), v⟩) r
theorem rp_ktp {K : PySem.W.Frag} {cl : ClM} {I : Hp} {a : Addr} {us : Array Value} {n : Nat} {sl : Array (Option Value)} {vs : List V} {ds : List D} (l : List.lookup a K = some ⟨.type "tuple", none, .seq us n, sl⟩) (hz : Nat.ble us.size 1000 = true) (v : Vals vs us.toList) (r : RpA K cl I vs ds) : Rp K cl I (.ref a) (.ktp ds) :=
  .ktp ⟨_, us, n, l, rfl, rfl, rfl, Nat.le_trans (Nat.le_of_ble_eq_true hz) (by rw [sizeLine_eq]; decide), v⟩ r
end MP
set_option Elab.async false
set_option linter.all false
set_option maxRecDepth 100000
set_option maxHeartbeats 4000000
namespace MP
open PySem PySem.Spec PyProof.Rows L2
/-! ### t.index(x) -/
def rIndexX (K : PySem.W.Frag) : V → List V → Hp → VK → Prop := fun x xs H Q => ∃ a y d ds vs, x = V.ref a ∧ xs = [y] ∧ SqT K H a vs ∧ DpAll K H vs ds ∧ Dp K H y d ∧ SeqAt.shaped (.tuple ds) = true ∧ SeqAt.shaped d = true ∧
  true ∈ ds.map (fun z => z.eqv d) ∧ Q (V.int ↑((ds.map fun z => z.eqv d).idxOf true)) H
theorem mt_tindex {X : Cx} (hu : X.A.units + 65 < cLine) : MtR X "tuple.index" (rIndexX X.K) := by
  rintro pins s σ H x xs v us Q I rx rxs ⟨a, y, d, ds, vs, rfl, rfl, hs, hds, hy, s1, s2, hin, q⟩
  cases rx
  obtain ⟨u, rfl, ru⟩ := rxs.one
  obtain ⟨bs, r1⟩ := Dp.reads I d y u hy ru
  obtain ⟨its, rv, ht, hz⟩ := I.tuple hs
  obtain ⟨as, h4⟩ := Dp.readsAll I ds vs its hds rv
  have hxs : PyData.canLayAll0 ds = true := SeqAt.canLay_of_shaped s1
  have hroom := room_in_shaped (A := X.A) (xs := ds) s2 hu
  have hmap := SeqAt.readsAll_map ds its as hxs h4
  have hln := SeqAt.ReadsAll.length ds its as h4
  refine SeqAt.call_tuple_index (ks := ds.map fun z => z.eqv d) (k := true) ht ⟨by rw [List.length_map, hln], fun j h1 h2 => ?_⟩ hin ⟨.int ↑((ds.map fun z => z.eqv d).idxOf true), H, I.tok (s.toks + 1), ⟨s.toks, rfl⟩, q⟩
  have := SeqAt.items_eqAt (A := X.A) (vs := its.toArray) h4 r1 hxs (SeqAt.canLay_of_shaped s2) hroom its[j] (by simp)
  have e : SeqAt.readOf s.heap its[j] = ds[j]'(by rw [← hln]; exact h1) := by
    have := congrArg (fun l => l[j]?) hmap
    simpa [h1, hln ▸ h1] using this
  rw [e] at this
  simpa using this
theorem pyDs_eqv (d : D) (hd : layD d = true) : ∀ {xs : List D}, layDs xs = true → (pyDs xs).map (fun z => z.eqv (pyD d)) = xs.map fun z => eqD z d
  | [], _ => by simp [pyDs]
  | x :: xs, h => by
    simp only [layDs, Bool.and_eq_true] at h
    simp only [pyDs, List.map_cons, pyDs_eqv d hd h.2, eq_py x d h.1 hd]
theorem idx_true (f : D → Bool) : ∀ {xs : List D} {j : Nat}, xs.findIdx? f = some j → true ∈ xs.map f ∧ (xs.map f).idxOf true = j
  | [], j, h => by simp at h
  | x :: xs, j, h => by
    rw [List.findIdx?_cons] at h
    by_cases c : f x = true
    · rw [if_pos c] at h
      cases h
      simp [c]
    · rw [if_neg c] at h
      have cf : f x = false := by simpa using c
      obtain ⟨i, h1, rfl⟩ := Option.map_eq_some_iff.1 h
      obtain ⟨a, b⟩ := idx_true f h1
      exact ⟨List.mem_cons_of_mem _ a, by rw [List.map_cons, cf, List.idxOf_cons, b]; rfl⟩
theorem mvt_index {X : Cx} {cl : ClM} : MvT X cl (rIndexX X.K) gIndex := by
  intro I H p vs ws xs ds z Q ex hs r hws hg k
  unfold gIndex at hg
  split at hg
  · rename_i d
    by_cases hc : (shD (.lst xs) && shD d) = true
    · rw [if_pos hc] at hg
      rw [Bool.and_eq_true] at hc
      split at hg
      · rename_i j q
        cases Option.some.inj hg
        obtain ⟨y, rfl, hy⟩ := hws.one
        have hl : layDs xs = true := by
          have := lay_sh hc.1
          simpa only [layD] using this
        have s1 : shD (.tup xs) = true := hc.1
        obtain ⟨m1, m2⟩ := idx_true (fun z => eqD z d) q
        have e := pyDs_eqv d (lay_sh hc.2) hl
        refine ⟨p, y, pyD d, pyDs xs, vs, rfl, rfl, hs, RpA.dp ex r hl, hy.dp ex (lay_sh hc.2), ?_, sh_py hc.2, by rw [e]; exact m1, ?_⟩
        · have := sh_py s1
          simpa only [pyD] using this
        · rw [e, m2]
          exact k _ I H (Al.refl ex) (.int _)
      · cases hg
    · rw [if_neg hc] at hg
      cases hg
  · cases hg
theorem me_index {X : Cx} {cl : ClM} {e o : Expr} {es : List Expr} {m : Xp} {ms : Xa} (hu : X.A.units + 65 < cLine) (ho : ME X cl o m) (hm : MA X cl es ms) (hp : ∀ to t, PE X o to → PA X es t → PE X e (tBMS X.K (rIndexD X.K) (rIndexX X.K) to t)) : ME X cl e (eMw gIndex m ms) := me_mw (mv_index hu) mvt_index ho hm hp
end MP
set_option Elab.async false
set_option linter.all false
set_option maxRecDepth 100000
set_option maxHeartbeats 4000000
namespace MP
open PySem PySem.Spec PyProof.Rows L2
/-! ### set(t), t a tuple of tuples of ints -/
section
variable {P : Program} {w : World} {A : Around} {E : Value → Shared → Prop} {s : Shared}
set_option maxHeartbeats 6400000 in
theorem set_of_tup {l : Addr} {items : Array Value} (ks : List (Addr × List Int)) {Q : Value → Shared → Prop} (hh : A.handled = none) (hl : s.heap.IsTuple l items) (hit : items.toList = ks.map fun p => Value.ref p.1)
    (hk : ∀ p ∈ ks, IsT P w s.heap p.2 p.1) (hfew : ks.length < 64) (hu : A.units + 3 < cLine)
    (h : ∀ (h' : Heap) (tk : Nat) L es ep t, SetTR P w h' s.heap.objs.size L es ep t → Got ks ks.length L → (∀ b o, s.heap.get? b = some o → h'.get? b = some o) → Q (.ref s.heap.objs.size) { s with heap := h', toks := tk }) :
    wpAny (model P w) A (call (.type "set") [.ref l]) Q E s := by
  have hisz : items.size = ks.length := by
    have q := congrArg List.length hit
    simpa using q
  obtain ⟨c, tl, hmro⟩ := F.called_set.mro
  have hmade := F.called_set.made
  have hsub := F.called_set.sub
  refine wpAny_call (codeAny_of_tree ?_)
  show wpAny _ _ (callAny (.type "set") _) _ _ _
  refine wpAny_pure ⟨Code.quiet_builtin _ (by decide +kernel), codeAny_builtin F.entry_type_call ?_⟩
  rw [Around.under_plain (weight_type_call_type "set" [.ref l] []) rfl]
  have h1 := F.called_set.notType
  have h2 := F.called_set.canCreate
  have hct := F.typeCall_set_1 (.ref l)
  repeat (any_goals (first | assumption | wp_step))
  refine codeAny_mono (code_set_led1 (.ref l) (E := E) (Q₁ := fun obj s₁ => obj = .ref s.heap.objs.size ∧ s₁ = { s with heap := s.heap.push (setNew w) }) ⟨rfl, rfl⟩) fun r s₁ hr => ?_
  cases r with
  | error e => exact hr
  | ok fl =>
    cases fl with
    | ret obj =>
      obtain ⟨rfl, rfl⟩ := hr
      have hS : (s.heap.push (setNew w)).get? s.heap.objs.size = some (setNew w) := Heap.get?_push_size _ rfl
      have hT : Shared.TypeIs { s with heap := s.heap.push (setNew w) } (.ref s.heap.objs.size) "set" := ⟨_, hS, rfl⟩
      have hli := F.called_set.init.lookup
      have hbi := F.called_set.init.bind (.ref s.heap.objs.size)
      repeat (any_goals (first | assumption | wp_step))
      refine codeAny_mono (codeAny_call_builtin (R := wants (fun r s₂ => r = .none ∧ ∃ h' tk L es ep t, s₂ = { s with heap := h', toks := tk } ∧ SetTR P w h' s.heap.objs.size L es ep t ∧ Got ks ks.length L ∧
          (∀ b o, s.heap.get? b = some o → h'.get? b = some o)) E) F.called_set.init.plain F.entry_set_init (check_set_init_1 hT ?_)) fun r₂ s₂ hr₂ => ?_
      · obtain ⟨ol, hol, hcl, nl, hdl⟩ := hl
        obtain ⟨ocls, odict, odata, oslots⟩ := ol
        simp only at hcl hdl
        subst hcl; subst hdl
        have hol' : (s.heap.push (setNew w)).get? l = some { cls := .type "tuple", dict := odict, data := .seq items nl, slots := oslots } := Heap.get?_push_of_some _ hol
        have hsls := F.sub_tuple_set
        have hslf := F.sub_tuple_frozenset
        have hne : (Value.type "tuple" == Value.type "dict") = false := by decide
        have hl1 : (s.heap.push (setNew w)).IsTuple l items := ⟨_, hol', rfl, nl, rfl⟩
        unfold Builtin.«set.__init__» noKeywords Builtin.Frozenset.updateFrom
        generalize hPI : pyIter = PI
        wp_walk
        subst hPI
        refine wpAny_pyIter_tuple hl1 ?_
        refine wpAny_bind (wpAny_runValue ?_)
        have hlS : l < s.heap.objs.size := Heap.lt_size hol
        have hh3 : A.in1.in1.in1.handled = none := by simp [hh]
        have hneI : l ≠ (s.heap.push (setNew w)).objs.size := by
          rw [Heap.size_push]
          exact fun e => Nat.lt_irrefl _ (Nat.lt_trans hlS (e ▸ Nat.lt_succ_self _))
        have hSf : s.heap.objs.size ∉ [(s.heap.push (setNew w)).objs.size, l] := by
          rw [Heap.size_push]
          simp only [List.mem_cons, List.not_mem_nil, or_false, not_or]
          exact ⟨fun e => Nat.succ_ne_self _ e.symm, fun e => Nat.lt_irrefl _ (e ▸ hlS)⟩
        have hval : ∀ (i : Nat) (v : Value), items[i]? = some v → ∃ p, ks[i]? = some p ∧ v = .ref p.1 := fun i v hv => by
          have q : items.toList[i]? = some v := by rw [Array.getElem?_toList]; exact hv
          rw [hit, List.getElem?_map] at q
          obtain ⟨p, h1, h2⟩ := Option.map_eq_some_iff.1 q
          exact ⟨p, h1, h2.symm⟩
        have none_of : ∀ b, s.heap.objs.size ≤ b → s.heap.get? b = none := fun b hb => by
          cases q : s.heap.get? b with
          | none => rfl
          | some o => exact absurd (Heap.lt_size q) (Nat.not_lt.2 hb)
        refine set_update_tups ((Walks.tuple hh3 _ l hneI items).toS) s.heap.objs.size hSf ks hisz hfew hval s.heap hk (none_of _ (Nat.le_refl _)) (fun b hb => none_of b (by
            rw [List.mem_singleton.mp hb, Heap.size_push]
            exact Nat.le_succ _)) hu (items.size - 0) 0 _ (by omega) (Nat.zero_le _)
          ⟨⟨_, Heap.get?_push_size _ rfl, rfl, rfl⟩, (hl1.push _)⟩ (fun b o e => Heap.get?_push_of_some _ (Heap.get?_push_of_some _ e)) ?hS0 ?hR
        case hS0 =>
          exact ⟨[], #[], 0, _, setTR_fresh (Heap.get?_push_of_some _ hS), Got.zero ks⟩
        case hR =>
          intro s' L es ep t hm hS' g' hkp
          obtain ⟨h', g2, d', tk', os'⟩ := s'
          have eg : g2 = s.gens := hm.gens
          have ed : d' = s.drawn := hm.drawn
          have eo : os' = s.os := hm.os
          subst eg; subst ed; subst eo
          show wpAny _ _ _ _ _ _
          refine wpAny_pure ?_
          show wpAny _ _ (ret Value.none) _ _ _
          rw [hisz] at g'
          exact wpAny_pure ⟨rfl, h', tk', L, es, ep, t, rfl, hS', g', hkp⟩
      · cases r₂ with
        | error e => exact hr₂
        | ok fl₂ =>
          cases fl₂ with
          | ret r =>
            obtain ⟨rfl, h', tk, L, es, ep, t, rfl, hS', g', hk'⟩ := hr₂
            repeat (any_goals (first | assumption | wp_step))
            exact h _ _ _ _ _ _ hS' g' hk'
          | _ => exact hr₂.elim
    | _ => exact hr.elim
end
def rSetP (K : PySem.W.Frag) (P : Program) (w : World) : List V → Hp → VK → Prop := fun xs H Q => ∃ (l : Addr) (ks : List (Addr × List Int)), xs = [V.ref l] ∧ (SqL K H l (ks.map fun p => V.ref p.1) ∨ SqT K H l (ks.map fun p => V.ref p.1)) ∧
  (∀ p ∈ ks, SqT K H p.1 (p.2.map V.int)) ∧ ks.length < 64 ∧
  ∀ a L, H a = none → (L.map (·.2)).Nodup → (∀ p ∈ L, p ∈ ks) → (∀ p ∈ ks, p.2 ∈ L.map (·.2)) → Q (.ref a) (upd H a (SetTO P w a L))
theorem cr_setP {X : Cx} (hc : X.calm = true) (hu : X.A.units + 64 < cLine) : CallR X (.type "set") (rSetP X.K X.prog X.w) := by
  intro pins s σ H xs us Q I r h
  obtain ⟨l, ks, rfl, hl, hk, hf, q⟩ := h
  rw [Vals.ref1 r]
  have hn : H s.heap.objs.size = none := I.hok.fresh (Nat.le_refl _)
  have fin : ∀ (h' : Heap) (tk : Nat) L es ep t, SetTR X.prog X.w h' s.heap.objs.size L es ep t → Got ks ks.length L → (∀ b o, s.heap.get? b = some o → h'.get? b = some o) →
      EP X pins σ Q (.ref s.heap.objs.size) { s with heap := h', toks := tk } := fun h' tk L es ep t R g k =>
    ⟨.ref _, _, I.laid (t' := tk) k (Nat.le_refl _) (setTO_new R.t0), rfl, q _ L hn R.nd (fun p hp => List.mem_of_mem_take (g.sub p hp)) fun p hp => g.all p (by rw [List.take_length]; exact hp)⟩
  rcases hl with hl | hl
  · obtain ⟨its, rv, pl, hz⟩ := I.list hl
    exact call_set_tups (P := X.prog) (w := X.w) ks (I.ok.hd hc) pl.isList (by simpa using refs_of_vals rv) (fun p hp => I.isT (hk p hp)) hf (by omega) fin
  · obtain ⟨its, rv, pl, hz⟩ := I.tuple hl
    exact set_of_tup (P := X.prog) (w := X.w) ks (I.ok.hd hc) (show s.heap.IsTuple l its.toArray from pl) (by simpa using refs_of_vals rv) (fun p hp => I.isT (hk p hp)) hf (by omega) fin
def rLenP (P : Program) (w : World) : List V → Hp → VK → Prop := fun vs H Q => ∃ (a : Addr) (L : List (Addr × List Int)), vs = [V.ref a] ∧ H a = some (SetTO P w a L) ∧ Q (.int L.length) H
theorem cr_lenP {X : Cx} : CallR X (.builtin "len") (rLenP X.prog X.w) := by
  intro pins s σ H vs us Q I r h
  obtain ⟨a, L, rfl, ha, q⟩ := h
  rw [Vals.ref1 r]
  have R0 : SetT0 X.prog X.w s.heap a L := (I.hok a _ ha).1
  obtain ⟨es, ep, t, ⟨o, ho, hex, hd⟩, hr, T, nd, pl, led, room, few⟩ := R0.ex
  have hes : es.size = L.length := by
    have := congrArg List.length hr
    simpa [rowsOf] using this
  have hz := T.sz
  rw [List.length_map] at hz
  refine call_len_set ho hex hd ?_ (by rw [hes]; omega) ⟨.int es.size, H, I.tok _, ⟨_, rfl⟩, by rw [hes]; exact q⟩
  unfold SetTable.fits
  show (t.place.size == es.size && decide (t.place.size + t.dummies.size ≤ t.mask)) = true
  rw [T.dm, hz, hes]
  simp
  omega
end MP
set_option Elab.async false
set_option linter.all false
set_option maxRecDepth 100000
set_option maxHeartbeats 4000000
namespace MP
open PySem PySem.Spec PyProof.Rows L2
open PySem.W (dataLe dataLt dataLe_eq dataLt_bool EachIs sorted_data AllAlike)
/-! ### sorted(l): bools -/
def srtB (bs : List Bool) : List Bool := bs.filter (!·) ++ bs.filter (·)
theorem srtB_perm : ∀ bs : List Bool, (srtB bs).Perm bs
  | [] => .refl _
  | b :: bs => by
    have ih := srtB_perm bs
    cases b
    · simpa [srtB] using ih.cons false
    · have : (srtB (true :: bs)).Perm (true :: srtB bs) := by simp [srtB]
      exact this.trans (ih.cons true)
theorem srtB_pw (bs : List Bool) : (srtB bs).Pairwise (fun a b => (!a || b) = true) := by
  unfold srtB
  rw [List.pairwise_append]
  refine ⟨?_, ?_, ?_⟩
  · refine List.pairwise_of_forall_mem_list fun a ha b hb => ?_
    simp only [List.mem_filter] at ha
    simp [ha.2]
  · refine List.pairwise_of_forall_mem_list fun a ha b hb => ?_
    simp only [List.mem_filter] at hb
    simp [hb.2]
  · intro a ha b hb
    simp only [List.mem_filter] at ha
    simp [ha.2]
theorem merge_bool (bs : List Bool) : bs.mergeSort (dataLe false PyData.bool) = srtB bs := by
  have e : dataLe false PyData.bool = fun a b => (!a || b) := by
    funext a b
    rw [dataLe_eq]
    show (!dataLt (.bool b) (.bool a)) = _
    rw [dataLt_bool]
    cases a <;> cases b <;> decide
  rw [e]
  refine ((List.mergeSort_perm bs _).trans (srtB_perm bs).symm).eq_of_pairwise (le := fun a b => (!a || b) = true) ?_ (List.pairwise_mergeSort ?_ ?_ bs) (srtB_pw bs)
  · intro a b _ _
    cases a <;> cases b <;> simp
  · intro a b c
    cases a <;> cases b <;> cases c <;> simp
  · intro a b
    cases a <;> cases b <;> simp
def rSortedB (K : PySem.W.Frag) : List V → Hp → VK → Prop := fun vs H Q => ∃ (a : Addr) (bs : List Bool), vs = [V.ref a] ∧ SqL K H a (bs.map V.bl) ∧ ∀ p, H p = none → Q (.ref p) (upd H p (.lst ((srtB bs).map V.bl)))
theorem each_bl : ∀ {bs : List Bool} {us : List Value}, Vals (bs.map V.bl) us → EachIs (fun v b => v = Value.bool b) us bs
  | [], us, h => by
    cases h
    exact .nil
  | b :: bs, us, h => by
    cases h with
    | cons r t => exact .cons r (each_bl t)
theorem bl_each : ∀ {bs : List Bool} {us : List Value}, EachIs (fun v b => v = Value.bool b) us bs → Vals (bs.map V.bl) us
  | [], _, .nil => .nil
  | b :: bs, _, .cons r t => .cons r (bl_each t)
theorem cr_sortedB {X : Cx} (hu : X.A.units + 65 < cLine) : CallR X (.builtin "sorted") (rSortedB X.K) := by
  intro pins s σ H vs us Q I r h
  obtain ⟨a, bs, rfl, hs, q⟩ := h
  obtain ⟨its, rv, hl, hz⟩ := I.list hs
  rw [Vals.ref1 r]
  have e := each_bl rv
  refine sorted_data (enc := PyData.bool) (R := fun v b => v = Value.bool b) hl.isList e (e.mono fun v b ev => ?_) ?_ ?_ (by rw [← e.length, ← rv.length]; exact hz) (fun b _ => ?_) fun out ho eo => ?_
  · subst ev
    exact Dp.reads I (.bool b) (.bl b) _ (.bl b) rfl
  · intro d hd d' hd'
    obtain ⟨b, _, rfl⟩ := List.mem_map.1 hd
    obtain ⟨b', _, rfl⟩ := List.mem_map.1 hd'
    rfl
  · refine .inr fun d hd => ?_
    obtain ⟨b, _, rfl⟩ := List.mem_map.1 hd
    exact ⟨(fun z => by cases z), (fun xs z => by cases z)⟩
  · show X.A.units + 2 + PyData.depth (.bool b) < cLine
    simp only [PyData.depth]
    omega
  · rw [merge_bool] at eo
    obtain ⟨ep, he'⟩ := PyProof.Rows.sortedAll_at s.heap its out.toArray
    refine ⟨.ref _, upd H (s.heap.objs.size + 1) (.lst ((srtB bs).map V.bl)), I.laid (t' := s.toks) (fun _ _ => PyProof.Rows.sortedAll_old) (Nat.le_succ _) ⟨?_, out, ep, bl_each eo, he'⟩, rfl, q _ (I.hok.fresh (Nat.le_succ _))⟩
    rw [List.length_map, (srtB_perm bs).length_eq]
    simpa using hz
/-! ### sorted(l): pairs of ints -/
abbrev leP (p q : Int × Int) : Prop := p.1 < q.1 ∨ (p.1 = q.1 ∧ p.2 ≤ q.2)
def insP (k : Int × Int) : List (Int × Int) → List (Int × Int)
  | [] => [k]
  | a :: r => if leP k a then k :: a :: r else a :: insP k r
def srtP : List (Int × Int) → List (Int × Int)
  | [] => []
  | a :: r => insP a (srtP r)
theorem insP_perm (k : Int × Int) : ∀ l : List (Int × Int), (insP k l).Perm (k :: l)
  | [] => .refl _
  | a :: r => by
    unfold insP
    split
    · exact .refl _
    · exact ((insP_perm k r).cons a).trans (.swap k a r)
theorem srtP_perm : ∀ l : List (Int × Int), (srtP l).Perm l
  | [] => .refl _
  | a :: r => (insP_perm a _).trans ((srtP_perm r).cons a)
theorem insP_pw (k : Int × Int) : ∀ l : List (Int × Int), l.Pairwise leP → (insP k l).Pairwise leP
  | [], _ => by simp [insP]
  | a :: r, h => by
    unfold insP
    rw [List.pairwise_cons] at h
    split
    · rename_i hk
      rw [List.pairwise_cons]
      refine ⟨fun j hj => ?_, List.pairwise_cons.2 h⟩
      rcases List.mem_cons.1 hj with rfl | hj
      · exact hk
      · have := h.1 j hj
        simp only [leP] at *
        omega
    · rw [List.pairwise_cons]
      refine ⟨fun j hj => ?_, insP_pw k r h.2⟩
      rcases List.mem_cons.1 ((insP_perm k r).mem_iff.1 hj) with rfl | hj
      · simp only [leP] at *
        omega
      · exact h.1 j hj
theorem srtP_pw : ∀ l : List (Int × Int), (srtP l).Pairwise leP
  | [] => List.Pairwise.nil
  | a :: r => insP_pw a _ (srtP_pw r)
theorem leP_ext {l m : List (Int × Int)} (h : l.Perm m) (h1 : l.Pairwise leP) (h2 : m.Pairwise leP) : l = m :=
  h.eq_of_pairwise (fun a b _ _ x y => by
    simp only [leP] at x y
    exact Prod.ext (by omega) (by omega)) h1 h2
theorem srtP_id {l : List (Int × Int)} (h : l.Pairwise leP) : srtP l = l := leP_ext (srtP_perm l) (srtP_pw l) h
def pD (p : Int × Int) : D := .tup [.int p.1, .int p.2]
def pairsD : List D → Option (List (Int × Int))
  | [] => some []
  | .tup [.int a, .int b] :: r => match pairsD r with
    | some ps => some ((a, b) :: ps)
    | none => none
  | _ => none
theorem pairsD_eq : ∀ {xs : List D} {ps : List (Int × Int)}, pairsD xs = some ps → xs = ps.map pD
  | [], ps, h => by
    cases Option.some.inj h
    rfl
  | x :: r, ps, h => by
    unfold pairsD at h
    split at h
    · rename_i h'
      cases h'
    · rename_i a b r' h'
      cases h'
      split at h
      · rename_i qs q
        cases Option.some.inj h
        rw [pairsD_eq q]
        rfl
      · cases h
    · cases h
theorem pairsD_map : ∀ ps : List (Int × Int), pairsD (ps.map pD) = some ps
  | [] => rfl
  | (a, b) :: ps => by
    simp only [List.map_cons, pD, pairsD]
    rw [pairsD_map ps]
theorem RpA.ofBls {K : PySem.W.Frag} {cl : ClM} {I : Hp} : ∀ (ns : List Bool), RpA K cl I (ns.map V.bl) (ns.map D.bl)
  | [] => .nil
  | n :: ns => .cons (.bl n) (RpA.ofBls ns)
/-- the pair at an address -/
def kP (H : Hp) : V → Int × Int
  | .ref t => match H t with
    | some (.tup [.int i, .int j]) => (i, j)
    | _ => (0, 0)
  | _ => (0, 0)
theorem rp_pD {K : PySem.W.Frag} {cl : ClM} {I H : Hp} {v : V} {p : Int × Int} (ex : Same I H) (h : Rp K cl I v (pD p)) : ∃ t, v = .ref t ∧ I t = some (.tup [.int p.1, .int p.2]) ∧ H t = some (.tup [.int p.1, .int p.2]) ∧ kP H v = p := by
  unfold pD at h
  cases h with
  | @tup a vs _ hs r =>
    have e : vs = [V.int p.1, V.int p.2] := RpA.ints (ns := [p.1, p.2]) r
    subst e
    have h1 := hs.pl rfl
    have h2 := ex _ _ h1
    exact ⟨a, rfl, h1, h2, by simp [kP, h2]⟩
theorem rpA_pD {K : PySem.W.Frag} {cl : ClM} {I H : Hp} (ex : Same I H) : ∀ {vs : List V} {ps : List (Int × Int)}, RpA K cl I vs (ps.map pD) → (∀ v ∈ vs, ∃ t, v = .ref t ∧ I t = some (.tup [.int (kP H v).1, .int (kP H v).2]) ∧ H t = some (.tup [.int (kP H v).1, .int (kP H v).2])) ∧ vs.map (kP H) = ps
  | _, [], .nil => ⟨fun v hv => by simp at hv, rfl⟩
  | _, p :: ps, .cons h t => by
    obtain ⟨a, rfl, h1, h2, h3⟩ := rp_pD ex h
    obtain ⟨k1, k2⟩ := rpA_pD ex t
    refine ⟨fun v hv => ?_, by rw [List.map_cons, h3, k2]⟩
    rcases List.mem_cons.1 hv with rfl | hv
    · exact ⟨a, rfl, by rw [h3]; exact h1, by rw [h3]; exact h2⟩
    · exact k1 v hv
theorem pD_rpA {K : PySem.W.Frag} {cl : ClM} {I H : Hp} : ∀ {vs : List V}, (∀ v ∈ vs, ∃ t, v = .ref t ∧ I t = some (.tup [.int (kP H v).1, .int (kP H v).2])) → RpA K cl I vs ((vs.map (kP H)).map pD)
  | [], _ => .nil
  | v :: vs, h => by
    obtain ⟨t, e, h1⟩ := h v List.mem_cons_self
    refine .cons ?_ (pD_rpA fun v hv => h v (List.mem_cons_of_mem _ hv))
    have : Rp K cl I (.ref t) (.tup [.int (kP H v).1, .int (kP H v).2]) := .tup (.inl ⟨#[], by rw [xT_pl rfl]; exact h1⟩) (.cons (.int _) (.cons (.int _) .nil))
    rw [e] at this ⊢
    exact this
/-! ### sorted(l): ints, pairs of ints, bools -/
def fgSrt : List D → Option SO := fun ds => match ds with
  | [.lst xs] => match intsD xs with
    | some ns => some (.lst ((srtI ns).map .int))
    | none => match pairsD xs with
      | some ps => some (.lst ((srtP ps).map pD))
      | none => match boolsD xs with
        | some bs => some (.lst ((srtB bs).map .bl))
        | none => none
  | _ => none
theorem CallR.or3 {X : Cx} {f : Value} {r1 r2 r3 : List V → Hp → VK → Prop} (h1 : CallR X f r1) (h2 : CallR X f r2) (h3 : CallR X f r3) : CallR X f fun xs H Q => r1 xs H Q ∨ r2 xs H Q ∨ r3 xs H Q := by
  intro pins s σ H xs us Q I r h
  rcases h with h | h | h
  · exact h1 pins s σ H xs us Q I r h
  · exact h2 pins s σ H xs us Q I r h
  · exact h3 pins s σ H xs us Q I r h
theorem cf_sort {X : Cx} {cl : ClM} (hu : X.A.units + 65 < cLine) : CaF X cl (.builtin "sorted") fgSrt := by
  refine ⟨_, CallR.or3 cr_sortedI cr_sortedPO (cr_sortedB hu), fun I H vs ds o Q ex hv hg k => ?_⟩
  unfold fgSrt at hg
  split at hg
  · rename_i xs
    obtain ⟨v, rfl, h⟩ := hv.one
    obtain ⟨a, ws, rfl, hs, r⟩ := h.lst ex
    split at hg
    · rename_i ns q
      cases Option.some.inj hg
      rw [intsD_eq q] at r
      have e := r.ints
      subst e
      refine .inl ⟨a, ns, rfl, SqL.of hs, fun ns' p hpm hpw hp => ?_⟩
      have e2 : ns' = srtI ns := le_ext (hpm.trans (srtI_perm ns).symm) hpw (srtI_pw ns)
      subst e2
      exact k p _ I _ (Al.newH ex hp) (ex.free hp) hp upd_same (.lst (RpA.ofInts _))
    · split at hg
      · rename_i ps q
        cases Option.some.inj hg
        rw [pairsD_eq q] at r
        obtain ⟨h1, h2⟩ := rpA_pD ex r
        refine .inr (.inl ⟨a, ws, kP H, rfl, SqL.of hs, fun x hx => ?_, fun ys p hso hst hp => ?_⟩)
        · obtain ⟨t, e, _, e2⟩ := h1 x hx
          exact ⟨t, e, e2⟩
        · have hpm := hst.perm
          have e2 : ys.map (kP H) = srtP ps := by
            refine leP_ext ((hpm.map (kP H)).trans (by rw [h2]; exact (srtP_perm ps).symm)) ?_ (srtP_pw ps)
            rw [List.pairwise_map]
            refine hso.imp fun {x y} hxy => ?_
            have := SrtO.lexB_no.mp hxy
            simp only [leP]
            omega
          rw [← e2] at k
          refine k p _ I _ (Al.newH ex hp) (ex.free hp) hp upd_same (.lst (pD_rpA fun v hv => ?_))
          obtain ⟨t, e, e3, _⟩ := h1 v (hpm.mem_iff.mp hv)
          exact ⟨t, e, e3⟩
      · split at hg
        · rename_i bs q
          cases Option.some.inj hg
          rw [boolsD_eq q] at r
          have e := r.bls
          subst e
          exact .inr (.inr ⟨a, bs, rfl, SqL.of hs, fun p hp => k p _ I _ (Al.newH ex hp) (ex.free hp) hp upd_same (.lst (RpA.ofBls _))⟩)
        · cases hg
  · cases hg
/-! ### len(set(t)), t a list or a tuple of pairs of ints -/
def cntP : List (Int × Int) → Nat
  | [] => 0
  | a :: r => if a ∈ r then cntP r else cntP r + 1
def gLSP : List D → Option D := fun ds => match ds with
  | [.lst xs] => match pairsD xs with
    | some ps => if ps.length < 64 then some (.int (cntP ps)) else none
    | none => none
  | [.tup xs] => match pairsD xs with
    | some ps => if ps.length < 64 then some (.int (cntP ps)) else none
    | none => none
  | _ => none
def ddP : List (Int × Int) → List (Int × Int)
  | [] => []
  | a :: r => if a ∈ r then ddP r else a :: ddP r
theorem ddP_mem (j : Int × Int) : ∀ l : List (Int × Int), j ∈ ddP l ↔ j ∈ l
  | [] => by simp [ddP]
  | a :: r => by
    unfold ddP
    split
    · rename_i h
      rw [ddP_mem j r, List.mem_cons]
      constructor
      · exact .inr
      · rintro (rfl | z)
        · exact h
        · exact z
    · rw [List.mem_cons, List.mem_cons, ddP_mem j r]
theorem ddP_nd : ∀ l : List (Int × Int), (ddP l).Nodup
  | [] => List.nodup_nil
  | a :: r => by
    unfold ddP
    split
    · exact ddP_nd r
    · rename_i h
      exact List.nodup_cons.2 ⟨fun z => h ((ddP_mem a r).1 z), ddP_nd r⟩
theorem ddP_len : ∀ l : List (Int × Int), (ddP l).length = cntP l
  | [] => rfl
  | a :: r => by
    unfold ddP cntP
    split
    · exact ddP_len r
    · rw [List.length_cons, ddP_len r]
theorem cntP_of {l : List (Int × Int)} {L : List (List Int)} (nd : L.Nodup) (h1 : ∀ x ∈ L, ∃ p ∈ l, x = [p.1, p.2]) (h2 : ∀ p ∈ l, [p.1, p.2] ∈ L) : L.length = cntP l := by
  have nd2 : ((ddP l).map fun p => [p.1, p.2]).Nodup := by
    refine List.Pairwise.map _ (fun a b hab e => ?_) (ddP_nd l)
    simp only [List.cons.injEq, and_true] at e
    exact hab (Prod.ext e.1 e.2)
  have pm : L.Perm ((ddP l).map fun p => [p.1, p.2]) := by
    rw [List.perm_ext_iff_of_nodup nd nd2]
    intro x
    rw [List.mem_map]
    constructor
    · intro hx
      obtain ⟨p, hp, rfl⟩ := h1 x hx
      exact ⟨p, (ddP_mem p l).2 hp, rfl⟩
    · rintro ⟨p, hp, rfl⟩
      exact h2 p ((ddP_mem p l).1 hp)
  rw [pm.length_eq, List.length_map, ddP_len]
theorem cntP_nodup {l : List (Int × Int)} (h : l.Nodup) : cntP l = l.length := by
  induction l with
  | nil => rfl
  | cons a r ih =>
    rw [List.nodup_cons] at h
    unfold cntP
    rw [if_neg h.1, ih h.2, List.length_cons]
section
variable {X : Cx} {cl : ClM}
def tLSP (K : PySem.W.Frag) (P : Program) (w : World) (t : TA) : TE := tCB (rLenP P w) (tCons (tCB (rSetP K P w) t) tNil)
theorem me_lsp {e a : Expr} {ms : Xa} (hm : MA X cl [a] ms) (hp : ∀ t, PA X [a] t → PE X e (tLSP X.K X.prog X.w t)) : ME X cl e (eCB gLSP ms) := by
  obtain ⟨t, p, k⟩ := hm
  refine ⟨_, hp t p, fun σ H I env r' env' Q gd hme kk => ?_⟩
  unfold eCB at hme
  cases q : ms env with
  | none => simp [q] at hme
  | some pr =>
    obtain ⟨rs, e1⟩ := pr
    simp only [q] at hme
    cases q2 : vwL e1 rs with
    | none => simp [q2] at hme
    | some ds =>
      simp only [q2] at hme
      cases q3 : gLSP ds with
      | none => simp [q3] at hme
      | some z =>
        simp only [q3, Option.some.injEq, Prod.mk.injEq] at hme
        obtain ⟨rfl, rfl⟩ := hme
        refine k σ H I env rs e1 _ gd q fun vs I1 H1 g1 t1 r1 => ?_
        have hv := vwL_ok g1 r1 q2
        have fin : ∀ (l : Addr) (ws : List V) (ps : List (Int × Int)), vs = [.ref l] → (SqL X.K H1 l ws ∨ SqT X.K H1 l ws) → RpA X.K cl I1 ws (ps.map pD) → ps.length < 64 → z = .int (cntP ps) → rSetP X.K X.prog X.w vs H1 fun v H2 => tNil σ H2 fun xs H3 => rLenP X.prog X.w (v :: xs) H3 Q := by
          intro l ws ps ev hs r h64 ez
          obtain ⟨k1, k2⟩ := rpA_pD g1.ex r
          have hwl : ws.length = ps.length := by rw [← k2, List.length_map]
          let ks : List (Addr × List Int) := ws.map fun v => (match v with | .ref t => t | _ => 0, [(kP H1 v).1, (kP H1 v).2])
          have e1 : (ks.map fun p => V.ref p.1) = ws := by
            simp only [ks, List.map_map]
            have : ∀ {us : List V}, (∀ v ∈ us, ∃ t, v = V.ref t) → us.map ((fun p : Addr × List Int => V.ref p.1) ∘ fun v => (match v with | .ref t => t | _ => 0, [(kP H1 v).1, (kP H1 v).2])) = us := by
              intro us hu
              induction us with
              | nil => rfl
              | cons u us ih =>
                obtain ⟨t, rfl⟩ := hu u List.mem_cons_self
                rw [List.map_cons, ih fun v hv => hu v (List.mem_cons_of_mem _ hv)]
                rfl
            exact this fun v hv => (k1 v hv).imp fun t ht => ht.1
          refine ⟨l, ks, ev, by rw [e1]; exact hs, fun p hp => ?_, by simp only [ks, List.length_map]; omega, fun a L ha nd hs1 hs2 => ?_⟩
          · obtain ⟨v, hv, rfl⟩ := List.mem_map.1 hp
            obtain ⟨t, rfl, _, e3⟩ := k1 v hv
            exact .inl (.inl e3)
          · have hlen : L.length = cntP ps := by
              rw [← List.length_map (f := (·.2))]
              refine cntP_of nd (fun x hx => ?_) fun p hp => ?_
              · obtain ⟨y, hy, rfl⟩ := List.mem_map.1 hx
                obtain ⟨v, hv, rfl⟩ := List.mem_map.1 (hs1 y hy)
                exact ⟨kP H1 v, by rw [← k2]; exact List.mem_map.2 ⟨v, hv, rfl⟩, rfl⟩
              · rw [← k2] at hp
                obtain ⟨v, hv, rfl⟩ := List.mem_map.1 hp
                exact hs2 _ (List.mem_map.2 ⟨v, hv, rfl⟩)
            refine ⟨a, L, rfl, upd_same, ?_⟩
            have al : Al I1 H1 I1 (upd H1 a (SetTO X.prog X.w a L)) := Al.newH g1.ex ha
            refine kk (.int L.length) _ _ (g1.al al) (t1.trans al.tr) ?_
            rw [ez, hlen]
            exact .int _
        unfold gLSP at q3
        split at q3
        · rename_i xs
          split at q3
          · rename_i ps q4
            by_cases h64 : ps.length < 64
            · rw [if_pos h64] at q3
              obtain ⟨v, rfl, h⟩ := hv.one
              obtain ⟨l, ws, rfl, hs, r⟩ := h.lst g1.ex
              rw [pairsD_eq q4] at r
              exact fin l ws ps rfl (.inl (SqL.of hs)) r h64 (Option.some.inj q3).symm
            · rw [if_neg h64] at q3
              cases q3
          · cases q3
        · rename_i xs
          split at q3
          · rename_i ps q4
            by_cases h64 : ps.length < 64
            · rw [if_pos h64] at q3
              obtain ⟨v, rfl, h⟩ := hv.one
              obtain ⟨l, ws, rfl, hs, r, _⟩ := h.tup g1.ex
              rw [pairsD_eq q4] at r
              exact fin l ws ps rfl (.inr hs) r h64 (Option.some.inj q3).symm
            · rw [if_neg h64] at q3
              cases q3
          · cases q3
        · cases q3
end
@[simp] theorem fgSrt_i (ns : List Int) : fgSrt [.lst (ns.map .int)] = some (.lst ((srtI ns).map .int)) := by
  unfold fgSrt
  simp only [intsD_map]
@[simp] theorem fgSrt_p (ps : List (Int × Int)) : fgSrt [.lst (ps.map pD)] = some (.lst ((srtP ps).map pD)) := by
  cases ps with
  | nil => rfl
  | cons p ps =>
    have e : intsD ((p :: ps).map pD) = none := rfl
    unfold fgSrt
    simp only [e, pairsD_map]
@[simp] theorem fgSrt_b (bs : List Bool) : fgSrt [.lst (bs.map .bl)] = some (.lst ((srtB bs).map .bl)) := by
  cases bs with
  | nil => rfl
  | cons b bs =>
    have e : intsD ((b :: bs).map D.bl) = none := rfl
    have e2 : pairsD ((b :: bs).map D.bl) = none := rfl
    unfold fgSrt
    simp only [e, e2, boolsD_map]
@[simp] theorem gLSP_l (ps : List (Int × Int)) : gLSP [.lst (ps.map pD)] = if ps.length < 64 then some (.int (cntP ps)) else none := by
  unfold gLSP
  simp only [pairsD_map]
@[simp] theorem gLSP_t (ps : List (Int × Int)) : gLSP [.tup (ps.map pD)] = if ps.length < 64 then some (.int (cntP ps)) else none := by
  unfold gLSP
  simp only [pairsD_map]
end MP
set_option Elab.async false
set_option linter.all false
set_option maxRecDepth 100000
set_option maxHeartbeats 4000000
namespace MP
open PySem PySem.Spec PyProof.Rows L2
/-! ### x > y: ints, pairs of ints -/
def gtP (p q : Int × Int) : Bool := if p.1 = q.1 then decide (q.2 < p.2) else decide (q.1 < p.1)
def rGtP (K : PySem.W.Frag) : R2 := fun x y H Q => ∃ (a b : Addr) (p q : Int × Int), x = .ref a ∧ y = .ref b ∧ SqT K H a [.int p.1, .int p.2] ∧ SqT K H b [.int q.1, .int q.2] ∧ Q (.bl (gtP p q)) H
theorem op_gtP {X : Cx} (hu : X.A.units < cLine) : OpR X (compareOp .Gt) (rGtP X.K) := by
  rintro pins s σ H x y v u Q I rx ry ⟨a, b, ⟨p1, p2⟩, ⟨q1, q2⟩, rfl, rfl, ha, hb, k⟩
  cases rx
  cases ry
  obtain ⟨its, r1, t1, _⟩ := I.tuple ha
  obtain ⟨its2, r2, t2, _⟩ := I.tuple hb
  obtain ⟨u1, u2, rfl, ⟨k1, rfl⟩, ⟨k2, rfl⟩⟩ := vals2 r1
  obtain ⟨w1, w2, rfl, ⟨k3, rfl⟩, ⟨k4, rfl⟩⟩ := vals2 r2
  have R := Ob.RcOp.tuples_gt (A := X.A) (s := s) (e := fun j => match j with | 0 => p1 == q1 | _ => p2 == q2) (r := fun j => match j with | 0 => decide (q1 < p1) | _ => decide (q2 < p2)) t1 t2 hu
    (fun j h1 h2 => by
      match j, h1, h2 with
      | 0, _, _ => exact SeqAt.EqAt.int_int _ _ _ _
      | 1, _, _ => exact SeqAt.EqAt.int_int _ _ _ _)
    (fun j h1 h2 _ => by
      match j, h1, h2 with
      | 0, _, _ => exact Ob.RcOp.gt_int _ _ _ _
      | 1, _, _ => exact Ob.RcOp.gt_int _ _ _ _)
  have z : wpAny (model X.prog X.w) X.A (compareOp .Gt (.ref a) (.ref b)) (EP X pins σ Q) X.xe s := R X.prog X.w X.xe (EP X pins σ Q) ⟨.bl _, H, I, rfl, by
    have e : Ob.lexAt (fun j => match j with | 0 => p1 == q1 | _ => p2 == q2) (fun j => match j with | 0 => decide (q1 < p1) | _ => decide (q2 < p2)) (decide (([Value.int p1 k1, Value.int p2 k2].toArray.size) > ([Value.int q1 k3, Value.int q2 k4].toArray.size))) 0 (min [Value.int p1 k1, Value.int p2 k2].toArray.size [Value.int q1 k3, Value.int q2 k4].toArray.size) = gtP (p1, p2) (q1, q2) := by
      show Ob.lexAt _ _ _ 0 2 = _
      rw [Ob.lexAt_succ, Ob.lexAt_succ, Ob.lexAt_zero]
      unfold gtP
      by_cases h1 : p1 = q1
      · subst h1
        by_cases h2 : p2 = q2
        · subst h2
          simp
        · simp [h2]
      · simp [h1]
    rw [e]
    exact k⟩
  exact z
def gGtU : D → D → Option D := fun x y => match x, y with
  | .int i, .int j => some (.bl (decide (j < i)))
  | .tup [.int a, .int b], .tup [.int c, .int d] => some (.bl (gtP (a, b) (c, d)))
  | _, _ => none
theorem om_gtU {X : Cx} {cl : ClM} (hu : X.A.units < cLine) : OpM X cl (compareOp .Gt) gGtU := by
  refine ⟨fun x y H Q => rI0 (fun i j => .bl (decide (j < i))) x y H Q ∨ rGtP X.K x y H Q, fun pins s σ H x y v u Q I rx ry h => ?_, fun I H v w x y z Q ex hv hw hg k => ?_⟩
  · rcases h with h | h
    · exact op_gt pins s σ H x y v u Q I rx ry h
    · exact op_gtP hu pins s σ H x y v u Q I rx ry h
  · unfold gGtU at hg
    split at hg
    · cases Option.some.inj hg
      cases hv.int
      cases hw.int
      exact .inl ⟨_, _, rfl, rfl, k _ I H (Al.refl ex) (.bl _)⟩
    · rename_i a b c d
      cases Option.some.inj hg
      obtain ⟨p, vs, rfl, h1, r1, _⟩ := hv.tup ex
      obtain ⟨q, ws, rfl, h2, r2, _⟩ := hw.tup ex
      have e1 : vs = [V.int a, V.int b] := RpA.ints (ns := [a, b]) r1
      have e2 : ws = [V.int c, V.int d] := RpA.ints (ns := [c, d]) r2
      subst e1 e2
      exact .inr ⟨p, q, (a, b), (c, d), rfl, rfl, h1, h2, k _ I H (Al.refl ex) (.bl _)⟩
    · cases hg
@[simp] theorem gGtU_i (a b : Int) : gGtU (.int a) (.int b) = some (.bl (decide (b < a))) := (rfl)
@[simp] theorem gGtU_p (p q : Int × Int) : gGtU (pD p) (pD q) = some (.bl (gtP p q)) := (rfl)
end MP
namespace MP
open PySem PySem.Spec PyProof.Rows L2
/-! ### x is True, x is False, for bools -/
def gIsB : D → D → Option D := fun x y => match x, y with
  | .bl a, .bl b => some (.bl (decide (a = b)))
  | _, _ => none
theorem om_isB {X : Cx} {cl : ClM} : OpM X cl (compareOp .Is) gIsB := by
  refine ⟨_, op_is_bl, fun I H v w x y z Q ex hv hw hg k => ?_⟩
  unfold gIsB at hg
  split at hg
  · cases Option.some.inj hg
    cases hv.bl
    cases hw.bl
    exact ⟨_, _, rfl, rfl, k _ I H (Al.refl ex) (.bl _)⟩
  · cases hg
@[simp] theorem gIsB_b (a b : Bool) : gIsB (.bl a) (.bl b) = some (.bl (decide (a = b))) := (rfl)
end MP
set_option Elab.async false
set_option linter.all false
set_option maxRecDepth 100000
set_option maxHeartbeats 4000000
namespace MP
open PySem PySem.Spec PyProof.Rows L2
/-! ### len(set(t)), t a list or a tuple of ints -/
def ddI : List Int → List Int
  | [] => []
  | a :: r => if a ∈ r then ddI r else a :: ddI r
theorem ddI_mem (j : Int) : ∀ l : List Int, j ∈ ddI l ↔ j ∈ l
  | [] => by simp [ddI]
  | a :: r => by
    unfold ddI
    split
    · rename_i h
      rw [ddI_mem j r, List.mem_cons]
      constructor
      · exact .inr
      · rintro (rfl | z)
        · exact h
        · exact z
    · rw [List.mem_cons, List.mem_cons, ddI_mem j r]
theorem ddI_nd : ∀ l : List Int, (ddI l).Nodup
  | [] => List.nodup_nil
  | a :: r => by
    unfold ddI
    split
    · exact ddI_nd r
    · rename_i h
      exact List.nodup_cons.2 ⟨fun z => h ((ddI_mem a r).1 z), ddI_nd r⟩
theorem ddI_id {l : List Int} (h : l.Nodup) : ddI l = l := by
  induction l with
  | nil => rfl
  | cons a r ih =>
    rw [List.nodup_cons] at h
    unfold ddI
    rw [if_neg h.1, ih h.2]
theorem setR_cnt {w : World} {h : Heap} {a : Addr} {ns : List Int} {c : Nat} (R : SetR w h a (fun j => decide (j ∈ ns)) c) : c = (ddI ns).length := by
  obtain ⟨o, es, ep, t, ho, _, _, _, nd, hm, _, _, hc, _⟩ := R
  have pm : (es.toList.map L2.keyOf).Perm (ddI ns) := by
    rw [List.perm_ext_iff_of_nodup nd (ddI_nd ns)]
    intro j
    rw [ddI_mem, ← hm j, decide_eq_true_eq]
  have := pm.length_eq
  rw [List.length_map, Array.length_toList] at this
  omega
def rSetJ (K : PySem.W.Frag) (w : World) : List V → Hp → VK → Prop := fun vs H Q => ∃ (l : Addr) (ns : List Int), vs = [.ref l] ∧ (SqL K H l (ns.map V.int) ∨ SqT K H l (ns.map V.int)) ∧ ns.length < 64 ∧
  ∀ p, H p = none → Q (.ref p) (upd H p (SetO w p (fun j => decide (j ∈ ns)) (ddI ns).length))
theorem cr_setJ {X : Cx} (hc : X.calm = true) : CallR X (.type "set") (rSetJ X.K X.w) := by
  intro pins s σ H vs us Q I r h
  obtain ⟨l, ns, rfl, hs, h64, q⟩ := h
  rw [Vals.ref1 r]
  have fin : ∀ (h' : Heap) (tk c : Nat), SetR X.w h' s.heap.objs.size (fun j => decide (j ∈ ns)) c → c ≤ ns.length → (∀ b o, s.heap.get? b = some o → h'.get? b = some o) →
      EP X pins σ Q (.ref s.heap.objs.size) { s with heap := h', toks := tk } := fun h' tk c R1 hcn k => by
    have e := setR_cnt R1
    subst e
    exact ⟨.ref _, _, I.laid (t' := tk) k (Nat.le_refl _) (setO_new R1), rfl, q _ (I.hok.fresh (Nat.le_refl _))⟩
  rcases hs with hs | hs
  · obtain ⟨its, rv, pl, hz⟩ := I.list hs
    exact call_set_lstI ns (I.ok.hd hc) pl.isList (ints_of_vals rv) (by unfold scanBound; omega) fin
  · obtain ⟨its, rv, pt, hz⟩ := I.tuple hs
    exact call_set_tupI ns (I.ok.hd hc) (show s.heap.IsTuple l its.toArray from pt) (ints_of_vals rv) (by unfold scanBound; omega) fin
def rLenJ (w : World) : List V → Hp → VK → Prop := fun vs H Q => ∃ (a : Addr) (S : Int → Bool) (n : Nat), vs = [V.ref a] ∧ n < 64 ∧ H a = some (SetO w a S n) ∧ Q (.int n) H
theorem cr_lenJ {X : Cx} : CallR X (.builtin "len") (rLenJ X.w) := by
  intro pins s σ H vs us Q I r h
  obtain ⟨a, S, n, rfl, hn, ha, q⟩ := h
  rw [Vals.ref1 r]
  obtain ⟨o, es, ep, t, ho, hex, hd, _, _, _, _, hf, hc, _⟩ := setO_get I ha
  exact call_len_set ho hex hd hf (by omega) ⟨.int es.size, H, I.tok _, ⟨_, rfl⟩, by rw [hc]; exact q⟩
def gLSI : List D → Option D := fun ds => match ds with
  | [.lst xs] => match intsD xs with
    | some ns => if ns.length < 64 then some (.int (ddI ns).length) else none
    | none => none
  | [.tup xs] => match intsD xs with
    | some ns => if ns.length < 64 then some (.int (ddI ns).length) else none
    | none => none
  | _ => none
theorem ddI_le : ∀ l : List Int, (ddI l).length ≤ l.length
  | [] => Nat.le_refl _
  | a :: r => by
    unfold ddI
    have := ddI_le r
    split
    · rw [List.length_cons]
      omega
    · rw [List.length_cons, List.length_cons]
      omega
section
variable {X : Cx} {cl : ClM}
def tLSI (K : PySem.W.Frag) (w : World) (t : TA) : TE := tCB (rLenJ w) (tCons (tCB (rSetJ K w) t) tNil)
theorem me_lsi {e a : Expr} {ms : Xa} (hm : MA X cl [a] ms) (hp : ∀ t, PA X [a] t → PE X e (tLSI X.K X.w t)) : ME X cl e (eCB gLSI ms) := by
  obtain ⟨t, p, k⟩ := hm
  refine ⟨_, hp t p, fun σ H I env r' env' Q gd hme kk => ?_⟩
  unfold eCB at hme
  cases q : ms env with
  | none => simp [q] at hme
  | some pr =>
    obtain ⟨rs, e1⟩ := pr
    simp only [q] at hme
    cases q2 : vwL e1 rs with
    | none => simp [q2] at hme
    | some ds =>
      simp only [q2] at hme
      cases q3 : gLSI ds with
      | none => simp [q3] at hme
      | some z =>
        simp only [q3, Option.some.injEq, Prod.mk.injEq] at hme
        obtain ⟨rfl, rfl⟩ := hme
        refine k σ H I env rs e1 _ gd q fun vs I1 H1 g1 t1 r1 => ?_
        have hv := vwL_ok g1 r1 q2
        have fin : ∀ (l : Addr) (ns : List Int), vs = [.ref l] → (SqL X.K H1 l (ns.map V.int) ∨ SqT X.K H1 l (ns.map V.int)) → ns.length < 64 → z = .int (ddI ns).length → rSetJ X.K X.w vs H1 fun v H2 => tNil σ H2 fun xs H3 => rLenJ X.w (v :: xs) H3 Q := by
          intro l ns ev hs h64 ez
          refine ⟨l, ns, ev, hs, h64, fun a ha => ?_⟩
          have hle := ddI_le ns
          refine ⟨a, _, _, rfl, by omega, upd_same, ?_⟩
          have al : Al I1 H1 I1 (upd H1 a (SetO X.w a (fun j => decide (j ∈ ns)) (ddI ns).length)) := Al.newH g1.ex ha
          refine kk (.int (ddI ns).length) _ _ (g1.al al) (t1.trans al.tr) ?_
          rw [ez]
          exact .int _
        unfold gLSI at q3
        split at q3
        · rename_i xs
          split at q3
          · rename_i ns q4
            by_cases h64 : ns.length < 64
            · rw [if_pos h64] at q3
              obtain ⟨v, rfl, h⟩ := hv.one
              obtain ⟨l, ws, rfl, hs, r⟩ := h.lst g1.ex
              rw [intsD_eq q4] at r
              have e := r.ints
              subst e
              exact fin l ns rfl (.inl (SqL.of hs)) h64 (Option.some.inj q3).symm
            · rw [if_neg h64] at q3
              cases q3
          · cases q3
        · rename_i xs
          split at q3
          · rename_i ns q4
            by_cases h64 : ns.length < 64
            · rw [if_pos h64] at q3
              obtain ⟨v, rfl, h⟩ := hv.one
              obtain ⟨l, ws, rfl, hs, r, _⟩ := h.tup g1.ex
              rw [intsD_eq q4] at r
              have e := r.ints
              subst e
              exact fin l ns rfl (.inr hs) h64 (Option.some.inj q3).symm
            · rw [if_neg h64] at q3
              cases q3
          · cases q3
        · cases q3
end
@[simp] theorem gLSI_l (ns : List Int) : gLSI [.lst (ns.map .int)] = if ns.length < 64 then some (.int (ddI ns).length) else none := by
  unfold gLSI
  simp only [intsD_map]
@[simp] theorem gLSI_t (ns : List Int) : gLSI [.tup (ns.map .int)] = if ns.length < 64 then some (.int (ddI ns).length) else none := by
  unfold gLSI
  simp only [intsD_map]
end MP
set_option Elab.async false
set_option linter.all false
set_option maxRecDepth 100000
set_option maxHeartbeats 4000000
namespace MP
open PySem PySem.Spec PyProof.Rows L2
/-! ### sorted(t), t a tuple of ints -/
section
variable {P : Program} {w : World} {A : Around} {E : Value → Shared → Prop} {s : Shared}
abbrev hCol (h : Heap) (vs : List Value) : Heap := (h.push (seqObj "list" #[] 0)).update h.objs.size (Obj.mapSeq (· ++ vs.toArray))
theorem collect_tup {l : Addr} {vs : List Value} {Q : List Value → Shared → Prop} (hl : s.heap.IsTuple l vs.toArray) (h : Q vs { s with heap := hCol s.heap vs }) (hz : vs.length ≤ sizeLine) : wpAny (model P w) A (collect (.ref l)) Q E s := by
  obtain ⟨o, ho, hc, n, hd⟩ := id hl
  unfold collect
  refine wpAny_bind (wpAny_runValue (codeAny_builtin F.entry_proto_collect ?_))
  show wpAny _ _ (do again (.builtin "list.__iadd__" ⟨[← newList [], .ref l], []⟩)) _ _ s
  refine wpAny_bind (wpAny_newList (wpAny_pure ⟨Code.quiet_builtin _ (by decide +kernel), codeAny_builtin F.entry_list_iadd ?_⟩))
  show wpAny _ _ (Builtin.List.listExtendWith (.ref s.heap.objs.size) (.ref l) (.ref s.heap.objs.size)) _ _ { s with heap := s.heap.push (seqObj "list" #[] 0) }
  unfold Builtin.List.listExtendWith
  have ho' : (s.heap.push (seqObj "list" #[] 0)).get? l = some o := Heap.get?_push_of_some _ ho
  refine wpAny_bind (wpAny_typeOf (T := "tuple") ⟨o, ho', hc⟩ ?_)
  have ht : (Value.type "tuple" == Value.type "tuple") = true := by rfl
  rw [if_pos (by rw [ht]; simp)]
  refine wpAny_bind (listItems_at ho' hd ?_)
  refine wpAny_bind (listItems_at (xs := #[]) (n := 0) (Heap.get?_push_size _ rfl) rfl ?_)
  rw [if_neg (by simp)]
  refine wpAny_bind (listUpdate_at (xs := #[]) (n := 0) (Heap.get?_push_size _ rfl) rfl ?_ (Nat.zero_le _) (by show (#[] ++ vs.toArray).size ≤ sizeLine + 1; simp only [Array.size_append, List.size_toArray, List.length_nil]; omega))
  refine wpAny_pure ?_
  show wpAny (model P w) A (do
      let o ← load s.heap.objs.size
      match o.data with
      | .seq xs _ => pure xs.toList
      | _ => unsupported "internal:collect") Q E { s with heap := hCol s.heap vs }
  refine wpAny_bind (wpAny_load (get?_update_seq (Heap.get?_push_size _ rfl) _) ?_)
  show wpAny _ _ (pure ((#[] : Array Value) ++ vs.toArray).toList) Q E _
  rw [show ((#[] : Array Value) ++ vs.toArray).toList = vs by simp]
  exact wpAny_pure h
theorem sorted_tup {l : Addr} {vs : List Value} {ns : List Int} {Q : Value → Shared → Prop} (hl : s.heap.IsTuple l vs.toArray) (hz : vs.length ≤ sizeLine) (hi : IntsAre vs ns)
    (h : ∀ out : List Value, SrtO.Srtd SrtO.ltIv out → SrtO.Stb SrtO.ltIv out vs → Q (.ref (s.heap.objs.size + 1)) { s with heap := sortedAll s.heap vs out.toArray }) :
    wpAny (model P w) A (call (.builtin "sorted") [.ref l]) Q E s := by
  refine Calls.call_function_entry kind_sorted plain_sorted entry_sorted (args_sorted1 _) ?_
  unfold Builtin.«sorted»
  refine wpAny_bind (m := checkCount "sorted" 1 1 _) (wpAny_pure ?_)
  refine wpAny_bind (collect_tup hl ?_ hz)
  refine wpAny_bind (wpAny_newList ?_ hz)
  have hsz : (hCol s.heap vs).objs.size = s.heap.objs.size + 1 := by
    rw [Heap.size_update, size_push']
  have hoL : ((hCol s.heap vs).push (seqObj "list" vs.toArray 0)).get? (s.heap.objs.size + 1) = some (seqObj "list" vs.toArray 0) := by
    rw [← hsz]
    exact Heap.get?_push_size _ rfl
  show wpAny _ _ _ _ _ { s with heap := (hCol s.heap vs).push (seqObj "list" vs.toArray 0) }
  rw [hsz]
  refine wpAny_bind (wpAny_holding (wpAny_call_entry slot_list_sort ⟨_, hoL, rfl⟩ entry_list_sort (SrtO.list_sort_ord SrtO.swo_int hoL hz (fun h2 => SrtO.ints_sortable hi h2) fun out hs hb => ⟨_, rfl, ?_⟩) (args_list_sort _)))
  exact wpAny_pure ⟨_, rfl, h out hs hb⟩
end
def rSortedTI (K : PySem.W.Frag) : List V → Hp → VK → Prop := fun vs H Q => ∃ (a : Addr) (ns : List Int), vs = [V.ref a] ∧ SqT K H a (ns.map V.int) ∧
  ∀ (ns' : List Int) (p : Addr), ns'.Perm ns → ns'.Pairwise (· ≤ ·) → H p = none → Q (.ref p) (upd H p (.lst (ns'.map V.int)))
theorem cr_sortedTI {X : Cx} : CallR X (.builtin "sorted") (rSortedTI X.K) := by
  intro pins s σ H vs us Q I r h
  obtain ⟨a, ns, rfl, hs, q⟩ := h
  obtain ⟨its, rv, hl, hz⟩ := I.tuple hs
  rw [Vals.ref1 r]
  have hi := rv.ints
  have hz' : its.length ≤ sizeLine := by rw [← rv.length]; exact hz
  refine sorted_tup (show s.heap.IsTuple a its.toArray from hl) hz' hi fun out h1 h2 => ?_
  obtain ⟨k1, k2, k3⟩ := SrtO.ints_out hi h1 h2
  obtain ⟨ep, he'⟩ := PyProof.Rows.sortedAll_at s.heap its out.toArray
  have hlen : ((out.map SrtO.iv).map V.int).length ≤ sizeLine := by
    rw [List.length_map, k2.length_eq]
    rw [List.length_map] at hz
    exact hz
  exact ⟨.ref _, upd H (s.heap.objs.size + 1) (.lst ((out.map SrtO.iv).map V.int)), I.laid (t' := s.toks) (fun _ _ => PyProof.Rows.sortedAll_old) (Nat.le_succ _) ⟨hlen, out, ep, vals_of_ints k1, he'⟩, rfl, q _ _ k2 k3 (I.hok.fresh (Nat.le_succ _))⟩
def fgSrU : List D → Option SO := fun ds => match ds with
  | [.tup xs] => match intsD xs with
    | some ns => some (.lst ((srtI ns).map .int))
    | none => none
  | ds => fgSrt ds
theorem CallR.or2 {X : Cx} {f : Value} {r1 r2 : List V → Hp → VK → Prop} (h1 : CallR X f r1) (h2 : CallR X f r2) : CallR X f fun xs H Q => r1 xs H Q ∨ r2 xs H Q := by
  intro pins s σ H xs us Q I r h
  rcases h with h | h
  · exact h1 pins s σ H xs us Q I r h
  · exact h2 pins s σ H xs us Q I r h
theorem cf_sortU {X : Cx} {cl : ClM} (hu : X.A.units + 65 < cLine) : CaF X cl (.builtin "sorted") fgSrU := by
  obtain ⟨r, hr, sem⟩ := cf_sort (cl := cl) hu
  refine ⟨_, CallR.or2 hr cr_sortedTI, fun I H vs ds o Q ex hv hg k => ?_⟩
  unfold fgSrU at hg
  split at hg
  · rename_i xs
    split at hg
    · rename_i ns q
      cases Option.some.inj hg
      obtain ⟨v, rfl, h⟩ := hv.one
      obtain ⟨a, ws, rfl, hs, r, _⟩ := h.tup ex
      rw [intsD_eq q] at r
      have e := r.ints
      subst e
      refine .inr ⟨a, ns, rfl, hs, fun ns' p hpm hpw hp => ?_⟩
      have e2 : ns' = srtI ns := le_ext (hpm.trans (srtI_perm ns).symm) hpw (srtI_pw ns)
      subst e2
      exact k p _ I _ (Al.newH ex hp) (ex.free hp) hp upd_same (.lst (RpA.ofInts _))
    · cases hg
  · exact .inl (sem I H vs _ o Q ex hv hg k)
@[simp] theorem fgSrU_t (ns : List Int) : fgSrU [.tup (ns.map .int)] = some (.lst ((srtI ns).map .int)) := by
  unfold fgSrU
  simp only [intsD_map]
@[simp] theorem fgSrU_l (xs : List D) : fgSrU [.lst xs] = fgSrt [.lst xs] := rfl
end MP
set_option linter.all false
set_option maxRecDepth 100000
namespace MP
open PySem L2
/-! the mirrors' words unfolded by simp -/
section
variable (env : MEnv) (i j k n : Nat) (m m' m'' : Xp) (ms : Xa) (mf : Xf) (t t' : Xt) (s s' : Xs)
@[simp] theorem eVar_s : eVar i env = match env[i]? with | some (.val d) => some (.d d, env) | some (.own _) => some (.sl i, env) | _ => none := (rfl)
@[simp] theorem eK_s (d : D) : eK d env = some (.d d, env) := (rfl)
@[simp] theorem vw_d (d : D) : vw env (.d d) = some d := (rfl)
@[simp] theorem vw_sl : vw env (.sl i) = match env[i]? with | some (.val d) => some d | some (.own o) => some (so2d o) | _ => none := (rfl)
@[simp] theorem esc_d (d : D) : esc env (.d d) = some (d, env) := (rfl)
@[simp] theorem esc_sl : esc env (.sl i) = match env[i]? with | some (.val d) => some (d, env) | some (.own o) => some (so2d o, env.set i (.val (so2d o))) | _ => none := (rfl)
@[simp] theorem so2d_lst (xs : List D) : so2d (.lst xs) = .lst xs := (rfl)
@[simp] theorem so2d_dct (b : Bool) (xs : List (D × D)) : so2d (.dct b xs) = .dct b xs := (rfl)
@[simp] theorem so2d_ins (c : Nat) (xs : List D) : so2d (.ins c xs) = .obj c xs := (rfl)
@[simp] theorem eBin_s (g : D → D → Option D) : eBin g m m' env = match m env with
  | none => none
  | some (r1, e1) => match m' e1 with
    | none => none
    | some (r2, e2) => match vw e2 r1, vw e2 r2 with
      | some x, some y => match g x y with
        | some z => some (.d z, e2)
        | none => none
      | _, _ => none := (rfl)
@[simp] theorem fBin_s (g : D → D → Option SO) : fBin g m m' env = match m env with
  | none => none
  | some (r1, e1) => match m' e1 with
    | none => none
    | some (r2, e2) => match vw e2 r1, vw e2 r2 with
      | some x, some y => match g x y with
        | some z => some (z, e2)
        | none => none
      | _, _ => none := (rfl)
@[simp] theorem eUn_s (g : D → Option D) : eUn g m env = match m env with
  | none => none
  | some (r, e1) => match vw e1 r with
    | none => none
    | some d => match g d with
      | some z => some (.d z, e1)
      | none => none := (rfl)
@[simp] theorem eChain_s (g g' : D → D → Option D) : eChain g g' m m' m'' env = match m env with
  | none => none
  | some (r1, e1) => match m' e1 with
    | none => none
    | some (r2, e2) => match vw e2 r1, vw e2 r2 with
      | some x, some y => match g x y with
        | some (.bl true) => match m'' e2 with
          | none => none
          | some (r3, e3) => match vw e3 r2, vw e3 r3 with
            | some y', some z => match g' y' z with
              | some w => some (.d w, e3)
              | none => none
            | _, _ => none
        | some (.bl false) => some (.d (.bl false), e2)
        | _ => none
      | _, _ => none := (rfl)
@[simp] theorem tOfB_s : tOfB m env = match m env with | some (.d (.bl b), e) => some (b, e) | _ => none := (rfl)
@[simp] theorem tTru_s : tTru m env = match m env with
  | none => none
  | some (r, e) => match vw e r with
    | none => none
    | some d => match truD d with
      | none => none
      | some b => some (b, e) := (rfl)
@[simp] theorem tAn_s : tAn t t' env = match t env with | some (true, e1) => t' e1 | some (false, e1) => some (false, e1) | none => none := (rfl)
@[simp] theorem tO_s : tO t t' env = match t env with | some (true, e1) => some (true, e1) | some (false, e1) => t' e1 | none => none := (rfl)
@[simp] theorem tNo_s : tNo t env = match t env with | some (b, e1) => some (!b, e1) | none => none := (rfl)
@[simp] theorem tYs_s : tYs env = some (true, env) := (rfl)
@[simp] theorem eOfT_s : eOfT t env = match t env with | some (b, e) => some (.d (.bl b), e) | none => none := (rfl)
@[simp] theorem eAndV_s : eAndV m m' env = match tOfB m env with | some (true, e1) => m' e1 | some (false, e1) => some (.d (.bl false), e1) | none => none := (rfl)
@[simp] theorem eOrV_s : eOrV m m' env = match tOfB m env with | some (true, e1) => some (.d (.bl true), e1) | some (false, e1) => m' e1 | none => none := (rfl)
@[simp] theorem eIf_s : eIf t m m' env = match t env with | some (true, e1) => m e1 | some (false, e1) => m' e1 | none => none := (rfl)
@[simp] theorem aL_nil : aL [] env = some ([], env) := (rfl)
@[simp] theorem aL_cons (l : List Xp) : aL (m :: l) env = match m env with
  | none => none
  | some (r, e1) => match aL l e1 with
    | none => none
    | some (rs, e2) => some (r :: rs, e2) := (rfl)
@[simp] theorem vwL_nil : vwL env [] = some [] := (rfl)
@[simp] theorem vwL_cons (r : Rv) (rs : List Rv) : vwL env (r :: rs) = match vw env r, vwL env rs with | some d, some ds => some (d :: ds) | _, _ => none := (rfl)
@[simp] theorem escL_nil : escL env [] = some ([], env) := (rfl)
@[simp] theorem escL_cons (r : Rv) (rs : List Rv) : escL env (r :: rs) = match esc env r with
  | none => none
  | some (d, e1) => match escL e1 rs with
    | none => none
    | some (ds, e2) => some (d :: ds, e2) := (rfl)
@[simp] theorem eTup_s : eTup ms env = match ms env with
  | none => none
  | some (rs, e1) => match escL e1 rs with
    | none => none
    | some (ds, e2) => some (.d (.tup ds), e2) := (rfl)
@[simp] theorem fLst_s : fLst ms env = match ms env with
  | none => none
  | some (rs, e1) => match escL e1 rs with
    | none => none
    | some (ds, e2) => some (.lst ds, e2) := (rfl)
@[simp] theorem eFrz_s : eFrz mf env = match mf env with | none => none | some (o, e1) => some (.d (so2d o), e1) := (rfl)
@[simp] theorem eCB_s (g : List D → Option D) : eCB g ms env = match ms env with
  | none => none
  | some (rs, e1) => match vwL e1 rs with
    | none => none
    | some ds => match g ds with
      | some z => some (.d z, e1)
      | none => none := (rfl)
@[simp] theorem fCB_s (g : List D → Option SO) : fCB g ms env = match ms env with
  | none => none
  | some (rs, e1) => match vwL e1 rs with
    | none => none
    | some ds => match g ds with
      | some z => some (z, e1)
      | none => none := (rfl)
@[simp] theorem oNo_s : oNo env = some (none, env) := (rfl)
@[simp] theorem oSm_s : oSm m env = match m env with
  | none => none
  | some (r, e1) => match vw e1 r with
    | some (.int i) => some (some i, e1)
    | _ => none := (rfl)
@[simp] theorem eSl_s (ml mh : Xo) : eSl m ml mh env = match m env with
  | none => none
  | some (r, e1) => match ml e1 with
    | none => none
    | some (lo, e2) => match mh e2 with
      | none => none
      | some (hi, e3) => match vw e3 r with
        | none => none
        | some d => match gSl d lo hi with
          | some z => some (.d z, e3)
          | none => none := (rfl)
@[simp] theorem fSl_s (ml mh : Xo) : fSl m ml mh env = match m env with
  | none => none
  | some (r, e1) => match ml e1 with
    | none => none
    | some (lo, e2) => match mh e2 with
      | none => none
      | some (hi, e3) => match vw e3 r with
        | some (.lst xs) => some (.lst (cutD xs lo hi), e3)
        | _ => none := (rfl)
@[simp] theorem gSl_l (xs : List D) (lo hi : Option Int) : gSl (.lst xs) lo hi = some (.lst (cutD xs lo hi)) := (rfl)
@[simp] theorem gSl_t (xs : List D) (lo hi : Option Int) : gSl (.tup xs) lo hi = some (.tup (cutD xs lo hi)) := (rfl)
@[simp] theorem eCall_s (f : Fn) : eCall f ms env = match ms env with
  | none => none
  | some (rs, e1) => match escL e1 rs with
    | none => none
    | some (ds, e2) => match f (ds.map .val) with
      | some (.d d, _) => some (.d d, e2)
      | some (.o o, _) => some (.d (so2d o), e2)
      | none => none := (rfl)
@[simp] theorem eCall0_s (f : Fn) : eCall0 f env = eCall f (aL []) env := (rfl)
@[simp] theorem fCall0_s (f : Fn) : fCall0 f env = fCall f (aL []) env := (rfl)
@[simp] theorem fCall_s (f : Fn) : fCall f ms env = match ms env with
  | none => none
  | some (rs, e1) => match escL e1 rs with
    | none => none
    | some (ds, e2) => match f (ds.map .val) with
      | some (.o o, _) => some (o, e2)
      | _ => none := (rfl)
@[simp] theorem cR_s (f : Fn) : cR f ms env = match ms env with
  | some (.sl i :: rs, e1) => match escL e1 rs with
    | none => none
    | some (ds, e2) => match e2[i]? with
      | some (.own o) => match f (.own o :: ds.map .val) with
        | some (rv, s :: _) => some (rv, e2.set i s)
        | _ => none
      | _ => none
  | _ => none := (rfl)
@[simp] theorem eCallR_s (f : Fn) : eCallR f ms env = match cR f ms env with
  | some (.d d, e) => some (.d d, e)
  | some (.o o, e) => some (.d (so2d o), e)
  | none => none := (rfl)
@[simp] theorem fCallR_s (f : Fn) : fCallR f ms env = match cR f ms env with
  | some (.o o, e) => some (o, e)
  | _ => none := (rfl)
@[simp] theorem eCallB_s (f : Fn) : eCallB f ms env = match ms env with
  | none => none
  | some (rs, e1) => match vwL e1 rs with
    | none => none
    | some ds => match f (ds.map .val) with
      | some (.d d, _) => if flatD d then some (.d d, e1) else none
      | _ => none := (rfl)
@[simp] theorem fMove_s : fMove i env = match env[i]? with | some (.own o) => some (o, env.set i .none) | _ => none := (rfl)
@[simp] theorem sSeq_s : sSeq s s' env = match s env with | some (.nx, e1) => s' e1 | r => r := (rfl)
@[simp] theorem sNext_s : sNext env = some (.nx, env) := (rfl)
@[simp] theorem sNo_s : sNo env = none := (rfl)
@[simp] theorem sBrk_s : sBrk env = some (.bk, env) := (rfl)
@[simp] theorem sCnt_s : sCnt env = some (.ct, env) := (rfl)
@[simp] theorem sIf_s : sIf t s s' env = match t env with | some (true, e1) => s e1 | some (false, e1) => s' e1 | none => none := (rfl)
@[simp] theorem sExp_s : sExp m env = match m env with | some (_, e1) => some (.nx, e1) | none => none := (rfl)
@[simp] theorem sRet_s : sRet m env = match m env with
  | none => none
  | some (r, e1) => match esc e1 r with
    | none => none
    | some (d, e2) => some (.ret (.d d), e2) := (rfl)
@[simp] theorem sRetN_s : sRetN env = some (.ret (.d .non), env) := (rfl)
@[simp] theorem sRetF_s : sRetF mf env = match mf env with | none => none | some (o, e1) => some (.ret (.o o), e1) := (rfl)
@[simp] theorem gNm_s (d : D) : gNm i d env = if i < env.length then some (env.set i (.val d)) else none := (rfl)
@[simp] theorem gsNil_s : gsNil [] env = some env := (rfl)
@[simp] theorem gsCons_s (g : Xg) (gs : List D → MEnv → Option MEnv) (d : D) (r : List D) : gsCons g gs (d :: r) env = match g d env with | some e1 => gs r e1 | none => none := (rfl)
@[simp] theorem gTp_s (gs : List D → MEnv → Option MEnv) (ds : List D) : gTp n gs (.tup ds) env = if ds.length = n then gs ds env else none := (rfl)
@[simp] theorem sAsg_s (g : Xg) : sAsg m g env = match m env with
  | none => none
  | some (r, e1) => match esc e1 r with
    | none => none
    | some (d, e2) => match g d e2 with
      | none => none
      | some e3 => some (.nx, e3) := (rfl)
@[simp] theorem sOwn_s : sOwn mf i env = match mf env with
  | none => none
  | some (o, e1) => if i < e1.length then some (.nx, e1.set i (.own o)) else none := (rfl)
@[simp] theorem sPar_s : sPar i j ms env = match ms env with
  | none => none
  | some (rs, e1) => match escL e1 rs with
    | some ([d, d'], e2) => if i < e2.length ∧ j < e2.length then some (.nx, (e2.set i (.val d)).set j (.val d')) else none
    | _ => none := (rfl)
@[simp] theorem ownL_s : ownL env i = match env[i]? with | some (.own (.lst xs)) => some xs | _ => none := (rfl)
@[simp] theorem sSetIx_s : sSetIx i m m' env = match m env with
  | none => none
  | some (r, e1) => match esc e1 r with
    | none => none
    | some (d, e2) => match ownL e2 i with
      | none => none
      | some _ => match m' e2 with
        | none => none
        | some (ri, e3) => match vw e3 ri with
          | some (.int k) => match ownL e3 i with
            | none => none
            | some xs => match ixN xs.length k with
              | none => none
              | some j => some (.nx, e3.set i (.own (.lst (xs.set j d))))
          | _ => none := (rfl)
@[simp] theorem eMt_s (g : gMt) : eMt g i ms env = match ownL env i with
  | none => none
  | some _ => match ms env with
    | none => none
    | some (rs, e1) => match escL e1 rs with
      | none => none
      | some (args, e2) => match ownL e2 i with
        | none => none
        | some xs => match g xs args with
          | none => none
          | some (res, xs') => some (.d res, e2.set i (.own (.lst xs'))) := (rfl)
@[simp] theorem sFor_s (mi : Xi) (g : Xg) : sFor mi g s env = match mi env with
  | none => none
  | some (ds, e1) => sLoop g s ds e1 := (rfl)
@[simp] theorem fComp_s (vs : List Nat) (mi : Xi) (g : Xg) : fComp vs mi g t m env = match mi env with
  | none => none
  | some (ds, e1) => if okW e1 vs then match cLoop vs g t m ds [] (wipeE e1 vs) with
    | none => none
    | some (xs, e2) => some (.lst xs, restE e1 e2 vs)
    else none := (rfl)
@[simp] theorem iSq_s : iSq m env = match m env with
  | none => none
  | some (r, e1) => match esc e1 r with
    | some (.lst ds, e2) => some (ds, e2)
    | some (.tup ds, e2) => some (ds, e2)
    | _ => none := (rfl)
@[simp] theorem iEn_s : iEn ms env = match ms env with
  | some ([r], e1) => match esc e1 r with
    | some (.tup ds, e2) => some (enumD 0 ds, e2)
    | _ => none
  | _ => none := (rfl)
@[simp] theorem iZp_s : iZp ms env = match ms env with
  | some ([r, r'], e1) => match escL e1 [r, r'] with
    | some ([.lst xs, .lst ys], e2) => some (zipD xs ys, e2)
    | some ([.tup xs, .tup ys], e2) => some (zipD xs ys, e2)
    | _ => none
  | _ => none := (rfl)
@[simp] theorem iR1_s : iR1 ms env = match ms env with
  | some ([r], e1) => match vw e1 r with
    | some (.int j) => if okR j then some (rgD 0 j.toNat, e1) else none
    | _ => none
  | _ => none := (rfl)
@[simp] theorem iR2_s : iR2 ms env = match ms env with
  | some ([r, r'], e1) => match vw e1 r, vw e1 r' with
    | some (.int i), some (.int j) => if okR i && okR j then some (rgD i (j - i).toNat, e1) else none
    | _, _ => none
  | _ => none := (rfl)
@[simp] theorem wipeE_nil : wipeE env [] = env := (rfl)
@[simp] theorem wipeE_cons (v : Nat) (vs : List Nat) : wipeE env (v :: vs) = (wipeE env vs).set v .none := (rfl)
@[simp] theorem restE_nil (e0 : MEnv) : restE e0 env [] = env := (rfl)
@[simp] theorem restE_cons (e0 : MEnv) (v : Nat) (vs : List Nat) : restE e0 env (v :: vs) = (restE e0 env vs).set v (e0.getD v .none) := (rfl)
@[simp] theorem okW_nil : okW env [] = true := (rfl)
@[simp] theorem okW_cons (v : Nat) (vs : List Nat) : okW env (v :: vs) = ((match env[v]? with | some (.own _) => false | _ => true) && okW env vs) := (rfl)
end
/-! operations on known shapes -/
section
variable (a b : Int) (x y : Bool) (xs ys : List D)
@[simp] theorem gAdd_i : gAdd (.int a) (.int b) = some (.int (a + b)) := (rfl)
@[simp] theorem gAdd_l : gAdd (.lst xs) (.lst ys) = if xs.length + ys.length ≤ 16777216 then some (.lst (xs ++ ys)) else none := (rfl)
@[simp] theorem gAdd_t : gAdd (.tup xs) (.tup ys) = if xs.length + ys.length ≤ 16777216 then some (.tup (xs ++ ys)) else none := (rfl)
@[simp] theorem gSub_i : gSub (.int a) (.int b) = some (.int (a - b)) := (rfl)
@[simp] theorem gMul_i : gMul (.int a) (.int b) = if mulOk a b then some (.int (a * b)) else none := (rfl)
@[simp] theorem gMul_t : gMul (.tup xs) (.int b) = if okK b && (decide (b < 2) || xs.isEmpty || (decide (b ≤ 1000) && decide (xs.length ≤ 1000))) then some (.tup (List.replicate b.toNat xs).flatten) else none := (rfl)
@[simp] theorem gMul_l : gMul (.lst xs) (.int b) = if okK b && decide (xs.length * b.toNat ≤ 16777216) then some (.lst (List.replicate b.toNat xs).flatten) else none := (rfl)
@[simp] theorem fgMul_l : fgMul (.lst xs) (.int b) = if okK b ∧ xs.length * b.toNat ≤ 16777216 then some (.lst (List.replicate b.toNat xs).flatten) else none := (rfl)
@[simp] theorem fgAdd_l : fgAdd (.lst xs) (.lst ys) = if xs.length + ys.length ≤ 16777216 then some (.lst (xs ++ ys)) else none := (rfl)
@[simp] theorem gMod_i : gMod (.int a) (.int b) = if 0 < b then some (.int (a % b)) else none := (rfl)
@[simp] theorem gFdiv_i : gFdiv (.int a) (.int b) = if 0 < b ∧ b.natAbs.log2 < 9000 then some (.int (a / b)) else none := (rfl)
@[simp] theorem gPow_i : gPow (.int a) (.int b) = if 0 ≤ b ∧ b ≤ 1000000 ∧ a.natAbs < 2 ^ 64 then some (.int (a ^ b.toNat)) else none := (rfl)
@[simp] theorem gLt_i : gLt (.int a) (.int b) = some (.bl (decide (a < b))) := (rfl)
@[simp] theorem gLe_i : gLe (.int a) (.int b) = some (.bl (decide (a ≤ b))) := (rfl)
@[simp] theorem gGt_i : gGt (.int a) (.int b) = some (.bl (decide (b < a))) := (rfl)
@[simp] theorem gGe_i : gGe (.int a) (.int b) = some (.bl (decide (b ≤ a))) := (rfl)
@[simp] theorem gEq_i : gEq (.int a) (.int b) = some (.bl (decide (a = b))) := (rfl)
@[simp] theorem gNe_i : gNe (.int a) (.int b) = some (.bl (!decide (a = b))) := (rfl)
@[simp] theorem gEq_b : gEq (.bl x) (.bl y) = some (.bl (x == y)) := by simp [gEq, shD, layD, depD, eqD]
@[simp] theorem gNe_b : gNe (.bl x) (.bl y) = some (.bl (!(x == y))) := by simp [gNe, shD, layD, depD, eqD]
@[simp] theorem gNeg_i : gNeg (.int a) = some (.int (-a)) := (rfl)
@[simp] theorem gRev_l : gRev (.lst xs) = some (.lst xs.reverse) := (rfl)
@[simp] theorem gRev_t : gRev (.tup xs) = some (.tup xs.reverse) := (rfl)
@[simp] theorem gIx_l : gIx (.lst xs) (.int a) = atI xs a := (rfl)
@[simp] theorem gIx_t : gIx (.tup xs) (.int a) = atI xs a := (rfl)
@[simp] theorem gLen_l : gLen [.lst xs] = some (.int xs.length) := (rfl)
@[simp] theorem gLen_t : gLen [.tup xs] = some (.int xs.length) := (rfl)
@[simp] theorem gInt_i : gInt [.int a] = some (.int a) := (rfl)
@[simp] theorem gInt_b : gInt [.bl x] = some (.int (if x then 1 else 0)) := (rfl)
@[simp] theorem gAbs_i : gAbs [.int a] = some (.int (if a < 0 then -a else a)) := (rfl)
@[simp] theorem gTuple_l : gTuple [.lst xs] = some (.tup xs) := (rfl)
@[simp] theorem gTuple_t : gTuple [.tup xs] = some (.tup xs) := (rfl)
@[simp] theorem fgList_l : fgList [.lst xs] = some (.lst xs) := (rfl)
@[simp] theorem fgList_t : fgList [.tup xs] = some (.lst xs) := (rfl)
@[simp] theorem fgList_s : fgList [.scr xs] = some (.lst xs) := (rfl)
@[simp] theorem gSum_i (ns : List Int) : gSum [.lst (ns.map D.int)] = some (.int ns.sum) := by
  show (match intsD (ns.map D.int) with | some ns => some (D.int ns.sum) | none => none) = _
  rw [intsD_map]
@[simp] theorem gAppend_1 (d : D) : gAppend xs [d] = if xs.length < 16777216 then some (.non, xs ++ [d]) else none := (rfl)
@[simp] theorem truD_i : truD (.int a) = some (a != 0) := (rfl)
@[simp] theorem truD_b : truD (.bl x) = some x := (rfl)
theorem okR_iff (h : -(2 ^ 62) ≤ a ∧ a < 2 ^ 62) : okR a = true := okR_of h
theorem okR_nat (n : Nat) (h : n < 2 ^ 62) : okR (n : Int) = true := okR_iff _ ⟨by omega, by omega⟩
theorem okK_iff (h : -(2 ^ 63) ≤ a ∧ a < 2 ^ 63) : okK a = true := okK_of h
theorem mulOk_l (h : a.natAbs < 2 ^ 64) : mulOk a b = true := by
  unfold mulOk
  rw [decide_eq_true h]
  rfl
theorem mulOk_r (h : b.natAbs < 2 ^ 64) : mulOk a b = true := by
  unfold mulOk
  rw [decide_eq_true h, Bool.or_true]
  rfl
end
theorem atI_map {α β : Type} (f : α → β) (xs : List α) (i : Int) : atI (xs.map f) i = (atI xs i).map f := by
  unfold atI
  rw [List.length_map]
  cases ixN xs.length i with
  | none => rfl
  | some j => simp
theorem atI_nn {α : Type} [Inhabited α] {xs : List α} {i : Int} (h0 : 0 ≤ i) (h1 : i < xs.length) : atI xs i = some (xs.getD i.toNat default) := by
  unfold atI ixN
  rw [if_pos h0, if_pos h1]
  have h2 : i.toNat < xs.length := by omega
  show xs[i.toNat]? = _
  rw [List.getD_eq_getElem?_getD, List.getElem?_eq_getElem h2]
  rfl
theorem ixN_nn {n : Nat} {i : Int} (h0 : 0 ≤ i) (h1 : i < n) : ixN n i = some i.toNat := by
  unfold ixN
  rw [if_pos h0, if_pos h1]
/-! loops -/
theorem sSeq_nx {a b : Xs} {env e1 : MEnv} (h : a env = some (.nx, e1)) : sSeq a b env = b e1 := by
  unfold sSeq
  rw [h]
theorem sLoop_nil (g : Xg) (s : Xs) (env : MEnv) : sLoop g s [] env = some (.nx, env) := (rfl)
theorem sLoop_cons {g : Xg} {s : Xs} {d : D} {ds : List D} {env e1 e2 : MEnv} (h1 : g d env = some e1) (h2 : s e1 = some (.nx, e2)) : sLoop g s (d :: ds) env = sLoop g s ds e2 := by
  show (match g d env with | none => none | some e1 => match s e1 with | none => none | some (.nx, e2) => sLoop g s ds e2 | some (.ct, e2) => sLoop g s ds e2 | some (.bk, e2) => some (.nx, e2) | some (.ret r, e2) => some (.ret r, e2)) = _
  rw [h1]
  simp only
  rw [h2]
/-- a loop that goes through, by an invariant -/
theorem sLoop_inv {g : Xg} {s : Xs} (P : Nat → MEnv → Prop) : ∀ (ds : List D) (k : Nat) (env : MEnv), P k env → (∀ i d env, ds[i]? = some d → P (k + i) env → ∃ e1 e2, g d env = some e1 ∧ s e1 = some (.nx, e2) ∧ P (k + i + 1) e2) → ∃ env', sLoop g s ds env = some (.nx, env') ∧ P (k + ds.length) env'
  | [], k, env, h0, _ => ⟨env, rfl, h0⟩
  | d :: ds, k, env, h0, hs => by
    obtain ⟨e1, e2, h1, h2, h3⟩ := hs 0 d env rfl h0
    obtain ⟨env', h4, h5⟩ := sLoop_inv P ds (k + 1) e2 h3 fun i d' env' hd hp => by
      have := hs (i + 1) d' env' (by simpa using hd) (by rw [show k + (i + 1) = k + 1 + i by omega]; exact hp)
      rw [show k + (i + 1) + 1 = k + 1 + i + 1 by omega] at this
      exact this
    refine ⟨env', ?_, by rw [List.length_cons, show k + (ds.length + 1) = k + 1 + ds.length by omega]; exact h5⟩
    rw [sLoop_cons h1 h2]
    exact h4
theorem cLoop_inv {vs : List Nat} {g : Xg} {t : Xt} {m : Xp} (P : Nat → List D → MEnv → Prop) : ∀ (ds : List D) (k : Nat) (acc : List D) (env : MEnv), P k acc env →
    (∀ i d acc env, ds[i]? = some d → P (k + i) acc env → ∃ e1 e2 r e3 x e4, g d env = some e1 ∧ t e1 = some (true, e2) ∧ m e2 = some (r, e3) ∧ esc e3 r = some (x, e4) ∧ acc.length < 16777216 ∧ P (k + i + 1) (acc ++ [x]) (wipeE e4 vs)) →
    ∃ acc' env', cLoop vs g t m ds acc env = some (acc', env') ∧ P (k + ds.length) acc' env'
  | [], k, acc, env, h0, _ => ⟨acc, env, rfl, h0⟩
  | d :: ds, k, acc, env, h0, hs => by
    obtain ⟨e1, e2, r, e3, x, e4, h1, h2, h3, h4, hl, h5⟩ := hs 0 d acc env rfl h0
    obtain ⟨acc', env', h6, h7⟩ := cLoop_inv P ds (k + 1) (acc ++ [x]) (wipeE e4 vs) h5 fun i d' acc' env' hd hp => by
      have := hs (i + 1) d' acc' env' (by simpa using hd) (by rw [show k + (i + 1) = k + 1 + i by omega]; exact hp)
      rw [show k + (i + 1) + 1 = k + 1 + i + 1 by omega] at this
      exact this
    refine ⟨acc', env', ?_, by rw [List.length_cons, show k + (ds.length + 1) = k + 1 + ds.length by omega]; exact h7⟩
    unfold cLoop
    rw [h1]
    simp only
    rw [h2]
    simp only
    rw [h3]
    simp only
    rw [h4]
    simp only
    rw [if_pos hl]
    exact h6
/-- a comprehension without tests over items that leaves its environment as it is: a map -/
theorem cLoop_map {vs : List Nat} {g : Xg} {m : Xp} {env : MEnv} (f : D → D) : ∀ (ds acc : List D), (∀ d ∈ ds, ∃ e1 r e3 e4, g d env = some e1 ∧ m e1 = some (r, e3) ∧ esc e3 r = some (f d, e4) ∧ wipeE e4 vs = env) → acc.length + ds.length ≤ 16777216 →
    cLoop vs g tYs m ds acc env = some (acc ++ ds.map f, env)
  | [], acc, _, _ => by simp [cLoop]
  | d :: ds, acc, h, hl => by
    obtain ⟨e1, r, e3, e4, h1, h2, h3, h4⟩ := h d List.mem_cons_self
    have hl' : acc.length < 16777216 := by
      rw [List.length_cons] at hl
      omega
    have ih := cLoop_map f ds (acc ++ [f d]) (fun d' hd' => h d' (List.mem_cons_of_mem _ hd')) (by
      rw [List.length_append]
      rw [List.length_cons] at hl
      show acc.length + 1 + ds.length ≤ _
      omega)
    unfold cLoop
    rw [h1]
    simp only [tYs_s]
    rw [h2]
    simp only
    rw [h3]
    simp only
    rw [if_pos hl', h4, ih, List.map_cons, List.append_assoc]
    rfl
end MP
set_option linter.all false
set_option maxRecDepth 100000
namespace MP
open PySem L2
theorem atI_cast {α : Type} (xs : List α) (n : Nat) : atI xs (n : Int) = xs[n]? := by
  unfold atI ixN
  rw [if_pos (by omega)]
  by_cases h : n < xs.length
  · rw [if_pos (by omega)]
    rfl
  · rw [if_neg (by omega), List.getElem?_eq_none (by omega)]
    rfl
@[simp] theorem atI_lit {α : Type} (xs : List α) (n : Nat) : atI xs (no_index (OfNat.ofNat n)) = xs[n]? := atI_cast xs n
theorem ixN_cast (k n : Nat) : ixN k (n : Int) = if n < k then some n else none := by
  unfold ixN
  rw [if_pos (by omega)]
  by_cases h : n < k
  · rw [if_pos (by omega), if_pos h]
    rfl
  · rw [if_neg (by omega), if_neg h]
@[simp] theorem ixN_lit (k n : Nat) : ixN k (no_index (OfNat.ofNat n)) = if n < k then some n else none := ixN_cast k n
theorem cLoop_mapT {α : Type} (enc f : α → D) {vs : List Nat} {g : Xg} {m : Xp} {env : MEnv} : ∀ (ls : List α) (acc : List D), (∀ a ∈ ls, ∃ e1 r e3 e4, g (enc a) env = some e1 ∧ m e1 = some (r, e3) ∧ esc e3 r = some (f a, e4) ∧ wipeE e4 vs = env) → acc.length + ls.length ≤ 16777216 →
    cLoop vs g tYs m (ls.map enc) acc env = some (acc ++ ls.map f, env)
  | [], acc, _, _ => by simp [cLoop]
  | a :: ls, acc, h, hl => by
    obtain ⟨e1, r, e3, e4, h1, h2, h3, h4⟩ := h a List.mem_cons_self
    have hl' : acc.length < 16777216 := by
      rw [List.length_cons] at hl
      omega
    have ih := cLoop_mapT enc f ls (acc ++ [f a]) (fun d' hd' => h d' (List.mem_cons_of_mem _ hd')) (by
      rw [List.length_append]
      rw [List.length_cons] at hl
      show acc.length + 1 + ls.length ≤ _
      omega)
    rw [List.map_cons]
    unfold cLoop
    rw [h1]
    simp only [tYs_s]
    rw [h2]
    simp only
    rw [h3]
    simp only
    rw [if_pos hl', h4, ih, List.map_cons, List.append_assoc]
    rfl
theorem cLoop_mapV {α : Type} (enc f : α → D) {vs : List Nat} {g : Xg} {m : Xp} {env : MEnv} (ls : List α) (acc : List D) (h : ∀ a ∈ ls, ∃ e1, g (enc a) env = some e1 ∧ m e1 = some (.d (f a), e1) ∧ wipeE e1 vs = env) (hl : acc.length + ls.length ≤ 16777216) :
    cLoop vs g tYs m (ls.map enc) acc env = some (acc ++ ls.map f, env) := cLoop_mapT enc f ls acc (fun a ha => by
  obtain ⟨e1, h1, h2, h3⟩ := h a ha
  exact ⟨e1, _, _, _, h1, h2, rfl, h3⟩) hl
theorem enumD_zip : ∀ (xs : List D) (k : Nat), enumD k xs = (xs.zipIdx k).map fun p => .tup [.int (p.2 : Nat), p.1]
  | [], _ => rfl
  | x :: xs, k => by rw [List.zipIdx_cons, List.map_cons, ← enumD_zip xs (k + 1)]; rfl
/-! the pool of a law's script -/
def m_law_pool (N : Nat) : Xs :=
    (sRetF (fLst (aL [(eFrz (fCB fgList (aL [(eVar 0)]))), (eK (.int 0)), (eK (.int 0)), (eK (.int 1)), (eK (.int 0)), (eVar 1)])))
def f_law_pool (N : Nat) : Fn := runD 2 (m_law_pool N)
def m_law_draw (N : Nat) : Xs :=
    (sSeq (sIf (tAn (tOfB (eBin gLe (eBin gIx (eVar 0) (eK (.int 2))) (eK (.int 0)))) (tAn (tOfB (eBin gLe (eBin gIx (eVar 0) (eK (.int 4))) (eK (.int 0)))) (tOfB (eBin gLt (eBin gIx (eVar 0) (eK (.int 1))) (eCB gLen (aL [(eBin gIx (eVar 0) (eK (.int 0)))])))))) (sSeq (sAsg (eBin gIx (eBin gIx (eVar 0) (eK (.int 0))) (eBin gIx (eVar 0) (eK (.int 1)))) (gNm 2))
    (sSeq (sSetIx 0 (eBin gAdd (eBin gIx (eVar 0) (eK (.int 1))) (eK (.int 1))) (eK (.int 1)))
    (sSeq (sSetIx 0 (eBin gMod (eCB gInt (aL [(eBin gAdd (eBin gMul (eBin gIx (eVar 0) (eK (.int 3))) (eK (.int 31))) (eVar 2))])) (eK (.int 2147483647))) (eK (.int 3)))
    (sSeq (sSetIx 0 (eK (.int 7)) (eK (.int 4)))
    (sIf (tOfB (eBin gGe (eVar 2) (eBin gPow (eK (.int 10)) (eK (.int 18))))) (sSetIx 0 (eVar 2) (eK (.int 2))) sNext))))) sNext)
    (sSeq (sIf (tOfB (eBin gGt (eBin gIx (eVar 0) (eK (.int 2))) (eK (.int 0)))) (sSeq (sAsg (eBin gMod (eCB gInt (aL [(eBin gIx (eVar 0) (eK (.int 2)))])) (eVar 1)) (gNm 3))
    (sSeq (sSetIx 0 (eBin gFdiv (eBin gIx (eVar 0) (eK (.int 2))) (eVar 1)) (eK (.int 2)))
    (sSeq (sSetIx 0 (eK (.int 0)) (eK (.int 4)))
    (sRet (eVar 3))))) sNext)
    (sSeq (sSetIx 0 (eBin gSub (eBin gIx (eVar 0) (eK (.int 4))) (eK (.int 1))) (eK (.int 4)))
    (sSeq (sSetIx 0 (eBin gMod (eCB gInt (aL [(eBin gAdd (eBin gMul (eBin gIx (eVar 0) (eK (.int 3))) (eK (.int 48271))) (eK (.int 12345)))])) (eK (.int 2147483647))) (eK (.int 3)))
    (sRet (eBin gMod (eBin gMod (eCB gInt (aL [(eBin gAdd (eBin gMul (eBin gIx (eVar 0) (eK (.int 3))) (eK (.int 69621))) (eK (.int 7919)))])) (eK (.int 2147483647))) (eVar 1)))))))
def f_law_draw (N : Nat) : Fn := runD 4 (m_law_draw N)

@[simp] theorem log2_small {b : Nat} (h : b < 18446744073709551616) : b.log2 < 9000 := by
  rcases Nat.eq_zero_or_pos b with h0 | h0
  · subst h0
    decide
  · have := (Nat.log2_lt (by omega) : b.log2 < 64 ↔ _).2 (by omega)
    omega
structure Pl where
  ns : List Int
  i : Int
  big : Int
  seed : Int
  left : Int
  bud : Int
def Pl.so (p : Pl) : SO := .lst [.lst (p.ns.map .int), .int p.i, .int p.big, .int p.seed, .int p.left, .int p.bud]
def Pl.load (p : Pl) : Pl := if p.big ≤ 0 ∧ p.left ≤ 0 ∧ p.i < p.ns.length then { p with
    i := p.i + 1
    big := if 1000000000000000000 ≤ p.ns.getD p.i.toNat 0 then p.ns.getD p.i.toNat 0 else p.big
    seed := (p.seed * 31 + p.ns.getD p.i.toNat 0) % 2147483647
    left := 7 } else p
def Pl.val (p : Pl) (size : Int) : Int := if 0 < p.load.big then p.load.big % size else ((p.load.seed * 48271 + 12345) % 2147483647 * 69621 + 7919) % 2147483647 % size
def Pl.nxt (p : Pl) (size : Int) : Pl := if 0 < p.load.big then { p.load with big := p.load.big / size, left := 0 } else { p.load with left := p.load.left - 1, seed := (p.load.seed * 48271 + 12345) % 2147483647 }
theorem ifOk {b : Int} (h : 0 < b) (h2 : b < 2 ^ 64) : (0 < b ∧ b.natAbs.log2 < 9000) := by
  refine ⟨h, ?_⟩
  have : b.natAbs < 2 ^ 64 := by omega
  rcases Nat.eq_zero_or_pos b.natAbs with h0 | h0
  · omega
  · have := (Nat.log2_lt (by omega) : b.natAbs.log2 < 64 ↔ _).2 this
    omega
theorem Pl.val_nn (p : Pl) {size : Int} (h : 0 < size) : 0 ≤ p.val size := by
  unfold Pl.val
  split <;> exact Int.emod_nonneg _ (by omega)
theorem Pl.val_lt (p : Pl) {size : Int} (h : 0 < size) : p.val size < size := by
  unfold Pl.val
  split <;> exact Int.emod_lt_of_pos _ h
theorem Pl.load_nn {p : Pl} (h : 0 ≤ p.i) : 0 ≤ p.load.i := by
  unfold Pl.load
  split
  · show 0 ≤ p.i + 1
    omega
  · exact h
theorem Pl.nxt_nn {p : Pl} (h : 0 ≤ p.i) (size : Int) : 0 ≤ (p.nxt size).i := by
  unfold Pl.nxt
  have := Pl.load_nn h
  split <;> exact this
theorem pool_ok (N : Nat) (ns : List Int) (b : Int) : f_law_pool N [.val (.scr (ns.map D.int)), .val (.int b)] = some (.o (Pl.so ⟨ns, 0, 0, 1, 0, b⟩), [.val (.scr (ns.map D.int)), .val (.int b)]) := by
  unfold f_law_pool runD m_law_pool
  simp [outsOf, Pl.so]
theorem draw_ok (N : Nat) (p : Pl) (size : Int) (h0 : 0 ≤ p.i) (hs : 0 < size) (hs2 : size < 2 ^ 64) :
    f_law_draw N [.own p.so, .val (.int size)] = some (.d (.int (p.val size)), [.own (p.nxt size).so, .val (.int size)]) := by
  have hk := ifOk hs hs2
  obtain ⟨ns, i, big, seed, left, bud⟩ := p
  unfold f_law_draw runD m_law_draw
  by_cases h1 : big ≤ 0
  · have h1' : ¬ 0 < big := by omega
    by_cases h2 : left ≤ 0
    · by_cases h3 : i < ns.length
      · obtain ⟨k, rfl⟩ : ∃ k : Nat, i = k := ⟨i.toNat, (Int.toNat_of_nonneg h0).symm⟩
        have h3' : k < ns.length := by omega
        by_cases h4 : 1000000000000000000 ≤ ns[k]
        · have h5 : 0 < ns[k] := by omega
          have hl : Pl.load ⟨ns, k, big, seed, left, bud⟩ = ⟨ns, k + 1, ns[k], (seed * 31 + ns[k]) % 2147483647, 7, bud⟩ := by
            simp [Pl.load, h1, h2, h3', h4]
          simp [Pl.so, Pl.val, Pl.nxt, hl, h1, h2, h3', h1', mulOk_r, atI_cast, h4, h5, hk, outsOf]
        · have hl : Pl.load ⟨ns, k, big, seed, left, bud⟩ = ⟨ns, k + 1, big, (seed * 31 + ns[k]) % 2147483647, 7, bud⟩ := by
            simp [Pl.load, h1, h2, h3', h4]
          simp [Pl.so, Pl.val, Pl.nxt, hl, h1, h2, h3', h1', mulOk_r, atI_cast, h4, hk, outsOf]
      · have hl : Pl.load ⟨ns, i, big, seed, left, bud⟩ = ⟨ns, i, big, seed, left, bud⟩ := by
          simp [Pl.load, h1, h2, h3]
        simp [Pl.so, Pl.val, Pl.nxt, hl, h1, h2, h3, h1', mulOk_r, hk, outsOf]
    · have hl : Pl.load ⟨ns, i, big, seed, left, bud⟩ = ⟨ns, i, big, seed, left, bud⟩ := by
        simp [Pl.load, h1, h2]
      simp [Pl.so, Pl.val, Pl.nxt, hl, h1, h2, h1', mulOk_r, hk, outsOf]
  · have h1' : 0 < big := by omega
    have hl : Pl.load ⟨ns, i, big, seed, left, bud⟩ = ⟨ns, i, big, seed, left, bud⟩ := by
      simp [Pl.load, h1]
    simp [Pl.so, Pl.val, Pl.nxt, hl, h1, h1', mulOk_r, hk, outsOf]

/-- the items that a law draws one after the other -/
structure Drw (iP : Nat) (m : Xp) (P : Int → Prop) : Prop where
  step : ∀ (env : MEnv) (p : Pl), env[iP]? = some (.own p.so) → 0 ≤ p.i → ∃ (x : Int) (q : Pl), P x ∧ 0 ≤ q.i ∧ m env = some (.d (.int x), env.set iP (.own q.so))
theorem set_back {env : MEnv} {i j : Nat} (hij : i ≠ j) (v w : Slot) (h : env[j]? = some .none) : ((env.set j v).set i w).set j .none = env.set i w := by
  refine List.ext_getElem? fun k => ?_
  simp only [List.getElem?_set, List.length_set]
  by_cases c : j = k
  · subst c
    rw [if_pos rfl, if_neg hij, h]
    have := List.getElem?_eq_some_iff.1 h
    rw [if_pos this.1]
  · rw [if_neg c, if_neg c]
theorem draws {iP iK : Nat} (hne : iP ≠ iK) {m : Xp} {P : Int → Prop} (hm : Drw iP m P) : ∀ (ds acc : List D) (env : MEnv) (p : Pl), env[iP]? = some (.own p.so) → env[iK]? = some .none → 0 ≤ p.i → acc.length + ds.length ≤ 16777216 →
    ∃ (xs : List Int) (q : Pl), 0 ≤ q.i ∧ xs.length = ds.length ∧ (∀ x ∈ xs, P x) ∧ cLoop [iK] (gNm iK) tYs m ds acc env = some (acc ++ xs.map .int, env.set iP (.own q.so))
  | [], acc, env, p, h1, _, h3, _ => ⟨[], p, h3, rfl, by simp, by
    have : env.set iP (.own p.so) = env := by
      refine List.ext_getElem? fun k => ?_
      rw [List.getElem?_set]
      split
      · rename_i c
        subst c
        rw [h1]
        have := List.getElem?_eq_some_iff.1 h1
        rw [if_pos this.1]
      · rfl
    simp [cLoop, this]⟩
  | d :: ds, acc, env, p, h1, h2, h3, hl => by
    obtain ⟨x, q, hx, hq, he⟩ := hm.step (env.set iK (.val d)) p (by rw [List.getElem?_set_ne (Ne.symm hne)]; exact h1) h3
    have hlen := (List.getElem?_eq_some_iff.1 h2).1
    have hlen1 := (List.getElem?_eq_some_iff.1 h1).1
    obtain ⟨xs, q', hq', hxl, hP, hr⟩ := draws hne hm ds (acc ++ [.int x]) (env.set iP (.own q.so)) q (by rw [List.getElem?_set_self hlen1]) (by rw [List.getElem?_set_ne hne]; exact h2) hq (by rw [List.length_append]; rw [List.length_cons] at hl; show acc.length + 1 + ds.length ≤ _; omega)
    refine ⟨x :: xs, q', hq', by rw [List.length_cons, List.length_cons, hxl], fun y hy => ?_, ?_⟩
    · rcases List.mem_cons.1 hy with rfl | hy
      · exact hx
      · exact hP y hy
    · unfold cLoop
      have hl' : acc.length < 16777216 := by
        rw [List.length_cons] at hl
        omega
      simp only [gNm_s, if_pos hlen, tYs_s, he, esc_d, if_pos hl', wipeE_cons, wipeE_nil]
      rw [set_back hne _ _ h2, hr, List.set_set]
      simp
theorem drw_1 {N iP : Nat} {S : Int} (hS : 0 < S) (hS2 : S < 2 ^ 64) : Drw iP (eCallR (f_law_draw N) (aL [(eVar iP), (eK (.int S))])) fun x => 0 ≤ x ∧ x < S where
  step env p h h0 := ⟨p.val S, p.nxt S, ⟨p.val_nn hS, p.val_lt hS⟩, Pl.nxt_nn h0 S, by simp [h, draw_ok N p S h0 hS hS2]⟩
theorem drw_sub {N iP : Nat} {S C : Int} (hS : 0 < S) (hS2 : S < 2 ^ 64) : Drw iP (eBin gSub (eCallR (f_law_draw N) (aL [(eVar iP), (eK (.int S))])) (eK (.int C))) fun x => -C ≤ x ∧ x < S - C where
  step env p h h0 := ⟨p.val S - C, p.nxt S, by have := p.val_nn hS; have := p.val_lt hS; omega, Pl.nxt_nn h0 S, by simp [h, draw_ok N p S h0 hS hS2]⟩
theorem drw_add {N iP : Nat} {S C : Int} (hS : 0 < S) (hS2 : S < 2 ^ 64) : Drw iP (eBin gAdd (eK (.int C)) (eCallR (f_law_draw N) (aL [(eVar iP), (eK (.int S))]))) fun x => C ≤ x ∧ x < C + S where
  step env p h h0 := ⟨C + p.val S, p.nxt S, by have := p.val_nn hS; have := p.val_lt hS; omega, Pl.nxt_nn h0 S, by simp [h, draw_ok N p S h0 hS hS2]⟩
/-! the end of a law, step by step -/
def Yes (o : Option (Fl × MEnv)) : Prop := ∃ e : MEnv, o = some (.ret (.d (.bl true)), e) ∧ 1 ≤ e.length
theorem stp {s1 s2 : Xs} {env e1 : MEnv} (h1 : s1 env = some (.nx, e1)) (h2 : Yes (s2 e1)) : Yes (sSeq s1 s2 env) := by
  rw [sSeq_nx h1]
  exact h2
theorem yes_of {n : Nat} {s : Xs} {d : D} (h : Yes (s ([.val d] ++ List.replicate (n - 1) .none))) : ∃ outs, runD n s [.val d] = some (.d (.bl true), outs) := by
  obtain ⟨e, h1, h2⟩ := h
  refine ⟨outsOf [.val d] e, ?_⟩
  unfold runD
  rw [List.length_cons, List.length_nil, h1]
  simp only [if_pos h2]
theorem yes_ret {m : Xp} {env e1 : MEnv} (h : m env = some (.d (.bl true), e1)) (hl : 1 ≤ e1.length) : Yes (sRet m env) := ⟨e1, by simp [h], hl⟩

/-! == and != on lists of numbers -/
theorem layDs_int : ∀ xs : List Int, layDs (xs.map D.int) = true
  | [] => by simp [layDs]
  | x :: xs => by simp [layDs, layD, layDs_int xs]
theorem depDs_int : ∀ xs : List Int, depDs (xs.map D.int) = 0
  | [] => by simp [depDs]
  | x :: xs => by simp [depDs, depD, depDs_int xs]
theorem eqDs_int : ∀ xs ys : List Int, eqDs (xs.map D.int) (ys.map D.int) = decide (xs = ys)
  | [], [] => by simp [eqDs]
  | [], y :: ys => by simp [eqDs]
  | x :: xs, [] => by simp [eqDs]
  | x :: xs, y :: ys => by
    simp [eqDs, eqD, eqDs_int xs ys]
    rfl
theorem gEq_sh {x y : D} (hx : shD x = true) (hy : shD y = true) : gEq x y = some (.bl (eqD x y)) := by
  unfold gEq
  split
  · simp [eqD]
  · simp [hx, hy]
theorem gNe_sh {x y : D} (hx : shD x = true) (hy : shD y = true) : gNe x y = some (.bl (!eqD x y)) := by
  unfold gNe
  split
  · simp [eqD]
  · simp [hx, hy]
theorem shD_ti (xs : List Int) : shD (.tup (xs.map D.int)) = true := by simp [shD, layD, depD, layDs_int, depDs_int]
theorem shD_li (xs : List Int) : shD (.lst (xs.map D.int)) = true := by simp [shD, layD, depD, layDs_int, depDs_int]
@[simp] theorem gEq_ti (xs ys : List Int) : gEq (.tup (xs.map D.int)) (.tup (ys.map D.int)) = some (.bl (decide (xs = ys))) := by
  rw [gEq_sh (shD_ti _) (shD_ti _), eqD, eqDs_int]
@[simp] theorem gNe_ti (xs ys : List Int) : gNe (.tup (xs.map D.int)) (.tup (ys.map D.int)) = some (.bl (!decide (xs = ys))) := by
  rw [gNe_sh (shD_ti _) (shD_ti _), eqD, eqDs_int]
@[simp] theorem gEq_li (xs ys : List Int) : gEq (.lst (xs.map D.int)) (.lst (ys.map D.int)) = some (.bl (decide (xs = ys))) := by
  rw [gEq_sh (shD_li _) (shD_li _), eqD, eqDs_int]
@[simp] theorem gNe_li (xs ys : List Int) : gNe (.lst (xs.map D.int)) (.lst (ys.map D.int)) = some (.bl (!decide (xs = ys))) := by
  rw [gNe_sh (shD_li _) (shD_li _), eqD, eqDs_int]
end MP
set_option linter.all false
set_option maxRecDepth 100000
namespace MP
open PySem L2
/-! more of the mirrors' words unfolded -/
section
variable (env : MEnv) (i j c k n : Nat) (m m' m'' m''' : Xp) (ms : Xa) (mf : Xf) (t : Xt)
@[simp] theorem fMake_s (f : Fn) : fMake c f ms env = match ms env with
  | none => none
  | some (rs, e1) => match escL e1 rs with
    | none => none
    | some (ds, e2) => match f (.own (.ins c []) :: ds.map .val) with
      | some (.d .non, .own o :: _) => some (o, e2)
      | _ => none := (rfl)
@[simp] theorem ownI_s : ownI env i = match env[i]? with
  | some (.own (.ins c fs)) => some (c, fs)
  | _ => none := (rfl)
@[simp] theorem sFldSet_s : sFldSet i c j m env = match m env with
  | none => none
  | some (r, e1) => match esc e1 r with
    | none => none
    | some (d, e2) => match ownI e2 i with
      | none => none
      | some (c', fs) => if c' = c then (if j < fs.length then some (.nx, e2.set i (.own (.ins c (fs.set j d)))) else if j = fs.length then some (.nx, e2.set i (.own (.ins c (fs ++ [d])))) else none) else none := (rfl)
@[simp] theorem gFld_s (fs : List D) : gFld c j (.obj k fs) = if k = c then fs[j]? else none := (rfl)
@[simp] theorem aMth_s : aMth c m ms env = match m env with
  | none => none
  | some (r, e1) => match vw e1 r with
    | some (.obj c' _) => if c' = c then match ms e1 with
      | none => none
      | some (rs, e2) => some (r :: rs, e2)
      else none
    | _ => none := (rfl)
@[simp] theorem fComp2_s (vs vs1 : List Nat) (mi mi1 : Xi) (g g1 : Xg) (t1 : Xt) : fComp2 vs mi g t mi1 vs1 g1 t1 m env = match mi env with
  | none => none
  | some (ds, e1) => if okW e1 vs then match cLoop2 vs g t mi1 vs1 g1 t1 m ds [] (wipeE e1 vs) with
    | none => none
    | some (xs, e2) => some (.lst xs, restE e1 e2 vs)
    else none := (rfl)
@[simp] theorem eChain3_s (g g' g'' : D → D → Option D) : eChain3 g g' g'' m m' m'' m''' env = match m env with
  | none => none
  | some (r1, e1) => match m' e1 with
    | none => none
    | some (r2, e2) => match vw e2 r1, vw e2 r2 with
      | some x, some y => match g x y with
        | some (.bl true) => match m'' e2 with
          | none => none
          | some (r3, e3) => match vw e3 r2, vw e3 r3 with
            | some y', some z => match g' y' z with
              | some (.bl true) => match m''' e3 with
                | none => none
                | some (r4, e4) => match vw e4 r3, vw e4 r4 with
                  | some z', some u => match g'' z' u with
                    | some w => some (.d w, e4)
                    | none => none
                  | _, _ => none
              | some (.bl false) => some (.d (.bl false), e3)
              | _ => none
            | _, _ => none
        | some (.bl false) => some (.d (.bl false), e2)
        | _ => none
      | _, _ => none := (rfl)
end
section
variable (n : String) (a b : Int) (x : Bool) (xs ys : List D) (ks : List (D × D)) (fs : List D) (c : Nat) (s : Str)
@[simp] theorem gIsi_non : gIsi n .non = some (.bl (n == "NoneType")) := (rfl)
@[simp] theorem gIsi_bl : gIsi n (.bl x) = some (.bl (n == "bool" || n == "int")) := (rfl)
@[simp] theorem gIsi_int : gIsi n (.int a) = some (.bl (n == "int")) := (rfl)
@[simp] theorem gIsi_str : gIsi n (.str s) = some (.bl (n == "str")) := (rfl)
@[simp] theorem gIsi_tup : gIsi n (.tup xs) = some (.bl (n == "tuple")) := (rfl)
@[simp] theorem gIsi_lst : gIsi n (.lst xs) = some (.bl (n == "list")) := (rfl)
@[simp] theorem gMax2_i : gMax2 [.int a, .int b] = some (.int (max a b)) := by
  unfold gMax2
  have : (if b > a then b else a) = max a b := by
    split <;> omega
  simp only [this]
@[simp] theorem gMin2_i : gMin2 [.int a, .int b] = some (.int (min a b)) := by
  unfold gMin2
  have : (if b < a then b else a) = min a b := by
    split <;> omega
  simp only [this]
@[simp] theorem gAll_b (bs : List Bool) : gAll [.lst (bs.map D.bl)] = some (.bl (bs.all id)) := by
  unfold gAll
  simp only [boolsD_map]
@[simp] theorem gAny_b (bs : List Bool) : gAny [.lst (bs.map D.bl)] = some (.bl (bs.any id)) := by
  unfold gAny
  simp only [boolsD_map]
theorem gAll_m {α : Type} (f : α → Bool) (ls : List α) : gAll [.lst (ls.map fun a => D.bl (f a))] = some (.bl (ls.all f)) := by
  have := gAll_b (ls.map f)
  rw [List.map_map, List.all_map] at this
  exact this
theorem gAny_m {α : Type} (f : α → Bool) (ls : List α) : gAny [.lst (ls.map fun a => D.bl (f a))] = some (.bl (ls.any f)) := by
  have := gAny_b (ls.map f)
  rw [List.map_map, List.any_map] at this
  exact this
theorem gSum_m {α : Type} (f : α → Int) (ls : List α) : gSum [.lst (ls.map fun a => D.int (f a))] = some (.int (ls.map f).sum) := by
  have := gSum_i (ls.map f)
  rw [List.map_map] at this
  exact this
@[simp] theorem gSumA_l (ns : List Int) : gSumA [.lst (ns.map D.int)] = some (.int ns.sum) := by
  unfold gSumA
  simp only [intsD_map]
@[simp] theorem gSumA_t (ns : List Int) : gSumA [.tup (ns.map D.int)] = some (.int ns.sum) := by
  unfold gSumA
  simp only [intsD_map]
@[simp] theorem gIsN_s (neg : Bool) (d : D) : gIsN neg d .non = some (.bl (if neg then !isN d else isN d)) := (rfl)
@[simp] theorem isN_non : isN .non = true := (rfl)
@[simp] theorem isN_bl : isN (.bl x) = false := (rfl)
@[simp] theorem isN_int : isN (.int a) = false := (rfl)
@[simp] theorem isN_tup : isN (.tup xs) = false := (rfl)
@[simp] theorem isN_lst : isN (.lst xs) = false := (rfl)
theorem anyEq_int (a : Int) (bs : List Int) : anyEq (.int a) (bs.map D.int) = decide (a ∈ bs) := by
  unfold anyEq
  rw [List.any_map]
  induction bs with
  | nil => rfl
  | cons b bs ih =>
    rw [List.any_cons, ih]
    by_cases h : a = b
    · subst h
      simp [eqD]
    · have h' : ¬ b = a := fun z => h z.symm
      simp [eqD, h, h']
@[simp] theorem gIn_ti (bs : List Int) : gIn false (.int a) (.tup (bs.map D.int)) = some (.bl (decide (a ∈ bs))) := by
  simp [gIn, shD, layD, depD, layDs_int, anyEq_int]
@[simp] theorem gIn_li (bs : List Int) : gIn false (.int a) (.lst (bs.map D.int)) = some (.bl (decide (a ∈ bs))) := by
  simp [gIn, shD, layD, depD, layDs_int, anyEq_int]
@[simp] theorem gNin_ti (bs : List Int) : gIn true (.int a) (.tup (bs.map D.int)) = some (.bl (!decide (a ∈ bs))) := by
  simp [gIn, shD, layD, depD, layDs_int, anyEq_int]
@[simp] theorem gNin_li (bs : List Int) : gIn true (.int a) (.lst (bs.map D.int)) = some (.bl (!decide (a ∈ bs))) := by
  simp [gIn, shD, layD, depD, layDs_int, anyEq_int]
@[simp] theorem gIn_2 (b c : Int) : gIn false (.int a) (.tup [.int b, .int c]) = some (.bl (decide (a = b ∨ a = c))) := by
  have := gIn_ti a [b, c]
  simpa using this
end
theorem atI_neg {α : Type} (xs : List α) (k : Nat) (h0 : 0 < k) (h : k ≤ xs.length) : atI xs (-(k : Int)) = xs[xs.length - k]? := by
  unfold atI ixN
  rw [if_neg (by omega), if_pos (by omega)]
  show xs[(-(k : Int) + xs.length).toNat]? = _
  congr 1
  omega
theorem cLoop_filtV {α : Type} (enc f : α → D) (b : α → Bool) {vs : List Nat} {g : Xg} {t : Xt} {m : Xp} {env : MEnv} : ∀ (ls : List α) (acc : List D), (∀ a ∈ ls, ∃ e1, g (enc a) env = some e1 ∧ t e1 = some (b a, e1) ∧ (b a = true → m e1 = some (.d (f a), e1)) ∧ wipeE e1 vs = env) → acc.length + ls.length ≤ 16777216 →
    cLoop vs g t m (ls.map enc) acc env = some (acc ++ (ls.filter b).map f, env)
  | [], acc, _, _ => by simp [cLoop]
  | a :: ls, acc, h, hl => by
    obtain ⟨e1, h1, h2, h3, h4⟩ := h a List.mem_cons_self
    have hl' : acc.length < 16777216 := by
      rw [List.length_cons] at hl
      omega
    rw [List.map_cons]
    unfold cLoop
    rw [h1]
    simp only
    rw [h2]
    cases hb : b a with
    | false =>
      have ih := cLoop_filtV enc f b ls acc (fun d' hd' => h d' (List.mem_cons_of_mem _ hd')) (by rw [List.length_cons] at hl; omega)
      simp only [h4]
      rw [ih, List.filter_cons_of_neg (by simp [hb])]
    | true =>
      have ih := cLoop_filtV enc f b ls (acc ++ [f a]) (fun d' hd' => h d' (List.mem_cons_of_mem _ hd')) (by
        rw [List.length_append]
        rw [List.length_cons] at hl
        show acc.length + 1 + ls.length ≤ _
        omega)
      simp only
      rw [h3 hb]
      simp only [esc_d, if_pos hl', h4]
      rw [ih, List.filter_cons_of_pos hb, List.map_cons, List.append_assoc]
      rfl
end MP
set_option linter.all false
set_option maxRecDepth 100000
namespace MP
open PySem L2
/-! dicts' words unfolded -/
section
variable (env : MEnv) (i : Nat) (m m' : Xp) (t : Bool) (kv : List (D × D)) (k : D)
@[simp] theorem fDict_s : fDict t env = some (.dct t [], env) := (rfl)
@[simp] theorem ownD_s : ownD env i = match env[i]? with
  | some (.own (.dct t kv)) => some (t, kv)
  | _ => none := (rfl)
@[simp] theorem sDPut_s : MP.sDPut i m m' env = match m' env with
  | none => none
  | some (r, e1) => match esc e1 r with
    | none => none
    | some (d, e2) => match ownD e2 i with
      | none => none
      | some _ => match m e2 with
        | none => none
        | some (rk, e3) => match vw e3 rk with
          | none => none
          | some k => match ownD e3 i with
            | none => none
            | some (t, kv) => if okKy t k && decide (kv.length < 16777216) then some (.nx, e3.set i (.own (.dct t (dPut kv k d)))) else none := (rfl)
@[simp] theorem gDix_d : gDix (.dct t kv) k = if okKy t k then dFind kv k else none := (rfl)
@[simp] theorem gDin_f : gDin false k (.dct t kv) = if okKy t k then some (.bl (dHas kv k)) else none := (rfl)
@[simp] theorem gDin_t : gDin true k (.dct t kv) = if okKy t k then some (.bl (!dHas kv k)) else none := (rfl)
@[simp] theorem okKy_i (j : Int) : okKy false (.int j) = true := (rfl)
@[simp] theorem gLenD_d : gLenD [.dct t kv] = some (.int kv.length) := (rfl)
end
@[simp] theorem eCallL_s (f : Fn) (ms : Xa) (env : MEnv) : eCallL f ms env = match ms env with
  | none => none
  | some (rs, e1) => match vwL e1 rs with
    | none => none
    | some ds => match f (ds.map .val) with
      | some (.o (.lst xs), _) => if flatDs xs then some (.d (.lst xs), e1) else none
      | _ => none := (rfl)
@[simp] theorem rg1_s (m : Xp) (env : MEnv) : rg1 m env = match m env with
  | none => none
  | some (r, e1) => match vw e1 r with
    | some (.int n) => some (0, n, e1)
    | _ => none := (rfl)
@[simp] theorem fLrg_s (m : Xr) (env : MEnv) : fLrg m env = match m env with
  | none => none
  | some (a, b, e1) => if okRg a b then some (.lst (rgD a (b - a).toNat), e1) else none := (rfl)
@[simp] theorem eTrg_s (m : Xr) (env : MEnv) : eTrg m env = match m env with
  | none => none
  | some (a, b, e1) => if okRg a b then some (.d (.tup (rgD a (b - a).toNat)), e1) else none := (rfl)
/-! while, one turn -/
theorem sWhile_nx {n : Nat} {t : Xt} {s : Xs} {env e1 e2 : MEnv} (h1 : t env = some (true, e1)) (h2 : s e1 = some (.nx, e2)) : sWhile (n + 1) t s env = sWhile n t s e2 := by
  show (_ : Option (Fl × MEnv)) = _
  rw [sWhile]
  simp only [h1, h2]
theorem sWhile_ret {n : Nat} {t : Xt} {s : Xs} {env e1 e2 : MEnv} {r : RetV} (h1 : t env = some (true, e1)) (h2 : s e1 = some (.ret r, e2)) : sWhile (n + 1) t s env = some (.ret r, e2) := by
  show (_ : Option (Fl × MEnv)) = _
  rw [sWhile]
  simp only [h1, h2]
theorem sWhile_no {n : Nat} {t : Xt} {s : Xs} {env e1 : MEnv} (h1 : t env = some (false, e1)) : sWhile (n + 1) t s env = some (.nx, e1) := by
  show (_ : Option (Fl × MEnv)) = _
  rw [sWhile]
  simp only [h1]
theorem sLoop_ret {g : Xg} {s : Xs} {d : D} {ds : List D} {env e1 e2 : MEnv} {r : RetV} (h1 : g d env = some e1) (h2 : s e1 = some (.ret r, e2)) : sLoop g s (d :: ds) env = some (.ret r, e2) := by
  show (match g d env with | none => none | some e1 => match s e1 with | none => none | some (.nx, e2) => sLoop g s ds e2 | some (.ct, e2) => sLoop g s ds e2 | some (.bk, e2) => some (.nx, e2) | some (.ret r, e2) => some (.ret r, e2)) = _
  rw [h1]
  simp only
  rw [h2]
/-! dicts whose keys are numbers from 0 on -/
theorem eqKy_n (a b : Nat) : eqKy (.int a) (.int b) = decide (a = b) := by
  show decide ((a : Int) = b) = _
  rw [decide_eq_decide]
  omega
def mkD {α : Type} (key : α → Nat) (val : α → D) (L : List α) : List (D × D) := L.map fun e => (.int (key e), val e)
def has {α : Type} (key : α → Nat) (L : List α) (v : Nat) : Prop := ∃ e ∈ L, key e = v
section
variable {α : Type} (key : α → Nat) (val : α → D)
theorem dHas_iff (v : Nat) (L : List α) : dHas (mkD key val L) (.int v) = true ↔ has key L v := by
  unfold dHas mkD has
  rw [List.any_map, List.any_eq_true]
  constructor
  · rintro ⟨e, he, h⟩
    exact ⟨e, he, of_decide_eq_true ((eqKy_n _ _).symm.trans h)⟩
  · rintro ⟨e, he, h⟩
    exact ⟨e, he, (eqKy_n _ _).trans (decide_eq_true h)⟩
theorem dHas_y {v : Nat} {L : List α} (h : has key L v) : dHas (mkD key val L) (.int v) = true := (dHas_iff key val v L).2 h
theorem dHas_no {v : Nat} {L : List α} (h : ¬ has key L v) : dHas (mkD key val L) (.int v) = false := by
  cases q : dHas (mkD key val L) (.int v) with
  | false => rfl
  | true => exact absurd ((dHas_iff key val v L).1 q) h
theorem dFind_n (v : Nat) : ∀ L : List α, dFind (mkD key val L) (.int v) = (L.find? fun e => decide (key e = v)).map val
  | [] => by simp [dFind, mkD]
  | e :: L => by
    have ih := dFind_n v L
    unfold dFind mkD at ih ⊢
    rw [List.map_cons, List.find?_cons, List.find?_cons, eqKy_n]
    by_cases c : key e = v
    · simp [c]
    · simp only [decide_eq_false c]
      exact ih
theorem dPut_n {v : Nat} {d : D} {L : List α} (h : ¬ has key L v) (e : α) (he : key e = v) (hd : val e = d) : dPut (mkD key val L) (.int v) d = mkD key val (L ++ [e]) := by
  unfold dPut
  rw [dHas_no key val h]
  unfold mkD
  rw [if_neg (by simp), List.map_append, List.map_singleton, he, hd]
theorem find_n {L : List α} (nd : (L.map key).Nodup) {e : α} (he : e ∈ L) : L.find? (fun x => decide (key x = key e)) = some e := by
  induction L with
  | nil => cases he
  | cons x L ih =>
    rw [List.map_cons, List.nodup_cons] at nd
    rw [List.find?_cons]
    rcases List.mem_cons.1 he with rfl | he
    · simp
    · have : key x ≠ key e := fun z => nd.1 (z ▸ List.mem_map.2 ⟨e, he, rfl⟩)
      simp only [decide_eq_false this]
      exact ih nd.2 he
end
/-! draws, for whatever else stands around -/
structure DrwU (iP : Nat) (m : Xp) (P : Int → Prop) : Prop where
  step : ∀ (p : Pl), 0 ≤ p.i → ∃ (x : Int) (q : Pl), P x ∧ 0 ≤ q.i ∧ ∀ env : MEnv, env[iP]? = some (.own p.so) → m env = some (.d (.int x), env.set iP (.own q.so))
theorem drawsU' {iP iK : Nat} (hne : iP ≠ iK) {m : Xp} {P : Int → Prop} (hm : DrwU iP m P) : ∀ (ds : List D) (p : Pl), 0 ≤ p.i → ∃ (xs : List Int) (q : Pl), 0 ≤ q.i ∧ xs.length = ds.length ∧ (∀ x ∈ xs, P x) ∧
    ∀ (env : MEnv) (acc : List D), env[iP]? = some (.own p.so) → env[iK]? = some .none → acc.length + ds.length ≤ 16777216 → cLoop [iK] (gNm iK) tYs m ds acc env = some (acc ++ xs.map .int, env.set iP (.own q.so))
  | [], p, h3 => ⟨[], p, h3, rfl, by simp, fun env acc h1 _ _ => by
    have : env.set iP (.own p.so) = env := set_self _ _ _ h1
    simp [cLoop, this]⟩
  | d :: ds, p, h3 => by
    obtain ⟨x, q, hx, hq, he⟩ := hm.step p h3
    obtain ⟨xs, q', hq', hxl, hP, hr⟩ := drawsU' (iK := iK) hne hm ds q hq
    refine ⟨x :: xs, q', hq', by rw [List.length_cons, List.length_cons, hxl], fun y hy => ?_, fun env acc h1 h2 ha => ?_⟩
    · rcases List.mem_cons.1 hy with rfl | hy
      · exact hx
      · exact hP y hy
    · have he' := he (env.set iK (.val d)) (by rw [List.getElem?_set_ne (Ne.symm hne)]; exact h1)
      have hlen := (List.getElem?_eq_some_iff.1 h2).1
      have hlen1 := (List.getElem?_eq_some_iff.1 h1).1
      rw [List.length_cons] at ha
      have hl' : acc.length < 16777216 := by omega
      unfold cLoop
      simp only [gNm_s, if_pos hlen, tYs_s, he', esc_d, if_pos hl', wipeE_cons, wipeE_nil]
      rw [set_back hne _ _ h2, hr (env.set iP (.own q.so)) (acc ++ [D.int x]) (by rw [List.getElem?_set_self hlen1]) (by rw [List.getElem?_set_ne hne]; exact h2) (by rw [List.length_append]; show acc.length + 1 + ds.length ≤ _; omega), List.set_set]
      simp
theorem drawsU {iP iK : Nat} (hne : iP ≠ iK) {m : Xp} {P : Int → Prop} (hm : DrwU iP m P) (ds : List D) (p : Pl) (h3 : 0 ≤ p.i) (hl : ds.length ≤ 10000) : ∃ (xs : List Int) (q : Pl), 0 ≤ q.i ∧ xs.length = ds.length ∧ (∀ x ∈ xs, P x) ∧
    ∀ (env : MEnv), env[iP]? = some (.own p.so) → env[iK]? = some .none → cLoop [iK] (gNm iK) tYs m ds [] env = some (xs.map .int, env.set iP (.own q.so)) := by
  obtain ⟨xs, q, a, b, c, d⟩ := drawsU' hne hm ds p h3
  exact ⟨xs, q, a, b, c, fun env h1 h2 => by
    have := d env [] h1 h2 (by simp; omega)
    simpa using this⟩
theorem drwU_1 {N iP : Nat} {S : Int} (hS : 0 < S) (hS2 : S < 2 ^ 64) : DrwU iP (eCallR (f_law_draw N) (aL [(eVar iP), (eK (.int S))])) fun x => 0 ≤ x ∧ x < S where
  step p h0 := ⟨p.val S, p.nxt S, ⟨p.val_nn hS, p.val_lt hS⟩, Pl.nxt_nn h0 S, fun env h => by simp [h, draw_ok N p S h0 hS hS2]⟩
theorem drwU_sub {N iP : Nat} {S C : Int} (hS : 0 < S) (hS2 : S < 2 ^ 64) : DrwU iP (eBin gSub (eCallR (f_law_draw N) (aL [(eVar iP), (eK (.int S))])) (eK (.int C))) fun x => -C ≤ x ∧ x < S - C where
  step p h0 := ⟨p.val S - C, p.nxt S, by have := p.val_nn hS; have := p.val_lt hS; omega, Pl.nxt_nn h0 S, fun env h => by simp [h, draw_ok N p S h0 hS hS2]⟩
theorem drwU_add {N iP : Nat} {S C : Int} (hS : 0 < S) (hS2 : S < 2 ^ 64) : DrwU iP (eBin gAdd (eK (.int C)) (eCallR (f_law_draw N) (aL [(eVar iP), (eK (.int S))]))) fun x => C ≤ x ∧ x < C + S where
  step p h0 := ⟨C + p.val S, p.nxt S, by have := p.val_nn hS; have := p.val_lt hS; omega, Pl.nxt_nn h0 S, fun env h => by simp [h, draw_ok N p S h0 hS hS2]⟩
theorem drwU_vote {N iP : Nat} : DrwU iP (eBin gSub (eK (.int 1)) (eBin gMul (eK (.int 2)) (eCallR (f_law_draw N) (aL [(eVar iP), (eK (.int 2))])))) fun x => x = 1 ∨ x = -1 where
  step p h0 := ⟨1 - 2 * p.val 2, p.nxt 2, by
    have h1 := p.val_nn (size := 2) (by decide)
    have h2 := p.val_lt (size := 2) (by decide)
    omega, Pl.nxt_nn h0 2, fun env h => by
    have hm := mulOk_l 2 (p.val 2) (by decide)
    simp [h, draw_ok N p 2 h0 (by decide) (by decide), hm]⟩
/-! a comprehension over one name -/
theorem comp1 {α : Type} (enc f : α → D) {k : Nat} {m : Xp} (ls : List α) (env : MEnv) (h : env[k]? = some .none) (hl : ls.length ≤ 16777216)
    (hm : ∀ a ∈ ls, m (env.set k (.val (enc a))) = some (.d (f a), env.set k (.val (enc a)))) : cLoop [k] (gNm k) tYs m (ls.map enc) [] env = some (ls.map f, env) := by
  have hl2 := (List.getElem?_eq_some_iff.1 h).1
  have c1 := cLoop_mapV (vs := [k]) (g := gNm k) (m := m) (env := env) enc f ls [] (fun a ha => ⟨env.set k (.val (enc a)), by simp [hl2], hm a ha, by
    simp only [wipeE_cons, wipeE_nil, List.set_set]
    exact set_self _ _ _ h⟩) (by simpa using hl)
  rw [List.nil_append] at c1
  exact c1
theorem comp1r (f : Nat → D) {k n : Nat} {m : Xp} (env : MEnv) (h : env[k]? = some .none) (hl : n ≤ 16777216)
    (hm : ∀ v, v < n → m (env.set k (.val (.int v))) = some (.d (f v), env.set k (.val (.int v)))) : cLoop [k] (gNm k) tYs m (rgD 0 n) [] env = some ((List.range n).map f, env) := by
  have hz : rgD 0 n = (List.range n).map fun (i : Nat) => D.int i := by simp [rgD]
  rw [hz]
  exact comp1 (fun (i : Nat) => D.int i) f (List.range n) env h (by simpa using hl) fun v hv => hm v (List.mem_range.1 hv)
theorem comp1f {α : Type} (enc f : α → D) (b : α → Bool) {k : Nat} {t : Xt} {m : Xp} (ls : List α) (env : MEnv) (h : env[k]? = some .none) (hl : ls.length ≤ 16777216)
    (ht : ∀ a ∈ ls, t (env.set k (.val (enc a))) = some (b a, env.set k (.val (enc a))))
    (hm : ∀ a ∈ ls, b a = true → m (env.set k (.val (enc a))) = some (.d (f a), env.set k (.val (enc a)))) : cLoop [k] (gNm k) t m (ls.map enc) [] env = some ((ls.filter b).map f, env) := by
  have hl2 := (List.getElem?_eq_some_iff.1 h).1
  have c1 := cLoop_filtV (vs := [k]) (g := gNm k) (t := t) (m := m) (env := env) enc f b ls [] (fun a ha => ⟨env.set k (.val (enc a)), by simp [hl2], ht a ha, hm a ha, by
    simp only [wipeE_cons, wipeE_nil, List.set_set]
    exact set_self _ _ _ h⟩) (by simpa using hl)
  rw [List.nil_append] at c1
  exact c1
theorem comp1fr (f : Nat → D) (b : Nat → Bool) {k n : Nat} {t : Xt} {m : Xp} (env : MEnv) (h : env[k]? = some .none) (hl : n ≤ 16777216)
    (ht : ∀ v, v < n → t (env.set k (.val (.int v))) = some (b v, env.set k (.val (.int v))))
    (hm : ∀ v, v < n → b v = true → m (env.set k (.val (.int v))) = some (.d (f v), env.set k (.val (.int v)))) : cLoop [k] (gNm k) t m (rgD 0 n) [] env = some (((List.range n).filter b).map f, env) := by
  have hz : rgD 0 n = (List.range n).map fun (i : Nat) => D.int i := by simp [rgD]
  rw [hz]
  exact comp1f (fun (i : Nat) => D.int i) f b (List.range n) env h (by simpa using hl) (fun v hv => ht v (List.mem_range.1 hv)) fun v hv => hm v (List.mem_range.1 hv)
/-- numbers from 0 on, as a list of values -/
abbrev nL (l : List Nat) : List D := l.map fun (u : Nat) => D.int u
theorem nL_int (l : List Nat) : nL l = (l.map fun (u : Nat) => (u : Int)).map D.int := by
  rw [List.map_map]
  rfl
theorem mem_cast (v : Nat) (l : List Nat) : ((v : Int) ∈ l.map fun (u : Nat) => (u : Int)) ↔ v ∈ l := by
  rw [List.mem_map]
  constructor
  · rintro ⟨u, hu, e⟩
    have : u = v := by omega
    exact this ▸ hu
  · exact fun h => ⟨v, h, rfl⟩
theorem in_nL (v : Nat) (l : List Nat) : gIn false (.int v) (.lst (nL l)) = some (.bl (decide (v ∈ l))) := by
  rw [nL_int, gIn_li]
  simp only [mem_cast]
theorem nin_nL (v : Nat) (l : List Nat) : gIn true (.int v) (.lst (nL l)) = some (.bl (!decide (v ∈ l))) := by
  rw [nL_int, gNin_li]
  simp only [mem_cast]
theorem in_nT (v : Nat) (l : List Nat) : gIn false (.int v) (.tup (nL l)) = some (.bl (decide (v ∈ l))) := by
  rw [nL_int, gIn_ti]
  simp only [mem_cast]
theorem nin_nT (v : Nat) (l : List Nat) : gIn true (.int v) (.tup (nL l)) = some (.bl (!decide (v ∈ l))) := by
  rw [nL_int, gNin_ti]
  simp only [mem_cast]
theorem nL_eq (l m : List Nat) : ((l.map fun (u : Nat) => (u : Int)) = (m.map fun (u : Nat) => (u : Int))) ↔ l = m := by
  constructor
  · intro h
    have := congrArg (List.map Int.toNat) h
    rw [List.map_map, List.map_map] at this
    have e : (Int.toNat ∘ fun (u : Nat) => (u : Int)) = id := funext fun u => Int.toNat_natCast u
    rw [e, List.map_id, List.map_id] at this
    exact this
  · rintro rfl
    rfl
theorem gEq_nL (l m : List Nat) : gEq (.lst (nL l)) (.lst (nL m)) = some (.bl (decide (l = m))) := by
  rw [nL_int, nL_int, gEq_li]
  simp only [nL_eq]
theorem gNe_nL (l m : List Nat) : gNe (.lst (nL l)) (.lst (nL m)) = some (.bl (!decide (l = m))) := by
  rw [nL_int, nL_int, gNe_li]
  simp only [nL_eq]
theorem gEq_nT (l m : List Nat) : gEq (.tup (nL l)) (.tup (nL m)) = some (.bl (decide (l = m))) := by
  rw [nL_int, nL_int, gEq_ti]
  simp only [nL_eq]
theorem gNe_nT (l m : List Nat) : gNe (.tup (nL l)) (.tup (nL m)) = some (.bl (!decide (l = m))) := by
  rw [nL_int, nL_int, gNe_ti]
  simp only [nL_eq]
theorem asc_int {l : List Nat} (h : l.Pairwise (· < ·)) : (l.map fun (u : Nat) => (u : Int)).Pairwise (· < ·) := by
  rw [List.pairwise_map]
  exact h.imp fun h => by omega
theorem ss_nT {l : List Nat} (h : l.Pairwise (· < ·)) (hl : l.length < 64) : fgSS [.tup (nL l)] = some (.lst (nL l)) := by
  rw [nL_int, fgSS_t, if_pos (by simpa using hl), srtS_id (asc_int h)]
theorem nL_len (l : List Nat) : (nL l).length = l.length := List.length_map _
theorem nL_nat (l : List Int) (h : ∀ x ∈ l, 0 ≤ x) : l.map D.int = nL (l.map Int.toNat) := by
  unfold nL
  rw [List.map_map]
  refine List.map_congr_left fun x hx => ?_
  show D.int x = D.int (x.toNat : Nat)
  rw [Int.toNat_of_nonneg (h x hx)]
theorem flat_nL : ∀ l : List Nat, flatDs (nL l) = true
  | [] => by simp [flatDs]
  | a :: l => by
    have := flat_nL l
    simp only [nL, List.map_cons, flatDs, flatD, Bool.true_and]
    exact this
end MP
set_option Elab.async false
set_option linter.all false
set_option maxRecDepth 100000
set_option maxHeartbeats 4000000
namespace MP
open PySem PySem.Spec PyProof.Rows L2
section
variable {X : Cx} {cl : ClM} {R : Nat → Bool}
/-- a, b, c = e, f, g, all local -/
def sPar3 (i j l : Nat) (ms : Xa) : Xs := fun env => match ms env with
  | none => none
  | some (rs, e1) => match escL e1 rs with
    | some ([d, d', d''], e2) => if i < e2.length ∧ j < e2.length ∧ l < e2.length then some (.nx, ((e2.set i (.val d)).set j (.val d')).set l (.val d'')) else none
    | _ => none
theorem ms_par3 {st : Stmt} {es : List Expr} {i j l : Nat} {ms : Xa} (h : MA X cl es ms) (hp : ∀ t, PA X es t → PS X st (tPar3 i j l t)) (h1 : R i = false) (h2 : R j = false) (h3 : R l = false) : MS X cl R st (sPar3 i j l ms) := by
  obtain ⟨t, p, k⟩ := h
  refine ⟨_, hp t p, fun σ H I env fl env' Dn g hm kk => ?_⟩
  unfold sPar3 at hm
  cases q : ms env with
  | none => simp [q] at hm
  | some pr =>
    obtain ⟨rs, e1⟩ := pr
    simp only [q] at hm
    refine k σ H I env rs e1 _ g q fun vs I1 H1 g1 t1 r1 => ?_
    cases q2 : escL e1 rs with
    | none => simp [q2] at hm
    | some p2 =>
      obtain ⟨ds, e2⟩ := p2
      obtain ⟨I2, g2, t2, r2⟩ := escL_ok g1 r1 q2
      cases r2 with
      | nil => simp [q2] at hm
      | cons ra r2 =>
        cases r2 with
        | nil => simp [q2] at hm
        | cons rb r2 =>
          cases r2 with
          | nil => simp [q2] at hm
          | cons rc r2 =>
            cases r2 with
            | cons _ _ => simp [q2] at hm
            | nil =>
              rename_i v d v' d' v'' d''
              simp only [q2] at hm
              by_cases hl : i < e2.length ∧ j < e2.length ∧ l < e2.length
              · rw [if_pos hl] at hm
                simp only [Option.some.injEq, Prod.mk.injEq] at hm
                obtain ⟨rfl, rfl⟩ := hm
                refine ⟨v, v', v'', rfl, kk _ I2 H1 (((g2.setVal ra).setVal rb).setVal rc) ((t1.trans t2).less fun p h => h.setVal.setVal.setVal) fun a ha => ?_⟩
                rw [List.getElem?_set_ne, List.getElem?_set_ne, List.getElem?_set_ne]
                · rintro rfl
                  rw [h1] at ha
                  cases ha
                · rintro rfl
                  rw [h2] at ha
                  cases ha
                · rintro rfl
                  rw [h3] at ha
                  cases ha
              · rw [if_neg hl] at hm
                cases hm
end
@[simp] theorem sPar3_s (i j l : Nat) (ms : Xa) (env : MEnv) : sPar3 i j l ms env = match ms env with
  | none => none
  | some (rs, e1) => match escL e1 rs with
    | some ([d, d', d''], e2) => if i < e2.length ∧ j < e2.length ∧ l < e2.length then some (.nx, ((e2.set i (.val d)).set j (.val d')).set l (.val d'')) else none
    | _ => none := (rfl)
end MP
set_option Elab.async false
set_option linter.all false
set_option maxRecDepth 100000
set_option maxHeartbeats 4000000
namespace MP
open PySem PySem.Spec PyProof.Rows L2
/-! ### {k: v}, k a nested tuple of ints -/
section
variable {X : Cx} {pins : List (Addr × Obj)} {σ : L2.St} {H : Hp} {s : Shared}
theorem n_adopt {p : Addr} {ob : Obj} {L : List NE} {h' : Heap} {t' : Nat} (I : L2.Inv X ((p, ob) :: pins) σ H s) (hs : Heap.SameBut p s.heap h') (h1 : X.s_0.heap.objs.size ≤ p) (h2 : ∀ x c, X.env.cells.lookup x = some c → c ≠ p)
    (h3 : ∀ q ∈ X.pn ++ pins, q.1 ≠ p) (new : NdP p L h') : L2.Inv X pins σ (upd H p (NdO p L)) { s with heap := h', toks := t' } := by
  obtain ⟨e1, e2, e3, e4, e5⟩ := I.pin (p, ob) (List.mem_append_right _ List.mem_cons_self)
  have I0 : L2.Inv X pins σ H s := I.pins_of fun q hq => I.pin q (List.mem_append_right _ (List.mem_cons_of_mem _ hq))
  have k : ∀ b o, b ≠ p → s.heap.get? b = some o → h'.get? b = some o := fun b o hb e => by
    rw [hs.2 b hb]
    exact e
  have nit : ∀ b u, H b = some u → b ≠ p := fun b u e z => by rw [z, e2] at e; cases e
  have up : ∀ b, b ≠ p → upd H p (NdO p L) b = H b := fun b hb => upd_ne hb
  refine I0.step (g' := s.gens) (d' := s.drawn) (ch := [p]) (fun b hb => ?_) (fun b o _ _ hc e _ => k b o (fun z => hc (by simp [z])) e) (fun b o _ _ hc e _ => ⟨o.slots, k b o (fun z => hc (by simp [z])) e⟩) (fun b o hc _ n => by rw [up b (fun z => hc (by simp [z]))]; exact n)
    (fun b o hc e => ⟨o, k b o (fun z => hc (by simp [z])) e⟩) (fun b xs e => by rw [up b (nit b _ e)]; exact e) (fun b o u e => by rw [up b (nit b _ e)]; exact e) (fun b ps e => ⟨#[], by rw [up b (nit b _ e), e]; simp⟩) (fun m hm => ?_) (fun b u e => ?_) I.bare
  · have e : b = p := by simpa using hb
    subst e
    exact ⟨.inr h1, e3, h2, h3⟩
  · obtain ⟨o, es, ep, ho, r⟩ := hm
    exact ⟨o, es, ep, k _ o (Ne.symm e3) ho, r⟩
  · by_cases c : b = p
    · subst c
      rw [upd_same] at e
      cases Option.some.inj e
      exact ndO_ok new
    · rw [up b c] at e
      refine (I.hok b u e).stay (fun c v hc q => k c v ?_ q) (fun a q => ?_) fun a o q => ?_
      · rcases hc with z | z
        · rw [z]; exact nit b u e
        · exact nit c _ z
      · rw [up a (nit a _ q)]
        exact q
      · rw [up a (nit a _ q)]
        exact q

def tDOne (K : PySem.W.Frag) (ty tv : TE) : TE := fun σ H Q => ty σ H fun y H1 => tv σ H1 fun v H2 => ∃ k b, y = .ref b ∧ okN k = true ∧ NkV K H2 k (.ref b) ∧ ∀ p, H2 p = none → Q (.ref p) (upd H2 p (NdO p [(k, b, v)]))
theorem pe_done {ke ve : Expr} {pos : Pos} {ty tv : TE} (hu : X.A.units + 64 < cLine) (hk : PE X ke ty) (hv : PE X ve tv) : PE X (.Dict [some ke] [ve] pos) (tDOne X.K ty tv) := by
  refine ⟨fun pins s σ H Q I h => ?_⟩
  have hroom : (nestedKind X.prog X.w).room X.A := by
    show X.A.units + 8 < cLine
    omega
  have hp : H s.heap.objs.size = none := I.hok.fresh (Nat.le_refl _)
  have I' : L2.Inv X ((s.heap.objs.size, { cls := .type "dict", data := .dict #[] }) :: pins) σ H { s with heap := s.heap.push { cls := .type "dict", data := .dict #[] } } := by
    have I0 : L2.Inv X pins σ H { s with heap := s.heap.push { cls := .type "dict", data := .dict #[] } } := I.kept (t' := s.toks) fun _ _ q => Heap.get?_push_of_some _ q
    refine I0.pins_of fun q hq => ?_
    rcases List.mem_cons.1 hq with rfl | hq
    · exact ⟨Heap.get?_push_size _ rfl, hp, Ne.symm (Nat.ne_of_lt I.lt), I.nofs (Nat.le_refl _), fun v z => by cases z⟩
    · exact I0.pin q (List.mem_append_right _ hq)
  have hshape : (evalEachOpt [some ke] X.env).zip ((evalEach [ve] X.env).map fun v => do let x ← v; standAt pos; pure x) = [(eval ke X.env, (do let x ← eval ve X.env; standAt pos; pure x : Sem Value))].map fun p => (some p.1, p.2) := rfl
  rw [arm_eval_Dict, hshape, dictDisplay_pairs _ (by simp) (by simp)]
  refine wpAny_bind (wpAny_standAt (wpAny_bind (wpAny_subDictH (knd := nestedKind X.prog X.w) (Q := fun d s' => wpAny (model X.prog X.w) X.A (pure (Value.ref d)) (EP X pins σ Q) X.xe s') hroom (by simp) ?_)))
  refine evalPairs_cons (thn (hk.run _ _ σ H _ I' h) fun kv s1 ⟨y, H1, I1, ry, q1⟩ => wpAny_bind (thn (hv.run _ s1 σ H1 _ I1 q1) fun vv s2 ⟨v, H2, I2, rv, k, b, ey, ok, nk, q2⟩ => wpAny_bind (wpAny_standAt (wpAny_pure (evalPairs_nil ?_)))))
  subst ey
  obtain rfl : kv = Value.ref b := ry
  obtain ⟨e1, e2, e3, e4, e5⟩ := I2.pin _ (List.mem_append_right _ List.mem_cons_self)
  have kis := isNk I2 ok nk
  refine ⟨[(k, b, vv)], ⟨rfl, rfl, kis, trivial⟩, ⟨_, #[], 0, e1, ⟨rfl, rfl, rfl⟩, rfl, rfl, (fun x hx => by cases hx), List.nodup_nil⟩, fun h' tk dd hs => wpAny_pure ?_⟩
  have nT : noT k = true := by
    have := ok
    unfold okN at this
    rw [Bool.and_eq_true] at this
    exact this.1
  obtain ⟨o, es, ep, d1, d2, d3, d4, d5, d6⟩ := dd
  have e0 : storedAllH [] [(k, b, vv)] = [(k, b, vv)] := rfl
  rw [e0] at d4 d5 d6
  rw [ent_map (fun x hx => by rw [List.mem_singleton.1 hx]; exact nT)] at d4
  refine ⟨.ref s.heap.objs.size, _, n_adopt (t' := tk) I2 hs I.sz (fun x c e z => ?_) (fun q hq z => ?_) ⟨beq_eq_false_iff_ne.mpr (Ne.symm (Nat.ne_of_lt I.big)), (by rw [sizeLine_eq]; simp), [(k, b, vv)], .cons ⟨rfl, rfl, rv⟩ .nil, o, es, ep, d1, d2, d3, d4, d6⟩, rfl, q2 _ e2⟩
  · obtain ⟨v, oc, hc, _⟩ := I.cell x c e
    have := Heap.lt_size hc
    rw [z] at this
    exact Nat.lt_irrefl _ this
  · have := (I.pin q hq).1
    have := Heap.lt_size this
    rw [z] at this
    exact Nat.lt_irrefl _ this
end
/-- {k: v} -/
def fDOne (mk mv : Xp) : Xf := fun env => match mk env with
  | none => none
  | some (rk, e1) => match esc e1 rk with
    | none => none
    | some (k, e2) => match mv e2 with
      | none => none
      | some (rv, e3) => match esc e3 rv with
        | none => none
        | some (v, e4) => if okKy true k then some (.dct true [(k, v)], e4) else none
section
variable {X : Cx} {cl : ClM}
theorem mf_done {ke ve : Expr} {pos : Pos} {mk mv : Xp} (hu : X.A.units + 64 < cLine) (hk : ME X cl ke mk) (hv : ME X cl ve mv) : MF X cl (.Dict [some ke] [ve] pos) (fDOne mk mv) := by
  obtain ⟨ty, py, ky⟩ := hk
  obtain ⟨tv, pv, kv⟩ := hv
  refine ⟨_, pe_done hu py pv, fun σ H I env o env' Q g hm k' => ?_⟩
  unfold fDOne at hm
  cases q1 : mk env with
  | none => simp [q1] at hm
  | some p1 =>
    obtain ⟨rk, e1⟩ := p1
    simp only [q1] at hm
    cases q2 : esc e1 rk with
    | none => simp [q2] at hm
    | some p2 =>
      obtain ⟨kd, e2⟩ := p2
      simp only [q2] at hm
      cases q3 : mv e2 with
      | none => simp [q3] at hm
      | some p3 =>
        obtain ⟨rv, e3⟩ := p3
        simp only [q3] at hm
        cases q4 : esc e3 rv with
        | none => simp [q4] at hm
        | some p4 =>
          obtain ⟨d, e4⟩ := p4
          simp only [q4] at hm
          by_cases ok : okKy true kd = true
          · rw [if_pos ok] at hm
            simp only [Option.some.injEq, Prod.mk.injEq] at hm
            obtain ⟨rfl, rfl⟩ := hm
            refine ky σ H I env rk e1 _ g q1 fun u I1 H1 g1 t1 r1 => ?_
            obtain ⟨I2, g2, t2, r2⟩ := esc_ok g1 r1 q2
            refine kv σ H1 I2 e2 rv e3 _ g2 q3 fun v I3 H3 g3 t3 r3 => ?_
            obtain ⟨I4, g4, t4, r4⟩ := esc_ok g3 r3 q4
            have hyr := r2.mono (t3.ext.trans t4.ext)
            cases kd with
            | tup kl =>
              have ok1 : (match nkD (.tup kl) with | some k => okN k | none => false) = true := ok
              split at ok1
              · rename_i kx hkx
                obtain ⟨e5, hn⟩ := rp_nk hkx hyr
                obtain ⟨b, rfl⟩ : ∃ b, u = .ref b := by
                  cases hyr with
                  | tup _ _ => exact ⟨_, rfl⟩
                refine ⟨kx, b, rfl, ok1, hn.mono (same_t g4.ex), fun p hp => ?_⟩
                have al : Al I4 H3 I4 (upd H3 p (NdO p [(kx, b, v)])) := Al.newH g4.ex hp
                have t14 := ((t1.trans t2).trans t3).trans t4
                have nf : ¬ Fp σ e4 p := fun ⟨j, o, h1, h2⟩ => by
                  obtain ⟨p3, ho3, e3, _, hp3, _⟩ := g4.ok j _ _ h1 h2
                  cases e3
                  rw [hp] at hp3
                  cases hp3
                rw [e5] at k'
                exact k' p _ _ _ (g4.al al) (t14.trans al.tr) (g4.ex.free hp) upd_same (.dT (L := [(kx, b, v)]) (ks := [nkE kx]) (ds := [d]) (fun q hq => by rw [List.mem_singleton.1 hq]; exact ⟨ok1, hn⟩) rfl (.cons r4 .nil)) (t14.back (.inr hp)) nf
              · cases ok1
            | _ => cases ok
          · rw [if_neg ok] at hm
            cases hm
end
@[simp] theorem fDOne_s (mk mv : Xp) (env : MEnv) : fDOne mk mv env = match mk env with
  | none => none
  | some (rk, e1) => match esc e1 rk with
    | none => none
    | some (k, e2) => match mv e2 with
      | none => none
      | some (rv, e3) => match esc e3 rv with
        | none => none
        | some (v, e4) => if okKy true k then some (.dct true [(k, v)], e4) else none := (rfl)
end MP
set_option Elab.async false
set_option linter.all false
set_option maxRecDepth 100000
set_option maxHeartbeats 4000000
/-! dict(zip(l, t)), l a list, t a tuple -/
namespace ZM
open PySem
open PySem.Sem (wp)
section
variable {prog : Program} {w : World} {A : Around} {E : Value → Shared → Prop} {s : Shared}
theorem m_zip_next_item {z TI TO i1 i2 l1 l2 : Addr} {k1 k2 : Nat} {xs ys : Array Value} {x y a b : Value} {Q : Value → Shared → Prop} (D : ZipApart z TI TO i1 i2 l1 l2)
    (hz : IsZip s.heap z TI TO .none) (hTI : IsPair s.heap TI (.ref i1) (.ref i2)) (hTO : IsPair s.heap TO a b)
    (h1 : s.heap.IsListIter i1 l1 k1) (h2 : s.heap.IsTupleIter i2 l2 k2) (hl1 : s.heap.IsList l1 xs) (hl2 : s.heap.IsTuple l2 ys) (hx : xs[k1]? = some x) (hy : ys[k2]? = some y)
    (hQ : ∀ h', IsZip h' z TI TO (rawInt s.heap.objs.size) → IsPair h' TO x y → h'.IsListIter i1 l1 (k1 + 1) → h'.IsTupleIter i2 l2 (k2 + 1) → IsPair h' s.heap.objs.size x y → h'.objs.size = s.heap.objs.size + 1 →
      (∀ c o, c ≠ z → c ≠ TO → c ≠ i1 → c ≠ i2 → s.heap.get? c = some o → h'.get? c = some o) → Q (.ref s.heap.objs.size) { s with heap := h' }) :
    wpAny (model prog w) A (Builtin.«zip.__next__» ⟨[.ref z], []⟩) (fun fin s' => ∃ v, fin = .done (.ret v) ∧ Q v s') E s := by
  show wpAny _ _ (field (.ref z) 2 >>= _) _ _ _
  refine wpAny_bind (wpAny_field hz rfl (x := .bool false) rfl ?_)
  show wpAny _ _ (field (.ref z) 3 >>= _) _ _ _
  refine wpAny_bind (wpAny_field hz rfl (x := .ref TI) rfl ?_)
  refine wpAny_bind (wpAny_seqItems hTI rfl ?_)
  show wpAny _ _ (Builtin.SmallTypes.ownedTupleIsFree (.ref z) >>= _) _ _ _
  refine wpAny_bind ?_
  unfold Builtin.SmallTypes.ownedTupleIsFree
  refine wpAny_bind (wpAny_field hz rfl (x := .none) rfl (wpAny_pure ?_))
  simp only [if_true]
  refine wpAny_bind (wpAny_rule ?_)
  refine wpAny_bind (wpAny_field hz rfl (x := .ref TO) rfl ?_)
  refine wpAny_bind (wpAny_setField_rec hz (by simp) fun h₁ hz₁ hs₁ => ?_)
  replace hz₁ : IsZip h₁ z TI TO .ellipsis := hz₁
  refine wpAny_bind ?_
  simp only [List.zipIdx_cons, List.zipIdx_nil, List.forIn_cons, List.forIn_nil]

  refine wpAny_bind (wpAny_bind (wpAny_onRaise ?_))
  show wpAny _ _ (Builtin.SmallTypes.nextOf (.ref i1) >>= _) _ _ _
  refine wpAny_bind (wpAny_nextOf_list_item (h1.extBut hs₁.extBut D.i1z) (hl1.extBut hs₁.extBut D.l1z) hx fun h₂ h1₂ hs₂ => wpAny_pure ?_)
  have hTO₂ : IsPair h₂ TO a b := hs₂.extBut _ _ D.TOi1 (hs₁.extBut _ _ D.TOz hTO)
  refine wpAny_bind (wpAny_seqItems hTO₂ rfl ?_)
  refine wpAny_bind (wpAny_updateSeq_pair hTO₂ fun h₃ hTO₃ hs₃ => ?_)
  replace hTO₃ : IsPair h₃ TO x b := hTO₃
  refine wpAny_bind (wpAny_letGo (wpAny_pure ?_))

  refine wpAny_bind (wpAny_bind (wpAny_onRaise ?_))
  show wpAny _ _ (Builtin.SmallTypes.nextOf (.ref i2) >>= _) _ _ _
  refine wpAny_bind (RZ.nextOf_tuple_item (((h2.extBut hs₁.extBut D.i2z).extBut hs₂.extBut D.i12.symm).extBut hs₃.extBut D.TOi2.symm)
    (((hl2.extBut hs₁.extBut D.l2z).extBut hs₂.extBut D.l2i1).extBut hs₃.extBut D.l2TO) hy fun h₄ h2₄ hs₄ => wpAny_pure ?_)
  have hTO₄ : IsPair h₄ TO x b := hs₄.extBut _ _ D.TOi2 hTO₃
  refine wpAny_bind (wpAny_seqItems hTO₄ rfl ?_)
  refine wpAny_bind (wpAny_updateSeq_pair hTO₄ fun h₅ hTO₅ hs₅ => ?_)
  replace hTO₅ : IsPair h₅ TO x y := hTO₅
  refine wpAny_bind (wpAny_letGo (wpAny_pure (wpAny_pure ?_)))

  refine wpAny_bind (wpAny_seqItems hTO₅ rfl ?_)
  refine wpAny_bind (wpAny_newTuple ?_)
  have hsz : h₅.objs.size = s.heap.objs.size := by rw [hs₅.1, hs₄.1, hs₃.1, hs₂.1, hs₁.1]
  have hz₅ : IsZip h₅ z TI TO .ellipsis := hs₅.extBut _ _ D.TOz.symm (hs₄.extBut _ _ D.i2z.symm (hs₃.extBut _ _ D.TOz.symm (hs₂.extBut _ _ D.i1z.symm hz₁)))
  have hk₅ : ∀ c o, c ≠ z → c ≠ TO → c ≠ i1 → c ≠ i2 → s.heap.get? c = some o → h₅.get? c = some o := fun c o c1 c2 c3 c4 e =>
    hs₅.extBut _ _ c2 (hs₄.extBut _ _ c4 (hs₃.extBut _ _ c2 (hs₂.extBut _ _ c3 (hs₁.extBut _ _ c1 e))))
  have h1₅ : h₅.IsListIter i1 l1 (k1 + 1) := ((h1₂.extBut hs₃.extBut D.TOi1.symm).extBut hs₄.extBut D.i12).extBut hs₅.extBut D.TOi1.symm
  have h2₅ : h₅.IsTupleIter i2 l2 (k2 + 1) := h2₄.extBut hs₅.extBut D.TOi2.symm
  have hzlt : z < h₅.objs.size := Heap.lt_size hz₅
  have hTOlt : TO < h₅.objs.size := Heap.lt_size hTO₅
  have hi1lt : i1 < h₅.objs.size := by obtain ⟨_, e, _⟩ := h1₅; exact Heap.lt_size e
  have hi2lt : i2 < h₅.objs.size := by obtain ⟨_, e, _⟩ := h2₅; exact Heap.lt_size e
  show wpAny _ _ (Builtin.SmallTypes.ownedTupleHandOut (.ref z) (.ref h₅.objs.size) >>= _) _ _ _
  refine wpAny_bind ?_
  unfold Builtin.SmallTypes.ownedTupleHandOut
  have hz₆ : IsZip (h₅.push { cls := .type "tuple", data := .seq #[x, y] }) z TI TO .ellipsis := Heap.get?_push_of_some _ hz₅
  refine wpAny_bind (wpAny_setField_rec hz₆ (by simp) fun h₇ hz₇ hs₇ => ?_)
  replace hz₇ : IsZip h₇ z TI TO (rawInt h₅.objs.size) := hz₇
  refine wpAny_setField_rec hz₇ (by simp) fun h₈ hz₈ hs₈ => ?_
  replace hz₈ : IsZip h₈ z TI TO (rawInt h₅.objs.size) := hz₈
  have up : ∀ c o, c ≠ z → h₅.get? c = some o → h₈.get? c = some o := fun c o c1 e => hs₈.extBut _ _ c1 (hs₇.extBut _ _ c1 (Heap.get?_push_of_some _ e))
  have hT₈ : IsPair h₈ h₅.objs.size x y := hs₈.extBut _ _ (Nat.ne_of_gt hzlt) (hs₇.extBut _ _ (Nat.ne_of_gt hzlt) (Heap.get?_push_size _ rfl))
  have hz8 : h₈.objs.size = h₅.objs.size + 1 := by rw [hs₈.1, hs₇.1, Heap.size_push]
  rw [hsz] at hz₈ hT₈ hz8
  refine wpAny_pure ⟨_, rfl, ?_⟩
  show Q (.ref h₅.objs.size) _
  rw [hsz]
  exact hQ h₈ hz₈ (up _ _ D.TOz hTO₅) (h1₅.at fun o e => up _ o D.i1z e) (h2₅.at fun o e => up _ o D.i2z e) hT₈ hz8 fun c o c1 c2 c3 c4 e => up c o c1 (hk₅ c o c1 c2 c3 c4 e)
theorem m_zip_next_end {z TI TO i1 i2 l1 l2 : Addr} {k1 k2 : Nat} {xs ys : Array Value} {a b : Value} {Q : Fin → Shared → Prop} (hh : A.handled = none) (D : ZipApart z TI TO i1 i2 l1 l2)
    (hz : IsZip s.heap z TI TO .none) (hTI : IsPair s.heap TI (.ref i1) (.ref i2)) (hTO : IsPair s.heap TO a b)
    (h1 : s.heap.IsListIter i1 l1 k1) (h2 : s.heap.IsTupleIter i2 l2 k2) (hl1 : s.heap.IsList l1 xs) (hl2 : s.heap.IsTuple l2 ys) (hend : xs[k1]? = none ∨ ys[k2]? = none)
    (hE : ∀ h' e, (∀ c o, c ≠ z → c ≠ TO → c ≠ i1 → c ≠ i2 → s.heap.get? c = some o → h'.get? c = some o) → (∃ o, h'.get? e = some o ∧ o.cls = .type "StopIteration") → E (.ref e) { s with heap := h' }) :
    wpAny (model prog w) A (Builtin.«zip.__next__» ⟨[.ref z], []⟩) Q E s := by
  show wpAny _ _ (field (.ref z) 2 >>= _) _ _ _
  refine wpAny_bind (wpAny_field hz rfl (x := .bool false) rfl ?_)
  show wpAny _ _ (field (.ref z) 3 >>= _) _ _ _
  refine wpAny_bind (wpAny_field hz rfl (x := .ref TI) rfl ?_)
  refine wpAny_bind (wpAny_seqItems hTI rfl ?_)
  show wpAny _ _ (Builtin.SmallTypes.ownedTupleIsFree (.ref z) >>= _) _ _ _
  refine wpAny_bind ?_
  unfold Builtin.SmallTypes.ownedTupleIsFree
  refine wpAny_bind (wpAny_field hz rfl (x := .none) rfl (wpAny_pure ?_))
  simp only [if_true]
  refine wpAny_bind (wpAny_rule ?_)
  refine wpAny_bind (wpAny_field hz rfl (x := .ref TO) rfl ?_)
  refine wpAny_bind (wpAny_setField_rec hz (by simp) fun h₁ hz₁ hs₁ => ?_)
  replace hz₁ : IsZip h₁ z TI TO .ellipsis := hz₁
  refine wpAny_bind ?_
  simp only [List.zipIdx_cons, List.zipIdx_nil, List.forIn_cons, List.forIn_nil]
  refine wpAny_bind (wpAny_bind (wpAny_onRaise ?_))
  show wpAny _ _ (Builtin.SmallTypes.nextOf (.ref i1) >>= _) _ _ _
  cases hx : xs[k1]? with
  | none =>
    refine wpAny_bind (wpAny_nextOf_list_end hh (h1.extBut hs₁.extBut D.i1z) (hl1.extBut hs₁.extBut D.l1z) hx fun h₂ e hs₂ he => ?_)
    obtain ⟨oe, hoe, hce⟩ := he
    have hz₂ : IsZip h₂ z TI TO .ellipsis := hs₂ _ _ D.i1z.symm hz₁
    have hez : e ≠ z := fun x => by subst x; rw [hz₂] at hoe; cases hoe; simp at hce
    refine wpAny_setField_rec hz₂ (by simp) fun h₃ _ hs₃ => hE h₃ e (fun c o c1 _ c3 _ x => hs₃.extBut _ _ c1 (hs₂ _ _ c3 (hs₁.extBut _ _ c1 x))) ⟨oe, hs₃.extBut _ _ hez hoe, hce⟩
  | some x =>
    have hy : ys[k2]? = none := by rcases hend with h | h; rw [hx] at h; cases h; exact h
    refine wpAny_bind (wpAny_nextOf_list_item (h1.extBut hs₁.extBut D.i1z) (hl1.extBut hs₁.extBut D.l1z) hx fun h₂ h1₂ hs₂ => wpAny_pure ?_)
    have hTO₂ : IsPair h₂ TO a b := hs₂.extBut _ _ D.TOi1 (hs₁.extBut _ _ D.TOz hTO)
    refine wpAny_bind (wpAny_seqItems hTO₂ rfl ?_)
    refine wpAny_bind (wpAny_updateSeq_pair hTO₂ fun h₃ hTO₃ hs₃ => ?_)
    refine wpAny_bind (wpAny_letGo (wpAny_pure ?_))
    refine wpAny_bind (wpAny_bind (wpAny_onRaise ?_))
    show wpAny _ _ (Builtin.SmallTypes.nextOf (.ref i2) >>= _) _ _ _
    refine wpAny_bind (RZ.nextOf_tuple_end hh (((h2.extBut hs₁.extBut D.i2z).extBut hs₂.extBut D.i12.symm).extBut hs₃.extBut D.TOi2.symm)
      (((hl2.extBut hs₁.extBut D.l2z).extBut hs₂.extBut D.l2i1).extBut hs₃.extBut D.l2TO) hy fun h₄ e hs₄ he => ?_)
    obtain ⟨oe, hoe, hce⟩ := he
    have hz₄ : IsZip h₄ z TI TO .ellipsis := hs₄ _ _ D.i2z.symm (hs₃.extBut _ _ D.TOz.symm (hs₂.extBut _ _ D.i1z.symm hz₁))
    have hez : e ≠ z := fun x => by subst x; rw [hz₄] at hoe; cases hoe; simp at hce
    refine wpAny_setField_rec hz₄ (by simp) fun h₅ _ hs₅ => hE h₅ e (fun c o c1 c2 c3 c4 x => hs₅.extBut _ _ c1 (hs₄ _ _ c4 (hs₃.extBut _ _ c2 (hs₂.extBut _ _ c3 (hs₁.extBut _ _ c1 x))))) ⟨oe, hs₅.extBut _ _ hez hoe, hce⟩
theorem m_wpAny_pyNext_zip_item {z TI TO i1 i2 l1 l2 : Addr} {k1 k2 : Nat} {xs ys : Array Value} {x y a b : Value} {Q : Option Value → Shared → Prop} (D : ZipApart z TI TO i1 i2 l1 l2)
    (hz : IsZip s.heap z TI TO .none) (hTI : IsPair s.heap TI (.ref i1) (.ref i2)) (hTO : IsPair s.heap TO a b)
    (h1 : s.heap.IsListIter i1 l1 k1) (h2 : s.heap.IsTupleIter i2 l2 k2) (hl1 : s.heap.IsList l1 xs) (hl2 : s.heap.IsTuple l2 ys) (hx : xs[k1]? = some x) (hy : ys[k2]? = some y)
    (hQ : ∀ h', IsZip h' z TI TO (rawInt s.heap.objs.size) → IsPair h' TO x y → h'.IsListIter i1 l1 (k1 + 1) → h'.IsTupleIter i2 l2 (k2 + 1) → IsPair h' s.heap.objs.size x y → h'.objs.size = s.heap.objs.size + 1 →
      (∀ c o, c ≠ z → c ≠ TO → c ≠ i1 → c ≠ i2 → s.heap.get? c = some o → h'.get? c = some o) → Q (some (.ref s.heap.objs.size)) { s with heap := h' }) :
    wpAny (model prog w) A (pyNext (.ref z)) Q E s := by
  have hT : s.TypeIs (.ref z) "zip" := ⟨_, hz, rfl⟩
  unfold pyNext
  exact wpAny_bind (wpAny_attempt (wpAny_callSpecial?_slot (name := Str.ofString "__next__") hT F.slot_zip_next
    (wpAny_call_entry F.slot_zip_next hT F.entry_zip_next
      (m_zip_next_item D hz hTI hTO h1 h2 hl1 hl2 hx hy fun h' a1 a2 a3 a4 a5 a6 a7 => wpAny_pure (hQ h' a1 a2 a3 a4 a5 a6 a7)) (F.args_zip_next_1 _))))
theorem m_wpAny_pyNext_zip_end {z TI TO i1 i2 l1 l2 : Addr} {k1 k2 : Nat} {xs ys : Array Value} {a b : Value} {Q : Option Value → Shared → Prop} (hh : A.handled = none) (D : ZipApart z TI TO i1 i2 l1 l2)
    (hz : IsZip s.heap z TI TO .none) (hTI : IsPair s.heap TI (.ref i1) (.ref i2)) (hTO : IsPair s.heap TO a b)
    (h1 : s.heap.IsListIter i1 l1 k1) (h2 : s.heap.IsTupleIter i2 l2 k2) (hl1 : s.heap.IsList l1 xs) (hl2 : s.heap.IsTuple l2 ys) (hend : xs[k1]? = none ∨ ys[k2]? = none)
    (hQ : ∀ h', (∀ c o, c ≠ z → c ≠ TO → c ≠ i1 → c ≠ i2 → s.heap.get? c = some o → h'.get? c = some o) → Q none { s with heap := h' }) : wpAny (model prog w) A (pyNext (.ref z)) Q E s := by
  have hT : s.TypeIs (.ref z) "zip" := ⟨_, hz, rfl⟩
  unfold pyNext
  refine wpAny_bind (wpAny_attempt (wpAny_callSpecial?_slot (name := Str.ofString "__next__") hT F.slot_zip_next
    (wpAny_call_entry F.slot_zip_next hT F.entry_zip_next (m_zip_next_end hh D hz hTI hTO h1 h2 hl1 hl2 hend fun h' e hk he => ?_) (F.args_zip_next_1 _))))
  obtain ⟨o, ho, hc⟩ := he
  refine wpAny_bind (wpAny_isInstance (T := "StopIteration") (b := true) ⟨o, ho, hc⟩ isSubtype_stop ?_)
  exact wpAny_pure (hQ _ hk)
theorem m_zip_next_item_held {z TI TO T i1 i2 l1 l2 : Addr} {f : Bool} {oT : Obj} {k1 k2 : Nat} {xs ys : Array Value} {x y : Value} {Q : Value → Shared → Prop} (D : ZipApart z TI TO i1 i2 l1 l2)
    (hz : IsZipHeld s.heap z TI TO T f) (hT : s.heap.get? T = some oT) (hTI : IsPair s.heap TI (.ref i1) (.ref i2))
    (h1 : s.heap.IsListIter i1 l1 k1) (h2 : s.heap.IsTupleIter i2 l2 k2) (hl1 : s.heap.IsList l1 xs) (hl2 : s.heap.IsTuple l2 ys) (hx : xs[k1]? = some x) (hy : ys[k2]? = some y)
    (hQ : ∀ h', IsZipHeld h' z TI TO T true → h'.IsListIter i1 l1 (k1 + 1) → h'.IsTupleIter i2 l2 (k2 + 1) → IsPair h' s.heap.objs.size x y → h'.objs.size = s.heap.objs.size + 1 →
      (∀ c o, c ≠ z → c ≠ i1 → c ≠ i2 → s.heap.get? c = some o → h'.get? c = some o) → Q (.ref s.heap.objs.size) { s with heap := h' }) :
    wpAny (model prog w) A (Builtin.«zip.__next__» ⟨[.ref z], []⟩) (fun fin s' => ∃ v, fin = .done (.ret v) ∧ Q v s') E s := by
  show wpAny _ _ (field (.ref z) 2 >>= _) _ _ _
  refine wpAny_bind (wpAny_field hz rfl (x := .bool false) rfl ?_)
  show wpAny _ _ (field (.ref z) 3 >>= _) _ _ _
  refine wpAny_bind (wpAny_field hz rfl (x := .ref TI) rfl ?_)
  refine wpAny_bind (wpAny_seqItems hTI rfl ?_)
  show wpAny _ _ (Builtin.SmallTypes.ownedTupleIsFree (.ref z) >>= _) _ _ _
  refine wpAny_bind (wpAny_tupleHeld_zip hz hT fun h₁ hz₁ hs₁ => ?_)
  simp only [Bool.false_eq_true, if_false]
  refine wpAny_bind ?_
  rw [← Array.forIn_toList]
  simp only [List.forIn_cons, List.forIn_nil]
  refine wpAny_bind (wpAny_bind (wpAny_holding ?_))
  show wpAny _ _ (Builtin.SmallTypes.nextOf (.ref i1) >>= _) _ _ _
  refine wpAny_bind (wpAny_nextOf_list_item (s := { s with heap := h₁ }) (h1.extBut hs₁.extBut D.i1z) (hl1.extBut hs₁.extBut D.l1z) hx fun h₂ h1₂ hs₂ => wpAny_pure ?_)
  refine wpAny_pure ?_
  refine wpAny_bind (wpAny_bind (wpAny_holding ?_))
  show wpAny _ _ (Builtin.SmallTypes.nextOf (.ref i2) >>= _) _ _ _
  refine wpAny_bind (RZ.nextOf_tuple_item (s := { s with heap := h₂ }) ((h2.extBut hs₁.extBut D.i2z).extBut hs₂.extBut D.i12.symm) ((hl2.extBut hs₁.extBut D.l2z).extBut hs₂.extBut D.l2i1) hy fun h₃ h2₃ hs₃ => wpAny_pure ?_)
  refine wpAny_pure (wpAny_pure ?_)
  show wpAny _ _ (newTuple [x, y] >>= _) _ _ _
  refine wpAny_bind (wpAny_newTuple ?_)
  have hsz : h₃.objs.size = s.heap.objs.size := by rw [hs₃.1, hs₂.1, hs₁.1]
  have hz₃ : IsZipHeld h₃ z TI TO T true := hs₃.extBut _ _ D.i2z.symm (hs₂.extBut _ _ D.i1z.symm hz₁)
  have hk : ∀ c o, c ≠ z → c ≠ i1 → c ≠ i2 → s.heap.get? c = some o → h₃.get? c = some o := fun c o c1 c2 c3 e => hs₃.extBut _ _ c3 (hs₂.extBut _ _ c2 (hs₁.extBut _ _ c1 e))
  have h1₃ : h₃.IsListIter i1 l1 (k1 + 1) := h1₂.extBut hs₃.extBut D.i12
  refine wpAny_pure ⟨_, rfl, ?_⟩
  show Q (.ref h₃.objs.size) _
  have hp : IsPair (h₃.push { cls := .type "tuple", data := .seq #[x, y] }) h₃.objs.size x y := Heap.get?_push_size _ rfl
  have hz4 : (h₃.push { cls := .type "tuple", data := .seq #[x, y] }).objs.size = h₃.objs.size + 1 := Heap.size_push ..
  rw [hsz] at hp hz4 ⊢
  exact hQ _ (Heap.get?_push_of_some _ hz₃) (h1₃.at fun o e => Heap.get?_push_of_some _ e) (h2₃.at fun o e => Heap.get?_push_of_some _ e) hp hz4 fun c o c1 c2 c3 e => Heap.get?_push_of_some _ (hk c o c1 c2 c3 e)
theorem m_zip_next_end_held {z TI TO T i1 i2 l1 l2 : Addr} {f : Bool} {oT : Obj} {k1 k2 : Nat} {xs ys : Array Value} {Q : Fin → Shared → Prop} (hh : A.handled = none) (D : ZipApart z TI TO i1 i2 l1 l2)
    (hz : IsZipHeld s.heap z TI TO T f) (hT : s.heap.get? T = some oT) (hTI : IsPair s.heap TI (.ref i1) (.ref i2))
    (h1 : s.heap.IsListIter i1 l1 k1) (h2 : s.heap.IsTupleIter i2 l2 k2) (hl1 : s.heap.IsList l1 xs) (hl2 : s.heap.IsTuple l2 ys) (hend : xs[k1]? = none ∨ ys[k2]? = none)
    (hE : ∀ h' e, (∀ c o, c ≠ z → c ≠ i1 → c ≠ i2 → s.heap.get? c = some o → h'.get? c = some o) → (∃ o, h'.get? e = some o ∧ o.cls = .type "StopIteration") → E (.ref e) { s with heap := h' }) :
    wpAny (model prog w) A (Builtin.«zip.__next__» ⟨[.ref z], []⟩) Q E s := by
  show wpAny _ _ (field (.ref z) 2 >>= _) _ _ _
  refine wpAny_bind (wpAny_field hz rfl (x := .bool false) rfl ?_)
  show wpAny _ _ (field (.ref z) 3 >>= _) _ _ _
  refine wpAny_bind (wpAny_field hz rfl (x := .ref TI) rfl ?_)
  refine wpAny_bind (wpAny_seqItems hTI rfl ?_)
  show wpAny _ _ (Builtin.SmallTypes.ownedTupleIsFree (.ref z) >>= _) _ _ _
  refine wpAny_bind (wpAny_tupleHeld_zip hz hT fun h₁ hz₁ hs₁ => ?_)
  simp only [Bool.false_eq_true, if_false]
  refine wpAny_bind ?_
  rw [← Array.forIn_toList]
  simp only [List.forIn_cons, List.forIn_nil]
  refine wpAny_bind (wpAny_bind (wpAny_holding ?_))
  show wpAny _ _ (Builtin.SmallTypes.nextOf (.ref i1) >>= _) _ _ _
  cases hx : xs[k1]? with
  | none =>
    refine wpAny_bind (wpAny_nextOf_list_end (s := { s with heap := h₁ }) hh (h1.extBut hs₁.extBut D.i1z) (hl1.extBut hs₁.extBut D.l1z) hx fun h₂ e hs₂ he => ?_)
    exact hE h₂ e (fun c o c1 c2 _ x => hs₂ _ _ c2 (hs₁.extBut _ _ c1 x)) he
  | some x =>
    have hy : ys[k2]? = none := by rcases hend with h | h; rw [hx] at h; cases h; exact h
    refine wpAny_bind (wpAny_nextOf_list_item (s := { s with heap := h₁ }) (h1.extBut hs₁.extBut D.i1z) (hl1.extBut hs₁.extBut D.l1z) hx fun h₂ h1₂ hs₂ => wpAny_pure ?_)
    refine wpAny_pure ?_
    refine wpAny_bind (wpAny_bind (wpAny_holding ?_))
    show wpAny _ _ (Builtin.SmallTypes.nextOf (.ref i2) >>= _) _ _ _
    refine wpAny_bind (RZ.nextOf_tuple_end (s := { s with heap := h₂ }) hh ((h2.extBut hs₁.extBut D.i2z).extBut hs₂.extBut D.i12.symm) ((hl2.extBut hs₁.extBut D.l2z).extBut hs₂.extBut D.l2i1) hy fun h₃ e hs₃ he => ?_)
    exact hE h₃ e (fun c o c1 c2 c3 x => hs₃ _ _ c3 (hs₂.extBut _ _ c2 (hs₁.extBut _ _ c1 x))) he
theorem m_wpAny_pyNext_zip_item_held {z TI TO T i1 i2 l1 l2 : Addr} {f : Bool} {oT : Obj} {k1 k2 : Nat} {xs ys : Array Value} {x y : Value} {Q : Option Value → Shared → Prop} (D : ZipApart z TI TO i1 i2 l1 l2)
    (hz : IsZipHeld s.heap z TI TO T f) (hT : s.heap.get? T = some oT) (hTI : IsPair s.heap TI (.ref i1) (.ref i2))
    (h1 : s.heap.IsListIter i1 l1 k1) (h2 : s.heap.IsTupleIter i2 l2 k2) (hl1 : s.heap.IsList l1 xs) (hl2 : s.heap.IsTuple l2 ys) (hx : xs[k1]? = some x) (hy : ys[k2]? = some y)
    (hQ : ∀ h', IsZipHeld h' z TI TO T true → h'.IsListIter i1 l1 (k1 + 1) → h'.IsTupleIter i2 l2 (k2 + 1) → IsPair h' s.heap.objs.size x y → h'.objs.size = s.heap.objs.size + 1 →
      (∀ c o, c ≠ z → c ≠ i1 → c ≠ i2 → s.heap.get? c = some o → h'.get? c = some o) → Q (some (.ref s.heap.objs.size)) { s with heap := h' }) :
    wpAny (model prog w) A (pyNext (.ref z)) Q E s := by
  have hTy : s.TypeIs (.ref z) "zip" := ⟨_, hz, rfl⟩
  unfold pyNext
  exact wpAny_bind (wpAny_attempt (wpAny_callSpecial?_slot (name := Str.ofString "__next__") hTy F.slot_zip_next
    (wpAny_call_entry F.slot_zip_next hTy F.entry_zip_next
      (m_zip_next_item_held D hz hT hTI h1 h2 hl1 hl2 hx hy fun h' a1 a3 a4 a5 a6 a7 => wpAny_pure (hQ h' a1 a3 a4 a5 a6 a7)) (F.args_zip_next_1 _))))
theorem m_wpAny_pyNext_zip_end_held {z TI TO T i1 i2 l1 l2 : Addr} {f : Bool} {oT : Obj} {k1 k2 : Nat} {xs ys : Array Value} {Q : Option Value → Shared → Prop} (hh : A.handled = none) (D : ZipApart z TI TO i1 i2 l1 l2)
    (hz : IsZipHeld s.heap z TI TO T f) (hT : s.heap.get? T = some oT) (hTI : IsPair s.heap TI (.ref i1) (.ref i2))
    (h1 : s.heap.IsListIter i1 l1 k1) (h2 : s.heap.IsTupleIter i2 l2 k2) (hl1 : s.heap.IsList l1 xs) (hl2 : s.heap.IsTuple l2 ys) (hend : xs[k1]? = none ∨ ys[k2]? = none)
    (hQ : ∀ h', (∀ c o, c ≠ z → c ≠ i1 → c ≠ i2 → s.heap.get? c = some o → h'.get? c = some o) → Q none { s with heap := h' }) : wpAny (model prog w) A (pyNext (.ref z)) Q E s := by
  have hTy : s.TypeIs (.ref z) "zip" := ⟨_, hz, rfl⟩
  unfold pyNext
  refine wpAny_bind (wpAny_attempt (wpAny_callSpecial?_slot (name := Str.ofString "__next__") hTy F.slot_zip_next
    (wpAny_call_entry F.slot_zip_next hTy F.entry_zip_next (m_zip_next_end_held hh D hz hT hTI h1 h2 hl1 hl2 hend fun h' e hk he => ?_) (F.args_zip_next_1 _))))
  obtain ⟨o, ho, hc⟩ := he
  refine wpAny_bind (wpAny_isInstance (T := "StopIteration") (b := true) ⟨o, ho, hc⟩ isSubtype_stop ?_)
  exact wpAny_pure (hQ _ hk)
end
abbrev mzipH1 (h : Heap) (l1 : Addr) : Heap := h.push { cls := .type "list_iterator", data := .fields #[.ref l1, .int 0 0] }
abbrev mzipH2 (h : Heap) (l1 l2 : Addr) : Heap := (mzipH1 h l1).push { cls := .type "tuple_iterator", data := .fields #[.ref l2, .int 0 0] }
abbrev mzipH3 (h : Heap) (l1 l2 : Addr) : Heap := (mzipH2 h l1 l2).push { cls := .type "tuple", data := .seq #[.ref h.objs.size, .ref (mzipH1 h l1).objs.size] }
abbrev mzipH4 (h : Heap) (l1 l2 : Addr) : Heap := (mzipH3 h l1 l2).push { cls := .type "tuple", data := .seq #[.none, .none] }
abbrev mzipH5 (h : Heap) (l1 l2 : Addr) : Heap := (mzipH4 h l1 l2).push { cls := .type "zip", data := .fields #[.none, .bool false, .bool false, .ref (mzipH2 h l1 l2).objs.size, .ref (mzipH3 h l1 l2).objs.size] }
theorem m_meets_zip_new (l1 l2 : Addr) (xs ys : Array Value) :
    Meets (Builtin.«zip.__new__» ⟨[.type "zip", .ref l1, .ref l2], []⟩) (fun _ R s => s.heap.IsList l1 xs ∧ s.heap.IsTuple l2 ys ∧
      R (.ok (.ret (.ref (mzipH4 s.heap l1 l2).objs.size))) { s with heap := mzipH5 s.heap l1 l2 }) :=
  .of_wp fun prog w A R s h => by
    obtain ⟨hp, g, d, tk, os⟩ := s; obtain ⟨hl1, hl2, h⟩ := h
    have hsub := sub_zip
    have hL1 : Heap.IsList (Shared.heap ⟨hp, g, d, tk, os⟩) l1 xs := hl1
    have hL2 : Heap.IsTuple (Shared.heap ⟨hp.push { cls := .type "list_iterator", data := .fields #[.ref l1, .int 0 0] }, g, d, tk, os⟩) l2 ys := Heap.IsTuple.push hl2 _
    wp_walk using wpAny_pyIter_list hL1, wpAny_pyIter_tuple hL2
    exact ⟨_, rfl, h⟩
section
variable {prog : Program} {w : World} {A : Around} {E : Value → Shared → Prop} {s : Shared}
theorem m_call_zip_2 {l1 l2 : Addr} {xs ys : Array Value} {Q : Value → Shared → Prop} (hl1 : s.heap.IsList l1 xs) (hl2 : s.heap.IsTuple l2 ys)
    (h : ∀ h', IsZip h' (s.heap.objs.size + 4) (s.heap.objs.size + 2) (s.heap.objs.size + 3) .none → IsPair h' (s.heap.objs.size + 2) (.ref s.heap.objs.size) (.ref (s.heap.objs.size + 1)) →
      IsPair h' (s.heap.objs.size + 3) .none .none → h'.IsListIter s.heap.objs.size l1 0 → h'.IsTupleIter (s.heap.objs.size + 1) l2 0 → h'.objs.size = s.heap.objs.size + 5 →
      (∀ c o, s.heap.get? c = some o → h'.get? c = some o) → Q (.ref (s.heap.objs.size + 4)) { s with heap := h' }) :
    wpAny (model prog w) A (call (.type "zip") [.ref l1, .ref l2]) Q E s := by
  refine callType_new F.called_zip (by decide) (F.typeCall_zip_2 _ _) (F.newCall_zip_2 _ _) (fun obj => F.args_object_init_3 obj _ _) F.entry_zip_new
    (m_meets_zip_new l1 l2 xs ys) ⟨hl1, hl2, ?_⟩
  have z1 : (mzipH1 s.heap l1).objs.size = s.heap.objs.size + 1 := Heap.size_push ..
  have z2 : (mzipH2 s.heap l1 l2).objs.size = s.heap.objs.size + 2 := by rw [Heap.size_push, z1]
  have z3 : (mzipH3 s.heap l1 l2).objs.size = s.heap.objs.size + 3 := by rw [Heap.size_push, z2]
  have z4 : (mzipH4 s.heap l1 l2).objs.size = s.heap.objs.size + 4 := by rw [Heap.size_push, z3]
  have z5 : (mzipH5 s.heap l1 l2).objs.size = s.heap.objs.size + 5 := by rw [Heap.size_push, z4]
  have g5 : (mzipH5 s.heap l1 l2).get? (mzipH4 s.heap l1 l2).objs.size = some _ := Heap.get?_push_size _ rfl
  have g4 : (mzipH5 s.heap l1 l2).get? (mzipH3 s.heap l1 l2).objs.size = some _ := Heap.get?_push_of_some _ (Heap.get?_push_size _ rfl)
  have g3 : (mzipH5 s.heap l1 l2).get? (mzipH2 s.heap l1 l2).objs.size = some _ := Heap.get?_push_of_some _ (Heap.get?_push_of_some _ (Heap.get?_push_size _ rfl))
  have g2 : (mzipH5 s.heap l1 l2).get? (mzipH1 s.heap l1).objs.size = some _ := Heap.get?_push_of_some _ (Heap.get?_push_of_some _ (Heap.get?_push_of_some _ (Heap.get?_push_size _ rfl)))
  have g1 : (mzipH5 s.heap l1 l2).get? s.heap.objs.size = some _ := Heap.get?_push_of_some _ (Heap.get?_push_of_some _ (Heap.get?_push_of_some _ (Heap.get?_push_of_some _ (Heap.get?_push_size _ rfl))))
  show _ ∧ _
  rw [z2, z3, z4] at g5
  rw [z1, z2] at g3
  rw [z3] at g4
  rw [z1] at g2
  rw [z4]
  exact ⟨⟨_, g5, rfl⟩, h _ g5 g3 g4 ⟨_, g1, rfl, rfl⟩ ⟨_, g2, rfl, rfl⟩ z5 fun c o x =>
    Heap.get?_push_of_some _ (Heap.get?_push_of_some _ (Heap.get?_push_of_some _ (Heap.get?_push_of_some _ (Heap.get?_push_of_some _ x))))⟩
end
section
variable {prog : Program} {w : World}
theorem pairArg_zip (z TI TO i1 i2 l1 l2 : Addr) (D : ZipApart z TI TO i1 i2 l1 l2) (xs ys : Array Value) :
    PairArg prog w "zip" z [z, TI, TO, i1, i2, l1, l2] [z, TO, i1, i2] (min xs.size ys.size) (fun i k v => xs[i]? = some k ∧ ys[i]? = some v)
      (fun h => IsZip h z TI TO .none ∧ IsPair h TI (.ref i1) (.ref i2) ∧ (∃ a b, IsPair h TO a b) ∧ h.IsListIter i1 l1 0 ∧ h.IsTupleIter i2 l2 0 ∧ h.IsList l1 xs ∧ h.IsTuple l2 ys) where
  type := fun s ok => ⟨_, ok.1, rfl⟩
  notDict := by decide
  keep := fun h h' ok hk => by
    obtain ⟨hz, hTI, ⟨a, b, hTO⟩, h1, h2, hl1, hl2⟩ := ok
    exact ⟨hk _ _ hz, hk _ _ hTI, ⟨a, b, hk _ _ hTO⟩, h1.at fun o e => hk _ o e, h2.at fun o e => hk _ o e, hl1.at fun o e => hk _ o e, hl2.at fun o e => hk _ o e⟩
  there := fun h ok b hb => by
    obtain ⟨hz, hTI, ⟨a, c, hTO⟩, ⟨o1, h1, _⟩, ⟨o2, h2, _⟩, ⟨o3, hl1, _⟩, ⟨o4, hl2, _⟩⟩ := ok
    simp only [List.mem_cons, List.not_mem_nil, or_false] at hb
    rcases hb with rfl | rfl | rfl | rfl | rfl | rfl | rfl
    all_goals first | exact ⟨_, hz⟩ | exact ⟨_, hTI⟩ | exact ⟨_, hTO⟩ | exact ⟨_, h1⟩ | exact ⟨_, h2⟩ | exact ⟨_, hl1⟩ | exact ⟨_, hl2⟩
  sub := fun b hb => by simp at hb ⊢; rcases hb with rfl | rfl | rfl | rfl <;> simp
  noKeys := fun A s Q E hA ok h => getAttrOr_miss_zip ok.1 rfl rfl rfl zip_no_keys (by decide +kernel) hA h
  iter := fun A s d Q E hA ok hd hdf h => by
    obtain ⟨hz, hTI, ⟨a, b, hTO⟩, h1, h2, hl1, hl2⟩ := ok
    simp only [List.mem_cons, List.not_mem_nil, or_false, not_or] at hdf
    obtain ⟨dz, dTI, dTO, di1, di2, dl1, dl2⟩ := hdf
    refine wpAny_pyIter_zip hz (h z [z, TO, i1, i2] (fun i h => IsPair h TI (.ref i1) (.ref i2) ∧ h.IsListIter i1 l1 i ∧ h.IsTupleIter i2 l2 i ∧ h.IsList l1 xs ∧ h.IsTuple l2 ys ∧
      ((IsZip h z TI TO .none ∧ ∃ a b, IsPair h TO a b) ∨ ∃ T f oT, IsZipHeld h z TI TO T f ∧ h.get? T = some oT ∧ T ≠ z ∧ T ≠ i1 ∧ T ≠ i2 ∧ T ≠ d)) s.heap s.toks ?_
      ⟨hTI, h1, h2, hl1, hl2, .inl ⟨hz, a, b, hTO⟩⟩ (fun _ _ e => e) fun b hb => .inl hb)
    exact {
      off := fun hm => by
        simp only [List.mem_cons, List.not_mem_nil, or_false] at hm
        rcases hm with e | e | e | e
        · exact dz e
        · exact dTO e
        · exact di1 e
        · exact di2 e
      frame := fun i h₁ h₂ st hk => by
        obtain ⟨hTI, h1, h2, hl1, hl2, hz⟩ := st
        refine ⟨hk _ _ (Ne.symm dTI) hTI, h1.at fun o e => hk _ o (Ne.symm di1) e, h2.at fun o e => hk _ o (Ne.symm di2) e, hl1.at fun o e => hk _ o (Ne.symm dl1) e, hl2.at fun o e => hk _ o (Ne.symm dl2) e, ?_⟩
        rcases hz with ⟨hz, a, b, hTO⟩ | ⟨T, f, oT, hz, hT, r1, r2, r3, r4⟩
        · exact .inl ⟨hk _ _ (Ne.symm dz) hz, a, b, hk _ _ (Ne.symm dTO) hTO⟩
        · exact .inr ⟨T, f, oT, hk _ _ (Ne.symm dz) hz, hk _ _ r4 hT, r1, r2, r3, r4⟩
      item := fun i s₁ Q₁ E₁ hi st hds hQ => by
        obtain ⟨hTI, h1, h2, hl1, hl2, hz⟩ := st
        have hix : i < xs.size := Nat.lt_of_lt_of_le hi (Nat.min_le_left ..)
        have hiy : i < ys.size := Nat.lt_of_lt_of_le hi (Nat.min_le_right ..)
        have ex := Array.getElem?_eq_getElem hix
        have ey := Array.getElem?_eq_getElem hiy
        have lt : ∀ {c o}, s₁.heap.get? c = some o → s₁.heap.objs.size ≠ c := fun e => Nat.ne_of_gt (Heap.lt_size e)
        have n1 : s₁.heap.objs.size ≠ i1 := let ⟨_, e, _⟩ := h1; lt e
        have n2 : s₁.heap.objs.size ≠ i2 := let ⟨_, e, _⟩ := h2; lt e
        rcases hz with ⟨hz, a, b, hTO⟩ | ⟨T, f, oT, hz, hT, r1, r2, r3, r4⟩
        · refine m_wpAny_pyNext_zip_item D hz hTI hTO h1 h2 hl1 hl2 ex ey fun h' a1 a2 a3 a4 a5 a6 hk => ?_
          exact hQ s₁.heap.objs.size _ _ h' s₁.toks ⟨ex, ey⟩ (.inl ⟨_, a5, rfl, _, rfl⟩)
            ⟨hk _ _ D.TIz D.TITO D.TIi1 D.TIi2 hTI, a3, a4, hl1.at fun o e => hk _ o D.l1z D.l1TO D.l1i1 D.l1i2 e, hl2.at fun o e => hk _ o D.l2z D.l2TO D.l2i1 D.l2i2 e,
              .inr ⟨s₁.heap.objs.size, false, _, a1, a5, lt hz, n1, n2, Nat.ne_of_gt hds⟩⟩
            fun c o hc e => hk c o (fun x => hc (by simp [x])) (fun x => hc (by simp [x])) (fun x => hc (by simp [x])) (fun x => hc (by simp [x])) e
        · refine m_wpAny_pyNext_zip_item_held D hz hT hTI h1 h2 hl1 hl2 ex ey fun h' a1 a3 a4 a5 a6 hk => ?_
          exact hQ s₁.heap.objs.size _ _ h' s₁.toks ⟨ex, ey⟩ (.inl ⟨_, a5, rfl, _, rfl⟩)
            ⟨hk _ _ D.TIz D.TIi1 D.TIi2 hTI, a3, a4, hl1.at fun o e => hk _ o D.l1z D.l1i1 D.l1i2 e, hl2.at fun o e => hk _ o D.l2z D.l2i1 D.l2i2 e,
              .inr ⟨T, true, oT, a1, hk _ _ r1 r2 r3 hT, r1, r2, r3, r4⟩⟩
            fun c o hc e => hk c o (fun x => hc (by simp [x])) (fun x => hc (by simp [x])) (fun x => hc (by simp [x])) e
      done := fun s₁ Q₁ E₁ st hQ => by
        obtain ⟨hTI, h1, h2, hl1, hl2, hz⟩ := st
        have hend : xs[min xs.size ys.size]? = none ∨ ys[min xs.size ys.size]? = none := by
          rcases Nat.le_total xs.size ys.size with h | h
          · exact .inl (Array.getElem?_eq_none (by rw [Nat.min_eq_left h]; exact Nat.le_refl _))
          · exact .inr (Array.getElem?_eq_none (by rw [Nat.min_eq_right h]; exact Nat.le_refl _))
        rcases hz with ⟨hz, a, b, hTO⟩ | ⟨T, f, oT, hz, hT, r1, r2, r3, r4⟩
        · exact m_wpAny_pyNext_zip_end hA D hz hTI hTO h1 h2 hl1 hl2 hend fun h' hk => hQ h' s₁.toks fun c o hc e => hk c o (fun x => hc (by simp [x])) (fun x => hc (by simp [x])) (fun x => hc (by simp [x])) (fun x => hc (by simp [x])) e
        · exact m_wpAny_pyNext_zip_end_held hA D hz hT hTI h1 h2 hl1 hl2 hend fun h' hk => hQ h' s₁.toks fun c o hc e => hk c o (fun x => hc (by simp [x])) (fun x => hc (by simp [x])) (fun x => hc (by simp [x])) e }
end
end ZM
set_option Elab.async false
set_option linter.all false
set_option maxRecDepth 100000
set_option maxHeartbeats 4000000
namespace MP
open PySem PySem.Spec PyProof.Rows L2
/-! ### dict(zip(l, t)), keys nested tuples of ints -/
theorem stored_id {K : Type} [DecidableEq K] : ∀ (ps acc : List (K × Addr × Value)), (ps.map (·.1)).Nodup → (∀ x ∈ ps, x.1 ∉ acc.map (·.1)) → storedAllH acc ps = acc ++ ps
  | [], acc, _, _ => by simp [storedAllH]
  | (k, a, v) :: ps, acc, nd, h => by
    rw [List.map_cons, List.nodup_cons] at nd
    have hk := h (k, a, v) List.mem_cons_self
    have e : storedH acc k a v = acc ++ [(k, a, v)] := by
      unfold storedH
      rw [if_neg]
      intro z
      obtain ⟨p, hp⟩ := Option.isSome_iff_exists.1 z
      obtain ⟨q, hq, _⟩ := Option.map_eq_some_iff.1 hp
      have h1 := List.find?_some hq
      exact hk (List.mem_map.2 ⟨q, List.mem_of_find?_eq_some hq, by simpa using h1⟩)
    show storedAllH (storedH acc k a v) ps = _
    rw [e, stored_id ps (acc ++ [(k, a, v)]) nd.2 fun x hx z => ?_, List.append_assoc]
    · rfl
    · rw [List.map_append, List.mem_append] at z
      rcases z with z | z
      · exact h x (List.mem_cons_of_mem _ hx) z
      · have : x.1 = k := by simpa using z
        exact nd.1 (List.mem_map.2 ⟨x, hx, this⟩)
theorem np_of : ∀ {L : List NE} {us vs : List Value}, Vals (L.map fun q => V.ref q.2.1) us → Vals (L.map (·.2.2)) vs → ∃ ps, NP L ps ∧ us = ps.map (fun x => Value.ref x.2.1) ∧ vs = ps.map (·.2.2)
  | [], _, _, h1, h2 => by
    cases h1
    cases h2
    exact ⟨[], .nil, rfl, rfl⟩
  | (k, a, v) :: L, _, _, h1, h2 => by
    cases h1 with
    | cons r1 t1 =>
      cases h2 with
      | cons r2 t2 =>
        rename_i u us v' vs
        obtain ⟨ps, h3, h4, h5⟩ := np_of t1 t2
        refine ⟨(k, a, v') :: ps, .cons ⟨rfl, rfl, r2⟩ h3, ?_, ?_⟩
        · rw [List.map_cons, ← h4]
          obtain rfl : u = Value.ref a := r1
          rfl
        · rw [List.map_cons, ← h5]
theorem np_keys {L : List NE} {ps : List (NestedKey × Addr × Value)} (h : NP L ps) : ps.map (·.1) = L.map (·.1) := by
  induction h with
  | nil => rfl
  | cons hh t ih => rw [List.map_cons, List.map_cons, ih, hh.1]
section
variable {X : Cx}
def tDZip (K : PySem.W.Frag) (ta : TA) : TE := fun σ H Q => ta σ H fun vs H1 => ∃ a b L, vs = [.ref a, .ref b] ∧ SqL K H1 a (L.map fun q : NE => V.ref q.2.1) ∧ SqT K H1 b (L.map fun q : NE => q.2.2) ∧ NK K H1 L ∧ L.length ≤ sizeLine ∧ (L.map (·.1)).Nodup ∧ ∀ p, H1 p = none → Q (.ref p) (upd H1 p (NdO p L))
theorem pe_dzip {e e2 : Expr} {ta : TA} {p pos p2 pos2 : Pos} (hc : X.calm = true) (hu : X.A.units + 64 < cLine) (hgD : Gl X "dict") (hmD : X.mg "dict" = none) (hg : Gl X "zip") (hm : X.mg "zip" = none) (ha : PA X [e, e2] ta)
    (hs : starEach [e, e2] X.env = (false, eval e X.env) :: starEach [e2] X.env := by rfl) (hpl : (backTo pos2 (starEach [e2] X.env)).any (·.1) = false := by rfl) :
    PE X (.Call (.Name "dict" p) [.Call (.Name "zip" p2) [e, e2] [] pos2] [] pos) (tDZip X.K ta) := by
  refine ⟨fun pins s σ H Q I h => ?_⟩
  refine wpAny_Call_Name_kw (ld_blt I hgD hmD PyProof.Rows.boot_dict ?_ (by decide) (by decide))
  refine PyProof.Rows.callWith_type1 ?_ rfl rfl
  show wpAny _ _ (spliced ((false, eval (.Call (.Name "zip" p2) [e, e2] [] pos2) X.env) :: backTo pos (starEach [] X.env))) _ _ s
  refine Calls.spliced_cons ?_
  refine wpAny_Call_Name_kw (ld_blt I hg hm PyProof.Rows.boot_zip (PyProof.Rows.callWith_type1 (thn (ha.run pos2 pins s σ H _ I h) fun us s1 ⟨vs, H1, I1, r1, q1⟩ => ?_) hs hpl) (by decide) (by decide))
  obtain ⟨a, b, L, ex, ha1, hb1, nk, hl, nd, q⟩ := q1
  subst ex
  cases r1 with
  | cons r rr =>
    cases rr with
    | cons r' rr =>
      cases rr
      cases r
      cases r'
      obtain ⟨its, rv, pl, hz1⟩ := I1.list ha1
      obtain ⟨its2, rv2, pt, hz2⟩ := I1.tuple hb1
      obtain ⟨o2, ho2, _⟩ := id pt
      obtain ⟨ps, np, hi1, hi2⟩ := np_of rv rv2
      refine ZM.m_call_zip_2 pl.isList (show s1.heap.IsTuple b its2.toArray from pt) fun h' hz hTI hTO h1 h2 hsz hk => Calls.spliced_nil ?_
      have lenps : L.length = ps.length := np.length
      have e1 : its.length = ps.length := by rw [hi1, List.length_map]
      have e2 : its2.length = ps.length := by rw [hi2, List.length_map]
      have hroom : (nestedKind X.prog X.w).room X.A.in1.in1 := by
        show X.A.in1.in1.units + 8 < cLine
        have : X.A.in1.in1.units ≤ X.A.units + 2 := by simp [Around.in1, Around.units]
        omega
      have new : ∀ c, c ∈ [s1.heap.objs.size + 4, s1.heap.objs.size + 3, s1.heap.objs.size, s1.heap.objs.size + 1] → s1.heap.objs.size ≤ c := fun c hc => by
        simp only [List.mem_cons, List.not_mem_nil, or_false] at hc
        omega
      refine call_dict_pairsH (knd := nestedKind X.prog X.w) (ps := ps) (ZM.pairArg_zip (s1.heap.objs.size + 4) (s1.heap.objs.size + 2) (s1.heap.objs.size + 3) s1.heap.objs.size (s1.heap.objs.size + 1) a b (PySem.W.ktu_apart s1.heap.objs.size a b pl.lt (Heap.lt_size ho2)) its.toArray its2.toArray) (I1.ok.hd hc) hroom
        ⟨hz, hTI, ⟨_, _, hTO⟩, h1, h2, pl.isList.at fun o x => hk _ o x, Heap.IsTuple.at (show s1.heap.IsTuple b its2.toArray from pt) fun o x => hk _ o x⟩ ⟨by simp [e1, e2], fun i key v hr => ?_⟩ (fun h'' hk2 x hx => ?_) (by simp only [List.size_toArray, e1, e2, Nat.min_self]; omega) fun h'' tk dd hk2 => ?_
      · obtain ⟨r1, r2⟩ := hr
        simp only [List.getElem?_toArray] at r1 r2
        rw [hi1, List.getElem?_map] at r1
        rw [hi2, List.getElem?_map] at r2
        obtain ⟨q1, hq1, rfl⟩ := Option.map_eq_some_iff.1 r1
        obtain ⟨q2, hq2, rfl⟩ := Option.map_eq_some_iff.1 r2
        rw [hq1] at hq2
        cases hq2
        exact ⟨q1.1, q1.2.1, hq1, rfl⟩
      · have I2 : L2.Inv X pins σ H1 { s1 with heap := h'' } := I1.kept (t' := s1.toks) fun c o x => hk2 c o (by
          intro z
          have this : c < s1.heap.objs.size := Heap.lt_size x
          rw [show c = h'.objs.size from z, hsz] at this
          exact absurd this (Nat.not_lt.2 (Nat.le_add_right _ _))) (fun z => Nat.lt_irrefl _ (Nat.lt_of_lt_of_le (Heap.lt_size x) (new c z))) (hk c o x)
        exact (keysN nk I2 (fun p hp => hp) np x hx).2
      · have k : ∀ c o, s1.heap.get? c = some o → h''.get? c = some o := fun c o x => hk2 c o (fun z => Nat.lt_irrefl _ (Nat.lt_of_lt_of_le (Heap.lt_size x) (new c z))) (hk c o x)
        have hfr : s1.heap.objs.size ≤ h'.objs.size := by omega
        have nT : ∀ x ∈ ps, noT x.1 = true := fun x hx => (keysN nk I1 (fun p hp => hp) np x hx).1
        have nd2 : (ps.map (·.1)).Nodup := by
          rw [np_keys np]
          exact nd
        rw [stored_id ps [] nd2 (fun _ _ => by simp), List.nil_append] at dd
        obtain ⟨o, es, ep, d1, d2, d3, d4, d5, d6⟩ := dd
        rw [ent_map nT] at d4
        refine ⟨.ref h'.objs.size, _, I1.laid (t' := tk) (a := h'.objs.size) (o := NdO h'.objs.size L) k hfr (ndO_ok ⟨beq_eq_false_iff_ne.mpr (Ne.symm (Nat.ne_of_lt (Nat.lt_of_lt_of_le I1.big hfr))), hl, ps, np, o, es, ep, d1, d2, d3, d4, d6⟩), rfl, q _ (I1.hok.fresh hfr)⟩
end
end MP
set_option Elab.async false
set_option linter.all false
set_option maxRecDepth 100000
set_option maxHeartbeats 4000000
namespace MP
open PySem PySem.Spec PyProof.Rows L2
def dzK : List D → Option (List NestedKey)
  | [] => some []
  | .tup xs :: r => match nkD (.tup xs), dzK r with
    | some k, some ks => if okN k then some (k :: ks) else none
    | _, _ => none
  | _ => none
theorem dz_of {K : PySem.W.Frag} {cl : ClM} {I : Hp} : ∀ {ks ts : List D} {kxs : List NestedKey} {us vs : List V}, dzK ks = some kxs → RpA K cl I us ks → RpA K cl I vs ts → ks.length = ts.length →
    ∃ L : List NE, L.map (·.1) = kxs ∧ us = L.map (fun q => V.ref q.2.1) ∧ vs = L.map (·.2.2) ∧ NK K I L ∧ ks = (kvN L).map (fun p => nkE p.1)
  | [], [], kxs, us, vs, h, r1, r2, _ => by
    cases Option.some.inj h
    cases r1
    cases r2
    exact ⟨[], rfl, rfl, rfl, (fun q hq => by cases hq), rfl⟩
  | [], _ :: _, _, _, _, _, _, _, hl => by simp at hl
  | x :: ks, [], _, _, _, _, _, _, hl => by simp at hl
  | x :: ks, t :: ts, kxs, us, vs, h, r1, r2, hl => by
    unfold dzK at h
    split at h
    · rename_i h'
      cases h'
    · rename_i xs r h'
      cases h'
      split at h
      · rename_i k ks' q1 q2
        by_cases ok : okN k = true
        · rw [if_pos ok] at h
          cases Option.some.inj h
          cases r1 with
          | cons a1 b1 =>
            cases r2 with
            | cons a2 b2 =>
              rename_i u us v vs
              obtain ⟨L, h1, h2, h3, h4, h5⟩ := dz_of q2 b1 b2 (by simpa using hl)
              obtain ⟨e1, hn⟩ := rp_nk q1 a1
              obtain ⟨b, rfl⟩ : ∃ b, u = .ref b := by
                cases a1 with
                | tup _ _ => exact ⟨_, rfl⟩
              refine ⟨(k, b, v) :: L, by rw [List.map_cons, h1], by rw [List.map_cons, ← h2], by rw [List.map_cons, ← h3], fun q hq => ?_, ?_⟩
              · rcases List.mem_cons.1 hq with rfl | hq
                · exact ⟨ok, hn⟩
                · exact h4 q hq
              · rw [show kvN ((k, b, v) :: L) = (k, v) :: kvN L from rfl, List.map_cons, ← h5, e1]
        · rw [if_neg ok] at h
          cases h
      · cases h
    · cases h
/-- dict(zip(l, t)) -/
def fDZip (ms : Xa) : Xf := fun env => match ms env with
  | none => none
  | some (rs, e1) => match escL e1 rs with
    | some ([.lst ks, .tup ts], e2) => match dzK ks with
      | some kxs => if ks.length = ts.length ∧ ks.length < 16777216 ∧ kxs.Nodup then some (.dct true (ks.zip ts), e2) else none
      | none => none
    | _ => none
@[simp] theorem fDZip_s (ms : Xa) (env : MEnv) : fDZip ms env = match ms env with
  | none => none
  | some (rs, e1) => match escL e1 rs with
    | some ([.lst ks, .tup ts], e2) => match dzK ks with
      | some kxs => if ks.length = ts.length ∧ ks.length < 16777216 ∧ kxs.Nodup then some (.dct true (ks.zip ts), e2) else none
      | none => none
    | _ => none := (rfl)
section
variable {X : Cx} {cl : ClM}
theorem mf_dzip {e e2 : Expr} {p pos p2 pos2 : Pos} {ms : Xa} (hc : X.calm = true) (hu : X.A.units + 64 < cLine) (hgD : Gl X "dict") (hmD : X.mg "dict" = none) (hg : Gl X "zip") (hm : X.mg "zip" = none) (ha : MA X cl [e, e2] ms)
    (hs : starEach [e, e2] X.env = (false, eval e X.env) :: starEach [e2] X.env := by rfl) (hpl : (backTo pos2 (starEach [e2] X.env)).any (·.1) = false := by rfl) :
    MF X cl (.Call (.Name "dict" p) [.Call (.Name "zip" p2) [e, e2] [] pos2] [] pos) (fDZip ms) := by
  obtain ⟨t, pt, kk⟩ := ha
  refine ⟨_, pe_dzip hc hu hgD hmD hg hm pt hs hpl, fun σ H I env o env' Q g hm' k' => ?_⟩
  unfold fDZip at hm'
  cases q1 : ms env with
  | none => simp [q1] at hm'
  | some p1 =>
    obtain ⟨rs, e1⟩ := p1
    simp only [q1] at hm'
    split at hm'
    · rename_i ks ts e2' q2
      split at hm'
      · rename_i kxs q3
        by_cases ok : ks.length = ts.length ∧ ks.length < 16777216 ∧ kxs.Nodup
        · rw [if_pos ok] at hm'
          simp only [Option.some.injEq, Prod.mk.injEq] at hm'
          obtain ⟨rfl, rfl⟩ := hm'
          obtain ⟨o1, o2, o3⟩ := ok
          refine kk σ H I env rs e1 _ g q1 fun vs I1 H1 g1 t1 r1 => ?_
          obtain ⟨I2, g2, t2, r2⟩ := escL_ok g1 r1 q2
          cases r2 with
          | cons ra r2 =>
            cases r2 with
            | cons rb r2 =>
              cases r2
              cases ra with
              | @lst a us _ ia ru =>
                cases rb with
                | @tup b vs2 _ hb rv =>
                  obtain ⟨L, h1, h2, h3, h4, h5⟩ := dz_of q3 ru rv o1
                  subst h2
                  subst h3
                  have hl : L.length = ks.length := by
                    have := ru.length
                    rw [List.length_map] at this
                    exact this
                  refine ⟨a, b, L, rfl, SqL.of (g2.ex _ _ ia), same_t g2.ex hb.sq, h4.mono (same_t g2.ex), ?_, by rw [h1]; exact o3, fun p hp => ?_⟩
                  · rw [hl]
                    exact Nat.le_of_lt (Nat.lt_of_lt_of_le o2 (by decide))
                  · have al : Al I2 H1 I2 (upd H1 p (NdO p L)) := Al.newH g2.ex hp
                    have t12 := t1.trans t2
                    have nf : ¬ Fp σ e2' p := fun ⟨j, o, h1, h2⟩ => by
                      obtain ⟨p3, ho3, e3, _, hp3, _⟩ := g2.ok j _ _ h1 h2
                      cases e3
                      rw [hp] at hp3
                      cases hp3
                    refine k' p _ _ _ (g2.al al) (t12.trans al.tr) (g2.ex.free hp) upd_same (.dT (L := L) (ks := ks) (ds := ts) h4 h5 ?_) (t12.back (.inr hp)) nf
                    rw [show (kvN L).map (·.2) = L.map (·.2.2) by unfold kvN; rw [List.map_map]; rfl]
                    exact rv
        · rw [if_neg ok] at hm'
          cases hm'
      · cases hm'
    · cases hm'
end
end MP
set_option linter.all false
set_option maxRecDepth 100000
namespace K63
open PySem MP
def m_raised (N : Nat) : Xs :=
    (sSeq (sAsg (eK (.int 1)) (gNm 2))
    (sSeq (sWhile N (tOfB (eBin gGt (eVar 1) (eK (.int 0)))) (sSeq (sIf (tOfB (eBin gEq (eBin gMod (eVar 1) (eK (.int 2))) (eK (.int 1)))) (sAsg (eBin gMul (eVar 2) (eVar 0)) (gNm 2)) sNext)
    (sSeq (sAsg (eBin gFdiv (eVar 1) (eK (.int 2))) (gNm 1))
    (sIf (tOfB (eBin gGt (eVar 1) (eK (.int 0)))) (sAsg (eBin gMul (eVar 0) (eVar 0)) (gNm 0)) sNext))))
    (sRet (eVar 2))))
def f_raised (N : Nat) : Fn := runD 3 (m_raised N)
def m_words (N : Nat) : Xs :=
    (sSeq (sAsg (eFrz (fLst (aL [(eTup (aL []))]))) (gNm 2))
    (sSeq (sFor (iR1 (aL [(eVar 1)])) (gNm 3) (sAsg (eFrz (fComp2 [4, 5] (iSq (eVar 2)) (gNm 4) tYs (iR1 (aL [(eVar 0)])) [5] (gNm 5) tYs (eBin gAdd (eVar 4) (eTup (aL [(eVar 5)]))))) (gNm 2)))
    (sRet (eVar 2))))
def f_words (N : Nat) : Fn := runD 6 (m_words N)
def m_checked_row (N : Nat) : Xs :=
    (sSeq (sAsg (eCB gTuple (aL [(eVar 1)])) (gNm 1))
    (sSeq (sIf (tNo (tOfB (eChain gLe gLe (eK (.int 1)) (eCB gLen (aL [(eVar 1)])) (eK (.int 60))))) sNo sNext)
    (sSeq (sIf (tNo (tTru (eCB gAll (aL [(eFrz (fComp [2] (iSq (eVar 1)) (gNm 2) tYs (eChain gLe gLt (eK (.int 0)) (eVar 2) (eUn (gFld 0 0) (eVar 0)))))])))) sNo sNext)
    (sRet (eVar 1)))))
def f_checked_row (N : Nat) : Fn := runD 3 (m_checked_row N)
def m_is_row (N : Nat) : Xs :=
    (sRet (eAndV (eChain gLe gLe (eK (.int 1)) (eCB gLen (aL [(eVar 1)])) (eK (.int 60))) (eCB gAll (aL [(eFrz (fComp [2] (iSq (eVar 1)) (gNm 2) tYs (eChain gLe gLt (eK (.int 0)) (eVar 2) (eUn (gFld 0 0) (eVar 0)))))]))))
def f_is_row (N : Nat) : Fn := runD 3 (m_is_row N)
def m_checked_worths (N : Nat) : Xs :=
    (sSeq (sAsg (eCB gTuple (aL [(eVar 1)])) (gNm 1))
    (sSeq (sIf (tOfB (eBin gNe (eCB gLen (aL [(eVar 1)])) (eUn (gFld 0 0) (eVar 0)))) sNo sNext)
    (sRet (eVar 1))))
def f_checked_worths (N : Nat) : Fn := runD 2 (m_checked_worths N)
def m_worth (N : Nat) : Xs :=
    (sRet (eCB gSum (aL [(eFrz (fComp [2] (iSq (eVar 1)) (gNm 2) tYs (eBin gIx (eVar 0) (eVar 2))))])))
def f_worth (N : Nat) : Fn := runD 3 (m_worth N)
def m_turned (N : Nat) : Xs :=
    (sSeq (sAsg (eBin gMod (eVar 1) (eCB gLen (aL [(eVar 0)]))) (gNm 1))
    (sRet (eBin gAdd (eCB gTuple (aL [(eSl (eVar 0) (oSm (eVar 1)) oNo)])) (eCB gTuple (aL [(eSl (eVar 0) oNo (oSm (eVar 1)))])))))
def f_turned (N : Nat) : Fn := runD 2 (m_turned N)
def m_law_power (N : Nat) : Xs :=
    (sSeq (sAsg (eK (.int 1)) (gNm 2))
    (sSeq (sFor (iR1 (aL [(eVar 1)])) (gNm 3) (sAsg (eBin gMul (eVar 2) (eVar 0)) (gNm 2)))
    (sRet (eVar 2))))
def f_law_power (N : Nat) : Fn := runD 4 (m_law_power N)
def m_law_words (N : Nat) : Xs :=
    (sSeq (sAsg (eFrz (fLst (aL [(eTup (aL []))]))) (gNm 2))
    (sSeq (sFor (iR1 (aL [(eVar 1)])) (gNm 3) (sSeq (sAsg (eFrz (fLst (aL []))) (gNm 4))
    (sSeq (sFor (iSq (eVar 2)) (gNm 5) (sAsg (eBin gAdd (eVar 4) (eFrz (fComp [6] (iR1 (aL [(eVar 0)])) (gNm 6) tYs (eBin gAdd (eVar 5) (eTup (aL [(eVar 6)])))))) (gNm 4)))
    (sAsg (eVar 4) (gNm 2)))))
    (sRet (eVar 2))))
def f_law_words (N : Nat) : Fn := runD 7 (m_law_words N)
def m_Rule_of (N : Nat) : Xs :=
    (sSeq (sAsg (eK (.int 0)) (gNm 2))
    (sSeq (sFor (iSq (eVar 1)) (gNm 3) (sAsg (eBin gAdd (eBin gMul (eVar 2) (eUn (gFld 0 0) (eVar 0))) (eVar 3)) (gNm 2)))
    (sRet (eBin gIx (eUn (gFld 0 2) (eVar 0)) (eVar 2)))))
def f_Rule_of (N : Nat) : Fn := runD 4 (m_Rule_of N)
def m_stepped (N : Nat) : Xs :=
    (sSeq (sAsg (eCB gLen (aL [(eVar 1)])) (gNm 2))
    (sSeq (sAsg (eBin gMul (eVar 1) (eBin gAdd (eBin gFdiv (eUn (gFld 0 1) (eVar 0)) (eVar 2)) (eK (.int 2)))) (gNm 3))
    (sRet (eCB gTuple (aL [(eFrz (fComp [4] (iR1 (aL [(eVar 2)])) (gNm 4) tYs (eCall (f_Rule_of N) (aMth 0 (eVar 0) (aL [(eSl (eVar 3) (oSm (eVar 4)) (oSm (eBin gAdd (eVar 4) (eUn (gFld 0 1) (eVar 0)))))])))))])))))
def f_stepped (N : Nat) : Fn := runD 5 (m_stepped N)
def m_nodes_of (N : Nat) : Xs :=
    (sSeq (sIf (tOfB (eBin gGt (eCall (f_raised N) (aL [(eUn (gFld 0 0) (eVar 0)), (eBin gSub (eUn (gFld 0 1) (eVar 0)) (eK (.int 1)))])) (eK (.int 64)))) sNo sNext)
    (sRet (eCall (f_words N) (aL [(eUn (gFld 0 0) (eVar 0)), (eBin gSub (eUn (gFld 0 1) (eVar 0)) (eK (.int 1)))]))))
def f_nodes_of (N : Nat) : Fn := runD 1 (m_nodes_of N)
def m_gain (N : Nat) : Xs :=
    (sRet (eBin gSub (eBin gIx (eVar 1) (eCall (f_Rule_of N) (aMth 0 (eVar 0) (aL [(eVar 2)])))) (eBin gIx (eVar 1) (eBin gIx (eVar 2) (eK (.int 0))))))
def f_gain (N : Nat) : Fn := runD 3 (m_gain N)
def m_law_rule (N : Nat) : Xs :=
    (sSeq (sAsg (eBin gAdd (eK (.int 2)) (eCallR (f_law_draw N) (aL [(eVar 0), (eK (.int 3))]))) (gNm 2))
    (sSeq (sAsg (eBin gAdd (eK (.int 1)) (eCallR (f_law_draw N) (aL [(eVar 0), (eK (.int 5))]))) (gNm 3))
    (sSeq (sFor (iR1 (aL [(eK (.int 9))])) (gNm 4) (sIf (tOfB (eBin gGt (eCall (f_law_power N) (aL [(eVar 2), (eVar 3)])) (eVar 1))) (sSeq (sAsg (eBin gSub (eVar 3) (eK (.int 1))) (gNm 3))
    (sIf (tOfB (eBin gEq (eVar 3) (eK (.int 0)))) (sAsg (eTup (aL [(eK (.int 2)), (eK (.int 2))])) (gTp 2 (gsCons (gNm 2) (gsCons (gNm 3) gsNil)))) sNext)) sNext))
    (sSeq (sAsg (eCall (f_law_words N) (aL [(eVar 2), (eVar 3)])) (gNm 5))
    (sSeq (sAsg (eCallR (f_law_draw N) (aL [(eVar 0), (eK (.int 5))])) (gNm 6))
    (sSeq (sAsg (eCallR (f_law_draw N) (aL [(eVar 0), (eVar 3)])) (gNm 7))
    (sSeq (sAsg (eFrz (fComp [14] (iR1 (aL [(eVar 3)])) (gNm 14) tYs (eCallR (f_law_draw N) (aL [(eVar 0), (eVar 2)])))) (gNm 8))
    (sSeq (sOwn (fLst (aL [])) 9)
    (sSeq (sFor (iSq (eVar 5)) (gNm 10) (sSeq (sAsg (eCallR (f_law_draw N) (aL [(eVar 0), (eVar 2)])) (gNm 11))
    (sSeq (sAsg (eBin gMod (eCB gInt (aL [(eCB gSum (aL [(eFrz (fComp [14] (iR1 (aL [(eVar 3)])) (gNm 14) tYs (eBin gMul (eBin gIx (eVar 8) (eVar 14)) (eBin gIx (eVar 10) (eVar 14)))))]))])) (eVar 2)) (gNm 12))
    (sSeq (sAsg (eBin gMod (eCB gInt (aL [(eBin gAdd (eBin gIx (eVar 10) (eVar 7)) (eBin gMul (eCallR (f_law_draw N) (aL [(eVar 0), (eK (.int 2))])) (eCB gInt (aL [(eBin gEq (eBin gIx (eVar 10) (eK (.int 0))) (eK (.int 0)))]))))])) (eVar 2)) (gNm 13))
    (sExp (eMt gAppend 9 (aL [(eBin gIx (eTup (aL [(eVar 11), (eBin gIx (eVar 10) (eVar 7)), (eVar 12), (eVar 13), (eBin gMul (eVar 11) (eCB gInt (aL [(eBin gNe (eBin gIx (eVar 10) (eK (.int 0))) (eBin gIx (eVar 10) (eUn gNeg (eK (.int 1)))))])))])) (eVar 6))])))))))
    (sRet (eTup (aL [(eVar 2), (eVar 3), (eCB gTuple (aL [(eVar 9)]))]))))))))))))
def f_law_rule (N : Nat) : Fn := runD 15 (m_law_rule N)
def m_law_row (N : Nat) : Xs :=
    (sRet (eCB gTuple (aL [(eFrz (fComp [3] (iR1 (aL [(eVar 2)])) (gNm 3) tYs (eCallR (f_law_draw N) (aL [(eVar 0), (eBin gIx (eVar 1) (eK (.int 0)))]))))])))
def f_law_row (N : Nat) : Fn := runD 4 (m_law_row N)
def m_law_moving (N : Nat) : Xs :=
    (sSeq (sAsg (eCallR (f_law_draw N) (aL [(eVar 0), (eK (.int 3))])) (gNm 1))
    (sSeq (sOwn (fLst (aL [])) 2)
    (sSeq (sFor (iSq (eCall (f_law_words N) (aL [(eK (.int 2)), (eK (.int 3))]))) (gNm 3) (sSeq (sAsg (eVar 3) (gTp 3 (gsCons (gNm 4) (gsCons (gNm 5) (gsCons (gNm 6) gsNil)))))
    (sExp (eMt gAppend 2 (aL [(eBin gIx (eTup (aL [(eCB gInt (aL [(eOrV (eAndV (eBin gEq (eVar 5) (eK (.int 1))) (eBin gEq (eVar 6) (eK (.int 1)))) (eAndV (eBin gEq (eVar 5) (eK (.int 0))) (eBin gEq (eVar 4) (eK (.int 1)))))])), (eVar 4), (eVar 6)])) (eVar 1))])))))
    (sRet (eTup (aL [(eK (.int 2)), (eK (.int 3)), (eCB gTuple (aL [(eVar 2)]))]))))))
def f_law_moving (N : Nat) : Fn := runD 7 (m_law_moving N)
def m_Rule_init (N : Nat) : Xs :=
    (sSeq (sFldSet 0 0 0 (eVar 1))
    (sSeq (sFldSet 0 0 1 (eVar 2))
    (sSeq (sFldSet 0 0 2 (eCB gTuple (aL [(eVar 3)])))
    (sSeq (sIf (tNo (tOfB (eChain gLe gLe (eK (.int 2)) (eVar 1) (eK (.int 4))))) sNo sNext)
    (sSeq (sIf (tO (tNo (tOfB (eChain gLe gLe (eK (.int 1)) (eVar 2) (eK (.int 9))))) (tOfB (eBin gGt (eCall (f_raised N) (aL [(eVar 1), (eVar 2)])) (eK (.int 1024))))) sNo sNext)
    (sIf (tO (tOfB (eBin gNe (eCB gLen (aL [(eUn (gFld 0 2) (eVar 0))])) (eCall (f_raised N) (aL [(eVar 1), (eVar 2)])))) (tNo (tTru (eCB gAll (aL [(eFrz (fComp [4] (iSq (eUn (gFld 0 2) (eVar 0))) (gNm 4) tYs (eChain gLe gLt (eK (.int 0)) (eVar 4) (eVar 1))))]))))) sNo sNext))))))
def f_Rule_init (N : Nat) : Fn := runD 5 (m_Rule_init N)
def m_step (N : Nat) : Xs :=
    (sRet (eCall (f_stepped N) (aL [(eVar 0), (eCall (f_checked_row N) (aL [(eVar 0), (eVar 1)]))])))
def f_step (N : Nat) : Fn := runD 2 (m_step N)
def m_after (N : Nat) : Xs :=
    (sSeq (sAsg (eCall (f_checked_row N) (aL [(eVar 0), (eVar 1)])) (gNm 1))
    (sSeq (sFor (iR1 (aL [(eVar 2)])) (gNm 3) (sAsg (eCall (f_stepped N) (aL [(eVar 0), (eVar 1)])) (gNm 1)))
    (sRet (eVar 1))))
def f_after (N : Nat) : Fn := runD 4 (m_after N)
def m_flows (N : Nat) : Xs :=
    (sSeq (sAsg (eCall (f_nodes_of N) (aL [(eVar 0)])) (gNm 2))
    (sSeq (sOwn (fDOne (eBin gIx (eVar 2) (eK (.int 0))) (eK (.int 0))) 3)
    (sSeq (sOwn (fDOne (eBin gIx (eVar 2) (eK (.int 0))) (eTup (aL []))) 4)
    (sSeq (sOwn (fLst (aL [(eBin gIx (eVar 2) (eK (.int 0)))])) 5)
    (sSeq (sAsg (eK (.int 0)) (gNm 6))
    (sSeq (sWhile N (tOfB (eBin gLt (eVar 6) (eCB gLen (aL [(eVar 5)])))) (sSeq (sAsg (eBin gIx (eVar 5) (eVar 6)) (gNm 7))
    (sSeq (sAsg (eBin gAdd (eVar 6) (eK (.int 1))) (gNm 6))
    (sFor (iR1 (aL [(eUn (gFld 0 0) (eVar 0))])) (gNm 8) (sSeq (sAsg (eBin gAdd (eVar 7) (eTup (aL [(eVar 8)]))) (gNm 9))
    (sSeq (sAsg (eSl (eVar 9) (oSm (eK (.int 1))) oNo) (gNm 10))
    (sIf (tOfB (eBin (gDin true) (eVar 10) (eVar 3))) (sSeq (sDPut 3 (eVar 10) (eBin gAdd (eBin gDix (eVar 3) (eVar 7)) (eCall (f_gain N) (aL [(eVar 0), (eVar 1), (eVar 9)]))))
    (sSeq (sDPut 4 (eVar 10) (eBin gAdd (eBin gDix (eVar 4) (eVar 7)) (eTup (aL [(eVar 8)]))))
    (sExp (eMt gAppend 5 (aL [(eVar 10)]))))) sNext)))))))
    (sRet (eTup (aL [(eVar 3), (eVar 4)])))))))))
def f_flows (N : Nat) : Fn := runD 11 (m_flows N)
def m_lost_row (N : Nat) : Xs :=
    (sSeq (sAsg (eBin gIx (eCall (f_nodes_of N) (aL [(eVar 0)])) (eK (.int 0))) (gNm 4))
    (sSeq (sAsg (eVar 4) (gNm 5))
    (sSeq (sFor (iSq (eTup (aL [(eBin gAdd (eBin gDix (eVar 2) (eSl (eVar 3) oNo (oSm (eUn gNeg (eK (.int 1)))))) (eSl (eVar 3) (oSm (eUn gNeg (eK (.int 1)))) oNo)), (eBin gDix (eVar 2) (eSl (eVar 3) (oSm (eK (.int 1))) oNo))]))) (gNm 6) (sSeq (sAsg (eBin gAdd (eVar 6) (eVar 5)) (gNm 7))
    (sIf (tAn (tOfB (eBin gGt (eCB gLen (aL [(eVar 7)])) (eK (.int 0)))) (tOfB (eBin gNe (eCall (f_worth N) (aL [(eVar 1), (eVar 7)])) (eCall (f_worth N) (aL [(eVar 1), (eCall (f_stepped N) (aL [(eVar 0), (eVar 7)]))]))))) (sRet (eVar 7)) sNext)))
    (sRet (eK .non)))))
def f_lost_row (N : Nat) : Fn := runD 8 (m_lost_row N)
def m_kept_right (N : Nat) : Xs :=
    (sSeq (sAsg (eVar 0) (gTp 4 (gsCons (gNm 1) (gsCons (gNm 2) (gsCons (gNm 3) (gsCons (gNm 4) gsNil))))))
    (sSeq (sIf (tOfB (eBin gNe (eCB gLen (aL [(eVar 3)])) (eUn (gFld 0 0) (eVar 2)))) (sRet (eK (.bl false))) sNext)
    (sSeq (sIf (tOfB (eBin gEq (eVar 1) (eK (.str (Str.ofString "lost"))))) (sRet (eAndV (eCall (f_is_row N) (aL [(eVar 2), (eVar 4)])) (eBin gNe (eCall (f_worth N) (aL [(eVar 3), (eVar 4)])) (eCall (f_worth N) (aL [(eVar 3), (eCall (f_stepped N) (aL [(eVar 2), (eVar 4)]))]))))) sNext)
    (sSeq (sAsg (eCall (f_words N) (aL [(eUn (gFld 0 0) (eVar 2)), (eBin gSub (eUn (gFld 0 1) (eVar 2)) (eK (.int 1)))])) (gNm 5))
    (sSeq (sIf (tOfB (eBin gNe (eCB gLen (aL [(eVar 4)])) (eCB gLen (aL [(eVar 5)])))) (sRet (eK (.bl false))) sNext)
    (sSeq (sAsg (eFrz (fDZip (aL [(eVar 5), (eVar 4)]))) (gNm 6))
    (sSeq (sFor (iSq (eCall (f_words N) (aL [(eUn (gFld 0 0) (eVar 2)), (eUn (gFld 0 1) (eVar 2))]))) (gNm 7) (sIf (tOfB (eBin gNe (eBin gSub (eBin gDix (eVar 6) (eSl (eVar 7) (oSm (eK (.int 1))) oNo)) (eBin gDix (eVar 6) (eSl (eVar 7) oNo (oSm (eUn gNeg (eK (.int 1))))))) (eCall (f_gain N) (aL [(eVar 2), (eVar 3), (eVar 7)])))) (sRet (eK (.bl false))) sNext))
    (sRet (eK (.bl true))))))))))
def f_kept_right (N : Nat) : Fn := runD 8 (m_kept_right N)
def m_behind (N : Nat) : Xs :=
    (sSeq (sIf (tOfB (eBin gNe (eUn (gFld 0 0) (eVar 0)) (eUn (gFld 0 0) (eVar 1)))) sNo sNext)
    (sSeq (sAsg (eBin gSub (eBin gAdd (eUn (gFld 0 1) (eVar 0)) (eUn (gFld 0 1) (eVar 1))) (eK (.int 1))) (gNm 2))
    (sSeq (sIf (tO (tOfB (eBin gGt (eCall (f_raised N) (aL [(eUn (gFld 0 0) (eVar 0)), (eVar 2)])) (eK (.int 1024)))) (tOfB (eBin gGt (eVar 2) (eK (.int 9))))) sNo sNext)
    (sSeq (sOwn (fLst (aL [])) 3)
    (sSeq (sFor (iSq (eCall (f_words N) (aL [(eUn (gFld 0 0) (eVar 0)), (eVar 2)]))) (gNm 4) (sSeq (sAsg (eFrz (fComp [6] (iR1 (aL [(eUn (gFld 0 1) (eVar 1))])) (gNm 6) tYs (eCall (f_Rule_of N) (aMth 0 (eVar 0) (aL [(eSl (eVar 4) (oSm (eVar 6)) (oSm (eBin gAdd (eVar 6) (eUn (gFld 0 1) (eVar 0)))))]))))) (gNm 5))
    (sExp (eMt gAppend 3 (aL [(eCall (f_Rule_of N) (aMth 0 (eVar 1) (aL [(eVar 5)])))])))))
    (sRet (eFrz (fMake 0 (f_Rule_init N) (aL [(eUn (gFld 0 0) (eVar 0)), (eVar 2), (eVar 3)])))))))))
def f_behind (N : Nat) : Fn := runD 7 (m_behind N)
def m_kept (N : Nat) : Xs :=
    (sSeq (sAsg (eCall (f_checked_worths N) (aL [(eVar 0), (eVar 1)])) (gNm 1))
    (sSeq (sAsg (eCall (f_flows N) (aL [(eVar 0), (eVar 1)])) (gTp 2 (gsCons (gNm 2) (gsCons (gNm 3) gsNil))))
    (sSeq (sFor (iSq (eCall (f_words N) (aL [(eUn (gFld 0 0) (eVar 0)), (eUn (gFld 0 1) (eVar 0))]))) (gNm 4) (sIf (tOfB (eBin gNe (eBin gSub (eBin gDix (eVar 2) (eSl (eVar 4) (oSm (eK (.int 1))) oNo)) (eBin gDix (eVar 2) (eSl (eVar 4) oNo (oSm (eUn gNeg (eK (.int 1))))))) (eCall (f_gain N) (aL [(eVar 0), (eVar 1), (eVar 4)])))) (sRet (eTup (aL [(eK (.str (Str.ofString "lost"))), (eVar 0), (eVar 1), (eCall (f_lost_row N) (aL [(eVar 0), (eVar 1), (eVar 3), (eVar 4)]))]))) sNext))
    (sRet (eTup (aL [(eK (.str (Str.ofString "kept"))), (eVar 0), (eVar 1), (eCB gTuple (aL [(eFrz (fComp [5] (iSq (eCall (f_nodes_of N) (aL [(eVar 0)]))) (gNm 5) tYs (eBin gDix (eVar 2) (eVar 5))))]))]))))))
def f_kept (N : Nat) : Fn := runD 6 (m_kept N)
def m_law_same (N : Nat) (rec : Fn) : Xs :=
    (sSeq (sIf (tO (tTru (eUn (gIsi "tuple") (eVar 1))) (tTru (eUn (gIsi "list") (eVar 1)))) (sSeq (sIf (tO (tOfB (eBin gNe (eUn (gIsi "tuple") (eVar 1)) (eUn (gIsi "tuple") (eVar 0)))) (tOfB (eBin gNe (eUn (gIsi "list") (eVar 1)) (eUn (gIsi "list") (eVar 0))))) (sRet (eK (.bl false))) sNext)
    (sSeq (sIf (tOfB (eBin gNe (eCB gLen (aL [(eVar 0)])) (eCB gLen (aL [(eVar 1)])))) (sRet (eK (.bl false))) sNext)
    (sSeq (sFor (iR1 (aL [(eCB gLen (aL [(eVar 1)]))])) (gNm 2) (sIf (tNo (tTru (eCall (rec) (aL [(eBin gIx (eVar 0) (eVar 2)), (eBin gIx (eVar 1) (eVar 2))])))) (sRet (eK (.bl false))) sNext))
    (sRet (eK (.bl true)))))) sNext)
    (sSeq (sIf (tO (tOfB (eBin (gIsN false) (eVar 1) (eK .non))) (tTru (eUn (gIsi "bool") (eVar 1)))) (sRet (eAndV (eBin gEq (eBin (gIsN false) (eVar 0) (eK .non)) (eBin (gIsN false) (eVar 1) (eK .non))) (eAndV (eOrV (eBin (gIsN false) (eVar 1) (eK .non)) (eUn (gIsi "bool") (eVar 0))) (eBin gEq (eVar 0) (eVar 1))))) sNext)
    (sSeq (sIf (tTru (eUn (gIsi "int") (eVar 1))) (sRet (eAndV (eUn (gIsi "int") (eVar 0)) (eAndV (eOfT (tNo (tOfB (eUn (gIsi "bool") (eVar 0))))) (eBin gEq (eVar 0) (eVar 1))))) sNext)
    (sRet (eAndV (eUn (gIsi "str") (eVar 0)) (eBin gEq (eVar 0) (eVar 1)))))))
def f_law_same_ (N : Nat) : Nat → Fn
  | 0 => fun _ => none
  | n + 1 => runD 3 (m_law_same N (f_law_same_ N n))
def f_law_same (N : Nat) : Fn := f_law_same_ N 12
def m_law (N : Nat) : Xs :=
    (sSeq (sOwn (fCall (f_law_pool N) (aL [(eVar 0), (eK (.int 0))])) 1)
    (sSeq (sAsg (eBin gIx (eTup (aL [(eCallR (f_law_rule N) (aL [(eVar 1), (eK (.int 27))])), (eCallR (f_law_moving N) (aL [(eVar 1)]))])) (eCallR (f_law_draw N) (aL [(eVar 1), (eK (.int 2))]))) (gNm 2))
    (sSeq (sAsg (eFrz (fMake 0 (f_Rule_init N) (aL [(eBin gIx (eVar 2) (eK (.int 0))), (eBin gIx (eVar 2) (eK (.int 1))), (eBin gIx (eVar 2) (eK (.int 2)))]))) (gNm 3))
    (sSeq (sAsg (eCall (f_law_power N) (aL [(eBin gIx (eVar 2) (eK (.int 0))), (eBin gSub (eBin gIx (eVar 2) (eK (.int 1))) (eK (.int 1)))])) (gNm 4))
    (sSeq (sAsg (eCall (f_kept N) (aL [(eVar 3), (eBin gMul (eTup (aL [(eK (.int 5))])) (eBin gIx (eVar 2) (eK (.int 0))))])) (gNm 5))
    (sSeq (sIf (tO (tOfB (eBin gNe (eBin gIx (eVar 5) (eK (.int 0))) (eK (.str (Str.ofString "kept"))))) (tOfB (eBin gNe (eBin gIx (eVar 5) (eK (.int 3))) (eBin gMul (eTup (aL [(eK (.int 0))])) (eVar 4))))) (sRet (eK (.bl false))) sNext)
    (sSeq (sAsg (eCB gTuple (aL [(eFrz (fComp [17] (iR1 (aL [(eBin gIx (eVar 2) (eK (.int 0)))])) (gNm 17) tYs (eBin gSub (eCallR (f_law_draw N) (aL [(eVar 1), (eK (.int 7))])) (eK (.int 3)))))])) (gNm 6))
    (sSeq (sAsg (eCB gTuple (aL [(eFrz (fComp [17] (iR1 (aL [(eBin gIx (eVar 2) (eK (.int 0)))])) (gNm 17) tYs (eBin gSub (eCallR (f_law_draw N) (aL [(eVar 1), (eK (.int 7))])) (eK (.int 3)))))])) (gNm 7))
    (sSeq (sAsg (eBin gSub (eCallR (f_law_draw N) (aL [(eVar 1), (eK (.int 9))])) (eK (.int 4))) (gNm 8))
    (sSeq (sAsg (eCB gTuple (aL [(eFrz (fComp [17] (iR1 (aL [(eBin gIx (eVar 2) (eK (.int 0)))])) (gNm 17) tYs (eBin gAdd (eBin gIx (eVar 6) (eVar 17)) (eBin gMul (eVar 8) (eBin gIx (eVar 7) (eVar 17))))))])) (gNm 9))
    (sSeq (sAsg (eTup (aL [(eCall (f_kept N) (aL [(eVar 3), (eVar 6)])), (eCall (f_kept N) (aL [(eVar 3), (eVar 7)])), (eCall (f_kept N) (aL [(eVar 3), (eVar 9)]))])) (gTp 3 (gsCons (gNm 10) (gsCons (gNm 11) (gsCons (gNm 12) gsNil)))))
    (sSeq (sIf (tAn (tOfB (eBin gEq (eBin gIx (eVar 10) (eK (.int 0))) (eK (.str (Str.ofString "kept"))))) (tOfB (eBin gEq (eBin gIx (eVar 11) (eK (.int 0))) (eK (.str (Str.ofString "kept")))))) (sIf (tO (tOfB (eBin gNe (eBin gIx (eVar 12) (eK (.int 0))) (eK (.str (Str.ofString "kept"))))) (tOfB (eBin gNe (eBin gIx (eVar 12) (eK (.int 3))) (eCB gTuple (aL [(eFrz (fComp [17] (iR1 (aL [(eVar 4)])) (gNm 17) tYs (eBin gAdd (eBin gIx (eBin gIx (eVar 10) (eK (.int 3))) (eVar 17)) (eBin gMul (eVar 8) (eBin gIx (eBin gIx (eVar 11) (eK (.int 3))) (eVar 17))))))]))))) (sRet (eK (.bl false))) sNext) sNext)
    (sSeq (sIf (tAn (tOfB (eBin gNe (eBin gIx (eVar 10) (eK (.int 0))) (eBin gIx (eVar 11) (eK (.int 0))))) (tAn (tOfB (eBin gNe (eVar 8) (eK (.int 0)))) (tAn (tOfB (eBin gNe (eBin gIx (eVar 12) (eK (.int 0))) (eK (.str (Str.ofString "lost"))))) (tO (tOfB (eBin gEq (eBin gIx (eVar 10) (eK (.int 0))) (eK (.str (Str.ofString "kept"))))) (tOfB (eBin gEq (eBin gIx (eVar 11) (eK (.int 0))) (eK (.str (Str.ofString "kept"))))))))) (sRet (eK (.bl false))) sNext)
    (sSeq (sAsg (eCallR (f_law_row N) (aL [(eVar 1), (eVar 2), (eBin gAdd (eK (.int 1)) (eCallR (f_law_draw N) (aL [(eVar 1), (eK (.int 9))])))])) (gNm 13))
    (sSeq (sIf (tOfB (eBin gEq (eBin gIx (eVar 10) (eK (.int 0))) (eK (.str (Str.ofString "kept"))))) (sSeq (sIf (tO (tOfB (eBin gNe (eCall (f_worth N) (aL [(eVar 6), (eCall (f_after N) (aL [(eVar 3), (eVar 13), (eK (.int 5))]))])) (eCall (f_worth N) (aL [(eVar 6), (eVar 13)])))) (tNo (tTru (eCall (f_law_same N) (aL [(eCall (f_kept_right N) (aL [(eTup (aL [(eK (.str (Str.ofString "lost"))), (eVar 3), (eVar 6), (eVar 13)]))])), (eK (.bl false))]))))) (sRet (eK (.bl false))) sNext)
    (sSeq (sIf (tNo (tTru (eCall (f_law_same N) (aL [(eCall (f_kept_right N) (aL [(eTup (aL [(eK (.str (Str.ofString "kept"))), (eVar 3), (eVar 6), (eCB gTuple (aL [(eFrz (fComp [18] (iSq (eBin gIx (eVar 10) (eK (.int 3)))) (gNm 18) tYs (eBin gAdd (eVar 18) (eK (.int 3)))))]))]))])), (eK (.bl true))])))) (sRet (eK (.bl false))) sNext)
    (sSeq (sAsg (eCallR (f_law_moving N) (aL [(eVar 1)])) (gNm 14))
    (sIf (tAn (tOfB (eBin gEq (eBin gIx (eVar 2) (eK (.int 0))) (eK (.int 2)))) (tAn (tOfB (eBin gLt (eBin gIx (eVar 2) (eK (.int 1))) (eK (.int 4)))) (tOfB (eBin gNe (eBin gIx (eCall (f_kept N) (aL [(eCall (f_behind N) (aL [(eVar 3), (eFrz (fMake 0 (f_Rule_init N) (aL [(eK (.int 2)), (eK (.int 3)), (eBin gIx (eVar 14) (eK (.int 2)))])))])), (eVar 6)])) (eK (.int 0))) (eK (.str (Str.ofString "kept"))))))) (sRet (eK (.bl false))) sNext)))) (sSeq (sAsg (eBin gIx (eVar 10) (eK (.int 3))) (gNm 15))
    (sSeq (sFor (iR1 (aL [(eCB gLen (aL [(eVar 15)]))])) (gNm 16) (sIf (tNo (tTru (eCall (f_law_same N) (aL [(eCall (f_kept_right N) (aL [(eTup (aL [(eK (.str (Str.ofString "lost"))), (eVar 3), (eVar 6), (eCall (f_turned N) (aL [(eVar 15), (eVar 16)]))]))])), (eK (.bl true))])))) (sRet (eK (.bl false))) sNext))
    (sIf (tAn (tOfB (eBin gLe (eCB gLen (aL [(eVar 15)])) (eK (.int 30)))) (tOfB (eBin gNe (eBin gSub (eCall (f_worth N) (aL [(eVar 6), (eCall (f_step N) (aL [(eVar 3), (eBin gAdd (eVar 15) (eVar 15))]))])) (eCall (f_worth N) (aL [(eVar 6), (eBin gAdd (eVar 15) (eVar 15))]))) (eBin gMul (eK (.int 2)) (eBin gSub (eCall (f_worth N) (aL [(eVar 6), (eCall (f_step N) (aL [(eVar 3), (eVar 15)]))])) (eCall (f_worth N) (aL [(eVar 6), (eVar 15)]))))))) (sRet (eK (.bl false))) sNext))))
    (sRet (eK (.bl true))))))))))))))))))
def f_law (N : Nat) : Fn := runD 19 (m_law N)
end K63
set_option linter.all false
set_option maxRecDepth 100000
namespace K63
/-! ### rules on rings, worths, plainly -/
def num (c : Nat) (w : List Nat) : Nat := w.foldl (fun a x => a * c + x) 0
def tb (c : Nat) (t : List Nat) (w : List Nat) : Nat := t.getD (num c w) 0
def wo (W : List Int) (x : Nat) : Int := W.getD x 0
def gn (c : Nat) (t : List Nat) (W : List Int) (w : List Nat) : Int := wo W (tb c t w) - wo W (w.headD 0)
def tot (W : List Int) (row : List Nat) : Int := (row.map (wo W)).sum
def win (k : Nat) (row : List Nat) (a : Nat) : List Nat := (List.range k).map fun j => row.getD ((a + j) % row.length) 0
def st (c k : Nat) (t : List Nat) (row : List Nat) : List Nat := (List.range row.length).map fun a => tb c t (win k row a)
/-- sums of whole numbers -/
def sI : Nat → (Nat → Int) → Int
  | 0, _ => 0
  | n + 1, f => sI n f + f n
theorem sI_congr {f g : Nat → Int} : ∀ {n : Nat}, (∀ a, a < n → f a = g a) → sI n f = sI n g
  | 0, _ => rfl
  | n + 1, h => by rw [sI, sI, sI_congr fun a ha => h a (by omega), h n (by omega)]
theorem sI_sub (f g : Nat → Int) : ∀ n, sI n (fun a => f a - g a) = sI n f - sI n g
  | 0 => rfl
  | n + 1 => by
    simp only [sI, sI_sub f g n]
    omega
theorem sI_shift (f : Nat → Int) : ∀ n, sI n (fun a => f (a + 1)) + f 0 = sI n f + f n
  | 0 => rfl
  | n + 1 => by
    have := sI_shift f n
    simp only [sI]
    omega
theorem sI_ring (f : Nat → Int) {n : Nat} (hn : 0 < n) : sI n (fun a => f ((a + 1) % n)) = sI n f := by
  obtain ⟨m, rfl⟩ : ∃ m, n = m + 1 := ⟨n - 1, by omega⟩
  have h1 : sI m (fun a => f ((a + 1) % (m + 1))) = sI m (fun a => f (a + 1)) := sI_congr fun a ha => by rw [Nat.mod_eq_of_lt (by omega)]
  have h2 := sI_shift f m
  simp only [sI, h1, Nat.mod_self]
  omega
theorem sI_range (f : Nat → Int) : ∀ n, ((List.range n).map f).sum = sI n f
  | 0 => rfl
  | n + 1 => by
    rw [List.range_succ, List.map_append, List.sum_append, sI_range f n]
    simp [sI]
theorem tot_sI (W : List Int) (row : List Nat) : tot W row = sI row.length fun a => wo W (row.getD a 0) := by
  rw [← sI_range]
  unfold tot
  congr 1
  refine List.ext_getElem (by simp) fun i h1 h2 => ?_
  simp only [List.length_map] at h1
  simp [h1]
theorem tot_app (W : List Int) (a b : List Nat) : tot W (a ++ b) = tot W a + tot W b := by
  unfold tot
  rw [List.map_append, List.sum_append]
theorem st_len (c k : Nat) (t row : List Nat) : (st c k t row).length = row.length := by simp [st]
theorem st_at {c k : Nat} {t row : List Nat} {a : Nat} (h : a < row.length) : (st c k t row).getD a 0 = tb c t (win k row a) := by
  simp [st, List.getD_eq_getElem?_getD, h]
/-- what a step adds -/
def df (c k : Nat) (t : List Nat) (W : List Int) (row : List Nat) : Int := tot W (st c k t row) - tot W row
theorem df_sum {c k : Nat} (hk : 1 ≤ k) (t : List Nat) (W : List Int) (row : List Nat) : df c k t W row = sI row.length fun a => gn c t W (win k row a) := by
  unfold df
  rw [tot_sI, tot_sI, st_len, ← sI_sub]
  refine sI_congr fun a ha => ?_
  rw [st_at ha]
  unfold gn
  have : (win k row a).headD 0 = row.getD a 0 := by
    obtain ⟨m, rfl⟩ : ∃ m, k = m + 1 := ⟨k - 1, by omega⟩
    unfold win
    rw [List.range_succ_eq_map]
    simp [Nat.mod_eq_of_lt ha]
  rw [this]
/-! ### turned, doubled -/
def trn (row : List Nat) (b : Nat) : List Nat := row.drop b ++ row.take b
theorem trn_len (row : List Nat) (b : Nat) : (trn row b).length = row.length := by
  unfold trn
  rw [List.length_append, List.length_drop, List.length_take]
  omega
theorem trn_at {row : List Nat} {b i : Nat} (hb : b ≤ row.length) (hi : i < row.length) : (trn row b).getD i 0 = row.getD ((i + b) % row.length) 0 := by
  unfold trn
  simp only [List.getD_eq_getElem?_getD]
  by_cases h : i < row.length - b
  · rw [List.getElem?_append_left (by rw [List.length_drop]; exact h), List.getElem?_drop, Nat.mod_eq_of_lt (by omega), Nat.add_comm]
  · rw [List.getElem?_append_right (by rw [List.length_drop]; omega), List.length_drop, List.getElem?_take_of_lt (by omega)]
    have : (i + b) % row.length = i - (row.length - b) := by
      rw [Nat.mod_eq_sub_mod (by omega), Nat.mod_eq_of_lt (by omega)]
      omega
    rw [this]
theorem win_trn {k : Nat} {row : List Nat} {b a : Nat} (hb : b ≤ row.length) (h0 : 0 < row.length) : win k (trn row b) a = win k row ((a + b) % row.length) := by
  unfold win
  rw [trn_len]
  refine List.map_congr_left fun j _ => ?_
  rw [trn_at hb (Nat.mod_lt _ h0), Nat.mod_add_mod, Nat.mod_add_mod]
  congr 2
  omega
theorem ext_getD {a b : List Nat} (hl : a.length = b.length) (h : ∀ i, i < a.length → a.getD i 0 = b.getD i 0) : a = b := by
  refine List.ext_getElem hl fun i h1 h2 => ?_
  have := h i h1
  simpa [List.getD_eq_getElem?_getD, h1, h2] using this
theorem st_trn {c k : Nat} {t row : List Nat} {b : Nat} (hb : b ≤ row.length) : st c k t (trn row b) = trn (st c k t row) b := by
  refine ext_getD (by rw [st_len, trn_len, trn_len, st_len]) fun i hi => ?_
  rw [st_len, trn_len] at hi
  have h0 : 0 < row.length := by omega
  rw [st_at (by rw [trn_len]; exact hi), win_trn hb h0, trn_at (by rw [st_len]; exact hb) (by rw [st_len]; exact hi), st_len, st_at (Nat.mod_lt _ h0)]
theorem tot_trn (W : List Int) (row : List Nat) (b : Nat) : tot W (trn row b) = tot W row := by
  have : tot W row = tot W (row.take b ++ row.drop b) := by rw [List.take_append_drop]
  rw [this]
  unfold trn
  rw [tot_app, tot_app]
  omega
theorem df_trn {c k : Nat} {t : List Nat} {W : List Int} {row : List Nat} {b : Nat} (hb : b ≤ row.length) : df c k t W (trn row b) = df c k t W row := by
  unfold df
  rw [st_trn hb, tot_trn, tot_trn]
theorem st_twice {c k : Nat} {t row : List Nat} : st c k t (row ++ row) = st c k t row ++ st c k t row := by
  by_cases h0 : row.length = 0
  · have : row = [] := List.length_eq_zero_iff.1 h0
    subst this
    rfl
  · have at2 : ∀ i, i < row.length + row.length → (row ++ row).getD i 0 = row.getD (i % row.length) 0 := by
      intro i hi
      simp only [List.getD_eq_getElem?_getD]
      by_cases h : i < row.length
      · rw [List.getElem?_append_left h, Nat.mod_eq_of_lt h]
      · rw [List.getElem?_append_right (by omega), Nat.mod_eq_sub_mod (by omega), Nat.mod_eq_of_lt (by omega)]
    have w2 : ∀ a, win k (row ++ row) a = win k row (a % row.length) := by
      intro a
      unfold win
      refine List.map_congr_left fun j _ => ?_
      rw [List.length_append, at2 _ (Nat.mod_lt _ (by omega))]
      congr 1
      rw [show row.length + row.length = row.length * 2 by omega, Nat.mod_mul_right_mod, Nat.mod_add_mod]
    refine ext_getD (by simp [st_len]) fun i hi => ?_
    rw [st_len, List.length_append] at hi
    rw [st_at (by rw [List.length_append]; exact hi), w2]
    simp only [List.getD_eq_getElem?_getD]
    by_cases h : i < row.length
    · rw [List.getElem?_append_left (by rw [st_len]; exact h), Nat.mod_eq_of_lt h, ← List.getD_eq_getElem?_getD, st_at h]
    · rw [List.getElem?_append_right (by rw [st_len]; omega), st_len, Nat.mod_eq_sub_mod (by omega), Nat.mod_eq_of_lt (by omega), ← List.getD_eq_getElem?_getD, st_at (by omega)]
theorem df_twice {c k : Nat} {t : List Nat} {W : List Int} {row : List Nat} : df c k t W (row ++ row) = 2 * df c k t W row := by
  unfold df
  rw [st_twice, tot_app, tot_app]
  omega
/-! ### walks -/
def pg (c : Nat) (t : List Nat) (W : List Int) : List Nat → List Nat → Int
  | _, [] => 0
  | u, x :: r => gn c t W (u ++ [x]) + pg c t W (u ++ [x]).tail r
def wk : List Nat → List Nat → List Nat
  | u, [] => u
  | u, x :: r => wk (u ++ [x]).tail r
theorem pg_app (c : Nat) (t : List Nat) (W : List Int) : ∀ (a b u : List Nat), pg c t W u (a ++ b) = pg c t W u a + pg c t W (wk u a) b
  | [], b, u => by
    rw [List.nil_append, pg, wk]
    omega
  | x :: a, b, u => by
    rw [List.cons_append, pg, pg, wk, pg_app c t W a b]
    omega
theorem wk_app : ∀ (a b u : List Nat), wk u (a ++ b) = wk (wk u a) b
  | [], b, u => rfl
  | x :: a, b, u => by rw [List.cons_append, wk, wk, wk_app a b]
theorem tail_len (u : List Nat) (x : Nat) : (u ++ [x]).tail.length = u.length := by simp
theorem pg_sum (c : Nat) (t : List Nat) (W : List Int) : ∀ (w u : List Nat), pg c t W u w = sI w.length fun a => gn c t W (((u ++ w).drop a).take (u.length + 1))
  | [], u => rfl
  | x :: r, u => by
    have ih := pg_sum c t W r (u ++ [x]).tail
    rw [tail_len] at ih
    have e1 : (u ++ [x]).tail ++ r = (u ++ x :: r).drop 1 := by
      cases u with
      | nil => rfl
      | cons y u => simp
    have e2 : ((u ++ x :: r).drop 0).take (u.length + 1) = u ++ [x] := by
      rw [List.drop_zero, show u ++ x :: r = (u ++ [x]) ++ r by simp, List.take_append_of_le_length (by simp), List.take_of_length_le (by simp)]
    rw [pg, ih, List.length_cons]
    have := sI_shift (fun a => gn c t W (((u ++ x :: r).drop a).take (u.length + 1))) r.length
    simp only [sI]
    rw [e2] at this
    have e3 : (sI r.length fun a => gn c t W ((((u ++ [x]).tail ++ r).drop a).take (u.length + 1))) = sI r.length fun a => gn c t W (((u ++ x :: r).drop (a + 1)).take (u.length + 1)) := sI_congr fun a _ => by
      rw [e1, List.drop_drop, Nat.add_comm 1 a]
    rw [e3]
    omega
/-- a ring that begins with u: the closed walk from u -/
theorem df_walk {c : Nat} {t : List Nat} {W : List Int} (u cells : List Nat) : df c (u.length + 1) t W (u ++ cells) = pg c t W u (cells ++ u) := by
  rw [df_sum (by omega), pg_sum]
  rw [show (cells ++ u).length = (u ++ cells).length by simp [Nat.add_comm]]
  refine sI_congr fun a ha => ?_
  congr 1
  have hn : (u ++ cells).length = u.length + cells.length := List.length_append
  rw [hn] at ha
  refine List.ext_getElem? fun j => ?_
  unfold win
  rw [List.getElem?_map, List.getElem?_take]
  by_cases hj : j < u.length + 1
  · rw [List.getElem?_range hj, if_pos hj, List.getElem?_drop, hn]
    show some ((u ++ cells).getD ((a + j) % (u.length + cells.length)) 0) = _
    rw [← List.append_assoc]
    by_cases h : a + j < u.length + cells.length
    · rw [Nat.mod_eq_of_lt h, List.getElem?_append_left (by rw [hn]; exact h), List.getD_eq_getElem?_getD, List.getElem?_eq_getElem (by rw [hn]; exact h)]
      rfl
    · rw [Nat.mod_eq_sub_mod (by omega), Nat.mod_eq_of_lt (by omega), List.getElem?_append_right (by rw [hn]; omega), hn]
      have h2 : a + j - (u.length + cells.length) < u.length := by omega
      rw [List.getD_eq_getElem?_getD, List.getElem?_append_left h2, List.getElem?_eq_getElem h2]
      rfl
  · rw [if_neg hj, List.getElem?_eq_none (by simp; omega)]
    rfl
theorem df_walk2 {c : Nat} {t : List Nat} {W : List Int} (u cells : List Nat) : df c (u.length + 1) t W (cells ++ u) = pg c t W u (cells ++ u) := by
  rw [← df_walk]
  have : trn (cells ++ u) cells.length = u ++ cells := by simp [trn]
  rw [← this, df_trn (by simp)]
/-! ### what is kept -/
theorem win_tail (m : Nat) (row : List Nat) (a : Nat) : (win (m + 1) row a).tail = win m row ((a + 1) % row.length) := by
  unfold win
  rw [List.range_succ_eq_map]
  simp [Function.comp_def]
  intro j _
  rw [show a + (j + 1) = a + 1 + j by omega]
theorem win_init (m : Nat) (row : List Nat) (a : Nat) : (win (m + 1) row a).dropLast = win m row a := by
  unfold win
  rw [List.range_succ, List.map_append, List.map_singleton, List.dropLast_concat]
theorem kept_df {c m : Nat} {t : List Nat} {W : List Int} {fl : List Nat → Int} {row : List Nat} (h0 : 0 < row.length) (h : ∀ a, a < row.length → fl (win (m + 1) row a).tail - fl (win (m + 1) row a).dropLast = gn c t W (win (m + 1) row a)) : df c (m + 1) t W row = 0 := by
  rw [df_sum (by omega), sI_congr fun a ha => (h a ha).symm]
  have e : (fun a => fl (win (m + 1) row a).tail - fl (win (m + 1) row a).dropLast) = fun a => fl (win m row ((a + 1) % row.length)) - fl (win m row a) := by
    funext a
    rw [win_tail, win_init]
  rw [e, sI_sub, sI_ring (fun a => fl (win m row a)) h0]
  omega
/-- one of two rows is lost -/
theorem lost_one {c : Nat} {t : List Nat} {W : List Int} {home u v wu wv : List Nat} {x : Nat} (hu : wk home wu = u) (hv : wk home wv = v) (huv : (u ++ [x]).tail = v)
    (h : pg c t W home wv - pg c t W home wu ≠ gn c t W (u ++ [x])) : df c (home.length + 1) t W (wu ++ [x] ++ home) ≠ 0 ∨ df c (home.length + 1) t W (wv ++ home) ≠ 0 := by
  rw [df_walk2, df_walk2, pg_app, pg_app, pg_app, wk_app, hu, hv]
  have e : wk u [x] = v := by
    rw [wk, wk, huv]
  have e2 : pg c t W u [x] = gn c t W (u ++ [x]) := by
    rw [pg, pg]
    omega
  rw [e, e2]
  omega
end K63
set_option linter.all false
set_option maxRecDepth 100000
namespace K63
open PySem L2 MP
abbrev tN (l : List Nat) : D := .tup (nL l)
abbrev wD (W : List Int) : D := .tup (W.map .int)
def ru (c k : Nat) (t : List Nat) : D := .obj 0 [.int c, .int k, tN t]
def CN (c n : Nat) : Prop := (c = 2 ∧ n ≤ 5) ∨ (c = 3 ∧ n ≤ 3) ∨ (c = 4 ∧ n ≤ 2)
theorem CN.ex {c n : Nat} (h : CN c n) {P : Nat → Nat → Prop} (h20 : P 2 0) (h21 : P 2 1) (h22 : P 2 2) (h23 : P 2 3) (h24 : P 2 4) (h25 : P 2 5) (h30 : P 3 0) (h31 : P 3 1) (h32 : P 3 2) (h33 : P 3 3) (h40 : P 4 0) (h41 : P 4 1) (h42 : P 4 2) : P c n := by
  rcases h with ⟨rfl, h⟩ | ⟨rfl, h⟩ | ⟨rfl, h⟩
  · have : n = 0 ∨ n = 1 ∨ n = 2 ∨ n = 3 ∨ n = 4 ∨ n = 5 := by omega
    rcases this with rfl | rfl | rfl | rfl | rfl | rfl <;> assumption
  · have : n = 0 ∨ n = 1 ∨ n = 2 ∨ n = 3 := by omega
    rcases this with rfl | rfl | rfl | rfl <;> assumption
  · have : n = 0 ∨ n = 1 ∨ n = 2 := by omega
    rcases this with rfl | rfl | rfl <;> assumption
def ws (c : Nat) : Nat → List (List Nat)
  | 0 => [[]]
  | n + 1 => (ws c n).flatMap fun w => (List.range c).map fun x => w ++ [x]
theorem raised_ok {c n : Nat} (h : CN c n) : ∃ o, f_raised 300 [.val (.int c), .val (.int n)] = some (.d (.int ((c ^ n : Nat) : Int)), o) :=
  h.ex (P := fun c n => ∃ o, f_raised 300 [.val (.int c), .val (.int n)] = some (.d (.int ((c ^ n : Nat) : Int)), o)) ⟨_, rfl⟩ ⟨_, rfl⟩ ⟨_, rfl⟩ ⟨_, rfl⟩ ⟨_, rfl⟩ ⟨_, rfl⟩ ⟨_, rfl⟩ ⟨_, rfl⟩ ⟨_, rfl⟩ ⟨_, rfl⟩ ⟨_, rfl⟩ ⟨_, rfl⟩ ⟨_, rfl⟩
theorem words_ok {c n : Nat} (h : CN c n) : ∃ o, f_words 300 [.val (.int c), .val (.int n)] = some (.d (.lst ((ws c n).map tN)), o) :=
  h.ex (P := fun c n => ∃ o, f_words 300 [.val (.int c), .val (.int n)] = some (.d (.lst ((ws c n).map tN)), o)) ⟨_, rfl⟩ ⟨_, rfl⟩ ⟨_, rfl⟩ ⟨_, rfl⟩ ⟨_, rfl⟩ ⟨_, rfl⟩ ⟨_, rfl⟩ ⟨_, rfl⟩ ⟨_, rfl⟩ ⟨_, rfl⟩ ⟨_, rfl⟩ ⟨_, rfl⟩ ⟨_, rfl⟩
theorem fst_ok {x : Option (RetV × List MP.Slot)} {r : RetV} (h : x.map (·.1) = some r) : ∃ o, x = some (r, o) := by
  obtain ⟨p, hp, e⟩ := Option.map_eq_some_iff.1 h
  exact ⟨p.2, by rw [hp, ← e]⟩
theorem law_words_ok {c n : Nat} (h : CN c n) : ∃ o, f_law_words 300 [.val (.int c), .val (.int n)] = some (.d (.lst ((ws c n).map tN)), o) :=
  h.ex (P := fun c n => ∃ o, f_law_words 300 [.val (.int c), .val (.int n)] = some (.d (.lst ((ws c n).map tN)), o)) (fst_ok (by kernel_rfl)) (fst_ok (by kernel_rfl)) (fst_ok (by kernel_rfl)) (fst_ok (by kernel_rfl)) (fst_ok (by kernel_rfl)) (fst_ok (by kernel_rfl)) (fst_ok (by kernel_rfl)) (fst_ok (by kernel_rfl)) (fst_ok (by kernel_rfl)) (fst_ok (by kernel_rfl)) (fst_ok (by kernel_rfl)) (fst_ok (by kernel_rfl)) (fst_ok (by kernel_rfl))
theorem power_ok {c n : Nat} (h : CN c n) : ∃ o, f_law_power 300 [.val (.int c), .val (.int n)] = some (.d (.int ((c ^ n : Nat) : Int)), o) :=
  h.ex (P := fun c n => ∃ o, f_law_power 300 [.val (.int c), .val (.int n)] = some (.d (.int ((c ^ n : Nat) : Int)), o)) ⟨_, rfl⟩ ⟨_, rfl⟩ ⟨_, rfl⟩ ⟨_, rfl⟩ ⟨_, rfl⟩ ⟨_, rfl⟩ ⟨_, rfl⟩ ⟨_, rfl⟩ ⟨_, rfl⟩ ⟨_, rfl⟩ ⟨_, rfl⟩ ⟨_, rfl⟩ ⟨_, rfl⟩
theorem mem_ws (c : Nat) : ∀ (n : Nat) (w : List Nat), w ∈ ws c n ↔ w.length = n ∧ ∀ x ∈ w, x < c
  | 0, w => by
    simp only [ws, List.mem_singleton, List.length_eq_zero_iff]
    constructor
    · rintro rfl
      simp
    · exact fun h => h.1
  | n + 1, w => by
    simp only [ws, List.mem_flatMap, List.mem_map, List.mem_range, mem_ws c n]
    constructor
    · rintro ⟨u, ⟨hl, hu⟩, x, hx, rfl⟩
      refine ⟨by simp [hl], fun y hy => ?_⟩
      rcases List.mem_append.1 hy with hy | hy
      · exact hu y hy
      · rw [List.mem_singleton.1 hy]
        exact hx
    · rintro ⟨hl, hw⟩
      have hne : w ≠ [] := fun e => by simp [e] at hl
      refine ⟨w.dropLast, ⟨by simp [hl], fun y hy => hw y ((List.dropLast_sublist w).subset hy)⟩, w.getLast hne, hw _ (List.getLast_mem hne), List.dropLast_concat_getLast hne⟩
/-! rules -/
structure Ru (c k : Nat) (t : List Nat) : Prop where
  cn : CN c k
  k1 : 1 ≤ k
  tl : t.length = c ^ k
  lt : ∀ x ∈ t, x < c
theorem Ru.c2 {c k : Nat} {t : List Nat} (h : Ru c k t) : 2 ≤ c ∧ c ≤ 4 ∧ k ≤ 5 := by
  rcases h.cn with ⟨rfl, h⟩ | ⟨rfl, h⟩ | ⟨rfl, h⟩ <;> omega
theorem foldl_lt (c : Nat) : ∀ (w : List Nat) (a : Nat), (∀ x ∈ w, x < c) → w.foldl (fun a x => a * c + x) a < (a + 1) * c ^ w.length
  | [], a, _ => by simp
  | x :: w, a, h => by
    have h1 := foldl_lt c w (a * c + x) fun y hy => h y (List.mem_cons_of_mem _ hy)
    have h2 := h x List.mem_cons_self
    rw [List.foldl_cons, List.length_cons, Nat.pow_succ]
    have h3 : (a * c + x + 1) * c ^ w.length ≤ ((a + 1) * c) * c ^ w.length := by
      refine Nat.mul_le_mul_right _ ?_
      rw [Nat.succ_mul]
      omega
    rw [Nat.mul_assoc, Nat.mul_comm c (c ^ w.length)] at h3
    omega
theorem num_lt {c : Nat} {w : List Nat} (h : ∀ x ∈ w, x < c) : num c w < c ^ w.length := by
  have := foldl_lt c w 0 h
  simpa [num] using this
theorem Ru.tb_lt {c k : Nat} {t : List Nat} (h : Ru c k t) {w : List Nat} (hl : w.length = k) (hw : ∀ x ∈ w, x < c) : tb c t w < c := by
  have h1 := num_lt hw
  rw [hl, ← h.tl] at h1
  unfold tb
  rw [List.getD_eq_getElem?_getD, List.getElem?_eq_getElem h1]
  exact h.lt _ (List.getElem_mem h1)
theorem of_loop {c k : Nat} {t : List Nat} (hc : 2 ≤ c ∧ c ≤ 4) (d : MP.Slot) : ∀ (w : List Nat) (a : Nat) (s3 : MP.Slot), ∃ s3', sLoop (gNm 3) (sAsg (eBin gAdd (eBin gMul (eVar 2) (eUn (gFld 0 0) (eVar 0))) (eVar 3)) (gNm 2)) (nL w) [.val (ru c k t), d, .val (.int a), s3] =
    some (.nx, [.val (ru c k t), d, .val (.int (w.foldl (fun a x => a * c + x) a : Nat)), s3'])
  | [], a, s3 => ⟨s3, rfl⟩
  | x :: w, a, s3 => by
    obtain ⟨s3', h⟩ := of_loop hc d w (a * c + x) (.val (.int x))
    refine ⟨s3', ?_⟩
    rw [List.foldl_cons, ← h, show nL (x :: w) = D.int (x : Nat) :: nL w from rfl]
    have hm : mulOk (a : Int) (c : Int) = true := mulOk_r _ _ (by omega)
    refine sLoop_cons (e1 := [.val (ru c k t), d, .val (.int a), .val (.int x)]) (by simp) ?_
    unfold ru
    generalize tN t = T
    simp [hm]
theorem of_ok {c k : Nat} {t : List Nat} (h : Ru c k t) {w : List Nat} (hl : w.length = k) (hw : ∀ x ∈ w, x < c) {d : D} (hd : d = .tup (nL w) ∨ d = .lst (nL w)) : ∃ o, f_Rule_of 300 [.val (ru c k t), .val d] = some (.d (.int (tb c t w : Nat)), o) := by
  obtain ⟨c2, c4, k5⟩ := h.c2
  obtain ⟨s3, lp⟩ := of_loop (k := k) (t := t) ⟨c2, c4⟩ (.val d) w 0 .none
  have h1 := num_lt hw
  rw [hl, ← h.tl] at h1
  have e : atI (nL t) ((num c w : Nat) : Int) = some (.int (tb c t w : Nat)) := by
    rw [atI_cast, List.getElem?_map]
    simp [tb, h1]
  rw [show w.foldl (fun a x => a * c + x) 0 = num c w from rfl, show ((0 : Nat) : Int) = 0 from rfl] at lp
  unfold ru at *
  unfold tN at *
  unfold f_Rule_of runD m_Rule_of
  generalize nL t = T at *
  generalize ((num c w : Nat) : Int) = z at *
  generalize nL w = Z at *
  rcases hd with rfl | rfl <;> simp [lp, e]
end K63
set_option linter.all false
set_option maxRecDepth 100000
namespace K63
open PySem L2 MP
theorem all_y {α : Type} (l : List α) : gAll [.lst (l.map fun _ => D.bl true)] = some (.bl true) := by
  have := MP.gAll_m (fun _ : α => true) l
  rw [this]
  simp
theorem ix_N {w : List Nat} {i : Nat} (h : i < w.length) : gIx (tN w) (.int i) = some (.int (w.getD i 0 : Nat)) := by
  show atI (nL w) (i : Int) = _
  rw [atI_cast, List.getElem?_map]
  simp [h]
theorem ix_W {W : List Int} {i : Nat} (h : i < W.length) : gIx (wD W) (.int i) = some (.int (wo W i)) := by
  show atI (W.map D.int) (i : Int) = _
  rw [atI_cast, List.getElem?_map]
  simp [wo, h]
theorem head_at {w : List Nat} (h : 0 < w.length) : w.getD 0 0 = w.headD 0 := by
  cases w with
  | nil => simp at h
  | cons a w => rfl
theorem gain_ok {c k : Nat} {t : List Nat} (h : Ru c k t) {W : List Int} (hW : W.length = c) {w : List Nat} (hl : w.length = k) (hw : ∀ x ∈ w, x < c) : ∃ o, f_gain 300 [.val (ru c k t), .val (wD W), .val (tN w)] = some (.d (.int (gn c t W w)), o) := by
  obtain ⟨o, e⟩ := of_ok h hl hw (d := tN w) (.inl rfl)
  have h1 := ix_W (W := W) (i := tb c t w) (by rw [hW]; exact h.tb_lt hl hw)
  have h0 : 0 < w.length := by have := h.k1; omega
  have h2 := ix_N (w := w) (i := 0) h0
  have h3 : w.headD 0 < W.length := by
    rw [hW, ← head_at h0]
    rw [List.getD_eq_getElem?_getD, List.getElem?_eq_getElem h0]
    exact hw _ (List.getElem_mem h0)
  have h4 := ix_W h3
  rw [head_at h0, show ((0 : Nat) : Int) = 0 from rfl] at h2
  have h5 : (nL w)[0]? = some (.int ((w.headD 0 : Nat) : Int)) := by
    have := atI_cast (nL w) 0
    rw [← this]
    exact h2
  unfold gn
  unfold ru tN wD at *
  unfold f_gain runD m_gain
  generalize ((tb c t w : Nat) : Int) = z at *
  generalize ((w.headD 0 : Nat) : Int) = z0 at *
  generalize wo W (tb c t w) = g1 at *
  generalize wo W (w.headD 0) = g2 at *
  simp only [gIx_t] at h1 h2 h4
  generalize nL t = T at *
  generalize nL w = Z at *
  generalize W.map D.int = WW at *
  simp [e, h1, h5, h4]
theorem worth_ok {W : List Int} {row : List Nat} (hl : row.length ≤ 1000) (h : ∀ x ∈ row, x < W.length) : ∃ o, f_worth 300 [.val (wD W), .val (tN row)] = some (.d (.int (tot W row)), o) := by
  have c := comp1 (fun (u : Nat) => D.int u) (fun u => D.int (wo W u)) (k := 2) (m := eBin gIx (eVar 0) (eVar 2)) row [.val (wD W), .val (tN row), .none] rfl (by omega) (fun u hu => by
    have h1 := ix_W (h u hu)
    unfold wD at *
    generalize tN row = R at *
    generalize W.map D.int = WW at *
    simp only [gIx_t] at h1
    simp [h1])
  have g := gSum_m (fun u => wo W u) row
  unfold f_worth runD m_worth tot
  unfold tN wD at *
  generalize (row.map fun u => D.int (wo W u)) = Y at *
  rw [show row.map (fun (u : Nat) => D.int u) = nL row from rfl] at c
  generalize nL row = R at *
  generalize W.map D.int = WW at *
  simp [c, g]
theorem row_c {c k : Nat} {t row : List Nat} (hl : row.length ≤ 1000) (h : ∀ x ∈ row, x < c) : cLoop [2] (gNm 2) tYs (eChain gLe gLt (eK (.int 0)) (eVar 2) (eUn (gFld 0 0) (eVar 0))) (nL row) [] [.val (ru c k t), .val (tN row), .none] = some (row.map fun _ => D.bl true, [.val (ru c k t), .val (tN row), .none]) :=
  comp1 (fun (u : Nat) => D.int u) (fun _ => D.bl true) (k := 2) (m := eChain gLe gLt (eK (.int 0)) (eVar 2) (eUn (gFld 0 0) (eVar 0))) row [.val (ru c k t), .val (tN row), .none] rfl (by omega) fun u hu => by
    have h1 := h u hu
    unfold ru
    generalize tN row = R at *
    generalize tN t = T at *
    simp [h1]
theorem checked_ok {c k : Nat} {t row : List Nat} (h1 : 1 ≤ row.length) (hl : row.length ≤ 60) (h : ∀ x ∈ row, x < c) : ∃ o, f_checked_row 300 [.val (ru c k t), .val (tN row)] = some (.d (tN row), o) := by
  have cc := row_c (k := k) (t := t) (by omega) h
  have a := all_y row
  have ll := nL_len row
  unfold f_checked_row runD m_checked_row
  unfold ru at *
  unfold tN at *
  generalize (row.map fun _ => D.bl true) = Y at *
  generalize nL row = R at *
  generalize nL t = T at *
  have n1 : (1 : Int) ≤ R.length := by omega
  have n2 : (R.length : Int) ≤ 60 := by omega
  have n3 : 1 ≤ R.length := by omega
  have n4 : R.length ≤ 60 := by omega
  simp [cc, a, n1, n2, n3, n4, gTuple, truD]
theorem is_row_ok {c k : Nat} {t row : List Nat} (h1 : 1 ≤ row.length) (hl : row.length ≤ 60) (h : ∀ x ∈ row, x < c) : ∃ o, f_is_row 300 [.val (ru c k t), .val (tN row)] = some (.d (.bl true), o) := by
  have cc := row_c (k := k) (t := t) (by omega) h
  have a := all_y row
  have ll := nL_len row
  unfold f_is_row runD m_is_row
  unfold ru at *
  unfold tN at *
  generalize (row.map fun _ => D.bl true) = Y at *
  generalize nL row = R at *
  generalize nL t = T at *
  have n1 : (1 : Int) ≤ R.length := by omega
  have n2 : (R.length : Int) ≤ 60 := by omega
  have n3 : 1 ≤ R.length := by omega
  have n4 : R.length ≤ 60 := by omega
  simp [cc, a, n1, n2, n3, n4, truD]
/-! a step -/
theorem rep_at (row : List Nat) : ∀ (m i : Nat), i < m * row.length → ((List.replicate m row).flatten).getD i 0 = row.getD (i % row.length) 0
  | 0, i, h => by omega
  | m + 1, i, h => by
    rw [List.replicate_succ, List.flatten_cons]
    rw [Nat.succ_mul] at h
    simp only [List.getD_eq_getElem?_getD]
    by_cases c : i < row.length
    · rw [List.getElem?_append_left c, Nat.mod_eq_of_lt c]
    · rw [List.getElem?_append_right (by omega), ← List.getD_eq_getElem?_getD, rep_at row m (i - row.length) (by omega), ← Nat.mod_eq_sub_mod (by omega), List.getD_eq_getElem?_getD]
theorem rep_len (row : List Nat) (m : Nat) : ((List.replicate m row).flatten).length = m * row.length := by simp
theorem flat_nL2 (row : List Nat) (m : Nat) : (List.replicate m (nL row)).flatten = nL ((List.replicate m row).flatten) := by
  unfold nL
  rw [List.map_flatten, List.map_replicate]
theorem cut_win {k : Nat} {row : List Nat} {a : Nat} (h0 : 0 < row.length) (ha : a < row.length) : cutD (nL ((List.replicate (k / row.length + 2) row).flatten)) (some (a : Int)) (some ((a : Int) + k)) = nL (win k row a) := by
  have hk := Nat.div_add_mod k row.length
  have hm := Nat.mod_lt k h0
  have hlen : k + row.length ≤ (k / row.length + 2) * row.length := by
    rw [Nat.add_mul, Nat.mul_comm (k / row.length)]
    omega
  have tl := rep_len row (k / row.length + 2)
  generalize hF : (List.replicate (k / row.length + 2) row).flatten = F at *
  have at_ : ∀ i, i < k + row.length → F.getD i 0 = row.getD (i % row.length) 0 := fun i hi => by
    rw [← hF]
    exact rep_at row _ i (by omega)
  unfold cutD HT.sIx
  have n1 : ¬ (a : Int) < 0 := by omega
  have n2 : ¬ (a : Int) + k < 0 := by omega
  have t2 : ((a : Int) + k).toNat = a + k := by omega
  simp only [n1, n2, if_false, Int.toNat_natCast, t2, nL_len]
  rw [Nat.min_eq_left (by omega), Nat.min_eq_left (by omega)]
  unfold nL
  rw [← List.map_drop, ← List.map_take]
  congr 1
  refine ext_getD (by simp [win]; omega) fun i hi => ?_
  have hi : i < k := by
    simp at hi
    omega
  have e1 : (List.take (a + k - a) (F.drop a)).getD i 0 = F.getD (a + i) 0 := by
    simp only [List.getD_eq_getElem?_getD]
    rw [List.getElem?_take, if_pos (by omega), List.getElem?_drop]
  rw [e1, at_ _ (by omega)]
  simp [win, List.getD_eq_getElem?_getD, hi]
theorem win_lt {c k : Nat} {row : List Nat} (h0 : 0 < row.length) (h : ∀ x ∈ row, x < c) (a : Nat) : (win k row a).length = k ∧ ∀ x ∈ win k row a, x < c := by
  refine ⟨by simp [win], fun x hx => ?_⟩
  obtain ⟨j, _, rfl⟩ := List.mem_map.1 hx
  have hm := Nat.mod_lt (a + j) h0
  rw [List.getD_eq_getElem?_getD, List.getElem?_eq_getElem hm]
  exact h _ (List.getElem_mem hm)
theorem stepped_ok {c k : Nat} {t : List Nat} (h : Ru c k t) {row : List Nat} (h1 : 1 ≤ row.length) (hl : row.length ≤ 60) (hr : ∀ x ∈ row, x < c) : ∃ o, f_stepped 300 [.val (ru c k t), .val (tN row)] = some (.d (tN (st c k t row)), o) := by
  obtain ⟨c2, c4, k5⟩ := h.c2
  have cc := comp1r (fun a => D.int (tb c t (win k row a) : Nat)) (k := 4) (n := row.length) (m := eCall (f_Rule_of 300) (aMth 0 (eVar 0) (aL [(eSl (eVar 3) (oSm (eVar 4)) (oSm (eBin gAdd (eVar 4) (eUn (gFld 0 1) (eVar 0)))))])))
    [.val (ru c k t), .val (tN row), .val (.int row.length), .val (tN ((List.replicate (k / row.length + 2) row).flatten)), .none] rfl (by omega) (fun a ha => by
    obtain ⟨wl, wlt⟩ := win_lt (k := k) h1 hr a
    obtain ⟨o, e⟩ := of_ok h wl wlt (d := tN (win k row a)) (.inl rfl)
    have cw := cut_win (k := k) h1 ha
    unfold ru at *
    unfold tN at *
    generalize nL t = T at *
    generalize nL ((List.replicate (k / row.length + 2) row).flatten) = F at *
    generalize nL row = R at *
    generalize nL (win k row a) = Z at *
    generalize ((tb c t (win k row a) : Nat) : Int) = z at *
    simp [cw, e])
  rw [show (List.range row.length).map (fun a => D.int (tb c t (win k row a) : Nat)) = nL (st c k t row) by
    unfold nL st
    rw [List.map_map]
    rfl] at cc
  have ll := nL_len row
  have fl := flat_nL2 row (k / row.length + 2)
  have dv : (k : Int) / (row.length : Int) + 2 = ((k / row.length + 2 : Nat) : Int) := by
    rw [show ((k / row.length + 2 : Nat) : Int) = ((k / row.length : Nat) : Int) + 2 from rfl, Int.natCast_ediv]
  have q5 : k / row.length ≤ 5 := Nat.le_trans (Nat.div_le_self k _) k5
  have okk' : ∀ q : Nat, q ≤ 7 → okK (q : Int) = true := fun q hq => okK_iff _ ⟨by omega, by omega⟩
  have okk := okk' (k / row.length + 2) (by omega)
  clear okk'
  have okr := okR_nat row.length (by omega)
  have zt : ((k / row.length + 2 : Nat) : Int).toNat = k / row.length + 2 := Int.toNat_natCast _
  have sz : (k / row.length + 2) * row.length ≤ 16777216 := by
    have := Nat.mul_le_mul (show k / row.length + 2 ≤ 7 by omega) hl
    omega
  have n0 : (0 : Int) < row.length := by omega
  have n0' : 0 < row.length := h1
  unfold f_stepped runD m_stepped
  unfold ru at *
  unfold tN at *
  generalize nL (st c k t row) = S at *
  generalize nL ((List.replicate (k / row.length + 2) row).flatten) = F at *
  generalize hR : nL row = R at *
  generalize nL t = T at *
  generalize hq : k / row.length + 2 = q at *
  have lg : Nat.log2 row.length < 9000 := by
    have : ∀ n, n ≤ 60 → Nat.log2 n < 9000 := by decide
    exact this _ hl
  have r1000 : R.length ≤ 1000 := by rw [ll]; omega
  have q1000 : (q : Int) ≤ 1000 := by omega
  have q1000' : q ≤ 1000 := by omega
  have l1000 : row.length ≤ 1000 := by omega
  simp [ll, lg, n0, n0', dv, okk, okr, zt, cc, fl, r1000, q1000, q1000', l1000, gTuple]
end K63
set_option linter.all false
set_option maxRecDepth 100000
namespace K63
open PySem L2 MP
theorem st_lt {c k : Nat} {t : List Nat} (h : Ru c k t) {row : List Nat} (h0 : 0 < row.length) (hr : ∀ x ∈ row, x < c) : ∀ x ∈ st c k t row, x < c := by
  intro x hx
  obtain ⟨a, _, rfl⟩ := List.mem_map.1 hx
  obtain ⟨h1, h2⟩ := win_lt (k := k) h0 hr a
  exact h.tb_lt h1 h2
theorem step_ok {c k : Nat} {t : List Nat} (h : Ru c k t) {row : List Nat} (h1 : 1 ≤ row.length) (hl : row.length ≤ 60) (hr : ∀ x ∈ row, x < c) : ∃ o, f_step 300 [.val (ru c k t), .val (tN row)] = some (.d (tN (st c k t row)), o) := by
  obtain ⟨o1, e1⟩ := checked_ok (k := k) (t := t) h1 hl hr
  obtain ⟨o2, e2⟩ := stepped_ok h h1 hl hr
  unfold f_step runD m_step
  generalize tN (st c k t row) = S at *
  generalize tN row = R at *
  generalize ru c k t = U at *
  simp [e1, e2]
def itS (c k : Nat) (t : List Nat) : Nat → List Nat → List Nat
  | 0, row => row
  | s + 1, row => itS c k t s (st c k t row)
theorem itS_ok {c k : Nat} {t : List Nat} (h : Ru c k t) : ∀ (s : Nat) {row : List Nat}, 1 ≤ row.length → (∀ x ∈ row, x < c) → (itS c k t s row).length = row.length ∧ ∀ x ∈ itS c k t s row, x < c
  | 0, row, _, hr => ⟨rfl, hr⟩
  | s + 1, row, h1, hr => by
    have := itS_ok h s (row := st c k t row) (by rw [st_len]; exact h1) (st_lt h h1 hr)
    rw [st_len] at this
    exact this
theorem after_loop {c k : Nat} {t : List Nat} (h : Ru c k t) (s2 : MP.Slot) : ∀ (ds : List D) {row : List Nat} (s3 : MP.Slot), 1 ≤ row.length → row.length ≤ 60 → (∀ x ∈ row, x < c) → ∃ s3', sLoop (gNm 3) (sAsg (eCall (f_stepped 300) (aL [(eVar 0), (eVar 1)])) (gNm 1)) ds [.val (ru c k t), .val (tN row), s2, s3] =
    some (.nx, [.val (ru c k t), .val (tN (itS c k t ds.length row)), s2, s3'])
  | [], row, s3, _, _, _ => ⟨s3, rfl⟩
  | d :: ds, row, s3, h1, hl, hr => by
    obtain ⟨s3', ih⟩ := after_loop h s2 ds (row := st c k t row) (.val d) (by rw [st_len]; exact h1) (by rw [st_len]; exact hl) (st_lt h h1 hr)
    obtain ⟨o, e⟩ := stepped_ok h h1 hl hr
    refine ⟨s3', ?_⟩
    rw [List.length_cons, itS, ← ih]
    generalize tN (st c k t row) = S at *
    generalize tN row = R at *
    generalize ru c k t = U at *
    exact sLoop_cons (e1 := [.val U, .val R, s2, .val d]) (by simp) (by simp [e])
theorem after_ok {c k : Nat} {t : List Nat} (h : Ru c k t) {row : List Nat} (h1 : 1 ≤ row.length) (hl : row.length ≤ 60) (hr : ∀ x ∈ row, x < c) : ∃ o, f_after 300 [.val (ru c k t), .val (tN row), .val (.int 5)] = some (.d (tN (itS c k t 5 row)), o) := by
  obtain ⟨o1, e1⟩ := checked_ok (k := k) (t := t) h1 hl hr
  obtain ⟨s3, lp⟩ := after_loop h (.val (.int 5)) (rgD 0 5) (row := row) .none h1 hl hr
  rw [show (rgD 0 5).length = 5 from rfl] at lp
  unfold f_after runD m_after
  generalize tN (itS c k t 5 row) = S at *
  generalize tN row = R at *
  generalize ru c k t = U at *
  simp [e1, show okR 5 = true from rfl]
  rw [lp]
  simp
theorem turned_ok {row : List Nat} {b : Nat} (hb : b < row.length) (hl : row.length ≤ 60) : ∃ o, f_turned 300 [.val (tN row), .val (.int b)] = some (.d (tN (trn row b)), o) := by
  have e1 : cutD (nL row) (some (b : Int)) none = nL (row.drop b) := by
    unfold cutD HT.sIx
    have n1 : ¬ (b : Int) < 0 := by omega
    simp only [n1, if_false, Int.toNat_natCast, nL_len]
    rw [Nat.min_eq_left (by omega)]
    unfold nL
    rw [← List.map_drop, List.take_of_length_le (by simp)]
  have e2 : cutD (nL row) none (some (b : Int)) = nL (row.take b) := by
    unfold cutD HT.sIx
    have n1 : ¬ (b : Int) < 0 := by omega
    simp only [n1, if_false, Int.toNat_natCast, nL_len]
    rw [Nat.min_eq_left (by omega)]
    unfold nL
    rw [List.drop_zero, Nat.sub_zero, List.map_take]
  have e3 : nL (trn row b) = nL (row.drop b) ++ nL (row.take b) := List.map_append
  have ll := nL_len row
  have l1 := nL_len (row.drop b)
  have l2 := nL_len (row.take b)
  have sz : (nL (row.drop b)).length + (nL (row.take b)).length ≤ 16777216 := by
    rw [l1, l2, List.length_drop, List.length_take]
    omega
  have md : (b : Int) % (row.length : Int) = b := Int.emod_eq_of_lt (by omega) (by omega)
  have lg : Nat.log2 row.length < 9000 := by
    have : ∀ n, n ≤ 60 → Nat.log2 n < 9000 := by decide
    exact this _ hl
  have n0 : (0 : Int) < row.length := by omega
  have n0' : 0 < row.length := by omega
  unfold f_turned runD m_turned
  unfold tN at *
  rw [e3]
  generalize nL (row.drop b) = A at *
  generalize nL (row.take b) = B at *
  generalize nL row = R at *
  simp [ll, md, lg, n0, n0', e1, e2, gTuple, sz]
theorem rule_init {c k : Nat} {t : List Nat} (h : Ru c k t) {d : D} (hd : d = tN t ∨ d = .lst (nL t)) : f_Rule_init 300 [.own (.ins 0 []), .val (.int c), .val (.int k), .val d] = some (.d .non, [.own (.ins 0 [.int c, .int k, tN t]), .val (.int c), .val (.int k), .val d]) := by
  obtain ⟨c2, c4, k5⟩ := h.c2
  have k1 := h.k1
  obtain ⟨o, e⟩ := raised_ok h.cn
  have hp : c ^ k ≤ 32 := h.cn.ex (P := fun c k => c ^ k ≤ 32) (by decide) (by decide) (by decide) (by decide) (by decide) (by decide) (by decide) (by decide) (by decide) (by decide) (by decide) (by decide) (by decide)
  have ht := h.tl
  have cc := comp1 (fun (u : Nat) => D.int u) (fun _ => D.bl true) (k := 4) (m := eChain gLe gLt (eK (.int 0)) (eVar 4) (eVar 1)) t [.own (.ins 0 [.int c, .int k, tN t]), .val (.int c), .val (.int k), .val d, .none] rfl (by omega) (fun u hu => by
    have h1 := h.lt u hu
    generalize tN t = T at *
    simp [h1])
  have a := all_y t
  have ll := nL_len t
  rw [show t.map (fun (u : Nat) => D.int u) = nL t from rfl] at cc
  have hp2 : ((c ^ k : Nat) : Int) ≤ 32 := by omega
  have hll : ((nL t).length : Int) = ((c ^ k : Nat) : Int) := by rw [ll, ht]
  have n1 : ¬ (1024 : Int) < ((c ^ k : Nat) : Int) := by omega
  have a1 : (2 : Int) ≤ c := by omega
  have a2 : (c : Int) ≤ 4 := by omega
  have a3 : (1 : Int) ≤ k := by omega
  have a4 : (k : Int) ≤ 9 := by omega
  have a5 : k ≤ 9 := by omega
  clear hp hp2 ht h
  unfold tN at *
  generalize ((c ^ k : Nat) : Int) = z at *
  generalize (t.map fun _ => D.bl true) = Y at *
  generalize nL t = T at *
  unfold f_Rule_init runD m_Rule_init
  rcases hd with rfl | rfl <;> simp [e, cc, a, hll, n1, a1, a2, a3, a4, a5, c2, c4, k1, gTuple, truD, outsOf]
/-! ### the graph of nodes -/
abbrev NW := List Nat × List Nat
def ex1 (here way : List Nat) (L : List NW) (x : Nat) : List NW := if (here ++ [x]).tail ∈ L.map (·.1) then L else L ++ [((here ++ [x]).tail, way ++ [x])]
def exA (c : Nat) (here way : List Nat) (L : List NW) : List NW := (List.range c).foldl (ex1 here way) L
def bf (c : Nat) : Nat → Nat → List NW → List NW
  | 0, _, L => L
  | f + 1, a, L => match L[a]? with
    | some p => bf c f (a + 1) (exA c p.1 p.2 L)
    | none => L
def fin (c k : Nat) : List NW := bf c 40 0 [(List.replicate (k - 1) 0, [])]
def finOk (c k : Nat) : Bool := (ws c (k - 1)).all (fun v => decide (v ∈ (fin c k).map (·.1))) && (fin c k).all (fun p => decide (p.2.length ≤ 10) && decide (wk (List.replicate (k - 1) 0) p.2 = p.1) && decide (p.1.length = k - 1) && p.2.all (fun x => decide (x < c)) && p.1.all (fun x => decide (x < c))) && decide ((fin c k).map (·.1)).Nodup && decide ((fin c k).length ≤ 30)
theorem fin_ok {c k : Nat} (h : CN c k) : finOk c k = true := h.ex (P := fun c k => finOk c k = true) (by decide +kernel) (by decide +kernel) (by decide +kernel) (by decide +kernel) (by decide +kernel) (by decide +kernel) (by decide +kernel) (by decide +kernel) (by decide +kernel) (by decide +kernel) (by decide +kernel) (by decide +kernel) (by decide +kernel)
end K63
set_option linter.all false
set_option maxRecDepth 100000
namespace K63
open PySem L2 MP
theorem eqKs_n : ∀ r q : List Nat, eqKs (nL r) (nL q) = decide (r = q)
  | [], [] => by simp [eqKs]
  | [], y :: q => by simp [eqKs]
  | x :: r, [] => by simp [eqKs]
  | x :: r, y :: q => by
    have := eqKs_n r q
    unfold nL at *
    have hx : eqKy (.int (x : Int)) (.int (y : Int)) = decide (x = y) := eqKy_n x y
    simp only [List.map_cons, eqKs, hx, this]
    rw [Bool.eq_iff_iff]
    simp
theorem eqKy_N (r q : List Nat) : eqKy (tN r) (tN q) = decide (r = q) := by
  simp only [eqKy, eqKs_n]
theorem nkDs_n : ∀ r : List Nat, nkDs (nL r) = some (r.map fun (u : Nat) => .num u)
  | [] => by simp [nkDs]
  | x :: r => by
    have := nkDs_n r
    unfold nL at *
    simp [nkDs, nkD, this]
theorem noTs_n : ∀ r : List Nat, noTs (r.map fun (u : Nat) => NestedKey.num u) = true
  | [] => by simp [noTs]
  | x :: r => by simp [noTs, noT, noTs_n r]
theorem dep_n : ∀ r : List Nat, NestedKey.depthAll (r.map fun (u : Nat) => NestedKey.num u) = 0
  | [] => by simp [NestedKey.depthAll]
  | x :: r => by simp [NestedKey.depthAll, NestedKey.depth, dep_n r]
theorem okN_n (r : List Nat) : okN (.tup (r.map fun (u : Nat) => .num u)) = true := by
  unfold okN
  simp only [noT, noTs_n, NestedKey.depth, dep_n]
  decide
theorem nkD_n (r : List Nat) : nkD (tN r) = some (.tup (r.map fun (u : Nat) => .num u)) := by simp [nkD, nkDs_n]
theorem okKy_N (r : List Nat) : okKy true (tN r) = true := by
  have h := nkD_n r
  unfold okKy
  simp only [h]
  exact okN_n r
/-! dicts over nodes -/
def kvL (val : NW → D) (L : List NW) : List (D × D) := L.map fun p => (tN p.1, val p)
theorem kv_has (val : NW → D) (w : List Nat) (L : List NW) : dHas (kvL val L) (tN w) = decide (w ∈ L.map (·.1)) := by
  unfold dHas kvL
  rw [List.any_map]
  by_cases c : w ∈ L.map (·.1)
  · rw [decide_eq_true c, List.any_eq_true]
    obtain ⟨p, hp, e⟩ := List.mem_map.1 c
    refine ⟨p, hp, ?_⟩
    simp only [Function.comp_apply, eqKy_N]
    exact decide_eq_true e
  · rw [decide_eq_false c, List.any_eq_false]
    intro p hp
    simp only [Function.comp_apply, eqKy_N]
    exact fun z => c (List.mem_map.2 ⟨p, hp, of_decide_eq_true z⟩)
theorem kv_put (val : NW → D) {w y : List Nat} {L : List NW} {d : D} (h : w ∉ L.map (·.1)) (hd : d = val (w, y)) : dPut (kvL val L) (tN w) d = kvL val (L ++ [(w, y)]) := by
  unfold dPut
  rw [kv_has, decide_eq_false h, hd]
  unfold kvL
  rw [List.map_append]
  rfl
theorem kv_find (val : NW → D) {p : NW} : ∀ {L : List NW}, (L.map (·.1)).Nodup → p ∈ L → dFind (kvL val L) (tN p.1) = some (val p)
  | [], _, h => by cases h
  | q :: L, nd, h => by
    rw [List.map_cons, List.nodup_cons] at nd
    unfold dFind kvL
    rw [List.map_cons, List.find?_cons]
    simp only [eqKy_N]
    by_cases e : q.1 = p.1
    · have : q = p := by
        rcases List.mem_cons.1 h with rfl | h
        · rfl
        · exact absurd (List.mem_map.2 ⟨p, h, e.symm⟩) nd.1
      subst this
      simp
    · have h' : p ∈ L := by
        rcases List.mem_cons.1 h with rfl | h
        · exact absurd rfl e
        · exact h
      have := kv_find val (p := p) nd.2 h'
      unfold dFind kvL at this
      rw [decide_eq_false e]
      exact this
theorem kv_len (val : NW → D) (L : List NW) : (kvL val L).length = L.length := by simp [kvL]
/-! the search -/
structure Iv (c k : Nat) (L : List NW) : Prop where
  nd : (L.map (·.1)).Nodup
  ok : ∀ p ∈ L, p.1.length = k - 1 ∧ (∀ x ∈ p.1, x < c) ∧ wk (List.replicate (k - 1) 0) p.2 = p.1 ∧ p.2.length ≤ 100
  len : L.length ≤ 1000
def fl (c k : Nat) (t : List Nat) (W : List Int) (p : NW) : D := .int (pg c t W (List.replicate (k - 1) 0) p.2)
def wy (p : NW) : D := tN p.2
def qD (L : List NW) : List D := L.map fun p => tN p.1
abbrev fB : Xs := (sSeq (sAsg (eBin gAdd (eVar 7) (eTup (aL [(eVar 8)]))) (gNm 9))
    (sSeq (sAsg (eSl (eVar 9) (oSm (eK (.int 1))) oNo) (gNm 10))
    (sIf (tOfB (eBin (gDin true) (eVar 10) (eVar 3))) (sSeq (sDPut 3 (eVar 10) (eBin gAdd (eBin gDix (eVar 3) (eVar 7)) (eCall (f_gain 300) (aL [(eVar 0), (eVar 1), (eVar 9)]))))
    (sSeq (sDPut 4 (eVar 10) (eBin gAdd (eBin gDix (eVar 4) (eVar 7)) (eTup (aL [(eVar 8)]))))
    (sExp (eMt gAppend 5 (aL [(eVar 10)]))))) sNext)))
theorem cut_tail (w : List Nat) (h : 1 ≤ w.length) : cutD (nL w) (some 1) none = nL w.tail := by
  unfold cutD HT.sIx
  have n1 : ¬ (1 : Int) < 0 := by decide
  simp only [n1, if_false, nL_len]
  rw [show (1 : Int).toNat = 1 from rfl, Nat.min_eq_left h]
  unfold nL
  rw [← List.map_drop, List.take_of_length_le (by simp)]
  rw [List.drop_one]
theorem fB_ok {c k : Nat} {t : List Nat} (h : Ru c k t) {W : List Int} (hW : W.length = c) {L : List NW} {p : NW} (iv : Iv c k L) (hp : p ∈ L) {x : Nat} (hx : x < c) (hL : L.length < 1000) (hp2 : p.2.length < 100) (s2 s6 s9 s10 : MP.Slot) (h9 : ∀ o, s9 ≠ .own o) (h10 : ∀ o, s10 ≠ .own o) :
    Iv c k (ex1 p.1 p.2 L x) ∧ ∃ s9' s10', (∀ o, s9' ≠ .own o) ∧ (∀ o, s10' ≠ .own o) ∧ fB [.val (ru c k t), .val (wD W), s2, .own (.dct true (kvL (fl c k t W) L)), .own (.dct true (kvL wy L)), .own (.lst (qD L)), s6, .val (tN p.1), .val (.int x), s9, s10] =
      some (.nx, [.val (ru c k t), .val (wD W), s2, .own (.dct true (kvL (fl c k t W) (ex1 p.1 p.2 L x))), .own (.dct true (kvL wy (ex1 p.1 p.2 L x))), .own (.lst (qD (ex1 p.1 p.2 L x))), s6, .val (tN p.1), .val (.int x), s9', s10']) := by
  obtain ⟨q1, q2, q3, q4⟩ := iv.ok p hp
  have k1 := h.k1
  have hwl : (p.1 ++ [x]).length = k := by simp [q1]; omega
  have hwc : ∀ y ∈ p.1 ++ [x], y < c := fun y hy => by
    rcases List.mem_append.1 hy with hy | hy
    · exact q2 y hy
    · rw [List.mem_singleton.1 hy]; exact hx
  obtain ⟨o, eg⟩ := gain_ok h hW hwl hwc
  have ct := cut_tail (p.1 ++ [x]) (by simp)
  have ea : nL (p.1 ++ [x]) = nL p.1 ++ [.int (x : Nat)] := List.map_append
  have f1 := kv_find (fl c k t W) iv.nd hp
  have f2 := kv_find wy iv.nd hp
  have ok1 := okKy_N p.1
  have ok2 := okKy_N (p.1 ++ [x]).tail
  have l1 := nL_len p.1
  have sz : (nL p.1).length + 1 ≤ 16777216 := by
    obtain ⟨_, _, k5⟩ := h.c2
    omega
  have hh := kv_has (fl c k t W) (p.1 ++ [x]).tail L
  have s1 : sSeq (sAsg (eBin gAdd (eVar 7) (eTup (aL [(eVar 8)]))) (gNm 9)) (sAsg (eSl (eVar 9) (oSm (eK (.int 1))) oNo) (gNm 10)) = sSeq (sAsg (eBin gAdd (eVar 7) (eTup (aL [(eVar 8)]))) (gNm 9)) (sAsg (eSl (eVar 9) (oSm (eK (.int 1))) oNo) (gNm 10)) := rfl
  clear s1
  unfold fB
  rw [sSeq_nx (e1 := [.val (ru c k t), .val (wD W), s2, .own (.dct true (kvL (fl c k t W) L)), .own (.dct true (kvL wy L)), .own (.lst (qD L)), s6, .val (tN p.1), .val (.int x), .val (tN (p.1 ++ [x])), s10]) (by
    unfold tN
    rw [ea]
    generalize nL p.1 = P at *
    generalize ru c k t = U at *
    generalize kvL (fl c k t W) L = KF at *
    generalize kvL wy L = KW at *
    generalize qD L = Q at *
    simp [sz])]
  rw [sSeq_nx (e1 := [.val (ru c k t), .val (wD W), s2, .own (.dct true (kvL (fl c k t W) L)), .own (.dct true (kvL wy L)), .own (.lst (qD L)), s6, .val (tN p.1), .val (.int x), .val (tN (p.1 ++ [x])), .val (tN (p.1 ++ [x]).tail)]) (by
    unfold tN
    generalize nL p.1 = P at *
    generalize nL (p.1 ++ [x]).tail = TT at *
    generalize nL (p.1 ++ [x]) = PP at *
    generalize ru c k t = U at *
    generalize kvL (fl c k t W) L = KF at *
    generalize kvL wy L = KW at *
    generalize qD L = Q at *
    simp [ct])]
  by_cases cc : (p.1 ++ [x]).tail ∈ L.map (·.1)
  · have ex : ex1 p.1 p.2 L x = L := by
      unfold ex1
      rw [if_pos cc]
    rw [ex]
    refine ⟨iv, .val (tN (p.1 ++ [x])), .val (tN (p.1 ++ [x]).tail), by simp, by simp, ?_⟩
    rw [decide_eq_true cc] at hh
    generalize tN (p.1 ++ [x]).tail = TT at *
    generalize tN (p.1 ++ [x]) = PP at *
    generalize tN p.1 = P at *
    generalize ru c k t = U at *
    generalize kvL (fl c k t W) L = KF at *
    generalize kvL wy L = KW at *
    generalize qD L = Q at *
    simp [hh, ok2]
  · have ex : ex1 p.1 p.2 L x = L ++ [((p.1 ++ [x]).tail, p.2 ++ [x])] := by
      unfold ex1
      rw [if_neg cc]
    rw [ex]
    have hpg : pg c t W (List.replicate (k - 1) 0) (p.2 ++ [x]) = pg c t W (List.replicate (k - 1) 0) p.2 + gn c t W (p.1 ++ [x]) := by
      rw [pg_app, q3, pg, pg]
      omega
    refine ⟨⟨?_, fun q hq => ?_, by simp; omega⟩, .val (tN (p.1 ++ [x])), .val (tN (p.1 ++ [x]).tail), by simp, by simp, ?_⟩
    · rw [List.map_append]
      refine List.nodup_append.2 ⟨iv.nd, by simp, fun a ha b hb e => ?_⟩
      subst e
      have e : a = (p.1 ++ [x]).tail := by simpa using hb
      exact cc (e ▸ ha)
    · rcases List.mem_append.1 hq with hq | hq
      · exact iv.ok q hq
      · rw [List.mem_singleton.1 hq]
        refine ⟨by simp [q1], fun y hy => hwc y (List.mem_of_mem_tail hy), ?_, by simp; omega⟩
        rw [wk_app, q3, wk, wk]
    · rw [decide_eq_false cc] at hh
      have p1 := kv_put (fl c k t W) (y := p.2 ++ [x]) cc (d := .int (pg c t W (List.replicate (k - 1) 0) p.2 + gn c t W (p.1 ++ [x]))) (by unfold fl; rw [hpg])
      have p2 := kv_put wy (y := p.2 ++ [x]) cc (d := tN (p.2 ++ [x])) rfl
      have eq : qD (L ++ [((p.1 ++ [x]).tail, p.2 ++ [x])]) = qD L ++ [tN (p.1 ++ [x]).tail] := by
        unfold qD
        rw [List.map_append]
        rfl
      have n1 := kv_len (fl c k t W) L
      have n2 := kv_len wy L
      have n3 : (qD L).length = L.length := by simp [qD]
      have e2 : nL (p.2 ++ [x]) = nL p.2 ++ [.int (x : Nat)] := List.map_append
      have l2 := nL_len p.2
      have sz2 : (nL p.2).length + 1 ≤ 16777216 := by omega
      have b1 : L.length < 16777216 := by omega
      rw [eq]
      have f1 : dFind (kvL (fl c k t W) L) (.tup (nL p.1)) = some (.int (pg c t W (List.replicate (k - 1) 0) p.2)) := f1
      have f2 : dFind (kvL wy L) (.tup (nL p.1)) = some (.tup (nL p.2)) := f2
      have p2 : dPut (kvL wy L) (.tup (nL (p.1 ++ [x]).tail)) (.tup (nL (p.2 ++ [x]))) = kvL wy (L ++ [((p.1 ++ [x]).tail, p.2 ++ [x])]) := p2
      rw [e2] at p2
      unfold tN at *
      generalize kvL (fl c k t W) (L ++ [((p.1 ++ [x]).tail, p.2 ++ [x])]) = KF2 at *
      generalize kvL wy (L ++ [((p.1 ++ [x]).tail, p.2 ++ [x])]) = KW2 at *
      generalize nL (p.1 ++ [x]).tail = TT at *
      generalize nL (p.1 ++ [x]) = PP at *
      generalize nL p.1 = P at *
      generalize nL p.2 = P2 at *
      generalize ru c k t = U at *
      generalize qD L = Q at *
      generalize hK : kvL (fl c k t W) L = KF at *
      generalize hK2 : kvL wy L = KW at *
      clear hK hK2
      simp [hh, ok1, ok2, f1, f2, eg, p1, p2, n1, n2, n3, sz2, b1]
end K63
set_option linter.all false
set_option maxRecDepth 100000
namespace K63
open PySem L2 MP
theorem ex1_mem {here way : List Nat} {L : List NW} {x : Nat} {q : NW} (h : q ∈ ex1 here way L x) : q ∈ L ∨ q.2.length = way.length + 1 := by
  unfold ex1 at h
  split at h
  · exact .inl h
  · rcases List.mem_append.1 h with h | h
    · exact .inl h
    · rw [List.mem_singleton.1 h]
      exact .inr (by simp)
theorem ex1_sub {here way : List Nat} {L : List NW} {x : Nat} {q : NW} (h : q ∈ L) : q ∈ ex1 here way L x := by
  unfold ex1
  split
  · exact h
  · exact List.mem_append_left _ h
theorem ex1_len {here way : List Nat} {L : List NW} {x : Nat} : (ex1 here way L x).length ≤ L.length + 1 := by
  unfold ex1
  split
  · omega
  · simp
theorem in_loop {c k : Nat} {t : List Nat} (h : Ru c k t) {W : List Int} (hW : W.length = c) {p : NW} (s2 s6 : MP.Slot) (hp2 : p.2.length < 100) : ∀ (xs : List Nat) {L : List NW} (s8 s9 s10 : MP.Slot), Iv c k L → p ∈ L → (∀ x ∈ xs, x < c) → L.length + xs.length < 1000 → (∀ o, s8 ≠ .own o) → (∀ o, s9 ≠ .own o) → (∀ o, s10 ≠ .own o) →
    Iv c k (xs.foldl (ex1 p.1 p.2) L) ∧ (xs.foldl (ex1 p.1 p.2) L).length ≤ L.length + xs.length ∧ (∀ q ∈ xs.foldl (ex1 p.1 p.2) L, q ∈ L ∨ q.2.length = p.2.length + 1) ∧ ∃ s8' s9' s10', (∀ o, s8' ≠ .own o) ∧ (∀ o, s9' ≠ .own o) ∧ (∀ o, s10' ≠ .own o) ∧
    sLoop (gNm 8) fB (nL xs) [.val (ru c k t), .val (wD W), s2, .own (.dct true (kvL (fl c k t W) L)), .own (.dct true (kvL wy L)), .own (.lst (qD L)), s6, .val (tN p.1), s8, s9, s10] =
      some (.nx, [.val (ru c k t), .val (wD W), s2, .own (.dct true (kvL (fl c k t W) (xs.foldl (ex1 p.1 p.2) L))), .own (.dct true (kvL wy (xs.foldl (ex1 p.1 p.2) L))), .own (.lst (qD (xs.foldl (ex1 p.1 p.2) L))), s6, .val (tN p.1), s8', s9', s10'])
  | [], L, s8, s9, s10, iv, hp, _, _, h8, h9, h10 => ⟨iv, Nat.le_refl _, fun q hq => .inl hq, s8, s9, s10, h8, h9, h10, rfl⟩
  | x :: xs, L, s8, s9, s10, iv, hp, hx, hl, h8, h9, h10 => by
    rw [List.length_cons] at hl
    obtain ⟨iv2, s9a, s10a, n9, n10, e⟩ := fB_ok h hW iv hp (hx x List.mem_cons_self) (by omega) hp2 s2 s6 s9 s10 h9 h10
    have l1 := ex1_len (here := p.1) (way := p.2) (L := L) (x := x)
    obtain ⟨i1, i2, i3, a, b, d, na, nb, nd, lp⟩ := in_loop h hW s2 s6 hp2 xs (L := ex1 p.1 p.2 L x) (.val (.int x)) s9a s10a iv2 (ex1_sub hp) (fun y hy => hx y (List.mem_cons_of_mem _ hy)) (by omega) (by simp) n9 n10
    rw [List.foldl_cons]
    refine ⟨i1, by rw [List.length_cons]; omega, fun q hq => ?_, a, b, d, na, nb, nd, ?_⟩
    · rcases i3 q hq with z | z
      · exact ex1_mem z
      · exact .inr z
    · rw [← lp, show nL (x :: xs) = D.int (x : Nat) :: nL xs from rfl]
      refine sLoop_cons ?_ e
      generalize ru c k t = U at *
      generalize kvL (fl c k t W) L = KF at *
      generalize kvL wy L = KW at *
      generalize qD L = Q at *
      generalize tN p.1 = P at *
      simp
abbrev wB : Xs := (sSeq (sAsg (eBin gIx (eVar 5) (eVar 6)) (gNm 7))
    (sSeq (sAsg (eBin gAdd (eVar 6) (eK (.int 1))) (gNm 6))
    (sFor (iR1 (aL [(eUn (gFld 0 0) (eVar 0))])) (gNm 8) fB)))
theorem rgN (n : Nat) : rgD 0 n = nL (List.range n) := by simp [rgD, nL]
theorem bf_loop {c k : Nat} {t : List Nat} (h : Ru c k t) {W : List Int} (hW : W.length = c) (s2 : MP.Slot) : ∀ (f a n : Nat) {L : List NW} (s7 s8 s9 s10 : MP.Slot), f + 1 ≤ n → a + f = 40 → (bf c f a L).length ≤ 30 → Iv c k L → (∀ p ∈ L, p.2.length ≤ a) → L.length ≤ 1 + 4 * a → (∀ o, s7 ≠ .own o) → (∀ o, s8 ≠ .own o) → (∀ o, s9 ≠ .own o) → (∀ o, s10 ≠ .own o) →
    ∃ s6' s7' s8' s9' s10', Iv c k (bf c f a L) ∧ sWhile n (tOfB (eBin gLt (eVar 6) (eCB gLen (aL [(eVar 5)])))) wB [.val (ru c k t), .val (wD W), s2, .own (.dct true (kvL (fl c k t W) L)), .own (.dct true (kvL wy L)), .own (.lst (qD L)), .val (.int a), s7, s8, s9, s10] =
      some (.nx, [.val (ru c k t), .val (wD W), s2, .own (.dct true (kvL (fl c k t W) (bf c f a L))), .own (.dct true (kvL wy (bf c f a L))), .own (.lst (qD (bf c f a L))), s6', s7', s8', s9', s10'])
  | f, a, 0, L, _, _, _, _, hn, _, _, _, _, _, _, _, _, _ => by omega
  | f, a, n + 1, L, s7, s8, s9, s10, hn, haf, hfin, iv, hway, hlen, h7, h8, h9, h10 => by
    have n3 : (qD L).length = L.length := by simp [qD]
    by_cases c1 : a < L.length
    · obtain ⟨f, rfl⟩ : ∃ g, f = g + 1 := by
        cases f with
        | zero =>
          exfalso
          have : (bf c 0 a L).length = L.length := rfl
          omega
        | succ g => exact ⟨g, rfl⟩
      have e0 : L[a]? = some L[a] := List.getElem?_eq_getElem c1
      have hm : L[a] ∈ L := List.getElem_mem c1
      have hb : bf c (f + 1) a L = bf c f (a + 1) (exA c L[a].1 L[a].2 L) := by rw [bf, e0]
      rw [hb] at hfin ⊢
      generalize hp : L[a] = p at *
      have hp2 : p.2.length < 100 := by have := hway p hm; omega
      obtain ⟨c2, c4, k5⟩ := h.c2
      have hx : ∀ x ∈ List.range c, x < c := fun x hx => List.mem_range.1 hx
      obtain ⟨i1, i2, i3, x8, x9, x10, n8, n9, n10, lp⟩ := in_loop h hW s2 (.val (.int ((a + 1 : Nat) : Int))) hp2 (List.range c) s8 s9 s10 iv hm hx (by rw [List.length_range]; omega) h8 h9 h10
      rw [List.length_range] at i2
      rw [show (List.range c).foldl (ex1 p.1 p.2) L = exA c p.1 p.2 L from rfl] at i1 i2 i3 lp
      obtain ⟨y6, y7, y8, y9, y10, j1, j2⟩ := bf_loop h hW s2 f (a + 1) n (L := exA c p.1 p.2 L) (.val (tN p.1)) x8 x9 x10 (by omega) (by omega) hfin i1 (fun q hq => by
        rcases i3 q hq with z | z
        · have := hway q z
          omega
        · have := hway p hm
          omega) (by omega) (by simp) n8 n9 n10
      refine ⟨y6, y7, y8, y9, y10, j1, ?_⟩
      rw [← j2]
      have t1 : tOfB (eBin gLt (eVar 6) (eCB gLen (aL [(eVar 5)]))) [.val (ru c k t), .val (wD W), s2, .own (.dct true (kvL (fl c k t W) L)), .own (.dct true (kvL wy L)), .own (.lst (qD L)), .val (.int a), s7, s8, s9, s10] = some (true, [.val (ru c k t), .val (wD W), s2, .own (.dct true (kvL (fl c k t W) L)), .own (.dct true (kvL wy L)), .own (.lst (qD L)), .val (.int a), s7, s8, s9, s10]) := by
        generalize ru c k t = U at *
        generalize kvL (fl c k t W) L = KF at *
        generalize kvL wy L = KW at *
        generalize qD L = Q at *
        have z1 : (a : Int) < Q.length := by omega
        have z2 : a < Q.length := by omega
        simp [z1, z2]
      refine sWhile_nx t1 ?_
      have eq : (qD L)[a]? = some (tN p.1) := by
        unfold qD
        rw [List.getElem?_map, e0]
        rfl
      have eq2 : atI (qD L) (a : Int) = some (tN p.1) := by rw [atI_cast, eq]
      have ok := okR_nat c (by omega)
      have er := rgN c
      unfold wB
      unfold ru at *
      generalize nL (List.range c) = XS at *
      generalize kvL (fl c k t W) L = KF at *
      generalize kvL wy L = KW at *
      generalize qD L = Q at *
      generalize kvL (fl c k t W) (exA c p.1 p.2 L) = KF2 at *
      generalize kvL wy (exA c p.1 p.2 L) = KW2 at *
      generalize qD (exA c p.1 p.2 L) = Q2 at *
      generalize tN p.1 = P at *
      generalize tN t = T at *
      have ca : (a : Int) + 1 = ((a + 1 : Nat) : Int) := rfl
      generalize ((a + 1 : Nat) : Int) = a1 at *
      rw [← lp]
      simp [eq2, ok, er, ca]
    · have e0 : L[a]? = none := List.getElem?_eq_none (by omega)
      have hb : bf c f a L = L := by
        cases f with
        | zero => rfl
        | succ g => rw [bf, e0]
      rw [hb]
      refine ⟨.val (.int a), s7, s8, s9, s10, iv, ?_⟩
      refine sWhile_no ?_
      generalize ru c k t = U at *
      generalize kvL (fl c k t W) L = KF at *
      generalize kvL wy L = KW at *
      generalize qD L = Q at *
      have z1 : ¬ (a : Int) < Q.length := by omega
      have z2 : ¬ a < Q.length := by omega
      simp [z1, z2]
end K63
set_option linter.all false
set_option maxRecDepth 100000
namespace K63
open PySem L2 MP
theorem CN.pred {c k : Nat} (h : CN c k) : CN c (k - 1) := by
  unfold CN at *
  omega
theorem pw_le {c k : Nat} (h : CN c k) : c ^ k ≤ 32 := h.ex (P := fun c k => c ^ k ≤ 32) (by decide) (by decide) (by decide) (by decide) (by decide) (by decide) (by decide) (by decide) (by decide) (by decide) (by decide) (by decide) (by decide)
theorem ws_len {c k : Nat} (h : CN c k) : (ws c k).length = c ^ k := h.ex (P := fun c k => (ws c k).length = c ^ k) (by decide) (by decide) (by decide) (by decide) (by decide) (by decide) (by decide) (by decide) (by decide) (by decide) (by decide) (by decide) (by decide)
theorem ws_0 {c k : Nat} (h : CN c k) : (ws c k)[0]? = some (List.replicate k 0) := h.ex (P := fun c k => (ws c k)[0]? = some (List.replicate k 0)) (by decide) (by decide) (by decide) (by decide) (by decide) (by decide) (by decide) (by decide) (by decide) (by decide) (by decide) (by decide) (by decide)
theorem nodes_ok {c k : Nat} {t : List Nat} (h : Ru c k t) : ∃ o, f_nodes_of 300 [.val (ru c k t)] = some (.d (.lst ((ws c (k - 1)).map tN)), o) := by
  have k1 := h.k1
  obtain ⟨o1, e1⟩ := raised_ok h.cn.pred
  obtain ⟨o2, e2⟩ := words_ok h.cn.pred
  have hp := pw_le h.cn.pred
  have hp2 : ¬ (64 : Int) < ((c ^ (k - 1) : Nat) : Int) := by omega
  have ck : (k : Int) - 1 = ((k - 1 : Nat) : Int) := by omega
  unfold ru
  unfold f_nodes_of runD m_nodes_of
  generalize ((c ^ (k - 1) : Nat) : Int) = z at *
  generalize ((k - 1 : Nat) : Int) = k' at *
  generalize (ws c (k - 1)).map tN = NS at *
  generalize tN t = T at *
  simp [ck, e1, e2, hp2]
structure FinOk (c k : Nat) : Prop where
  cov : ∀ v, v.length = k - 1 → (∀ x ∈ v, x < c) → ∃ p ∈ fin c k, p.1 = v
  ok : ∀ p ∈ fin c k, p.2.length ≤ 10 ∧ wk (List.replicate (k - 1) 0) p.2 = p.1 ∧ p.1.length = k - 1 ∧ (∀ x ∈ p.2, x < c) ∧ (∀ x ∈ p.1, x < c)
  nd : ((fin c k).map (·.1)).Nodup
  len : (fin c k).length ≤ 30
theorem finOk_of {c k : Nat} (h : CN c k) : FinOk c k := by
  have := fin_ok h
  unfold finOk at this
  simp only [Bool.and_eq_true, decide_eq_true_eq, List.all_eq_true] at this
  obtain ⟨⟨⟨h1, h2⟩, h3⟩, h4⟩ := this
  refine ⟨fun v hl hv => ?_, fun p hp => ?_, h3, h4⟩
  · have := h1 v ((mem_ws c (k - 1) v).2 ⟨hl, hv⟩)
    obtain ⟨p, hp, e⟩ := List.mem_map.1 this
    exact ⟨p, hp, e⟩
  · obtain ⟨⟨⟨⟨a, b⟩, c'⟩, d⟩, e⟩ := h2 p hp
    exact ⟨a, b, c', d, e⟩
theorem flows_ok {c k : Nat} {t : List Nat} (h : Ru c k t) {W : List Int} (hW : W.length = c) : ∃ o, f_flows 300 [.val (ru c k t), .val (wD W)] = some (.d (.tup [.dct true (kvL (fl c k t W) (fin c k)), .dct true (kvL wy (fin c k))]), o) := by
  obtain ⟨o1, e1⟩ := nodes_ok h
  have h0 := ws_0 h.cn.pred
  have ix : ((ws c (k - 1)).map tN)[0]? = some (tN (List.replicate (k - 1) 0)) := by rw [List.getElem?_map, h0]; rfl
  have F := finOk_of h.cn
  obtain ⟨c2, c4, k5⟩ := h.c2
  have iv : Iv c k [(List.replicate (k - 1) 0, [])] := ⟨by simp, fun p hp => by
    rw [List.mem_singleton.1 hp]
    exact ⟨by simp, fun x hx => by rw [List.eq_of_mem_replicate hx]; omega, rfl, by simp⟩, by simp⟩
  obtain ⟨y6, y7, y8, y9, y10, _, lp⟩ := bf_loop h hW (.val (.lst ((ws c (k - 1)).map tN))) 40 0 300 (L := [(List.replicate (k - 1) 0, [])]) .none .none .none .none (by decide) rfl F.len iv (fun p hp => by rw [List.mem_singleton.1 hp]; simp) (by simp) (by simp) (by simp) (by simp) (by simp)
  rw [show bf c 40 0 [(List.replicate (k - 1) 0, [])] = fin c k from rfl] at lp
  have k0 : kvL (fl c k t W) [(List.replicate (k - 1) 0, [])] = [(tN (List.replicate (k - 1) 0), .int 0)] := rfl
  have w0 : kvL wy [(List.replicate (k - 1) 0, [])] = [(tN (List.replicate (k - 1) 0), .tup [])] := rfl
  have q0 : qD [(List.replicate (k - 1) 0, [])] = [tN (List.replicate (k - 1) 0)] := rfl
  rw [k0, w0, q0] at lp
  have okk := okKy_N (List.replicate (k - 1) 0)
  unfold f_flows runD m_flows
  generalize kvL (fl c k t W) (fin c k) = KF at *
  generalize kvL wy (fin c k) = KW at *
  generalize qD (fin c k) = Q at *
  generalize tN (List.replicate (k - 1) 0) = HM at *
  generalize (ws c (k - 1)).map tN = NS at *
  generalize ru c k t = U at *
  simp [e1, ix, okk]
  rw [show ((0 : Nat) : Int) = 0 from rfl] at lp
  rw [lp]
  simp
/-! what is kept, told by flows -/
def wayOf (c k : Nat) (v : List Nat) : List Nat := (((fin c k).find? fun p => decide (p.1 = v)).map (·.2)).getD []
def flv (c k : Nat) (t : List Nat) (W : List Int) (v : List Nat) : Int := pg c t W (List.replicate (k - 1) 0) (wayOf c k v)
theorem way_at {c k : Nat} (h : CN c k) {v : List Nat} (hl : v.length = k - 1) (hv : ∀ x ∈ v, x < c) (val : NW → D) : dFind (kvL val (fin c k)) (tN v) = some (val (v, wayOf c k v)) ∧ wk (List.replicate (k - 1) 0) (wayOf c k v) = v ∧ (wayOf c k v).length ≤ 10 ∧ ∀ x ∈ wayOf c k v, x < c := by
  have F := finOk_of h
  obtain ⟨p, hp, e⟩ := F.cov v hl hv
  have f := kv_find val F.nd hp
  have e2 : wayOf c k v = p.2 := by
    unfold wayOf
    cases q : (fin c k).find? fun p => decide (p.1 = v) with
    | none =>
      have := List.find?_eq_none.1 q p hp
      simp [e] at this
    | some r =>
      have h1 := List.find?_some q
      have h2 := List.mem_of_find?_eq_some q
      have h3 : r.1 = p.1 := by rw [e]; simpa using h1
      have : r = p := by
        have f2 := kv_find (fun p => tN p.2) F.nd h2
        have f3 := kv_find (fun p => tN p.2) F.nd hp
        rw [h3, f3] at f2
        have f4 := Option.some.inj f2
        have : r.2 = p.2 := by
          have f5 : nL p.2 = nL r.2 := by injection f4
          have f6 := congrArg (List.map fun d => match d with | D.int z => z.toNat | _ => 0) f5
          simp [nL, Function.comp_def] at f6
          exact f6.symm
        exact Prod.ext h3 this
      rw [this]
      rfl
  obtain ⟨a, b, c', d, _⟩ := F.ok p hp
  rw [e2]
  have ep : p = (v, p.2) := Prod.ext e rfl
  refine ⟨?_, by rw [b, e], a, d⟩
  rw [← e]
  rw [f]
end K63
set_option linter.all false
set_option maxRecDepth 100000
namespace K63
open PySem L2 MP
abbrev sD (s : String) : D := .str (Str.ofString s)
abbrev hm (k : Nat) : List Nat := List.replicate (k - 1) 0
abbrev rB : Xs := (sSeq (sAsg (eBin gAdd (eVar 6) (eVar 5)) (gNm 7))
    (sIf (tAn (tOfB (eBin gGt (eCB gLen (aL [(eVar 7)])) (eK (.int 0)))) (tOfB (eBin gNe (eCall (f_worth 300) (aL [(eVar 1), (eVar 7)])) (eCall (f_worth 300) (aL [(eVar 1), (eCall (f_stepped 300) (aL [(eVar 0), (eVar 7)]))]))))) (sRet (eVar 7)) sNext))
theorem hm_lt {c k : Nat} (hc : 2 ≤ c) : ∀ x ∈ hm k, x < c := fun x hx => by rw [List.eq_of_mem_replicate hx]; omega
theorem rB_ok {c k : Nat} {t : List Nat} (h : Ru c k t) {W : List Int} (hW : W.length = c) {cells : List Nat} (hl : cells.length ≤ 11) (hc : ∀ x ∈ cells, x < c) (s2 s3 s4 s7 : MP.Slot) :
    (df c k t W (cells ++ hm k) = 0 → rB [.val (ru c k t), .val (wD W), s2, s3, s4, .val (tN (hm k)), .val (tN cells), s7] = some (.nx, [.val (ru c k t), .val (wD W), s2, s3, s4, .val (tN (hm k)), .val (tN cells), .val (tN (cells ++ hm k))])) ∧
    (df c k t W (cells ++ hm k) ≠ 0 → rB [.val (ru c k t), .val (wD W), s2, s3, s4, .val (tN (hm k)), .val (tN cells), s7] = some (.ret (.d (tN (cells ++ hm k))), [.val (ru c k t), .val (wD W), s2, s3, s4, .val (tN (hm k)), .val (tN cells), .val (tN (cells ++ hm k))])) := by
  obtain ⟨c2, c4, k5⟩ := h.c2
  have hr : ∀ x ∈ cells ++ hm k, x < c := fun x hx => by
    rcases List.mem_append.1 hx with hx | hx
    · exact hc x hx
    · exact hm_lt c2 x hx
  have hlen : (cells ++ hm k).length ≤ 60 := by simp; omega
  have ea : nL (cells ++ hm k) = nL cells ++ nL (hm k) := List.map_append
  have sz : (nL cells).length + (nL (hm k)).length ≤ 16777216 := by rw [nL_len, nL_len]; simp; omega
  have ll := nL_len (cells ++ hm k)
  by_cases h0 : (cells ++ hm k).length = 0
  · have e0 : cells ++ hm k = [] := List.length_eq_zero_iff.1 h0
    have d0 : df c k t W (cells ++ hm k) = 0 := by rw [e0]; rfl
    refine ⟨fun _ => ?_, fun z => absurd d0 z⟩
    rw [h0] at ll
    unfold rB
    unfold tN at *
    rw [ea] at *
    generalize nL cells = A at *
    generalize nL (hm k) = B at *
    generalize ru c k t = U at *
    generalize wD W = WW at *
    have hA : A ++ B = [] := List.length_eq_zero_iff.1 ll
    have z1 : (A ++ B).length = 0 := ll
    have z2 : A = [] ∧ B = [] := List.append_eq_nil_iff.1 hA
    obtain ⟨rfl, rfl⟩ := z2
    simp
  · obtain ⟨o1, e1⟩ := stepped_ok h (row := cells ++ hm k) (by omega) hlen hr
    obtain ⟨o2, e2⟩ := worth_ok (W := W) (row := cells ++ hm k) (by omega) (by rw [hW]; exact hr)
    obtain ⟨o3, e3⟩ := worth_ok (W := W) (row := st c k t (cells ++ hm k)) (by rw [st_len]; omega) (by rw [hW]; exact st_lt h (by omega) hr)
    have pos : (0 : Int) < (nL (cells ++ hm k)).length := by omega
    have pos2 : 0 < (nL (cells ++ hm k)).length := by omega
    unfold df
    generalize tot W (st c k t (cells ++ hm k)) = T1 at *
    generalize tot W (cells ++ hm k) = T0 at *
    unfold rB
    unfold tN at *
    rw [ea] at *
    generalize nL (st c k t (cells ++ hm k)) = S at *
    generalize nL cells = A at *
    generalize nL (hm k) = B at *
    generalize ru c k t = U at *
    generalize wD W = WW at *
    rw [List.length_append] at pos pos2
    have pos' : 0 < A.length + B.length := pos2
    refine ⟨fun z => ?_, fun z => ?_⟩
    · have z' : T0 = T1 := by omega
      have q1 : (0 : Int) < (A.length : Int) + (B.length : Int) := by omega
      simp [sz, e1, e2, e3, z', q1]
    · have z' : ¬ T0 = T1 := by omega
      have nn : A ≠ [] ∨ B ≠ [] := by
        by_cases q : A = []
        · right
          intro q2
          rw [q, q2] at pos'
          simp at pos'
        · exact .inl q
      have q1 : (0 : Int) < (A.length : Int) + (B.length : Int) := by omega
      simp [sz, e1, e2, e3, z', q1, pos']
theorem cut_init (w : List Nat) (h : 1 ≤ w.length) : cutD (nL w) none (some (-1)) = nL w.dropLast := by
  unfold cutD HT.sIx
  have n1 : (-1 : Int) < 0 := by decide
  simp only [n1, if_true, nL_len]
  rw [show ((-1 : Int) + (w.length : Nat)).toNat = w.length - 1 by omega]
  unfold nL
  rw [List.drop_zero, Nat.sub_zero, ← List.map_take, List.dropLast_eq_take]
theorem cut_last (w : List Nat) (h : 1 ≤ w.length) : cutD (nL w) (some (-1)) none = nL (w.drop (w.length - 1)) := by
  unfold cutD HT.sIx
  have n1 : (-1 : Int) < 0 := by decide
  simp only [n1, if_true, nL_len]
  rw [show ((-1 : Int) + (w.length : Nat)).toNat = w.length - 1 by omega]
  unfold nL
  rw [← List.map_drop, List.take_of_length_le (by simp)]
theorem drop_last (w : List Nat) (h : 1 ≤ w.length) : ∃ x, w.drop (w.length - 1) = [x] ∧ w = w.dropLast ++ [x] ∧ x ∈ w := by
  have hne : w ≠ [] := fun e => by rw [e] at h; simp at h
  have e := List.dropLast_concat_getLast hne
  refine ⟨w.getLast hne, ?_, e.symm, List.getLast_mem hne⟩
  rw [show w.length - 1 = w.dropLast.length by simp]
  calc w.drop w.dropLast.length = (w.dropLast ++ [w.getLast hne]).drop w.dropLast.length := by rw [e]
    _ = [w.getLast hne] := List.drop_left
/-- a window is told by flows -/
def dw (c k : Nat) (t : List Nat) (W : List Int) (w : List Nat) : Prop := flv c k t W w.tail - flv c k t W w.dropLast = gn c t W w
structure Lost (c k : Nat) (t : List Nat) (W : List Int) (row : List Nat) : Prop where
  len : 1 ≤ row.length ∧ row.length ≤ 30
  lt : ∀ x ∈ row, x < c
  df : df c k t W row ≠ 0
theorem lost_row_ok {c k : Nat} {t : List Nat} (h : Ru c k t) {W : List Int} (hW : W.length = c) {w : List Nat} (hl : w.length = k) (hw : ∀ x ∈ w, x < c) (hd : ¬ dw c k t W w) : ∃ (row : List Nat) (o : List MP.Slot), Lost c k t W row ∧ f_lost_row 300 [.val (ru c k t), .val (wD W), .val (.dct true (kvL wy (fin c k))), .val (tN w)] = some (.d (tN row), o) := by
  obtain ⟨c2, c4, k5⟩ := h.c2
  have k1 := h.k1
  obtain ⟨x, dl, wx, hxw⟩ := drop_last w (by omega)
  have tl : w.tail.length = k - 1 := by simp [hl]
  have il : w.dropLast.length = k - 1 := by simp [hl]
  have tlt : ∀ y ∈ w.tail, y < c := fun y hy => hw y (List.mem_of_mem_tail hy)
  have ilt : ∀ y ∈ w.dropLast, y < c := fun y hy => hw y ((List.dropLast_sublist w).subset hy)
  obtain ⟨f1, w1, l1, c1⟩ := way_at h.cn il ilt wy
  obtain ⟨f2, w2, l2, c2'⟩ := way_at h.cn tl tlt wy
  have key := lost_one (c := c) (t := t) (W := W) (home := hm k) (u := w.dropLast) (v := w.tail) (x := x) w1 w2 (by rw [← wx]) (by
    rw [← wx]
    exact hd)
  rw [show (hm k).length + 1 = k by simp; omega] at key
  have hxc := hw x hxw
  obtain ⟨o1, e1⟩ := nodes_ok h
  have h0 := ws_0 h.cn.pred
  have ix : ((ws c (k - 1)).map tN)[0]? = some (tN (hm k)) := by rw [List.getElem?_map, h0]; rfl
  have b1 := rB_ok h hW (cells := wayOf c k w.dropLast ++ [x]) (by simp; omega) (fun y hy => by
    rcases List.mem_append.1 hy with hy | hy
    · exact c1 y hy
    · rw [List.mem_singleton.1 hy]; exact hxc) (.val (.dct true (kvL wy (fin c k)))) (.val (tN w)) (.val (tN (hm k))) .none
  have b2 := fun s7 => rB_ok h hW (cells := wayOf c k w.tail) (by omega) c2' (.val (.dct true (kvL wy (fin c k)))) (.val (tN w)) (.val (tN (hm k))) s7
  have ci := cut_init w (by omega)
  have cl := cut_last w (by omega)
  have ct := cut_tail w (by omega)
  rw [dl] at cl
  have ea : nL (wayOf c k w.dropLast ++ [x]) = nL (wayOf c k w.dropLast) ++ nL [x] := List.map_append
  have sz : (nL (wayOf c k w.dropLast)).length + (nL [x]).length ≤ 16777216 := by rw [nL_len, nL_len]; simp; omega
  have ok1 := okKy_N w.dropLast
  have ok2 := okKy_N w.tail
  have f1 : dFind (kvL wy (fin c k)) (.tup (nL w.dropLast)) = some (.tup (nL (wayOf c k w.dropLast))) := f1
  have f2 : dFind (kvL wy (fin c k)) (.tup (nL w.tail)) = some (.tup (nL (wayOf c k w.tail))) := f2
  have head : ∀ (r : RetV) (e : MEnv), sLoop (gNm 6) rB [tN (wayOf c k w.dropLast ++ [x]), tN (wayOf c k w.tail)] [.val (ru c k t), .val (wD W), .val (.dct true (kvL wy (fin c k))), .val (tN w), .val (tN (hm k)), .val (tN (hm k)), .none, .none] = some (.ret r, e) → 4 ≤ e.length → ∃ o, f_lost_row 300 [.val (ru c k t), .val (wD W), .val (.dct true (kvL wy (fin c k))), .val (tN w)] = some (r, o) := by
    intro r e lp he
    unfold f_lost_row runD m_lost_row
    unfold tN at *
    rw [ea] at lp
    generalize kvL wy (fin c k) = KW at *
    generalize nL (wayOf c k w.dropLast) = WA at *
    generalize nL (wayOf c k w.tail) = WB at *
    generalize nL w.dropLast = WI at *
    generalize nL w.tail = WT at *
    generalize nL [x] = XX at *
    generalize nL w = WWW at *
    generalize nL (hm k) = HM at *
    generalize (ws c (k - 1)).map (fun l => D.tup (nL l)) = NS at *
    generalize ru c k t = U at *
    generalize wD W = WW at *
    simp [e1, ix, ci, cl, ct, ok1, ok2, f1, f2, sz]
    rw [lp]
    simp [he]
  by_cases d1 : df c k t W (wayOf c k w.dropLast ++ [x] ++ hm k) = 0
  · have d2 : df c k t W (wayOf c k w.tail ++ hm k) ≠ 0 := key.resolve_left fun z => z d1
    have hne : 1 ≤ (wayOf c k w.tail ++ hm k).length := by
      refine Nat.pos_of_ne_zero fun z => d2 ?_
      rw [List.length_eq_zero_iff.1 z]
      rfl
    obtain ⟨o, e⟩ := head (.d (tN (wayOf c k w.tail ++ hm k))) _ (by
      rw [sLoop_cons (e1 := [.val (ru c k t), .val (wD W), .val (.dct true (kvL wy (fin c k))), .val (tN w), .val (tN (hm k)), .val (tN (hm k)), .val (tN (wayOf c k w.dropLast ++ [x])), .none]) rfl (b1.1 d1)]
      exact sLoop_ret (e1 := [.val (ru c k t), .val (wD W), .val (.dct true (kvL wy (fin c k))), .val (tN w), .val (tN (hm k)), .val (tN (hm k)), .val (tN (wayOf c k w.tail)), _]) rfl ((b2 _).2 d2)) (by simp)
    exact ⟨_, o, ⟨⟨hne, by simp; omega⟩, fun y hy => (List.mem_append.1 hy).elim (c2' y) (hm_lt c2 y), d2⟩, e⟩
  · obtain ⟨o, e⟩ := head (.d (tN (wayOf c k w.dropLast ++ [x] ++ hm k))) _ (sLoop_ret (e1 := [.val (ru c k t), .val (wD W), .val (.dct true (kvL wy (fin c k))), .val (tN w), .val (tN (hm k)), .val (tN (hm k)), .val (tN (wayOf c k w.dropLast ++ [x])), .none]) rfl (b1.2 d1)) (by simp)
    refine ⟨_, o, ⟨⟨by simp; omega, by simp; omega⟩, fun y hy => ?_, d1⟩, e⟩
    rcases List.mem_append.1 hy with hy | hy
    · rcases List.mem_append.1 hy with hy | hy
      · exact c1 y hy
      · rw [List.mem_singleton.1 hy]; exact hxc
    · exact hm_lt c2 y hy
end K63
set_option linter.all false
set_option maxRecDepth 100000
namespace K63
open PySem L2 MP
abbrev kB : Xs := (sIf (tOfB (eBin gNe (eBin gSub (eBin gDix (eVar 2) (eSl (eVar 4) (oSm (eK (.int 1))) oNo)) (eBin gDix (eVar 2) (eSl (eVar 4) oNo (oSm (eUn gNeg (eK (.int 1))))))) (eCall (f_gain 300) (aL [(eVar 0), (eVar 1), (eVar 4)])))) (sRet (eTup (aL [(eK (sD "lost")), (eVar 0), (eVar 1), (eCall (f_lost_row 300) (aL [(eVar 0), (eVar 1), (eVar 3), (eVar 4)]))]))) sNext)
theorem kB_ok {c k : Nat} {t : List Nat} (h : Ru c k t) {W : List Int} (hW : W.length = c) {w : List Nat} (hl : w.length = k) (hw : ∀ x ∈ w, x < c) (s5 : MP.Slot) :
    (dw c k t W w → kB [.val (ru c k t), .val (wD W), .val (.dct true (kvL (fl c k t W) (fin c k))), .val (.dct true (kvL wy (fin c k))), .val (tN w), s5] = some (.nx, [.val (ru c k t), .val (wD W), .val (.dct true (kvL (fl c k t W) (fin c k))), .val (.dct true (kvL wy (fin c k))), .val (tN w), s5])) ∧
    (¬ dw c k t W w → ∃ row, Lost c k t W row ∧ kB [.val (ru c k t), .val (wD W), .val (.dct true (kvL (fl c k t W) (fin c k))), .val (.dct true (kvL wy (fin c k))), .val (tN w), s5] = some (.ret (.d (.tup [sD "lost", ru c k t, wD W, tN row])), [.val (ru c k t), .val (wD W), .val (.dct true (kvL (fl c k t W) (fin c k))), .val (.dct true (kvL wy (fin c k))), .val (tN w), s5])) := by
  have k1 := h.k1
  have tl : w.tail.length = k - 1 := by simp [hl]
  have il : w.dropLast.length = k - 1 := by simp [hl]
  have tlt : ∀ y ∈ w.tail, y < c := fun y hy => hw y (List.mem_of_mem_tail hy)
  have ilt : ∀ y ∈ w.dropLast, y < c := fun y hy => hw y ((List.dropLast_sublist w).subset hy)
  have f1 := (way_at h.cn il ilt (fl c k t W)).1
  have f2 := (way_at h.cn tl tlt (fl c k t W)).1
  have f1 : dFind (kvL (fl c k t W) (fin c k)) (.tup (nL w.dropLast)) = some (.int (flv c k t W w.dropLast)) := f1
  have f2 : dFind (kvL (fl c k t W) (fin c k)) (.tup (nL w.tail)) = some (.int (flv c k t W w.tail)) := f2
  obtain ⟨o1, e1⟩ := gain_ok h hW hl hw
  have ci := cut_init w (by omega)
  have ct := cut_tail w (by omega)
  have ok1 := okKy_N w.dropLast
  have ok2 := okKy_N w.tail
  have hlost := fun z => lost_row_ok h hW hl hw (by exact z)
  unfold dw at *
  unfold tN at *
  generalize kvL (fl c k t W) (fin c k) = KF at *
  generalize kvL wy (fin c k) = KW at *
  generalize flv c k t W w.dropLast = F1 at *
  generalize flv c k t W w.tail = F2 at *
  generalize gn c t W w = GN at *
  generalize nL w.dropLast = WI at *
  generalize nL w.tail = WT at *
  generalize nL w = WWW at *
  refine ⟨fun z => ?_, fun z => ?_⟩
  · generalize ru c k t = U at *
    generalize wD W = WW at *
    unfold kB
    simp [ci, ct, ok1, ok2, f1, f2, e1, z]
  · obtain ⟨row, o2, hrow, e2⟩ := hlost z
    refine ⟨row, hrow, ?_⟩
    generalize ru c k t = U at *
    generalize wD W = WW at *
    generalize nL row = R at *
    unfold kB
    simp [ci, ct, ok1, ok2, f1, f2, e1, z, e2]
theorem k_loop {c k : Nat} {t : List Nat} (h : Ru c k t) {W : List Int} (hW : W.length = c) : ∀ (L : List (List Nat)) (s4 : MP.Slot), (∀ w ∈ L, w.length = k ∧ ∀ x ∈ w, x < c) →
    ((∀ w ∈ L, dw c k t W w) → ∃ s4', (s4' = s4 ∨ ∃ d, s4' = .val d) ∧ sLoop (gNm 4) kB (L.map tN) [.val (ru c k t), .val (wD W), .val (.dct true (kvL (fl c k t W) (fin c k))), .val (.dct true (kvL wy (fin c k))), s4, .none] = some (.nx, [.val (ru c k t), .val (wD W), .val (.dct true (kvL (fl c k t W) (fin c k))), .val (.dct true (kvL wy (fin c k))), s4', .none])) ∧
    ((¬ ∀ w ∈ L, dw c k t W w) → ∃ row e, Lost c k t W row ∧ 2 ≤ e.length ∧ sLoop (gNm 4) kB (L.map tN) [.val (ru c k t), .val (wD W), .val (.dct true (kvL (fl c k t W) (fin c k))), .val (.dct true (kvL wy (fin c k))), s4, .none] = some (.ret (.d (.tup [sD "lost", ru c k t, wD W, tN row])), e))
  | [], s4, _ => ⟨fun _ => ⟨s4, .inl rfl, rfl⟩, fun z => absurd (by simp) z⟩
  | w :: L, s4, hL => by
    obtain ⟨hl, hw⟩ := hL w List.mem_cons_self
    obtain ⟨y, n⟩ := kB_ok h hW hl hw .none
    have hg : gNm 4 (tN w) [.val (ru c k t), .val (wD W), .val (.dct true (kvL (fl c k t W) (fin c k))), .val (.dct true (kvL wy (fin c k))), s4, .none] = some [.val (ru c k t), .val (wD W), .val (.dct true (kvL (fl c k t W) (fin c k))), .val (.dct true (kvL wy (fin c k))), .val (tN w), .none] := rfl
    rw [List.map_cons]
    by_cases d : dw c k t W w
    · obtain ⟨a, b⟩ := k_loop h hW L (.val (tN w)) fun v hv => hL v (List.mem_cons_of_mem _ hv)
      rw [sLoop_cons hg (y d)]
      refine ⟨fun z => ?_, fun z => b fun q => z fun v hv => ?_⟩
      · obtain ⟨s, h1, h2⟩ := a fun v hv => z v (List.mem_cons_of_mem _ hv)
        refine ⟨s, ?_, h2⟩
        rcases h1 with rfl | h1
        · exact .inr ⟨_, rfl⟩
        · exact .inr h1
      · rcases List.mem_cons.1 hv with rfl | hv
        · exact d
        · exact q v hv
    · obtain ⟨row, hr, e⟩ := n d
      refine ⟨fun z => absurd (z w List.mem_cons_self) d, fun _ => ⟨row, _, hr, ?_, sLoop_ret hg e⟩⟩
      simp
def Kept (c k : Nat) (t : List Nat) (W : List Int) : Prop := ∀ w ∈ ws c k, dw c k t W w
def flD (c k : Nat) (t : List Nat) (W : List Int) : List Int := (ws c (k - 1)).map (flv c k t W)
theorem kept_head {c k : Nat} {t : List Nat} (h : Ru c k t) {W : List Int} (hW : W.length = c) : ∀ r : Xs, sSeq (sAsg (eCall (f_checked_worths 300) (aL [(eVar 0), (eVar 1)])) (gNm 1)) (sSeq (sAsg (eCall (f_flows 300) (aL [(eVar 0), (eVar 1)])) (gTp 2 (gsCons (gNm 2) (gsCons (gNm 3) gsNil)))) r) [.val (ru c k t), .val (wD W), .none, .none, .none, .none] =
    r [.val (ru c k t), .val (wD W), .val (.dct true (kvL (fl c k t W) (fin c k))), .val (.dct true (kvL wy (fin c k))), .none, .none] := by
  intro r
  obtain ⟨o, e⟩ := flows_ok h hW
  have ec : f_checked_worths 300 [.val (ru c k t), .val (wD W)] = some (.d (wD W), [.val (ru c k t), .val (wD W)]) := by
    have hw : (W.map D.int).length = c := by rw [List.length_map, hW]
    unfold f_checked_worths runD m_checked_worths ru
    unfold wD
    generalize W.map D.int = WW at *
    generalize tN t = T at *
    simp [hw, gTuple, outsOf]
  generalize kvL (fl c k t W) (fin c k) = KF at *
  generalize kvL wy (fin c k) = KW at *
  generalize ru c k t = U at *
  generalize wD W = WW at *
  rw [sSeq_nx (e1 := [.val U, .val WW, .none, .none, .none, .none]) (by simp [ec])]
  rw [sSeq_nx (e1 := [.val U, .val WW, .val (.dct true KF), .val (.dct true KW), .none, .none]) (by simp [e])]
theorem kept_no {c k : Nat} {t : List Nat} (h : Ru c k t) {W : List Int} (hW : W.length = c) (hk : ¬ Kept c k t W) : ∃ row o, Lost c k t W row ∧ f_kept 300 [.val (ru c k t), .val (wD W)] = some (.d (.tup [sD "lost", ru c k t, wD W, tN row]), o) := by
  obtain ⟨_, b⟩ := k_loop h hW (ws c k) .none fun w hw => (mem_ws c k w).1 hw
  obtain ⟨row, e, hr, he, lp⟩ := b hk
  obtain ⟨o, ew⟩ := words_ok h.cn
  refine ⟨row, outsOf [.val (ru c k t), .val (wD W)] e, hr, ?_⟩
  unfold f_kept runD
  rw [show ([MP.Slot.val (ru c k t), .val (wD W)] ++ List.replicate (6 - [MP.Slot.val (ru c k t), .val (wD W)].length) MP.Slot.none) = [.val (ru c k t), .val (wD W), .none, .none, .none, .none] from rfl]
  have main : m_kept 300 [.val (ru c k t), .val (wD W), .none, .none, .none, .none] = some (.ret (.d (.tup [sD "lost", ru c k t, wD W, tN row])), e) := by
    unfold m_kept
    rw [kept_head h hW]
    unfold sSeq
    rw [show (sFor (iSq (eCall (f_words 300) (aL [(eUn (gFld 0 0) (eVar 0)), (eUn (gFld 0 1) (eVar 0))]))) (gNm 4) kB) [.val (ru c k t), .val (wD W), .val (.dct true (kvL (fl c k t W) (fin c k))), .val (.dct true (kvL wy (fin c k))), .none, .none] = some (.ret (.d (.tup [sD "lost", ru c k t, wD W, tN row])), e) by
      rw [← lp]
      unfold ru
      generalize kvL (fl c k t W) (fin c k) = KF at *
      generalize kvL wy (fin c k) = KW at *
      generalize wD W = WW at *
      generalize tN t = T at *
      generalize (ws c k).map tN = WS at *
      simp [ew]]
  rw [main]
  simp only
  rw [if_pos (by exact he)]
theorem kept_yes {c k : Nat} {t : List Nat} (h : Ru c k t) {W : List Int} (hW : W.length = c) (hk : Kept c k t W) : ∃ o, f_kept 300 [.val (ru c k t), .val (wD W)] = some (.d (.tup [sD "kept", ru c k t, wD W, wD (flD c k t W)]), o) := by
  obtain ⟨a, _⟩ := k_loop h hW (ws c k) .none fun w hw => (mem_ws c k w).1 hw
  obtain ⟨s4, h4, lp⟩ := a hk
  obtain ⟨o, ew⟩ := words_ok h.cn
  obtain ⟨o2, en⟩ := nodes_ok h
  have cc := comp1 tN (fun v => D.int (flv c k t W v)) (k := 5) (m := eBin gDix (eVar 2) (eVar 5)) (ws c (k - 1)) [.val (ru c k t), .val (wD W), .val (.dct true (kvL (fl c k t W) (fin c k))), .val (.dct true (kvL wy (fin c k))), s4, .none] rfl (by
    rw [ws_len h.cn.pred]
    have := pw_le h.cn.pred
    omega) (fun v hv => by
    obtain ⟨v1, v2⟩ := (mem_ws c (k - 1) v).1 hv
    have f1 : dFind (kvL (fl c k t W) (fin c k)) (tN v) = some (.int (flv c k t W v)) := (way_at h.cn v1 v2 (fl c k t W)).1
    have ok1 := okKy_N v
    generalize flv c k t W v = F at *
    generalize kvL (fl c k t W) (fin c k) = KF at *
    generalize kvL wy (fin c k) = KW at *
    generalize ru c k t = U at *
    generalize wD W = WW at *
    generalize tN v = V at *
    simp [f1, ok1])
  rw [show (ws c (k - 1)).map (fun v => D.int (flv c k t W v)) = (flD c k t W).map .int by
    unfold flD
    rw [List.map_map]
    rfl] at cc
  unfold f_kept runD
  rw [show ([MP.Slot.val (ru c k t), .val (wD W)] ++ List.replicate (6 - [MP.Slot.val (ru c k t), .val (wD W)].length) MP.Slot.none) = [.val (ru c k t), .val (wD W), .none, .none, .none, .none] from rfl]
  have main : m_kept 300 [.val (ru c k t), .val (wD W), .none, .none, .none, .none] = some (.ret (.d (.tup [sD "kept", ru c k t, wD W, wD (flD c k t W)])), [.val (ru c k t), .val (wD W), .val (.dct true (kvL (fl c k t W) (fin c k))), .val (.dct true (kvL wy (fin c k))), s4, .none]) := by
    unfold m_kept
    rw [kept_head h hW]
    rw [sSeq_nx (e1 := [.val (ru c k t), .val (wD W), .val (.dct true (kvL (fl c k t W) (fin c k))), .val (.dct true (kvL wy (fin c k))), s4, .none]) (by
      rw [← lp]
      unfold ru
      generalize kvL (fl c k t W) (fin c k) = KF at *
      generalize kvL wy (fin c k) = KW at *
      generalize wD W = WW at *
      generalize tN t = T at *
      generalize (ws c k).map tN = WS at *
      simp [ew])]
    unfold wD at *
    generalize (flD c k t W).map D.int = FF at *
    generalize kvL (fl c k t W) (fin c k) = KF at *
    generalize kvL wy (fin c k) = KW at *
    generalize W.map D.int = WW at *
    generalize (ws c (k - 1)).map tN = NS at *
    generalize ru c k t = U at *
    simp [en, cc, gTuple]
  rw [main]
  exact ⟨_, rfl⟩
end K63
set_option linter.all false
set_option maxRecDepth 100000
namespace K63
open PySem L2 MP
/-! worths added -/
theorem wo_map {n : Nat} {f : Nat → Int} {x : Nat} (h : x < n) : wo ((List.range n).map f) x = f x := by
  simp [wo, List.getD_eq_getElem?_getD, h]
def cmb (n : Nat) (A : List Int) (z : Int) (B : List Int) : List Int := (List.range n).map fun x => wo A x + z * wo B x
theorem gn_cmb {c k : Nat} {t : List Nat} (h : Ru c k t) (A : List Int) (z : Int) (B : List Int) {w : List Nat} (hl : w.length = k) (hw : ∀ x ∈ w, x < c) : gn c t (cmb c A z B) w = gn c t A w + z * gn c t B w := by
  have k1 := h.k1
  have h1 := h.tb_lt hl hw
  have h2 : w.headD 0 < c := by
    rw [← head_at (by omega), List.getD_eq_getElem?_getD, List.getElem?_eq_getElem (show 0 < w.length by omega)]
    exact hw _ (List.getElem_mem _)
  unfold gn cmb
  rw [wo_map h1, wo_map h2, Int.mul_sub]
  omega
theorem pg_cmb {c k : Nat} {t : List Nat} (h : Ru c k t) (A : List Int) (z : Int) (B : List Int) : ∀ (w u : List Nat), u.length = k - 1 → (∀ x ∈ u, x < c) → (∀ x ∈ w, x < c) → pg c t (cmb c A z B) u w = pg c t A u w + z * pg c t B u w
  | [], u, _, _, _ => by simp [pg]
  | x :: w, u, hl, hu, hw => by
    have k1 := h.k1
    have e1 : ∀ y ∈ u ++ [x], y < c := fun y hy => by
      rcases List.mem_append.1 hy with hy | hy
      · exact hu y hy
      · rw [List.mem_singleton.1 hy]; exact hw x List.mem_cons_self
    have ih := pg_cmb h A z B w (u ++ [x]).tail (by simp [hl]) (fun y hy => e1 y (List.mem_of_mem_tail hy)) fun y hy => hw y (List.mem_cons_of_mem _ hy)
    have g := gn_cmb h A z B (w := u ++ [x]) (by simp [hl]; omega) e1
    rw [pg, pg, pg, ih, g, Int.mul_add]
    omega
theorem flv_cmb {c k : Nat} {t : List Nat} (h : Ru c k t) (A : List Int) (z : Int) (B : List Int) {v : List Nat} (hl : v.length = k - 1) (hv : ∀ x ∈ v, x < c) : flv c k t (cmb c A z B) v = flv c k t A v + z * flv c k t B v := by
  obtain ⟨c2, _, _⟩ := h.c2
  obtain ⟨_, _, _, hw⟩ := way_at h.cn hl hv wy
  exact pg_cmb h A z B _ _ (by simp) (fun x hx => by rw [List.eq_of_mem_replicate hx]; omega) hw
/-- what a window lacks -/
def dl (c k : Nat) (t : List Nat) (W : List Int) (w : List Nat) : Int := flv c k t W w.tail - flv c k t W w.dropLast - gn c t W w
theorem dw_iff (c k : Nat) (t : List Nat) (W : List Int) (w : List Nat) : dw c k t W w ↔ dl c k t W w = 0 := by
  unfold dw dl
  omega
theorem dl_cmb {c k : Nat} {t : List Nat} (h : Ru c k t) (A : List Int) (z : Int) (B : List Int) {w : List Nat} (hl : w.length = k) (hw : ∀ x ∈ w, x < c) : dl c k t (cmb c A z B) w = dl c k t A w + z * dl c k t B w := by
  have k1 := h.k1
  have tlt : ∀ y ∈ w.tail, y < c := fun y hy => hw y (List.mem_of_mem_tail hy)
  have ilt : ∀ y ∈ w.dropLast, y < c := fun y hy => hw y ((List.dropLast_sublist w).subset hy)
  unfold dl
  rw [flv_cmb h A z B (by simp [hl]) tlt, flv_cmb h A z B (by simp [hl]) ilt, gn_cmb h A z B hl hw, Int.mul_sub, Int.mul_sub]
  omega
theorem kept_cmb {c k : Nat} {t : List Nat} (h : Ru c k t) {A : List Int} {z : Int} {B : List Int} (h1 : Kept c k t A) (h2 : Kept c k t B) : Kept c k t (cmb c A z B) := fun w hw => by
  obtain ⟨hl, hc⟩ := (mem_ws c k w).1 hw
  rw [dw_iff, dl_cmb h A z B hl hc, (dw_iff ..).1 (h1 w hw), (dw_iff ..).1 (h2 w hw)]
  simp
theorem lost_cmb1 {c k : Nat} {t : List Nat} (h : Ru c k t) {A : List Int} {z : Int} {B : List Int} (h1 : ¬ Kept c k t A) (h2 : Kept c k t B) : ¬ Kept c k t (cmb c A z B) := fun q => h1 fun w hw => by
  obtain ⟨hl, hc⟩ := (mem_ws c k w).1 hw
  have := (dw_iff ..).1 (q w hw)
  rw [dl_cmb h A z B hl hc, (dw_iff ..).1 (h2 w hw)] at this
  rw [dw_iff]
  simpa using this
theorem lost_cmb2 {c k : Nat} {t : List Nat} (h : Ru c k t) {A : List Int} {z : Int} {B : List Int} (hz : z ≠ 0) (h1 : Kept c k t A) (h2 : ¬ Kept c k t B) : ¬ Kept c k t (cmb c A z B) := fun q => h2 fun w hw => by
  obtain ⟨hl, hc⟩ := (mem_ws c k w).1 hw
  have := (dw_iff ..).1 (q w hw)
  rw [dl_cmb h A z B hl hc, (dw_iff ..).1 (h1 w hw), Int.zero_add] at this
  rw [dw_iff]
  rcases Int.mul_eq_zero.1 this with e | e
  · exact absurd e hz
  · exact e
/-! equal worths -/
theorem wo_rep {n x : Nat} (h : x < n) : wo (List.replicate n 5) x = 5 := by
  simp [wo, List.getD_eq_getElem?_getD, h]
theorem gn_rep {c k : Nat} {t : List Nat} (h : Ru c k t) {w : List Nat} (hl : w.length = k) (hw : ∀ x ∈ w, x < c) : gn c t (List.replicate c 5) w = 0 := by
  have k1 := h.k1
  have h1 := h.tb_lt hl hw
  have h2 : w.headD 0 < c := by
    rw [← head_at (by omega), List.getD_eq_getElem?_getD, List.getElem?_eq_getElem (show 0 < w.length by omega)]
    exact hw _ (List.getElem_mem _)
  unfold gn
  rw [wo_rep h1, wo_rep h2]
  rfl
theorem pg_rep {c k : Nat} {t : List Nat} (h : Ru c k t) : ∀ (w u : List Nat), u.length = k - 1 → (∀ x ∈ u, x < c) → (∀ x ∈ w, x < c) → pg c t (List.replicate c 5) u w = 0
  | [], u, _, _, _ => by simp [pg]
  | x :: w, u, hl, hu, hw => by
    have k1 := h.k1
    have e1 : ∀ y ∈ u ++ [x], y < c := fun y hy => by
      rcases List.mem_append.1 hy with hy | hy
      · exact hu y hy
      · rw [List.mem_singleton.1 hy]; exact hw x List.mem_cons_self
    rw [pg, gn_rep h (by simp [hl]; omega) e1, pg_rep h w (u ++ [x]).tail (by simp [hl]) (fun y hy => e1 y (List.mem_of_mem_tail hy)) fun y hy => hw y (List.mem_cons_of_mem _ hy)]
    rfl
theorem flv_rep {c k : Nat} {t : List Nat} (h : Ru c k t) {v : List Nat} (hl : v.length = k - 1) (hv : ∀ x ∈ v, x < c) : flv c k t (List.replicate c 5) v = 0 := by
  obtain ⟨c2, _, _⟩ := h.c2
  obtain ⟨_, _, _, hw⟩ := way_at h.cn hl hv wy
  exact pg_rep h _ _ (by simp) (fun x hx => by rw [List.eq_of_mem_replicate hx]; omega) hw
theorem kept_rep {c k : Nat} {t : List Nat} (h : Ru c k t) : Kept c k t (List.replicate c 5) ∧ flD c k t (List.replicate c 5) = List.replicate (c ^ (k - 1)) 0 := by
  have k1 := h.k1
  refine ⟨fun w hw => ?_, ?_⟩
  · obtain ⟨hl, hc⟩ := (mem_ws c k w).1 hw
    have tlt : ∀ y ∈ w.tail, y < c := fun y hy => hc y (List.mem_of_mem_tail hy)
    have ilt : ∀ y ∈ w.dropLast, y < c := fun y hy => hc y ((List.dropLast_sublist w).subset hy)
    unfold dw
    rw [flv_rep h (by simp [hl]) tlt, flv_rep h (by simp [hl]) ilt, gn_rep h hl hc]
    rfl
  · unfold flD
    rw [← ws_len h.cn.pred]
    refine List.eq_replicate_iff.2 ⟨by simp, fun z hz => ?_⟩
    obtain ⟨v, hv, rfl⟩ := List.mem_map.1 hz
    obtain ⟨h1, h2⟩ := (mem_ws c (k - 1) v).1 hv
    exact flv_rep h h1 h2
/-- kept: rings keep their worth -/
theorem kept_ring {c k : Nat} {t : List Nat} (h : Ru c k t) {W : List Int} (hk : Kept c k t W) {row : List Nat} (h0 : 0 < row.length) (hr : ∀ x ∈ row, x < c) : df c k t W row = 0 := by
  have k1 := h.k1
  obtain ⟨m, rfl⟩ : ∃ m, k = m + 1 := ⟨k - 1, by omega⟩
  refine kept_df (fl := flv c (m + 1) t W) h0 fun a ha => ?_
  obtain ⟨w1, w2⟩ := win_lt (k := m + 1) h0 hr a
  exact hk _ ((mem_ws c (m + 1) _).2 ⟨w1, w2⟩)
theorem kept_after {c k : Nat} {t : List Nat} (h : Ru c k t) {W : List Int} (hk : Kept c k t W) : ∀ (s : Nat) {row : List Nat}, 0 < row.length → (∀ x ∈ row, x < c) → tot W (itS c k t s row) = tot W row
  | 0, row, _, _ => rfl
  | s + 1, row, h0, hr => by
    have h1 := kept_ring h hk h0 hr
    unfold df at h1
    rw [itS, kept_after h hk s (by rw [st_len]; exact h0) (st_lt h h0 hr)]
    omega
/-! what is right -/
theorem ne_sD_lost : gEq (sD "lost") (sD "lost") = some (.bl true) := by
  have e : PyData.strOk (Str.ofString "lost") = true := by decide +kernel
  show (if shD (sD "lost") && shD (sD "lost") then some (D.bl (eqD (sD "lost") (sD "lost"))) else none) = _
  simp [shD, layD, depD, eqD, e]
theorem right_lost {c k : Nat} {t : List Nat} (h : Ru c k t) {W : List Int} (hW : W.length = c) {row : List Nat} (h1 : 1 ≤ row.length) (hl : row.length ≤ 60) (hr : ∀ x ∈ row, x < c) : ∃ o, f_kept_right 300 [.val (.tup [sD "lost", ru c k t, wD W, tN row])] = some (.d (.bl (decide (df c k t W row ≠ 0))), o) := by
  obtain ⟨o1, e1⟩ := is_row_ok (k := k) (t := t) h1 hl hr
  obtain ⟨o2, e2⟩ := worth_ok (W := W) (row := row) (by omega) (by rw [hW]; exact hr)
  obtain ⟨o3, e3⟩ := stepped_ok h h1 hl hr
  obtain ⟨o4, e4⟩ := worth_ok (W := W) (row := st c k t row) (by rw [st_len]; omega) (by rw [hW]; exact st_lt h h1 hr)
  have q := ne_sD_lost
  have hw : (W.map D.int).length = c := by rw [List.length_map, hW]
  have ed : decide (df c k t W row ≠ 0) = !decide (tot W row = tot W (st c k t row)) := by
    unfold df
    by_cases e : tot W row = tot W (st c k t row)
    · simp [e]
    · have : tot W (st c k t row) - tot W row ≠ 0 := by omega
      simp [e, this]
  rw [ed]
  unfold f_kept_right runD m_kept_right
  generalize tot W (st c k t row) = T1 at *
  generalize tot W row = T0 at *
  unfold sD at *
  generalize D.str (Str.ofString "lost") = SL at *
  unfold ru wD at *
  generalize tN (st c k t row) = S at *
  generalize tN row = R at *
  generalize W.map D.int = WW at *
  generalize tN t = T at *
  simp [hw, q, e1, e2, e3, e4, truD]
end K63
set_option linter.all false
set_option maxRecDepth 100000
namespace K63
open PySem L2 MP
abbrev nkN (v : List Nat) : NestedKey := .tup (v.map fun (u : Nat) => .num u)
theorem dzK_n : ∀ L : List (List Nat), dzK (L.map tN) = some (L.map nkN)
  | [] => rfl
  | v :: L => by
    have h1 := nkD_n v
    have h2 := okN_n v
    rw [List.map_cons, dzK, h1, dzK_n L]
    simp only [h2, if_true]
    rfl
theorem nkN_inj {a b : List Nat} (h : nkN a = nkN b) : a = b := by
  have h1 : (a.map fun (u : Nat) => NestedKey.num u) = b.map fun (u : Nat) => NestedKey.num u := by
    injection h
  have h2 := congrArg (List.map fun d => match d with | NestedKey.num z => z.toNat | _ => 0) h1
  simpa [Function.comp_def] using h2
theorem ws_nd {c k : Nat} (h : CN c k) : (ws c k).Nodup := h.ex (P := fun c k => (ws c k).Nodup) (by decide +kernel) (by decide +kernel) (by decide +kernel) (by decide +kernel) (by decide +kernel) (by decide +kernel) (by decide +kernel) (by decide +kernel) (by decide +kernel) (by decide +kernel) (by decide +kernel) (by decide +kernel) (by decide +kernel)
abbrev uB : Xs := (sIf (tOfB (eBin gNe (eBin gSub (eBin gDix (eVar 6) (eSl (eVar 7) (oSm (eK (.int 1))) oNo)) (eBin gDix (eVar 6) (eSl (eVar 7) oNo (oSm (eUn gNeg (eK (.int 1))))))) (eCall (f_gain 300) (aL [(eVar 2), (eVar 3), (eVar 7)])))) (sRet (eK (.bl false))) sNext)
def kvT (c k : Nat) (t : List Nat) (W : List Int) (z : Int) : List (D × D) := kvL (fun p => D.int (flv c k t W p.1 + z)) ((ws c (k - 1)).map fun v => (v, []))
theorem kvT_find {c k : Nat} (h : CN c k) (t : List Nat) (W : List Int) (z : Int) {v : List Nat} (hl : v.length = k - 1) (hv : ∀ x ∈ v, x < c) : dFind (kvT c k t W z) (.tup (nL v)) = some (.int (flv c k t W v + z)) := by
  have nd : (((ws c (k - 1)).map fun v => ((v, []) : NW)).map (·.1)).Nodup := by
    rw [List.map_map, show ((·.1) ∘ fun v => ((v, []) : NW)) = id from rfl, List.map_id]
    exact ws_nd h.pred
  exact kv_find (fun p => D.int (flv c k t W p.1 + z)) (p := (v, [])) nd (List.mem_map.2 ⟨v, (mem_ws c (k - 1) v).2 ⟨hl, hv⟩, rfl⟩)
theorem u_loop {c k : Nat} {t : List Nat} (h : Ru c k t) {W : List Int} (hW : W.length = c) (z : Int) (s0 s1 s4 s5 : MP.Slot) : ∀ (L : List (List Nat)) (s7 : MP.Slot), (∀ w ∈ L, (w.length = k ∧ ∀ x ∈ w, x < c) ∧ dw c k t W w) → ∃ s7', sLoop (gNm 7) uB (L.map tN) [s0, s1, .val (ru c k t), .val (wD W), s4, s5, .val (.dct true (kvT c k t W z)), s7] = some (.nx, [s0, s1, .val (ru c k t), .val (wD W), s4, s5, .val (.dct true (kvT c k t W z)), s7'])
  | [], s7, _ => ⟨s7, rfl⟩
  | w :: L, s7, hL => by
    obtain ⟨⟨hl, hw⟩, hd⟩ := hL w List.mem_cons_self
    obtain ⟨s7', ih⟩ := u_loop h hW z s0 s1 s4 s5 L (.val (tN w)) fun v hv => hL v (List.mem_cons_of_mem _ hv)
    refine ⟨s7', ?_⟩
    rw [List.map_cons, ← ih]
    have k1 := h.k1
    have tlt : ∀ y ∈ w.tail, y < c := fun y hy => hw y (List.mem_of_mem_tail hy)
    have ilt : ∀ y ∈ w.dropLast, y < c := fun y hy => hw y ((List.dropLast_sublist w).subset hy)
    have f1 := kvT_find h.cn t W z (v := w.dropLast) (by simp [hl]) ilt
    have f2 := kvT_find h.cn t W z (v := w.tail) (by simp [hl]) tlt
    obtain ⟨o1, e1⟩ := gain_ok h hW hl hw
    have ci := cut_init w (by omega)
    have ct := cut_tail w (by omega)
    have ok1 := okKy_N w.dropLast
    have ok2 := okKy_N w.tail
    unfold dw at hd
    rw [← hd] at e1
    have hz : flv c k t W w.tail + z - (flv c k t W w.dropLast + z) = flv c k t W w.tail - flv c k t W w.dropLast := by omega
    unfold tN at *
    generalize kvT c k t W z = KF at *
    generalize flv c k t W w.dropLast = F1 at *
    generalize flv c k t W w.tail = F2 at *
    generalize nL w.dropLast = WI at *
    generalize nL w.tail = WT at *
    generalize nL w = WWW at *
    generalize ru c k t = U at *
    generalize wD W = WW at *
    refine sLoop_cons (e1 := [s0, s1, .val U, .val WW, s4, s5, .val (.dct true KF), .val (.tup WWW)]) (by simp) ?_
    unfold uB
    simp [ci, ct, ok1, ok2, f1, f2, e1, hz]
theorem eq_sD_kl : gEq (sD "kept") (sD "lost") = some (.bl false) := by
  have e : PyData.strOk (Str.ofString "lost") = true := by decide +kernel
  have e2 : PyData.strOk (Str.ofString "kept") = true := by decide +kernel
  have e3 : (Str.ofString "kept" == Str.ofString "lost") = false := by decide +kernel
  show (if shD (sD "kept") && shD (sD "lost") then some (D.bl (eqD (sD "kept") (sD "lost"))) else none) = _
  simp [shD, layD, depD, eqD, e, e2, e3]
theorem right_kept {c k : Nat} {t : List Nat} (h : Ru c k t) {W : List Int} (hW : W.length = c) (hk : Kept c k t W) (z : Int) : ∃ o, f_kept_right 300 [.val (.tup [sD "kept", ru c k t, wD W, wD ((flD c k t W).map (· + z))])] = some (.d (.bl true), o) := by
  have k1 := h.k1
  obtain ⟨o1, e1⟩ := words_ok h.cn.pred
  obtain ⟨o2, e2⟩ := words_ok h.cn
  have q := eq_sD_kl
  have hw : (W.map D.int).length = c := by rw [List.length_map, hW]
  have ck : (k : Int) - 1 = ((k - 1 : Nat) : Int) := by omega
  have dz := dzK_n (ws c (k - 1))
  have nd : ((ws c (k - 1)).map nkN).Nodup := List.pairwise_map.2 ((ws_nd h.cn.pred).imp fun hne e => hne (nkN_inj e))
  have le : ((ws c (k - 1)).map tN).length = (((flD c k t W).map (· + z)).map D.int).length := by simp [flD]
  have l2 : ((ws c (k - 1)).map tN).length < 16777216 := by
    rw [List.length_map, ws_len h.cn.pred]
    have := pw_le h.cn.pred
    omega
  have hzip : ((ws c (k - 1)).map tN).zip (((flD c k t W).map (· + z)).map D.int) = kvT c k t W z := by
    unfold flD kvT kvL
    rw [List.map_map, List.map_map, List.map_map]
    exact List.zip_map' ..
  obtain ⟨s7, lp⟩ := u_loop h hW z (.val (.tup [sD "kept", ru c k t, wD W, wD ((flD c k t W).map (· + z))])) (.val (sD "kept")) (.val (wD ((flD c k t W).map (· + z)))) (.val (.lst ((ws c (k - 1)).map tN))) (ws c k) .none fun w hw => ⟨(mem_ws c k w).1 hw, hk w hw⟩
  unfold f_kept_right runD m_kept_right
  unfold sD at *
  generalize D.str (Str.ofString "kept") = SK at *
  unfold ru wD at *
  generalize kvT c k t W z = KV at *
  generalize (ws c (k - 1)).map nkN = NK' at *
  generalize (ws c (k - 1)).map tN = NS at *
  generalize (ws c k).map tN = WS at *
  generalize ((flD c k t W).map (· + z)).map D.int = FD at *
  generalize ((k - 1 : Nat) : Int) = km at *
  generalize W.map D.int = WW at *
  generalize tN t = T at *
  have le' : FD.length = NS.length := le.symm
  have l2' : FD.length < 16777216 := by omega
  simp [hw, q, e1, e2, ck, dz, nd, le', l2, l2', hzip]
  rw [lp]
  simp
theorem same_true (b : Bool) : ∃ o, f_law_same 300 [.val (.bl b), .val (.bl true)] = some (.d (.bl b), o) := by
  cases b
  · exact ⟨_, rfl⟩
  · exact ⟨_, rfl⟩
theorem same_false : ∃ o, f_law_same 300 [.val (.bl false), .val (.bl false)] = some (.d (.bl true), o) := ⟨_, rfl⟩
end K63
set_option linter.all false
set_option maxRecDepth 100000
namespace K63
open PySem L2 MP
abbrev Sl := MP.Slot
theorem st_pool (ns : List Int) (s1 : Sl) (rest : List Sl) : (sOwn (fCall (f_law_pool 300) (aL [(eVar 0), (eK (.int 0))])) 1) (.val (.scr (ns.map D.int)) :: s1 :: rest) = some (.nx, .val (.scr (ns.map D.int)) :: .own (Pl.mk ns 0 0 1 0 0).so :: rest) := by
  simp [pool_ok]
theorem drw (p : Pl) (hp : 0 ≤ p.i) {S : Nat} (hS : 0 < S) (hS2 : S < 2 ^ 64) : ∃ (x : Nat) (q : Pl), x < S ∧ 0 ≤ q.i ∧ f_law_draw 300 [.own p.so, .val (.int S)] = some (.d (.int x), [.own q.so, .val (.int S)]) := by
  have h0 : (0 : Int) < S := by omega
  have h1 := p.val_nn h0
  have h2 := p.val_lt h0
  have d := draw_ok 300 p S hp h0 (by omega)
  refine ⟨(p.val S).toNat, p.nxt S, by omega, Pl.nxt_nn hp S, ?_⟩
  rw [d, Int.toNat_of_nonneg h1]
/-! draws, one for each of some -/
theorem draws_c {α β : Type} {iP iK : Nat} (hne : iP ≠ iK) {C : MEnv → Prop} (hC : ∀ env i s, (i = iP ∨ i = iK) → C env → C (env.set i s)) {enc : α → D} {encb : β → D} {m : Xp} {P : β → Prop} : ∀ (ls : List α)
    (hm : ∀ a ∈ ls, ∀ p : Pl, 0 ≤ p.i → ∃ (b : β) (q : Pl), P b ∧ 0 ≤ q.i ∧ ∀ env : MEnv, C env → env[iK]? = some (.val (enc a)) → env[iP]? = some (.own p.so) → m env = some (.d (encb b), env.set iP (.own q.so))) (p : Pl), 0 ≤ p.i →
    ∃ (bs : List β) (q : Pl), 0 ≤ q.i ∧ bs.length = ls.length ∧ (∀ b ∈ bs, P b) ∧
    ∀ (env : MEnv) (acc : List D), C env → env[iP]? = some (.own p.so) → env[iK]? = some .none → acc.length + ls.length ≤ 16777216 → cLoop [iK] (gNm iK) tYs m (ls.map enc) acc env = some (acc ++ bs.map encb, env.set iP (.own q.so))
  | [], _, p, h3 => ⟨[], p, h3, rfl, by simp, fun env acc _ h1 _ _ => by
    have : env.set iP (.own p.so) = env := set_self _ _ _ h1
    simp [cLoop, this]⟩
  | d :: ds, hm, p, h3 => by
    obtain ⟨x, q, hx, hq, he⟩ := hm d List.mem_cons_self p h3
    obtain ⟨xs, q', hq', hxl, hP, hr⟩ := draws_c hne hC ds (fun a ha => hm a (List.mem_cons_of_mem _ ha)) q hq
    refine ⟨x :: xs, q', hq', by rw [List.length_cons, List.length_cons, hxl], fun y hy => ?_, fun env acc hc h1 h2 ha => ?_⟩
    · rcases List.mem_cons.1 hy with rfl | hy
      · exact hx
      · exact hP y hy
    · have hlen := (List.getElem?_eq_some_iff.1 h2).1
      have hlen1 := (List.getElem?_eq_some_iff.1 h1).1
      have he' := he (env.set iK (.val (enc d))) (hC env _ _ (.inr rfl) hc) (by rw [List.getElem?_set_self hlen]) (by rw [List.getElem?_set_ne (Ne.symm hne)]; exact h1)
      rw [List.length_cons] at ha
      have hl' : acc.length < 16777216 := by omega
      rw [List.map_cons]
      unfold cLoop
      simp only [gNm_s, if_pos hlen, tYs_s, he', esc_d, if_pos hl', wipeE_cons, wipeE_nil]
      rw [set_back hne _ _ h2, hr (env.set iP (.own q.so)) (acc ++ [encb x]) (hC env _ _ (.inl rfl) hc) (by rw [List.getElem?_set_self hlen1]) (by rw [List.getElem?_set_ne hne]; exact h2) (by rw [List.length_append]; show acc.length + 1 + ds.length ≤ _; omega), List.set_set]
      simp

theorem law_row_ok {c n : Nat} (hc : 2 ≤ c) (hc4 : c ≤ 4) (hn : n ≤ 1000) (r : List D) (p : Pl) (hp : 0 ≤ p.i) : ∃ (row : List Nat) (q : Pl) (o : List Sl), row.length = n ∧ (∀ x ∈ row, x < c) ∧ 0 ≤ q.i ∧ f_law_row 300 [.own p.so, .val (.tup (.int c :: r)), .val (.int n)] = some (.d (tN row), .own q.so :: o) := by
  obtain ⟨bs, q, hq, hl, hP, h⟩ := draws_c (iP := 0) (iK := 3) (by decide) (C := fun env => env[1]? = some (.val (.tup (.int c :: r)))) (by
    intro env i s hi hc
    rcases hi with rfl | rfl
    · rw [List.getElem?_set_ne (by decide)]; exact hc
    · rw [List.getElem?_set_ne (by decide)]; exact hc) (enc := fun (u : Nat) => D.int u) (encb := fun (u : Nat) => D.int u) (m := eCallR (f_law_draw 300) (aL [(eVar 0), (eBin gIx (eVar 1) (eK (.int 0)))])) (P := fun v => v < c) (List.range n) (fun a _ p hp => by
      obtain ⟨y, p2, hy, hp2, d2⟩ := drw p hp (S := c) (by omega) (by omega)
      refine ⟨y, p2, hy, hp2, fun env hc _ h1 => ?_⟩
      simp [hc, h1, d2]) p hp
  rw [List.length_range] at hl
  have h2 := h [.own p.so, .val (.tup (.int c :: r)), .val (.int n), .none] [] rfl rfl rfl (by simp; omega)
  rw [show ((List.range n).map fun (u : Nat) => D.int u) = rgD 0 n by simp [rgD], List.nil_append, show bs.map (fun (u : Nat) => D.int u) = nL bs from rfl] at h2
  have ok := okR_nat n (by omega)
  refine ⟨bs, q, [.val (.tup (.int c :: r)), .val (.int n)], hl, hP, hq, ?_⟩
  unfold tN
  generalize nL bs = B at *
  unfold f_law_row runD m_law_row
  simp [ok, h2, gTuple, outsOf]
/-! moving rules -/
def mv : Nat → List Nat
  | 0 => [0, 0, 0, 1, 1, 1, 0, 1]
  | 1 => [0, 0, 0, 0, 1, 1, 1, 1]
  | _ => [0, 1, 0, 1, 0, 1, 0, 1]
def mRest : Xs := (sSeq (sOwn (fLst (aL [])) 2)
    (sSeq (sFor (iSq (eCall (f_law_words 300) (aL [(eK (.int 2)), (eK (.int 3))]))) (gNm 3) (sSeq (sAsg (eVar 3) (gTp 3 (gsCons (gNm 4) (gsCons (gNm 5) (gsCons (gNm 6) gsNil)))))
    (sExp (eMt gAppend 2 (aL [(eBin gIx (eTup (aL [(eCB gInt (aL [(eOrV (eAndV (eBin gEq (eVar 5) (eK (.int 1))) (eBin gEq (eVar 6) (eK (.int 1)))) (eAndV (eBin gEq (eVar 5) (eK (.int 0))) (eBin gEq (eVar 4) (eK (.int 1)))))])), (eVar 4), (eVar 6)])) (eVar 1))])))))
    (sRet (eTup (aL [(eK (.int 2)), (eK (.int 3)), (eCB gTuple (aL [(eVar 2)]))])))))
theorem mRest_0 (o : SO) : (mRest [.own o, .val (.int 0), .none, .none, .none, .none, .none]).map (fun r => (r.1, r.2.head?, r.2.length)) = some (.ret (.d (.tup [.int 2, .int 3, tN (mv 0)])), some (.own o), 7) := by kernel_rfl
theorem mRest_1 (o : SO) : (mRest [.own o, .val (.int 1), .none, .none, .none, .none, .none]).map (fun r => (r.1, r.2.head?, r.2.length)) = some (.ret (.d (.tup [.int 2, .int 3, tN (mv 1)])), some (.own o), 7) := by kernel_rfl
theorem mRest_2 (o : SO) : (mRest [.own o, .val (.int 2), .none, .none, .none, .none, .none]).map (fun r => (r.1, r.2.head?, r.2.length)) = some (.ret (.d (.tup [.int 2, .int 3, tN (mv 2)])), some (.own o), 7) := by kernel_rfl
theorem law_moving_ok (p : Pl) (hp : 0 ≤ p.i) : ∃ (x : Nat) (q : Pl), x < 3 ∧ 0 ≤ q.i ∧ f_law_moving 300 [.own p.so] = some (.d (.tup [.int 2, .int 3, tN (mv x)]), [.own q.so]) := by
  obtain ⟨x, q, hx, hq, d⟩ := drw p hp (S := 3) (by decide) (by decide)
  rw [show ((3 : Nat) : Int) = 3 from rfl] at d
  refine ⟨x, q, hx, hq, ?_⟩
  have hm : (mRest [.own q.so, .val (.int x), .none, .none, .none, .none, .none]).map (fun r => (r.1, r.2.head?, r.2.length)) = some (.ret (.d (.tup [.int 2, .int 3, tN (mv x)])), some (.own q.so), 7) := by
    have : x = 0 ∨ x = 1 ∨ x = 2 := by omega
    rcases this with rfl | rfl | rfl
    · exact mRest_0 _
    · exact mRest_1 _
    · exact mRest_2 _
  obtain ⟨⟨r, e⟩, h1, h2⟩ := Option.map_eq_some_iff.1 hm
  simp only [Prod.mk.injEq] at h2
  obtain ⟨rfl, h3, h4⟩ := h2
  obtain ⟨e', rfl⟩ : ∃ e', e = .own q.so :: e' := by
    cases e with
    | nil => simp at h3
    | cons a e' =>
      simp at h3
      exact ⟨e', by rw [h3]⟩
  have main : m_law_moving 300 [.own p.so, .none, .none, .none, .none, .none, .none] = mRest [.own q.so, .val (.int x), .none, .none, .none, .none, .none] := by
    unfold m_law_moving mRest
    rw [sSeq_nx (e1 := [.own q.so, .val (.int x), .none, .none, .none, .none, .none]) (by simp [d])]
  unfold f_law_moving runD
  rw [show ([MP.Slot.own p.so] ++ List.replicate (7 - [MP.Slot.own p.so].length) MP.Slot.none) = [.own p.so, .none, .none, .none, .none, .none, .none] from rfl, main, h1]
  simp [outsOf]
end K63
set_option linter.all false
set_option maxRecDepth 100000
namespace K63
open PySem L2 MP
theorem ru_mv {x : Nat} (hx : x < 3) : Ru 2 3 (mv x) := by
  have : x = 0 ∨ x = 1 ∨ x = 2 := by omega
  rcases this with rfl | rfl | rfl
  · exact ⟨by unfold CN; omega, by decide, rfl, by decide⟩
  · exact ⟨by unfold CN; omega, by decide, rfl, by decide⟩
  · exact ⟨by unfold CN; omega, by decide, rfl, by decide⟩
theorem kept_mv0 {x : Nat} (hx : x < 3) : Kept 2 3 (mv x) [0, 0] ∧ Kept 2 3 (mv x) [1, 0] ∧ Kept 2 3 (mv x) [0, 1] := by
  have : x = 0 ∨ x = 1 ∨ x = 2 := by omega
  unfold Kept dw
  rcases this with rfl | rfl | rfl
  · exact ⟨by decide +kernel, by decide +kernel, by decide +kernel⟩
  · exact ⟨by decide +kernel, by decide +kernel, by decide +kernel⟩
  · exact ⟨by decide +kernel, by decide +kernel, by decide +kernel⟩
theorem kept_mv {x : Nat} (hx : x < 3) {W : List Int} (hW : W.length = 2) : Kept 2 3 (mv x) W := by
  obtain ⟨h0, h1, h2⟩ := kept_mv0 hx
  have h := ru_mv hx
  match W, hW with
  | [a, b], _ =>
    have := kept_cmb h (z := b) (kept_cmb h (z := a) h0 h1) h2
    have e : cmb 2 (cmb 2 [0, 0] a [1, 0]) b [0, 1] = [a, b] := by simp [cmb, wo, List.range_succ]
    rwa [e] at this
/-! one rule behind another -/
def bt (k : Nat) (t m : List Nat) : List Nat := (ws 2 (k + 2)).map fun w => tb 2 m ((List.range 3).map fun a => tb 2 t ((w.drop a).take k))
theorem ws_at {c n : Nat} (h : CN c n) {w : List Nat} (hw : w ∈ ws c n) : (ws c n)[num c w]? = some w := by
  have key : (ws c n).all (fun w => decide ((ws c n)[num c w]? = some w)) = true := h.ex (P := fun c n => (ws c n).all (fun w => decide ((ws c n)[num c w]? = some w)) = true) (by decide +kernel) (by decide +kernel) (by decide +kernel) (by decide +kernel) (by decide +kernel) (by decide +kernel) (by decide +kernel) (by decide +kernel) (by decide +kernel) (by decide +kernel) (by decide +kernel) (by decide +kernel) (by decide +kernel)
  exact of_decide_eq_true (List.all_eq_true.1 key w hw)
theorem cut_lt {c k a : Nat} {w : List Nat} (hl : w.length = k + 2) (hw : ∀ x ∈ w, x < c) (ha : a < 3) : ((w.drop a).take k).length = k ∧ ∀ x ∈ (w.drop a).take k, x < c :=
  ⟨by simp; omega, fun x hx => hw x (List.mem_of_mem_drop (List.mem_of_mem_take hx))⟩
theorem inner_lt {k : Nat} {t : List Nat} (h : Ru 2 k t) {w : List Nat} (hl : w.length = k + 2) (hw : ∀ x ∈ w, x < 2) : ((List.range 3).map fun a => tb 2 t ((w.drop a).take k)).length = 3 ∧ ∀ x ∈ (List.range 3).map fun a => tb 2 t ((w.drop a).take k), x < 2 := by
  refine ⟨by simp, fun x hx => ?_⟩
  obtain ⟨a, ha, rfl⟩ := List.mem_map.1 hx
  obtain ⟨h1, h2⟩ := cut_lt hl hw (List.mem_range.1 ha)
  exact h.tb_lt h1 h2
theorem ru_bt {k : Nat} {t m : List Nat} (h : Ru 2 k t) (hm : Ru 2 3 m) (hk : k ≤ 3) : Ru 2 (k + 2) (bt k t m) where
  cn := by unfold CN; omega
  k1 := by omega
  tl := by
    unfold bt
    rw [List.length_map]
    exact ws_len (by unfold CN; omega)
  lt x hx := by
    obtain ⟨w, hw, rfl⟩ := List.mem_map.1 hx
    obtain ⟨h1, h2⟩ := (mem_ws 2 (k + 2) w).1 hw
    obtain ⟨h3, h4⟩ := inner_lt h h1 h2
    exact hm.tb_lt h3 h4
theorem st_bt {k : Nat} {t m : List Nat} (h : Ru 2 k t) (hm : Ru 2 3 m) (hk : k ≤ 3) {row : List Nat} (h0 : 0 < row.length) (hr : ∀ x ∈ row, x < 2) : st 2 (k + 2) (bt k t m) row = st 2 3 m (st 2 k t row) := by
  refine ext_getD (by simp [st_len]) fun a ha => ?_
  rw [st_len] at ha
  rw [st_at ha, st_at (by rw [st_len]; exact ha)]
  obtain ⟨w1, w2⟩ := win_lt (k := k + 2) h0 hr a
  have e := ws_at (c := 2) (n := k + 2) (by unfold CN; omega) ((mem_ws 2 (k + 2) _).2 ⟨w1, w2⟩)
  have e2 : tb 2 (bt k t m) (win (k + 2) row a) = tb 2 m ((List.range 3).map fun i => tb 2 t (((win (k + 2) row a).drop i).take k)) := by
    show (bt k t m).getD (num 2 (win (k + 2) row a)) 0 = _
    unfold bt
    rw [List.getD_eq_getElem?_getD, List.getElem?_map, e]
    rfl
  rw [e2]
  congr 1
  unfold win
  rw [st_len]
  refine List.map_congr_left fun i hi => ?_
  have hi := List.mem_range.1 hi
  rw [st_at (Nat.mod_lt _ h0)]
  congr 1
  refine ext_getD (by simp [win]; omega) fun j hj => ?_
  have hj : j < k := by simp at hj; omega
  simp only [List.getD_eq_getElem?_getD]
  rw [List.getElem?_take, if_pos hj, List.getElem?_drop, List.getElem?_map, List.getElem?_range (by omega)]
  unfold win
  rw [List.getElem?_map, List.getElem?_range hj]
  simp only [Option.map_some, Option.getD_some, Nat.mod_add_mod]
  rw [show a + (i + j) = a + i + j by omega]
  simp [List.getD_eq_getElem?_getD]
theorem kept_bt {k : Nat} {t : List Nat} (h : Ru 2 k t) {x : Nat} (hx : x < 3) (hk : k ≤ 3) {W : List Int} (hW : W.length = 2) (hK : Kept 2 k t W) : Kept 2 (k + 2) (bt k t (mv x)) W := by
  have hm := ru_mv hx
  have hb := ru_bt h hm hk
  refine Classical.byContradiction fun hn => ?_
  obtain ⟨row, o, hl, _⟩ := kept_no hb hW hn
  have h0 : 0 < row.length := hl.len.1
  apply hl.df
  have a1 := kept_ring h hK h0 hl.lt
  have a2 := kept_ring hm (kept_mv hx hW) (row := st 2 k t row) (by rw [st_len]; exact h0) (st_lt h h0 hl.lt)
  unfold df at *
  rw [st_bt h hm hk h0 hl.lt]
  omega
abbrev hB : Xs := (sSeq (sAsg (eFrz (fComp [6] (iR1 (aL [(eUn (gFld 0 1) (eVar 1))])) (gNm 6) tYs (eCall (f_Rule_of 300) (aMth 0 (eVar 0) (aL [(eSl (eVar 4) (oSm (eVar 6)) (oSm (eBin gAdd (eVar 6) (eUn (gFld 0 1) (eVar 0)))))]))))) (gNm 5))
    (sExp (eMt gAppend 3 (aL [(eCall (f_Rule_of 300) (aMth 0 (eVar 1) (aL [(eVar 5)])))]))))
theorem cut_at {w : List Nat} {a k : Nat} (h : a + k ≤ w.length) : cutD (nL w) (some (a : Int)) (some ((a : Int) + k)) = nL ((w.drop a).take k) := by
  unfold cutD HT.sIx
  have n1 : ¬ (a : Int) < 0 := by omega
  have n2 : ¬ (a : Int) + k < 0 := by omega
  have t2 : ((a : Int) + k).toNat = a + k := by omega
  simp only [n1, n2, if_false, Int.toNat_natCast, t2, nL_len]
  rw [Nat.min_eq_left (by omega), Nat.min_eq_left (by omega)]
  unfold nL
  rw [← List.map_drop, ← List.map_take, Nat.add_sub_cancel_left]
theorem hB_ok {k : Nat} {t m : List Nat} (h : Ru 2 k t) (hm : Ru 2 3 m) {w : List Nat} (hl : w.length = k + 2) (hw : ∀ x ∈ w, x < 2) (acc : List Nat) (ha : acc.length ≤ 1000) (s2 : MP.Slot) (s5 : MP.Slot) (h5 : ∀ o, s5 ≠ .own o) : ∃ s5', (∀ o, s5' ≠ .own o) ∧ hB [.val (ru 2 k t), .val (ru 2 3 m), s2, .own (.lst (nL acc)), .val (tN w), s5, .none] =
    some (.nx, [.val (ru 2 k t), .val (ru 2 3 m), s2, .own (.lst (nL (acc ++ [tb 2 m ((List.range 3).map fun a => tb 2 t ((w.drop a).take k))]))), .val (tN w), s5', .none]) := by
  have c := comp1r (fun a => D.int (tb 2 t ((w.drop a).take k) : Nat)) (k := 6) (n := 3) (m := eCall (f_Rule_of 300) (aMth 0 (eVar 0) (aL [(eSl (eVar 4) (oSm (eVar 6)) (oSm (eBin gAdd (eVar 6) (eUn (gFld 0 1) (eVar 0)))))]))) [.val (ru 2 k t), .val (ru 2 3 m), s2, .own (.lst (nL acc)), .val (tN w), s5, .none] rfl (by decide) (fun a ha => by
    obtain ⟨h1, h2⟩ := cut_lt hl hw ha
    obtain ⟨o, e⟩ := of_ok h h1 h2 (d := .tup (nL ((w.drop a).take k))) (.inl rfl)
    have ct := cut_at (w := w) (a := a) (k := k) (by omega)
    unfold ru tN at *
    generalize nL ((w.drop a).take k) = Z at *
    generalize nL w = WW at *
    generalize nL t = T at *
    generalize nL m = M at *
    generalize nL acc = A at *
    generalize ((tb 2 t ((w.drop a).take k) : Nat) : Int) = z at *
    rw [show ((2 : Nat) : Int) = 2 from rfl] at e
    simp [ct, e])
  rw [show (List.range 3).map (fun a => D.int (tb 2 t ((w.drop a).take k) : Nat)) = nL ((List.range 3).map fun a => tb 2 t ((w.drop a).take k)) by
    unfold nL
    rw [List.map_map]
    rfl] at c
  obtain ⟨i1, i2⟩ := inner_lt h hl hw
  obtain ⟨o, e⟩ := of_ok hm i1 i2 (d := .lst (nL ((List.range 3).map fun a => tb 2 t ((w.drop a).take k)))) (.inr rfl)
  have ea : nL (acc ++ [tb 2 m ((List.range 3).map fun a => tb 2 t ((w.drop a).take k))]) = nL acc ++ [.int (tb 2 m ((List.range 3).map fun a => tb 2 t ((w.drop a).take k)) : Nat)] := List.map_append
  have la := nL_len acc
  have la2 : (nL acc).length < 16777216 := by omega
  rw [ea]
  refine ⟨.val (.lst (nL ((List.range 3).map fun a => tb 2 t ((w.drop a).take k)))), by simp, ?_⟩
  generalize ((tb 2 m ((List.range 3).map fun a => tb 2 t ((w.drop a).take k)) : Nat) : Int) = z at *
  generalize nL ((List.range 3).map fun a => tb 2 t ((w.drop a).take k)) = IN at *
  unfold ru tN at *
  generalize nL acc = A at *
  generalize nL w = WW at *
  generalize nL t = T at *
  generalize nL m = M at *
  unfold hB
  rw [show ((2 : Nat) : Int) = 2 from rfl, show ((3 : Nat) : Int) = 3 from rfl] at e
  rw [show ((2 : Nat) : Int) = 2 from rfl, show ((3 : Nat) : Int) = 3 from rfl] at c
  simp [c, e, la2, show okR 3 = true from rfl]
end K63
set_option linter.all false
set_option maxRecDepth 100000
namespace K63
open PySem L2 MP
def bt1 (k : Nat) (t m w : List Nat) : Nat := tb 2 m ((List.range 3).map fun a => tb 2 t ((w.drop a).take k))
theorem h_loop {k : Nat} {t m : List Nat} (h : Ru 2 k t) (hm : Ru 2 3 m) (s2 : MP.Slot) : ∀ (L : List (List Nat)) (acc : List Nat) (s4 s5 : MP.Slot), (∀ w ∈ L, w.length = k + 2 ∧ ∀ x ∈ w, x < 2) → acc.length + L.length ≤ 1000 → (∀ o, s5 ≠ .own o) → ∃ s4' s5', (∀ o, s5' ≠ .own o) ∧
    sLoop (gNm 4) hB (L.map tN) [.val (ru 2 k t), .val (ru 2 3 m), s2, .own (.lst (nL acc)), s4, s5, .none] = some (.nx, [.val (ru 2 k t), .val (ru 2 3 m), s2, .own (.lst (nL (acc ++ L.map (bt1 k t m)))), s4', s5', .none])
  | [], acc, s4, s5, _, _, h5 => ⟨s4, s5, h5, by rw [List.map_nil, List.map_nil, List.append_nil]; rfl⟩
  | w :: L, acc, s4, s5, hL, hl, h5 => by
    rw [List.length_cons] at hl
    obtain ⟨h1, h2⟩ := hL w List.mem_cons_self
    obtain ⟨s5a, n5, e⟩ := hB_ok h hm h1 h2 acc (by omega) s2 s5 h5
    obtain ⟨s4', s5', n, ih⟩ := h_loop h hm s2 L (acc ++ [bt1 k t m w]) (.val (tN w)) s5a (fun v hv => hL v (List.mem_cons_of_mem _ hv)) (by rw [List.length_append, List.length_singleton]; omega) n5
    refine ⟨s4', s5', n, ?_⟩
    rw [List.map_cons, List.map_cons, show acc ++ bt1 k t m w :: L.map (bt1 k t m) = acc ++ [bt1 k t m w] ++ L.map (bt1 k t m) by simp, ← ih]
    exact sLoop_cons (e1 := [.val (ru 2 k t), .val (ru 2 3 m), s2, .own (.lst (nL acc)), .val (tN w), s5, .none]) rfl e
theorem behind_ok {k : Nat} {t m : List Nat} (h : Ru 2 k t) (hm : Ru 2 3 m) (hk : k ≤ 3) : ∃ o, f_behind 300 [.val (ru 2 k t), .val (ru 2 3 m)] = some (.d (ru 2 (k + 2) (bt k t m)), o) := by
  have k1 := h.k1
  have hb := ru_bt h hm hk
  have cn : CN 2 (k + 2) := hb.cn
  obtain ⟨o1, e1⟩ := raised_ok cn
  obtain ⟨o2, e2⟩ := words_ok cn
  have hp := pw_le cn
  have hp2 : ¬ (1024 : Int) < ((2 ^ (k + 2) : Nat) : Int) := by omega
  have ck : (k : Int) + 3 - 1 = ((k + 2 : Nat) : Int) := by omega
  have w9 : ¬ (9 : Int) < ((k + 2 : Nat) : Int) := by omega
  have w9' : ¬ 9 < k + 2 := by omega
  obtain ⟨s4, s5, n5, lp⟩ := h_loop h hm (.val (.int ((k + 2 : Nat) : Int))) (ws 2 (k + 2)) [] .none .none (fun w hw => (mem_ws 2 (k + 2) w).1 hw) (by rw [ws_len cn]; simp; omega) (by simp)
  rw [List.nil_append, show (ws 2 (k + 2)).map (bt1 k t m) = bt k t m from rfl, show nL [] = [] from rfl] at lp
  have ri := rule_init hb (d := .lst (nL (bt k t m))) (.inr rfl)
  unfold f_behind runD m_behind
  unfold ru tN at *
  rw [show ((2 : Nat) : Int) = 2 from rfl] at e1 e2 ri
  rw [show ((2 : Nat) : Int) = 2 from rfl, show ((3 : Nat) : Int) = 3 from rfl] at lp
  rw [show ((2 : Nat) : Int) = 2 from rfl, show ((3 : Nat) : Int) = 3 from rfl]
  generalize ((2 ^ (k + 2) : Nat) : Int) = z at *
  generalize ((k + 2 : Nat) : Int) = k' at *
  generalize nL (bt k t m) = B at *
  generalize (ws 2 (k + 2)).map (fun l => D.tup (nL l)) = WS at *
  generalize nL t = T at *
  generalize nL m = M at *
  simp [ck, e1, e2, hp2, w9, ri]
  rw [lp]
  simp [ri]
end K63
set_option linter.all false
set_option maxRecDepth 100000
namespace K63
open PySem L2 MP
abbrev cutB : Xs := sFor (iR1 (aL [(eK (.int 9))])) (gNm 4) (sIf (tOfB (eBin gGt (eCall (f_law_power 300) (aL [(eVar 2), (eVar 3)])) (eVar 1))) (sSeq (sAsg (eBin gSub (eVar 3) (eK (.int 1))) (gNm 3))
    (sIf (tOfB (eBin gEq (eVar 3) (eK (.int 0)))) (sAsg (eTup (aL [(eK (.int 2)), (eK (.int 2))])) (gTp 2 (gsCons (gNm 2) (gsCons (gNm 3) gsNil)))) sNext)) sNext)
def kk (c k : Nat) : Nat := min k (if c = 2 then 4 else if c = 3 then 3 else 2)
def cutOk (o : SO) (c k : Nat) : Prop := cutB [.own o, .val (.int 27), .val (.int c), .val (.int k), .none, .none, .none, .none, .none, .none, .none, .none, .none, .none, .none] = some (.nx, [.own o, .val (.int 27), .val (.int c), .val (.int (kk c k : Nat)), .val (.int 8), .none, .none, .none, .none, .none, .none, .none, .none, .none, .none])
theorem cut_ok (o : SO) {c k : Nat} (hc : 2 ≤ c) (hc4 : c ≤ 4) (hk : 1 ≤ k) (hk5 : k ≤ 5) : cutOk o c k := by
  have h1 : c = 2 ∨ c = 3 ∨ c = 4 := by omega
  have h2 : k = 1 ∨ k = 2 ∨ k = 3 ∨ k = 4 ∨ k = 5 := by omega
  unfold cutOk
  rcases h1 with rfl | rfl | rfl <;> rcases h2 with rfl | rfl | rfl | rfl | rfl <;> kernel_rfl
theorem kk_cn {c k : Nat} (hc : 2 ≤ c) (hc4 : c ≤ 4) (hk : 1 ≤ k) : CN c (kk c k) ∧ 1 ≤ kk c k ∧ (c = 2 → kk c k ≤ 4) := by
  have h1 : c = 2 ∨ c = 3 ∨ c = 4 := by omega
  unfold CN kk
  rcases h1 with rfl | rfl | rfl <;> simp <;> omega
end K63
set_option linter.all false
set_option maxRecDepth 100000
namespace K63
open PySem L2 MP
theorem sum_c {k : Nat} (hk5 : k ≤ 5) {fs w : List Nat} (hf : fs.length = k) (hw : w.length = k) (hfc : ∀ x ∈ fs, x < 4) (s0 s1 s2 s4 s5 s6 s7 s9 s11 s12 s13 : MP.Slot) :
    cLoop [14] (gNm 14) tYs (eBin gMul (eBin gIx (eVar 8) (eVar 14)) (eBin gIx (eVar 10) (eVar 14))) (rgD 0 k) [] [s0, s1, s2, .val (.int k), s4, s5, s6, s7, .val (.lst (nL fs)), s9, .val (tN w), s11, s12, s13, .none] =
      some ((List.range k).map fun j => D.int ((fs.getD j 0 * w.getD j 0 : Nat) : Int), [s0, s1, s2, .val (.int k), s4, s5, s6, s7, .val (.lst (nL fs)), s9, .val (tN w), s11, s12, s13, .none]) :=
  comp1r (fun j => D.int ((fs.getD j 0 * w.getD j 0 : Nat) : Int)) (k := 14) (n := k) (m := eBin gMul (eBin gIx (eVar 8) (eVar 14)) (eBin gIx (eVar 10) (eVar 14))) [s0, s1, s2, .val (.int k), s4, s5, s6, s7, .val (.lst (nL fs)), s9, .val (tN w), s11, s12, s13, .none] rfl (by omega) fun j hj => by
    have h1 : atI (nL fs) (j : Int) = some (.int (fs.getD j 0 : Nat)) := by
      rw [atI_cast, List.getElem?_map]
      simp [hf, hj]
    have h2 : atI (nL w) (j : Int) = some (.int (w.getD j 0 : Nat)) := by
      rw [atI_cast, List.getElem?_map]
      simp [hw, hj]
    have h3 : fs.getD j 0 < 4 := by
      have : j < fs.length := by omega
      rw [List.getD_eq_getElem?_getD, List.getElem?_eq_getElem this]
      exact hfc _ (List.getElem_mem this)
    have hm : mulOk ((fs.getD j 0 : Nat) : Int) ((w.getD j 0 : Nat) : Int) = true := mulOk_l _ _ (by omega)
    rw [Int.natCast_mul]
    unfold tN
    generalize ((fs.getD j 0 : Nat) : Int) = z1 at *
    generalize ((w.getD j 0 : Nat) : Int) = z2 at *
    generalize nL fs = F at *
    generalize nL w = WW at *
    simp [h1, h2, hm]
theorem sum_cast2 {α : Type} (f : α → Nat) : ∀ l : List α, (l.map fun a => (f a : Int)).sum = ((l.map f).sum : Nat)
  | [] => rfl
  | a :: l => by
    simp only [List.map_cons, List.sum_cons, sum_cast2 f l]
    omega
theorem t_sums {c k : Nat} (hc : 2 ≤ c) (hc4 : c ≤ 4) (hk5 : k ≤ 5) {fs w : List Nat} (hf : fs.length = k) (hw : w.length = k) (hfc : ∀ x ∈ fs, x < 4) (s0 s1 s4 s5 s6 s7 s9 s11 s12 s13 : MP.Slot) : ∃ y, y < c ∧
    (sAsg (eBin gMod (eCB gInt (aL [(eCB gSum (aL [(eFrz (fComp [14] (iR1 (aL [(eVar 3)])) (gNm 14) tYs (eBin gMul (eBin gIx (eVar 8) (eVar 14)) (eBin gIx (eVar 10) (eVar 14)))))]))])) (eVar 2)) (gNm 12)) [s0, s1, .val (.int c), .val (.int k), s4, s5, s6, s7, .val (.lst (nL fs)), s9, .val (tN w), s11, s12, s13, .none] =
      some (.nx, [s0, s1, .val (.int c), .val (.int k), s4, s5, s6, s7, .val (.lst (nL fs)), s9, .val (tN w), s11, .val (.int (y : Nat)), s13, .none]) := by
  have cc := sum_c hk5 hf hw hfc s0 s1 (.val (.int c)) s4 s5 s6 s7 s9 s11 s12 s13
  have g := gSum_m (fun j => ((fs.getD j 0 * w.getD j 0 : Nat) : Int)) (List.range k)
  rw [sum_cast2 (fun j => fs.getD j 0 * w.getD j 0)] at g
  refine ⟨((List.range k).map fun j => fs.getD j 0 * w.getD j 0).sum % c, Nat.mod_lt _ (by omega), ?_⟩
  rw [Int.natCast_emod]
  have ok := okR_nat k (by omega)
  have n0 : (0 : Int) < c := by omega
  have n0' : 0 < c := by omega
  have lg : Nat.log2 c < 9000 := by
    have : ∀ n, n ≤ 4 → Nat.log2 n < 9000 := by decide
    exact this _ hc4
  generalize (((List.range k).map fun j => fs.getD j 0 * w.getD j 0).sum : Int) = z at *
  generalize ((List.range k).map fun j => D.int ((fs.getD j 0 * w.getD j 0 : Nat) : Int)) = Y at *
  unfold tN at *
  generalize nL fs = F at *
  generalize nL w = WW at *
  simp [ok, cc, g, n0, n0', lg]
theorem t_shift {c k : Nat} (hc : 2 ≤ c) (hc4 : c ≤ 4) {w : List Nat} (hw : w.length = k) {a : Nat} (ha : a < k) (hwc : ∀ x ∈ w, x < c) (p : Pl) (hp : 0 ≤ p.i) (s1 s3 s4 s5 s6 s8 s9 s11 s12 s13 : MP.Slot) : ∃ (y : Nat) (q : Pl), y < c ∧ 0 ≤ q.i ∧
    (sAsg (eBin gMod (eCB gInt (aL [(eBin gAdd (eBin gIx (eVar 10) (eVar 7)) (eBin gMul (eCallR (f_law_draw 300) (aL [(eVar 0), (eK (.int 2))])) (eCB gInt (aL [(eBin gEq (eBin gIx (eVar 10) (eK (.int 0))) (eK (.int 0)))]))))])) (eVar 2)) (gNm 13)) [.own p.so, s1, .val (.int c), s3, s4, s5, s6, .val (.int a), s8, s9, .val (tN w), s11, s12, s13, .none] =
      some (.nx, [.own q.so, s1, .val (.int c), s3, s4, s5, s6, .val (.int a), s8, s9, .val (tN w), s11, s12, .val (.int (y : Nat)), .none]) := by
  obtain ⟨x, q, hx, hq, d⟩ := drw p hp (S := 2) (by decide) (by decide)
  rw [show ((2 : Nat) : Int) = 2 from rfl] at d
  have h2 : atI (nL w) (a : Int) = some (.int (w.getD a 0 : Nat)) := by
    rw [atI_cast, List.getElem?_map]
    simp [hw, ha]
  have h0 : (nL w)[0]? = some (.int (w.getD 0 0 : Nat)) := by
    rw [List.getElem?_map]
    have : 0 < w.length := by omega
    simp [this]
  have n0 : (0 : Int) < c := by omega
  have n0' : 0 < c := by omega
  have lg : Nat.log2 c < 9000 := by
    have : ∀ n, n ≤ 4 → Nat.log2 n < 9000 := by decide
    exact this _ hc4
  by_cases z : w.getD 0 0 = 0
  · refine ⟨(w.getD a 0 + x) % c, q, Nat.mod_lt _ (by omega), hq, ?_⟩
    have hm : mulOk (x : Int) 1 = true := mulOk_r _ _ (by decide)
    rw [z] at h0
    rw [show ((0 : Nat) : Int) = 0 from rfl] at h0
    rw [Int.natCast_emod, Int.natCast_add]
    unfold tN
    generalize nL w = WW at *
    generalize ((w.getD a 0 : Nat) : Int) = g at *
    simp [h2, h0, d, hm, n0, n0', lg]
  · refine ⟨(w.getD a 0) % c, q, Nat.mod_lt _ (by omega), hq, ?_⟩
    have hm : mulOk (x : Int) 0 = true := mulOk_r _ _ (by decide)
    have z2 : ¬ ((w.getD 0 0 : Nat) : Int) = 0 := by omega
    rw [Int.natCast_emod]
    unfold tN
    generalize nL w = WW at *
    generalize ((w.getD a 0 : Nat) : Int) = g at *
    generalize ((w.getD 0 0 : Nat) : Int) = g0 at *
    simp [h2, h0, d, hm, n0, n0', lg, z2]
end K63
set_option linter.all false
set_option maxRecDepth 100000
namespace K63
open PySem L2 MP
theorem last_at {w : List Nat} (h : 0 < w.length) : ∃ z : Nat, atI (nL w) (-1) = some (.int (z : Nat)) := by
  have := atI_neg (nL w) 1 (by decide) (by rw [nL_len]; omega)
  rw [show (-((1 : Nat) : Int)) = -1 from rfl] at this
  rw [this, nL_len, List.getElem?_map]
  have h2 : w.length - 1 < w.length := by omega
  exact ⟨w[w.length - 1], by simp [h2]⟩
theorem t_app {c k : Nat} (hc : 2 ≤ c) (hc4 : c ≤ 4) {w : List Nat} (hw : w.length = k) {a : Nat} (ha : a < k) (hwc : ∀ x ∈ w, x < c) {d1 y12 y13 way : Nat} (h1 : d1 < c) (h12 : y12 < c) (h13 : y13 < c) (hway : way < 5) (acc : List Nat) (hacc : acc.length ≤ 1000) (s0 s1 s2 s3 s4 s5 s8 s14 : MP.Slot) : ∃ e, e < c ∧
    (sExp (eMt gAppend 9 (aL [(eBin gIx (eTup (aL [(eVar 11), (eBin gIx (eVar 10) (eVar 7)), (eVar 12), (eVar 13), (eBin gMul (eVar 11) (eCB gInt (aL [(eBin gNe (eBin gIx (eVar 10) (eK (.int 0))) (eBin gIx (eVar 10) (eUn gNeg (eK (.int 1)))))])))])) (eVar 6))]))) [s0, s1, s2, s3, s4, s5, .val (.int way), .val (.int a), s8, .own (.lst (nL acc)), .val (tN w), .val (.int d1), .val (.int y12), .val (.int y13), s14] =
      some (.nx, [s0, s1, s2, s3, s4, s5, .val (.int way), .val (.int a), s8, .own (.lst (nL (acc ++ [e]))), .val (tN w), .val (.int d1), .val (.int y12), .val (.int y13), s14]) := by
  have h2 : atI (nL w) (a : Int) = some (.int (w.getD a 0 : Nat)) := by
    rw [atI_cast, List.getElem?_map]
    simp [hw, ha]
  have hal : a < w.length := by omega
  have hga : w.getD a 0 < c := by
    rw [List.getD_eq_getElem?_getD, List.getElem?_eq_getElem hal]
    exact hwc _ (List.getElem_mem hal)
  have h0 : (nL w)[0]? = some (.int (w.getD 0 0 : Nat)) := by
    rw [List.getElem?_map]
    have : 0 < w.length := by omega
    simp [this]
  obtain ⟨zl, hl⟩ := last_at (w := w) (by omega)
  have ll := nL_len acc
  have la : (nL acc).length < 16777216 := by omega
  have m1 : mulOk (d1 : Int) 1 = true := mulOk_r _ _ (by decide)
  have m0 : mulOk (d1 : Int) 0 = true := mulOk_r _ _ (by decide)
  have hwy : way = 0 ∨ way = 1 ∨ way = 2 ∨ way = 3 ∨ way = 4 := by omega
  have ea : ∀ e : Nat, nL (acc ++ [e]) = nL acc ++ [.int (e : Nat)] := fun e => List.map_append
  by_cases q : w.getD 0 0 = zl
  · have q2 : ((w.getD 0 0 : Nat) : Int) = (zl : Int) := by omega
    refine ⟨[d1, w.getD a 0, y12, y13, 0].getD way 0, ?_, ?_⟩
    · generalize w.getD a 0 = g at *
      rcases hwy with rfl | rfl | rfl | rfl | rfl <;> simp <;> omega
    · rw [ea]
      rw [q2] at h0
      unfold tN
      generalize nL w = WW at *
      generalize nL acc = A at *
      generalize w.getD a 0 = g at *
      rcases hwy with rfl | rfl | rfl | rfl | rfl <;> simp [h2, h0, hl, m0, la]
  · have q2 : ¬ ((w.getD 0 0 : Nat) : Int) = (zl : Int) := by omega
    refine ⟨[d1, w.getD a 0, y12, y13, d1].getD way 0, ?_, ?_⟩
    · generalize w.getD a 0 = g at *
      rcases hwy with rfl | rfl | rfl | rfl | rfl <;> simp <;> omega
    · rw [ea]
      unfold tN
      generalize nL w = WW at *
      generalize nL acc = A at *
      generalize w.getD a 0 = g at *
      generalize ((w.getD 0 0 : Nat) : Int) = g0 at *
      rcases hwy with rfl | rfl | rfl | rfl | rfl <;> simp [h2, h0, hl, m1, la, q2]
end K63
set_option linter.all false
set_option maxRecDepth 100000
namespace K63
open PySem L2 MP
abbrev tabB : Xs := (sSeq (sAsg (eCallR (f_law_draw 300) (aL [(eVar 0), (eVar 2)])) (gNm 11))
    (sSeq (sAsg (eBin gMod (eCB gInt (aL [(eCB gSum (aL [(eFrz (fComp [14] (iR1 (aL [(eVar 3)])) (gNm 14) tYs (eBin gMul (eBin gIx (eVar 8) (eVar 14)) (eBin gIx (eVar 10) (eVar 14)))))]))])) (eVar 2)) (gNm 12))
    (sSeq (sAsg (eBin gMod (eCB gInt (aL [(eBin gAdd (eBin gIx (eVar 10) (eVar 7)) (eBin gMul (eCallR (f_law_draw 300) (aL [(eVar 0), (eK (.int 2))])) (eCB gInt (aL [(eBin gEq (eBin gIx (eVar 10) (eK (.int 0))) (eK (.int 0)))]))))])) (eVar 2)) (gNm 13))
    (sExp (eMt gAppend 9 (aL [(eBin gIx (eTup (aL [(eVar 11), (eBin gIx (eVar 10) (eVar 7)), (eVar 12), (eVar 13), (eBin gMul (eVar 11) (eCB gInt (aL [(eBin gNe (eBin gIx (eVar 10) (eK (.int 0))) (eBin gIx (eVar 10) (eUn gNeg (eK (.int 1)))))])))])) (eVar 6))]))))))
theorem tab_loop {c k : Nat} (hc : 2 ≤ c) (hc4 : c ≤ 4) (hk5 : k ≤ 5) {fs : List Nat} (hf : fs.length = k) (hfc : ∀ x ∈ fs, x < 4) {a : Nat} (ha : a < k) {way : Nat} (hway : way < 5) (s1 s4 s5 : MP.Slot) : ∀ (L : List (List Nat)) (acc : List Nat) (p : Pl) (s10 s11 s12 s13 : MP.Slot), 0 ≤ p.i → (∀ w ∈ L, w.length = k ∧ ∀ x ∈ w, x < c) → acc.length + L.length ≤ 1000 → (∀ x ∈ acc, x < c) →
    ∃ (out : List Nat) (q : Pl) (t10 t11 t12 t13 : MP.Slot), 0 ≤ q.i ∧ out.length = acc.length + L.length ∧ (∀ x ∈ out, x < c) ∧ sLoop (gNm 10) tabB (L.map tN) [.own p.so, s1, .val (.int c), .val (.int k), s4, s5, .val (.int way), .val (.int a), .val (.lst (nL fs)), .own (.lst (nL acc)), s10, s11, s12, s13, .none] =
      some (.nx, [.own q.so, s1, .val (.int c), .val (.int k), s4, s5, .val (.int way), .val (.int a), .val (.lst (nL fs)), .own (.lst (nL out)), t10, t11, t12, t13, .none])
  | [], acc, p, s10, s11, s12, s13, hp, _, _, hac => ⟨acc, p, s10, s11, s12, s13, hp, rfl, hac, rfl⟩
  | w :: L, acc, p, s10, s11, s12, s13, hp, hL, hl, hac => by
    rw [List.length_cons] at hl
    obtain ⟨hw, hwc⟩ := hL w List.mem_cons_self
    obtain ⟨d1, p1, hd1, hp1, d⟩ := drw p hp (S := c) (by omega) (by omega)
    obtain ⟨y12, h12, e12⟩ := t_sums hc hc4 hk5 hf hw hfc (.own p1.so) s1 s4 s5 (.val (.int way)) (.val (.int a)) (.own (.lst (nL acc))) (.val (.int d1)) s12 s13
    obtain ⟨y13, p2, h13, hp2, e13⟩ := t_shift hc hc4 hw ha hwc p1 hp1 s1 (.val (.int k)) s4 s5 (.val (.int way)) (.val (.lst (nL fs))) (.own (.lst (nL acc))) (.val (.int d1)) (.val (.int y12)) s13
    obtain ⟨e, he, ee⟩ := t_app hc hc4 hw ha hwc hd1 h12 h13 hway acc (by omega) (.own p2.so) s1 (.val (.int c)) (.val (.int k)) s4 s5 (.val (.lst (nL fs))) .none
    obtain ⟨out, q, t10, t11, t12, t13, hq, ho, hoc, lp⟩ := tab_loop hc hc4 hk5 hf hfc ha hway s1 s4 s5 L (acc ++ [e]) p2 (.val (tN w)) (.val (.int d1)) (.val (.int y12)) (.val (.int y13)) hp2 (fun v hv => hL v (List.mem_cons_of_mem _ hv)) (by rw [List.length_append, List.length_singleton]; omega) (fun x hx => by
      rcases List.mem_append.1 hx with hx | hx
      · exact hac x hx
      · rw [List.mem_singleton.1 hx]; exact he)
    refine ⟨out, q, t10, t11, t12, t13, hq, by rw [ho, List.length_append, List.length_singleton, List.length_cons]; omega, hoc, ?_⟩
    rw [List.map_cons, ← lp]
    refine sLoop_cons (e1 := [.own p.so, s1, .val (.int c), .val (.int k), s4, s5, .val (.int way), .val (.int a), .val (.lst (nL fs)), .own (.lst (nL acc)), .val (tN w), s11, s12, s13, .none]) rfl ?_
    unfold tabB
    rw [sSeq_nx (e1 := [.own p1.so, s1, .val (.int c), .val (.int k), s4, s5, .val (.int way), .val (.int a), .val (.lst (nL fs)), .own (.lst (nL acc)), .val (tN w), .val (.int d1), s12, s13, .none]) (by
      unfold tN
      generalize nL w = WW at *
      generalize nL fs = F at *
      generalize nL acc = A at *
      simp [d])]
    rw [sSeq_nx e12, sSeq_nx e13, ee]
end K63
set_option linter.all false
set_option maxRecDepth 100000
namespace K63
open PySem L2 MP
theorem CN.small {c k : Nat} (h : CN c k) : c ^ k ≤ 32 := h.ex (P := fun c k => c ^ k ≤ 32) (by decide) (by decide) (by decide) (by decide) (by decide) (by decide) (by decide) (by decide) (by decide) (by decide) (by decide) (by decide) (by decide)
theorem CN.k5 {c k : Nat} (h : CN c k) : k ≤ 5 := by
  rcases h with ⟨_, h⟩ | ⟨_, h⟩ | ⟨_, h⟩ <;> omega
/-- factors drawn -/
theorem facs_ok {c k : Nat} (hc : 2 ≤ c) (hc4 : c ≤ 4) (hk : k ≤ 5) (p : Pl) (hp : 0 ≤ p.i) : ∃ (fs : List Nat) (q : Pl), 0 ≤ q.i ∧ fs.length = k ∧ (∀ x ∈ fs, x < 4) ∧ ∀ (s1 s4 s5 s6 s7 s8 s9 s10 s11 s12 s13 : Sl),
    (sAsg (eFrz (fComp [14] (iR1 (aL [(eVar 3)])) (gNm 14) tYs (eCallR (f_law_draw 300) (aL [(eVar 0), (eVar 2)])))) (gNm 8)) [.own p.so, s1, .val (.int c), .val (.int k), s4, s5, s6, s7, s8, s9, s10, s11, s12, s13, .none] =
      some (.nx, [.own q.so, s1, .val (.int c), .val (.int k), s4, s5, s6, s7, .val (.lst (nL fs)), s9, s10, s11, s12, s13, .none]) := by
  obtain ⟨bs, q, hq, hl, hP, h⟩ := draws_c (iP := 0) (iK := 14) (by decide) (C := fun env => env[2]? = some (.val (.int c))) (by
    intro env i s hi hc
    rcases hi with rfl | rfl
    · rw [List.getElem?_set_ne (by decide)]; exact hc
    · rw [List.getElem?_set_ne (by decide)]; exact hc) (enc := fun (u : Nat) => D.int u) (encb := fun (u : Nat) => D.int u) (m := eCallR (f_law_draw 300) (aL [(eVar 0), (eVar 2)])) (P := fun v => v < c) (List.range k) (fun a _ p hp => by
      obtain ⟨y, p2, hy, hp2, d2⟩ := drw p hp (S := c) (by omega) (by omega)
      refine ⟨y, p2, hy, hp2, fun env hc _ h1 => ?_⟩
      simp [hc, h1, d2]) p hp
  rw [List.length_range] at hl
  refine ⟨bs, q, hq, hl, fun x hx => by have := hP x hx; omega, fun s1 s4 s5 s6 s7 s8 s9 s10 s11 s12 s13 => ?_⟩
  have h2 := h [.own p.so, s1, .val (.int c), .val (.int k), s4, s5, s6, s7, s8, s9, s10, s11, s12, s13, .none] [] rfl rfl rfl (by simp; omega)
  rw [show ((List.range k).map fun (u : Nat) => D.int u) = rgD 0 k by simp [rgD], List.nil_append, show bs.map (fun (u : Nat) => D.int u) = nL bs from rfl] at h2
  have ok := okR_nat k (by omega)
  generalize nL bs = B at *
  simp [ok, h2]
theorem law_rule_ok (p : Pl) (hp : 0 ≤ p.i) : ∃ (c k : Nat) (t : List Nat) (q : Pl) (o : List Sl), Ru c k t ∧ 0 ≤ q.i ∧ f_law_rule 300 [.own p.so, .val (.int 27)] = some (.d (.tup [.int c, .int k, tN t]), .own q.so :: o) := by
  obtain ⟨x, p1, hx, hp1, d1⟩ := drw p hp (S := 3) (by decide) (by decide)
  obtain ⟨y, p2, hy, hp2, d2⟩ := drw p1 hp1 (S := 5) (by decide) (by decide)
  rw [show ((3 : Nat) : Int) = 3 from rfl] at d1
  rw [show ((5 : Nat) : Int) = 5 from rfl] at d2
  have ct := cut_ok p2.so (c := 2 + x) (k := 1 + y) (by omega) (by omega) (by omega) (by omega)
  obtain ⟨hcn, hk1, _⟩ := kk_cn (c := 2 + x) (k := 1 + y) (by omega) (by omega) (by omega)
  unfold cutOk at ct
  have hc2 : 2 ≤ 2 + x := by omega
  have hc4 : 2 + x ≤ 4 := by omega
  have ec : (2 : Int) + (x : Int) = ((2 + x : Nat) : Int) := by omega
  have ek : (1 : Int) + (y : Int) = ((1 + y : Nat) : Int) := by omega
  generalize kk (2 + x) (1 + y) = k at *
  generalize 2 + x = c at *
  generalize 1 + y = k0 at *
  obtain ⟨o, ew⟩ := law_words_ok hcn
  obtain ⟨way, p3, hway, hp3, d3⟩ := drw p2 hp2 (S := 5) (by decide) (by decide)
  rw [show ((5 : Nat) : Int) = 5 from rfl] at d3
  obtain ⟨a, p4, ha, hp4, d4⟩ := drw p3 hp3 (S := k) (by omega) (by have := hcn.k5; omega)
  obtain ⟨fs, p5, hp5, hfl, hfc, cf⟩ := facs_ok hc2 hc4 hcn.k5 p4 hp4
  have wl := ws_len hcn
  have sm := hcn.small
  obtain ⟨out, q, t10, t11, t12, t13, hq, ho, hoc, lp⟩ := tab_loop hc2 hc4 hcn.k5 hfl hfc ha hway (.val (.int 27)) (.val (.int 8)) (.val (.lst ((ws c k).map tN))) (ws c k) [] p5 .none .none .none .none hp5 (fun w hw => (mem_ws c k w).1 hw) (by rw [wl, List.length_nil]; omega) (by simp)
  rw [List.length_nil, Nat.zero_add, wl] at ho
  refine ⟨c, k, out, q, [.val (.int 27)], ⟨hcn, hk1, ho, hoc⟩, hq, ?_⟩
  unfold f_law_rule runD m_law_rule
  rw [show ([MP.Slot.own p.so, .val (.int 27)] ++ List.replicate (15 - [MP.Slot.own p.so, .val (.int 27)].length) MP.Slot.none) = [.own p.so, .val (.int 27), .none, .none, .none, .none, .none, .none, .none, .none, .none, .none, .none, .none, .none] from rfl]
  rw [sSeq_nx (e1 := [.own p1.so, .val (.int 27), .val (.int c), .none, .none, .none, .none, .none, .none, .none, .none, .none, .none, .none, .none]) (by simp [d1, ec])]
  rw [sSeq_nx (e1 := [.own p2.so, .val (.int 27), .val (.int c), .val (.int k0), .none, .none, .none, .none, .none, .none, .none, .none, .none, .none, .none]) (by simp [d2, ek])]
  rw [sSeq_nx ct]
  rw [sSeq_nx (e1 := [.own p2.so, .val (.int 27), .val (.int c), .val (.int k), .val (.int 8), .val (.lst ((ws c k).map tN)), .none, .none, .none, .none, .none, .none, .none, .none, .none]) (by
    generalize (ws c k).map tN = WS at *
    simp [ew])]
  rw [sSeq_nx (e1 := [.own p3.so, .val (.int 27), .val (.int c), .val (.int k), .val (.int 8), .val (.lst ((ws c k).map tN)), .val (.int way), .none, .none, .none, .none, .none, .none, .none, .none]) (by
    generalize (ws c k).map tN = WS at *
    simp [d3])]
  rw [sSeq_nx (e1 := [.own p4.so, .val (.int 27), .val (.int c), .val (.int k), .val (.int 8), .val (.lst ((ws c k).map tN)), .val (.int way), .val (.int a), .none, .none, .none, .none, .none, .none, .none]) (by
    generalize (ws c k).map tN = WS at *
    simp [d4])]
  rw [sSeq_nx (cf _ _ _ _ _ _ _ _ _ _ _)]
  rw [sSeq_nx (e1 := [.own p5.so, .val (.int 27), .val (.int c), .val (.int k), .val (.int 8), .val (.lst ((ws c k).map tN)), .val (.int way), .val (.int a), .val (.lst (nL fs)), .own (.lst (nL [])), .none, .none, .none, .none, .none]) (by
    generalize (ws c k).map tN = WS at *
    generalize nL fs = F at *
    simp [nL])]
  rw [sSeq_nx (e1 := [.own q.so, .val (.int 27), .val (.int c), .val (.int k), .val (.int 8), .val (.lst ((ws c k).map tN)), .val (.int way), .val (.int a), .val (.lst (nL fs)), .own (.lst (nL out)), t10, t11, t12, t13, .none]) (by
    rw [sFor_s]
    generalize (ws c k).map tN = WS at *
    generalize nL fs = F at *
    generalize nL [] = E at *
    simp only [iSq_s, eVar_s, esc_sl, List.getElem?_cons_succ, List.getElem?_cons_zero]
    exact lp)]
  generalize (ws c k).map tN = WS at *
  unfold tN
  generalize nL fs = F at *
  generalize nL out = O at *
  simp [gTuple, outsOf]
end K63
set_option linter.all false
set_option maxRecDepth 100000
namespace K63
open PySem L2 MP
theorem gEq_str {x y : Str} (h1 : PyData.strOk x = true) (h2 : PyData.strOk y = true) : gEq (.str x) (.str y) = some (.bl (x == y)) := by
  show (if shD (.str x) && shD (.str y) then some (D.bl (eqD (.str x) (.str y))) else none) = _
  simp [shD, layD, depD, eqD, h1, h2]
theorem gNe_str {x y : Str} (h1 : PyData.strOk x = true) (h2 : PyData.strOk y = true) : gNe (.str x) (.str y) = some (.bl (!(x == y))) := by
  show (if shD (.str x) && shD (.str y) then some (D.bl (!eqD (.str x) (.str y))) else none) = _
  simp [shD, layD, depD, eqD, h1, h2]
def fm (b : Bool) : D := if b then sD "kept" else sD "lost"
theorem fm_t : fm true = sD "kept" := rfl
theorem fm_f : fm false = sD "lost" := rfl
theorem so_k : PyData.strOk (Str.ofString "kept") = true := by decide +kernel
theorem so_l : PyData.strOk (Str.ofString "lost") = true := by decide +kernel
theorem eq_kk : (Str.ofString "kept" == Str.ofString "kept") = true := by decide +kernel
theorem eq_ll : (Str.ofString "lost" == Str.ofString "lost") = true := by decide +kernel
theorem eq_kl : (Str.ofString "kept" == Str.ofString "lost") = false := by decide +kernel
theorem eq_lk : (Str.ofString "lost" == Str.ofString "kept") = false := by decide +kernel
theorem eq_fm (b d : Bool) : gEq (fm b) (fm d) = some (.bl (b == d)) := by
  cases b <;> cases d <;> simp only [fm_t, fm_f, sD, gEq_str so_k so_k, gEq_str so_k so_l, gEq_str so_l so_k, gEq_str so_l so_l, eq_kk, eq_ll, eq_kl, eq_lk] <;> rfl
theorem ne_fm (b d : Bool) : gNe (fm b) (fm d) = some (.bl (!(b == d))) := by
  cases b <;> cases d <;> simp only [fm_t, fm_f, sD, gNe_str so_k so_k, gNe_str so_k so_l, gNe_str so_l so_k, gNe_str so_l so_l, eq_kk, eq_ll, eq_kl, eq_lk] <;> rfl
theorem eq_fk (b : Bool) : gEq (fm b) (.str (Str.ofString "kept")) = some (.bl b) := by
  have := eq_fm b true
  rw [fm_t] at this
  rw [this]
  cases b <;> rfl
theorem ne_fk (b : Bool) : gNe (fm b) (.str (Str.ofString "kept")) = some (.bl (!b)) := by
  have := ne_fm b true
  rw [fm_t] at this
  rw [this]
  cases b <;> rfl
theorem ne_fl (b : Bool) : gNe (fm b) (.str (Str.ofString "lost")) = some (.bl b) := by
  have := ne_fm b false
  rw [fm_f] at this
  rw [this]
  cases b <;> rfl
/-! the law's statements -/
def oD (c k : Nat) (t : List Nat) : D := .tup [.int c, .int k, tN t]
theorem b_own (p : Pl) (hp : 0 ≤ p.i) : ∃ (c k : Nat) (t : List Nat) (q : Pl), Ru c k t ∧ 0 ≤ q.i ∧ ∀ (s0 s2 : Sl) (rest : List Sl),
    (sAsg (eBin gIx (eTup (aL [(eCallR (f_law_rule 300) (aL [(eVar 1), (eK (.int 27))])), (eCallR (f_law_moving 300) (aL [(eVar 1)]))])) (eCallR (f_law_draw 300) (aL [(eVar 1), (eK (.int 2))]))) (gNm 2)) (s0 :: .own p.so :: s2 :: rest) =
      some (.nx, s0 :: .own q.so :: .val (oD c k t) :: rest) := by
  obtain ⟨c, k, t, p1, o, hR, hp1, e1⟩ := law_rule_ok p hp
  obtain ⟨x, p2, hx, hp2, e2⟩ := law_moving_ok p1 hp1
  obtain ⟨y, q, hy, hq, e3⟩ := drw p2 hp2 (S := 2) (by decide) (by decide)
  rw [show ((2 : Nat) : Int) = 2 from rfl] at e3
  have hy2 : y = 0 ∨ y = 1 := by omega
  unfold oD
  rcases hy2 with rfl | rfl
  · refine ⟨c, k, t, q, hR, hq, fun s0 s2 rest => ?_⟩
    generalize tN t = T at *
    generalize tN (mv x) = M at *
    simp [e1, e2, e3]
  · refine ⟨2, 3, mv x, q, ru_mv hx, hq, fun s0 s2 rest => ?_⟩
    generalize tN t = T at *
    generalize tN (mv x) = M at *
    simp [e1, e2, e3]
theorem b_rule {c k : Nat} {t : List Nat} (h : Ru c k t) (s0 s1 s3 : Sl) (rest : List Sl) :
    (sAsg (eFrz (fMake 0 (f_Rule_init 300) (aL [(eBin gIx (eVar 2) (eK (.int 0))), (eBin gIx (eVar 2) (eK (.int 1))), (eBin gIx (eVar 2) (eK (.int 2)))]))) (gNm 3)) (s0 :: s1 :: .val (oD c k t) :: s3 :: rest) =
      some (.nx, s0 :: s1 :: .val (oD c k t) :: .val (ru c k t) :: rest) := by
  have r := rule_init h (d := tN t) (.inl rfl)
  unfold oD ru
  generalize tN t = T at *
  simp [r]
theorem b_count {c k : Nat} {t : List Nat} (h : Ru c k t) (s0 s1 s3 s4 : Sl) (rest : List Sl) :
    (sAsg (eCall (f_law_power 300) (aL [(eBin gIx (eVar 2) (eK (.int 0))), (eBin gSub (eBin gIx (eVar 2) (eK (.int 1))) (eK (.int 1)))])) (gNm 4)) (s0 :: s1 :: .val (oD c k t) :: s3 :: s4 :: rest) =
      some (.nx, s0 :: s1 :: .val (oD c k t) :: s3 :: .val (.int (c ^ (k - 1) : Nat)) :: rest) := by
  have k1 := h.k1
  obtain ⟨o, e⟩ := power_ok h.cn.pred
  have ck : (k : Int) - 1 = ((k - 1 : Nat) : Int) := by omega
  unfold oD
  generalize tN t = T at *
  generalize ((c ^ (k - 1) : Nat) : Int) = z at *
  simp [ck, e]
theorem five {c : Nat} (hc : 2 ≤ c) (hc4 : c ≤ 4) : gMul (.tup [.int 5]) (.int c) = some (wD (List.replicate c 5)) := by
  have h1 : c = 2 ∨ c = 3 ∨ c = 4 := by omega
  rcases h1 with rfl | rfl | rfl <;> rfl
theorem flat1 (d : D) : ∀ n : Nat, (List.replicate n [d]).flatten = List.replicate n d
  | 0 => rfl
  | n + 1 => by rw [List.replicate_succ, List.flatten_cons, flat1 d n]; rfl
theorem zeros {n : Nat} (hn : n ≤ 1000) : gMul (.tup [.int 0]) (.int n) = some (wD (List.replicate n 0)) := by
  have ok : okK (n : Int) = true := okK_iff _ ⟨by omega, by omega⟩
  have n1 : (n : Int) ≤ 1000 := by omega
  rw [gMul_t, ok, Int.toNat_natCast, flat1]
  simp [n1, hn, wD]
theorem b_equal {c k : Nat} {t : List Nat} (h : Ru c k t) (s0 s1 s4 s5 : Sl) (rest : List Sl) :
    (sAsg (eCall (f_kept 300) (aL [(eVar 3), (eBin gMul (eTup (aL [(eK (.int 5))])) (eBin gIx (eVar 2) (eK (.int 0))))])) (gNm 5)) (s0 :: s1 :: .val (oD c k t) :: .val (ru c k t) :: s4 :: s5 :: rest) =
      some (.nx, s0 :: s1 :: .val (oD c k t) :: .val (ru c k t) :: s4 :: .val (.tup [fm true, ru c k t, wD (List.replicate c 5), wD (List.replicate (c ^ (k - 1)) 0)]) :: rest) := by
  obtain ⟨c2, c4, _⟩ := h.c2
  obtain ⟨hk, hf⟩ := kept_rep h
  obtain ⟨o, e⟩ := kept_yes h (W := List.replicate c 5) (by simp) hk
  rw [hf] at e
  have f := five c2 c4
  rw [fm_t]
  unfold oD
  unfold ru at *
  generalize sD "kept" = S at *
  generalize wD (List.replicate c 5) = F at *
  generalize wD (List.replicate (c ^ (k - 1)) 0) = Z at *
  generalize tN t = T at *
  simp [-gMul_t, f, e]
theorem ne_wD (W : List Int) : gNe (wD W) (wD W) = some (.bl false) := by
  have := gNe_ti W W
  rw [decide_eq_true rfl] at this
  exact this
theorem b_check {R A : D} {n : Nat} (hn : n ≤ 1000) (s0 s1 s2 s3 : Sl) (rest : List Sl) :
    (sIf (tO (tOfB (eBin gNe (eBin gIx (eVar 5) (eK (.int 0))) (eK (.str (Str.ofString "kept"))))) (tOfB (eBin gNe (eBin gIx (eVar 5) (eK (.int 3))) (eBin gMul (eTup (aL [(eK (.int 0))])) (eVar 4))))) (sRet (eK (.bl false))) sNext) (s0 :: s1 :: s2 :: s3 :: .val (.int n) :: .val (.tup [fm true, R, A, wD (List.replicate n 0)]) :: rest) =
      some (.nx, s0 :: s1 :: s2 :: s3 :: .val (.int n) :: .val (.tup [fm true, R, A, wD (List.replicate n 0)]) :: rest) := by
  have z := zeros hn
  have e := ne_wD (List.replicate n 0)
  have f := ne_fk true
  generalize fm true = S at *
  generalize wD (List.replicate n 0) = Z at *
  generalize D.str (Str.ofString "kept") = S2 at *
  simp [-gMul_t, f, e, z]
end K63
set_option linter.all false
set_option maxRecDepth 100000
namespace K63
open PySem L2 MP
theorem verdict {c k : Nat} {t : List Nat} (h : Ru c k t) {A : List Int} (hA : A.length = c) : ∃ (b : Bool) (X : D) (o : List Sl), f_kept 300 [.val (ru c k t), .val (wD A)] = some (.d (.tup [fm b, ru c k t, wD A, X]), o) ∧ (b = true → Kept c k t A ∧ X = wD (flD c k t A)) ∧ (b = false → ¬ Kept c k t A ∧ ∃ row, Lost c k t A row ∧ X = tN row) := by
  by_cases hk : Kept c k t A
  · obtain ⟨o, e⟩ := kept_yes h hA hk
    exact ⟨true, _, o, e, fun _ => ⟨hk, rfl⟩, (fun z => nomatch z)⟩
  · obtain ⟨row, o, hl, e⟩ := kept_no h hA hk
    exact ⟨false, _, o, e, (fun z => nomatch z), fun _ => ⟨hk, row, hl, rfl⟩⟩
theorem worths_c {c : Nat} (hc : c ≤ 4) (p : Pl) (hp : 0 ≤ p.i) : ∃ (A : List Int) (q : Pl), 0 ≤ q.i ∧ A.length = c ∧ ∀ env : MEnv, env[1]? = some (.own p.so) → env[17]? = some .none → cLoop [17] (gNm 17) tYs (eBin gSub (eCallR (f_law_draw 300) (aL [(eVar 1), (eK (.int 7))])) (eK (.int 3))) (rgD 0 c) [] env = some (A.map .int, env.set 1 (.own q.so)) := by
  obtain ⟨xs, q, hq, hl, _, h⟩ := drawsU (iP := 1) (iK := 17) (by decide) (drwU_sub (N := 300) (S := 7) (C := 3) (by decide) (by decide)) (rgD 0 c) p hp (by simp [rgD]; omega)
  exact ⟨xs, q, hq, by rw [hl]; simp [rgD], h⟩
theorem b_one {c : Nat} (hc : c ≤ 4) (p : Pl) (hp : 0 ≤ p.i) : ∃ (A : List Int) (q : Pl), 0 ≤ q.i ∧ A.length = c ∧ ∀ (r : List D) (s0 s3 s4 s5 s6 s7 s8 s9 s10 s11 s12 s13 s14 s15 s16 : Sl),
    (sAsg (eCB gTuple (aL [(eFrz (fComp [17] (iR1 (aL [(eBin gIx (eVar 2) (eK (.int 0)))])) (gNm 17) tYs (eBin gSub (eCallR (f_law_draw 300) (aL [(eVar 1), (eK (.int 7))])) (eK (.int 3)))))])) (gNm 6)) [s0, .own p.so, .val (.tup (.int c :: r)), s3, s4, s5, s6, s7, s8, s9, s10, s11, s12, s13, s14, s15, s16, .none, .none] =
      some (.nx, [s0, .own q.so, .val (.tup (.int c :: r)), s3, s4, s5, .val (wD A), s7, s8, s9, s10, s11, s12, s13, s14, s15, s16, .none, .none]) := by
  obtain ⟨A, q, hq, hA, h⟩ := worths_c hc p hp
  refine ⟨A, q, hq, hA, fun r s0 s3 s4 s5 s6 s7 s8 s9 s10 s11 s12 s13 s14 s15 s16 => ?_⟩
  have h2 := h [s0, .own p.so, .val (.tup (.int c :: r)), s3, s4, s5, s6, s7, s8, s9, s10, s11, s12, s13, s14, s15, s16, .none, .none] rfl rfl
  have ok := okR_nat c (by omega)
  unfold wD
  generalize A.map D.int = AA at *
  simp [ok, h2, gTuple]
theorem b_two {c : Nat} (hc : c ≤ 4) (p : Pl) (hp : 0 ≤ p.i) : ∃ (A : List Int) (q : Pl), 0 ≤ q.i ∧ A.length = c ∧ ∀ (r : List D) (s0 s3 s4 s5 s6 s7 s8 s9 s10 s11 s12 s13 s14 s15 s16 : Sl),
    (sAsg (eCB gTuple (aL [(eFrz (fComp [17] (iR1 (aL [(eBin gIx (eVar 2) (eK (.int 0)))])) (gNm 17) tYs (eBin gSub (eCallR (f_law_draw 300) (aL [(eVar 1), (eK (.int 7))])) (eK (.int 3)))))])) (gNm 7)) [s0, .own p.so, .val (.tup (.int c :: r)), s3, s4, s5, s6, s7, s8, s9, s10, s11, s12, s13, s14, s15, s16, .none, .none] =
      some (.nx, [s0, .own q.so, .val (.tup (.int c :: r)), s3, s4, s5, s6, .val (wD A), s8, s9, s10, s11, s12, s13, s14, s15, s16, .none, .none]) := by
  obtain ⟨A, q, hq, hA, h⟩ := worths_c hc p hp
  refine ⟨A, q, hq, hA, fun r s0 s3 s4 s5 s6 s7 s8 s9 s10 s11 s12 s13 s14 s15 s16 => ?_⟩
  have h2 := h [s0, .own p.so, .val (.tup (.int c :: r)), s3, s4, s5, s6, s7, s8, s9, s10, s11, s12, s13, s14, s15, s16, .none, .none] rfl rfl
  have ok := okR_nat c (by omega)
  unfold wD
  generalize A.map D.int = AA at *
  simp [ok, h2, gTuple]
theorem b_times (p : Pl) (hp : 0 ≤ p.i) : ∃ (z : Int) (q : Pl), 0 ≤ q.i ∧ -4 ≤ z ∧ z ≤ 4 ∧ ∀ (s0 s2 s3 s4 s5 s6 s7 s8 : Sl) (rest : List Sl),
    (sAsg (eBin gSub (eCallR (f_law_draw 300) (aL [(eVar 1), (eK (.int 9))])) (eK (.int 4))) (gNm 8)) (s0 :: .own p.so :: s2 :: s3 :: s4 :: s5 :: s6 :: s7 :: s8 :: rest) =
      some (.nx, s0 :: .own q.so :: s2 :: s3 :: s4 :: s5 :: s6 :: s7 :: .val (.int z) :: rest) := by
  obtain ⟨x, q, hx, hq, d⟩ := drw p hp (S := 9) (by decide) (by decide)
  rw [show ((9 : Nat) : Int) = 9 from rfl] at d
  exact ⟨x - 4, q, hq, by omega, by omega, fun s0 s2 s3 s4 s5 s6 s7 s8 rest => by simp [d]⟩
theorem ixI {W : List Int} {i : Nat} (h : i < W.length) : atI (W.map D.int) (i : Int) = some (.int (wo W i)) := ix_W h
theorem b_both {c : Nat} (hc : c ≤ 4) {A B : List Int} (hA : A.length = c) (hB : B.length = c) {z : Int} (h1 : -4 ≤ z) (h2 : z ≤ 4) (r : List D) (s0 s1 s3 s4 s5 s9 s10 s11 s12 s13 s14 s15 s16 : Sl) :
    (sAsg (eCB gTuple (aL [(eFrz (fComp [17] (iR1 (aL [(eBin gIx (eVar 2) (eK (.int 0)))])) (gNm 17) tYs (eBin gAdd (eBin gIx (eVar 6) (eVar 17)) (eBin gMul (eVar 8) (eBin gIx (eVar 7) (eVar 17))))))])) (gNm 9)) [s0, s1, .val (.tup (.int c :: r)), s3, s4, s5, .val (wD A), .val (wD B), .val (.int z), s9, s10, s11, s12, s13, s14, s15, s16, .none, .none] =
      some (.nx, [s0, s1, .val (.tup (.int c :: r)), s3, s4, s5, .val (wD A), .val (wD B), .val (.int z), .val (wD (cmb c A z B)), s10, s11, s12, s13, s14, s15, s16, .none, .none]) := by
  have cc := comp1r (fun x => D.int (wo A x + z * wo B x)) (k := 17) (n := c) (m := eBin gAdd (eBin gIx (eVar 6) (eVar 17)) (eBin gMul (eVar 8) (eBin gIx (eVar 7) (eVar 17)))) [s0, s1, .val (.tup (.int c :: r)), s3, s4, s5, .val (wD A), .val (wD B), .val (.int z), s9, s10, s11, s12, s13, s14, s15, s16, .none, .none] rfl (by omega) fun x hx => by
    have e1 := ixI (W := A) (i := x) (by omega)
    have e2 := ixI (W := B) (i := x) (by omega)
    have hm : mulOk z (wo B x) = true := mulOk_l _ _ (by omega)
    unfold wD
    generalize wo A x = a at *
    generalize wo B x = b at *
    generalize A.map D.int = AA at *
    generalize B.map D.int = BB at *
    simp [e1, e2, hm]
  rw [show ((List.range c).map fun x => D.int (wo A x + z * wo B x)) = (cmb c A z B).map .int by
    unfold cmb
    rw [List.map_map]
    rfl] at cc
  have ok := okR_nat c (by omega)
  unfold wD at *
  generalize A.map D.int = AA at *
  generalize B.map D.int = BB at *
  generalize (cmb c A z B).map D.int = CC at *
  simp [ok, cc, gTuple]
theorem b_three {R A B C K1 K2 K3 : D} {o1 o2 o3 : List Sl} (e1 : f_kept 300 [.val R, .val A] = some (.d K1, o1)) (e2 : f_kept 300 [.val R, .val B] = some (.d K2, o2)) (e3 : f_kept 300 [.val R, .val C] = some (.d K3, o3)) (s0 s1 s2 s4 s5 s8 s10 s11 s12 : Sl) (rest : List Sl) :
    (sAsg (eTup (aL [(eCall (f_kept 300) (aL [(eVar 3), (eVar 6)])), (eCall (f_kept 300) (aL [(eVar 3), (eVar 7)])), (eCall (f_kept 300) (aL [(eVar 3), (eVar 9)]))])) (gTp 3 (gsCons (gNm 10) (gsCons (gNm 11) (gsCons (gNm 12) gsNil))))) (s0 :: s1 :: s2 :: .val R :: s4 :: s5 :: .val A :: .val B :: s8 :: .val C :: s10 :: s11 :: s12 :: rest) =
      some (.nx, s0 :: s1 :: s2 :: .val R :: s4 :: s5 :: .val A :: .val B :: s8 :: .val C :: .val K1 :: .val K2 :: .val K3 :: rest) := by
  simp [e1, e2, e3]
/-- flows of sums -/
theorem flD_len {c k : Nat} {t : List Nat} (h : Ru c k t) (W : List Int) : (flD c k t W).length = c ^ (k - 1) := by
  unfold flD
  rw [List.length_map, ws_len h.cn.pred]
theorem flD_cmb {c k : Nat} {t : List Nat} (h : Ru c k t) (A : List Int) (z : Int) (B : List Int) : flD c k t (cmb c A z B) = (List.range (c ^ (k - 1))).map fun j => wo (flD c k t A) j + z * wo (flD c k t B) j := by
  refine List.ext_getElem (by rw [flD_len h]; simp) fun j h1 h2 => ?_
  rw [flD_len h] at h1
  have hj : j < (ws c (k - 1)).length := by rw [ws_len h.cn.pred]; exact h1
  have hw := (mem_ws c (k - 1) _).1 (List.getElem_mem hj)
  have g : ∀ W : List Int, wo (flD c k t W) j = flv c k t W (ws c (k - 1))[j] := fun W => by
    unfold wo flD
    rw [List.getD_eq_getElem?_getD, List.getElem?_map, List.getElem?_eq_getElem hj]
    rfl
  rw [List.getElem_map, List.getElem_range, g A, g B, ← flv_cmb h A z B hw.1 hw.2]
  exact List.getElem_map _
theorem b_sum {n : Nat} (hn : n ≤ 1000) {z : Int} (h1 : -4 ≤ z) (h2 : z ≤ 4) {b1 b2 b3 : Bool} {R A B C X1 X2 X3 : D} {F1 F2 : List Int} (hb : b1 = true → b2 = true → b3 = true ∧ X1 = wD F1 ∧ X2 = wD F2 ∧ F1.length = n ∧ F2.length = n ∧ X3 = wD ((List.range n).map fun j => wo F1 j + z * wo F2 j)) (s0 s1 s2 s3 s5 s6 s7 s9 s13 s14 s15 s16 : Sl) :
    (sIf (tAn (tOfB (eBin gEq (eBin gIx (eVar 10) (eK (.int 0))) (eK (.str (Str.ofString "kept"))))) (tOfB (eBin gEq (eBin gIx (eVar 11) (eK (.int 0))) (eK (.str (Str.ofString "kept")))))) (sIf (tO (tOfB (eBin gNe (eBin gIx (eVar 12) (eK (.int 0))) (eK (.str (Str.ofString "kept"))))) (tOfB (eBin gNe (eBin gIx (eVar 12) (eK (.int 3))) (eCB gTuple (aL [(eFrz (fComp [17] (iR1 (aL [(eVar 4)])) (gNm 17) tYs (eBin gAdd (eBin gIx (eBin gIx (eVar 10) (eK (.int 3))) (eVar 17)) (eBin gMul (eVar 8) (eBin gIx (eBin gIx (eVar 11) (eK (.int 3))) (eVar 17))))))]))))) (sRet (eK (.bl false))) sNext) sNext)
      [s0, s1, s2, s3, .val (.int n), s5, s6, s7, .val (.int z), s9, .val (.tup [fm b1, R, A, X1]), .val (.tup [fm b2, R, B, X2]), .val (.tup [fm b3, R, C, X3]), s13, s14, s15, s16, .none, .none] =
      some (.nx, [s0, s1, s2, s3, .val (.int n), s5, s6, s7, .val (.int z), s9, .val (.tup [fm b1, R, A, X1]), .val (.tup [fm b2, R, B, X2]), .val (.tup [fm b3, R, C, X3]), s13, s14, s15, s16, .none, .none]) := by
  have q1 := eq_fk b1
  have q2 := eq_fk b2
  have q3 := ne_fk b3
  cases b1 with
  | false =>
    generalize D.str (Str.ofString "kept") = S at *
    generalize fm false = G at *
    simp [q1]
  | true =>
    cases b2 with
    | false =>
      generalize D.str (Str.ofString "kept") = S at *
      generalize fm false = G at *
      generalize fm true = G1 at *
      simp [q1, q2]
    | true =>
      obtain ⟨rfl, rfl, rfl, l1, l2, rfl⟩ := hb rfl rfl
      have cc := comp1r (fun j => D.int (wo F1 j + z * wo F2 j)) (k := 17) (n := n) (m := eBin gAdd (eBin gIx (eBin gIx (eVar 10) (eK (.int 3))) (eVar 17)) (eBin gMul (eVar 8) (eBin gIx (eBin gIx (eVar 11) (eK (.int 3))) (eVar 17))))
        [s0, s1, s2, s3, .val (.int n), s5, s6, s7, .val (.int z), s9, .val (.tup [fm true, R, A, wD F1]), .val (.tup [fm true, R, B, wD F2]), .val (.tup [fm true, R, C, wD ((List.range n).map fun j => wo F1 j + z * wo F2 j)]), s13, s14, s15, s16, .none, .none] rfl (by omega) fun x hx => by
        have e1 := ixI (W := F1) (i := x) (by omega)
        have e2 := ixI (W := F2) (i := x) (by omega)
        have hm : mulOk z (wo F2 x) = true := mulOk_l _ _ (by omega)
        unfold wD
        generalize ((List.range n).map fun j => wo F1 j + z * wo F2 j).map D.int = CC at *
        generalize wo F1 x = a at *
        generalize wo F2 x = b at *
        generalize F1.map D.int = AA at *
        generalize F2.map D.int = BB at *
        generalize fm true = G1 at *
        simp [e1, e2, hm]
      have ne := ne_wD ((List.range n).map fun j => wo F1 j + z * wo F2 j)
      rw [show ((List.range n).map fun j => D.int (wo F1 j + z * wo F2 j)) = ((List.range n).map fun j => wo F1 j + z * wo F2 j).map .int by
        rw [List.map_map]
        rfl] at cc
      have ok := okR_nat n (by omega)
      unfold wD at *
      generalize ((List.range n).map fun j => wo F1 j + z * wo F2 j).map D.int = CC at *
      generalize F1.map D.int = AA at *
      generalize F2.map D.int = BB at *
      generalize D.str (Str.ofString "kept") = S at *
      generalize fm true = G1 at *
      simp [q1, q3, ok, cc, gTuple, ne]
theorem b_mix {z : Int} {b1 b2 b3 : Bool} {R A B C X1 X2 X3 : D} (hb : b1 ≠ b2 → z ≠ 0 → b3 = false) (s0 s1 s2 s3 s4 s5 s6 s7 s9 : Sl) (rest : List Sl) :
    (sIf (tAn (tOfB (eBin gNe (eBin gIx (eVar 10) (eK (.int 0))) (eBin gIx (eVar 11) (eK (.int 0))))) (tAn (tOfB (eBin gNe (eVar 8) (eK (.int 0)))) (tAn (tOfB (eBin gNe (eBin gIx (eVar 12) (eK (.int 0))) (eK (.str (Str.ofString "lost"))))) (tO (tOfB (eBin gEq (eBin gIx (eVar 10) (eK (.int 0))) (eK (.str (Str.ofString "kept"))))) (tOfB (eBin gEq (eBin gIx (eVar 11) (eK (.int 0))) (eK (.str (Str.ofString "kept"))))))))) (sRet (eK (.bl false))) sNext)
      (s0 :: s1 :: s2 :: s3 :: s4 :: s5 :: s6 :: s7 :: .val (.int z) :: s9 :: .val (.tup [fm b1, R, A, X1]) :: .val (.tup [fm b2, R, B, X2]) :: .val (.tup [fm b3, R, C, X3]) :: rest) =
      some (.nx, s0 :: s1 :: s2 :: s3 :: s4 :: s5 :: s6 :: s7 :: .val (.int z) :: s9 :: .val (.tup [fm b1, R, A, X1]) :: .val (.tup [fm b2, R, B, X2]) :: .val (.tup [fm b3, R, C, X3]) :: rest) := by
  have q := ne_fm b1 b2
  have q3 := ne_fl b3
  generalize fm b1 = G1 at *
  generalize fm b2 = G2 at *
  generalize fm b3 = G3 at *
  generalize D.str (Str.ofString "lost") = S at *
  generalize D.str (Str.ofString "kept") = S2 at *
  by_cases h : b1 = b2
  · subst h
    simp [q]
  · have hq : (!(b1 == b2)) = true := by simp [h]
    rw [hq] at q
    by_cases hz : z = 0
    · simp [q, hz]
    · rw [hb h hz] at q3
      simp [q, hz, q3]
theorem b_row {c : Nat} (hc : 2 ≤ c) (hc4 : c ≤ 4) (p : Pl) (hp : 0 ≤ p.i) : ∃ (row : List Nat) (q : Pl), 1 ≤ row.length ∧ row.length ≤ 9 ∧ (∀ x ∈ row, x < c) ∧ 0 ≤ q.i ∧ ∀ (r : List D) (s0 s3 s4 s5 s6 s7 s8 s9 s10 s11 s12 s13 : Sl) (rest : List Sl),
    (sAsg (eCallR (f_law_row 300) (aL [(eVar 1), (eVar 2), (eBin gAdd (eK (.int 1)) (eCallR (f_law_draw 300) (aL [(eVar 1), (eK (.int 9))])))])) (gNm 13)) (s0 :: .own p.so :: .val (.tup (.int c :: r)) :: s3 :: s4 :: s5 :: s6 :: s7 :: s8 :: s9 :: s10 :: s11 :: s12 :: s13 :: rest) =
      some (.nx, s0 :: .own q.so :: .val (.tup (.int c :: r)) :: s3 :: s4 :: s5 :: s6 :: s7 :: s8 :: s9 :: s10 :: s11 :: s12 :: .val (tN row) :: rest) := by
  obtain ⟨x, p1, hx, hp1, d⟩ := drw p hp (S := 9) (by decide) (by decide)
  rw [show ((9 : Nat) : Int) = 9 from rfl] at d
  have hr := fun r => law_row_ok (n := 1 + x) hc hc4 (by omega) r p1 hp1
  obtain ⟨bs, q, hq, hl, hP, h⟩ := draws_c (iP := 0) (iK := 3) (by decide) (C := fun env => ∃ r, env[1]? = some (.val (.tup (.int c :: r)))) (by
    intro env i s hi ⟨r, hc⟩
    refine ⟨r, ?_⟩
    rcases hi with rfl | rfl
    · rw [List.getElem?_set_ne (by decide)]; exact hc
    · rw [List.getElem?_set_ne (by decide)]; exact hc) (enc := fun (u : Nat) => D.int u) (encb := fun (u : Nat) => D.int u) (m := eCallR (f_law_draw 300) (aL [(eVar 0), (eBin gIx (eVar 1) (eK (.int 0)))])) (P := fun v => v < c) (List.range (1 + x)) (fun a _ p hp => by
      obtain ⟨y, p2, hy, hp2, d2⟩ := drw p hp (S := c) (by omega) (by omega)
      refine ⟨y, p2, hy, hp2, fun env ⟨r, hc⟩ _ h1 => ?_⟩
      simp [hc, h1, d2]) p1 hp1
  rw [List.length_range] at hl
  refine ⟨bs, q, by omega, by omega, hP, hq, fun r s0 s3 s4 s5 s6 s7 s8 s9 s10 s11 s12 s13 rest => ?_⟩
  have h2 := h [.own p1.so, .val (.tup (.int c :: r)), .val (.int (1 + x : Nat)), .none] [] ⟨r, rfl⟩ rfl rfl (by simp; omega)
  rw [show ((List.range (1 + x)).map fun (u : Nat) => D.int u) = rgD 0 (1 + x) by simp [rgD], List.nil_append, show bs.map (fun (u : Nat) => D.int u) = nL bs from rfl] at h2
  have ok := okR_nat (1 + x) (by omega)
  have e : f_law_row 300 [.own p1.so, .val (.tup (.int c :: r)), .val (.int (1 + x : Nat))] = some (.d (tN bs), [.own q.so, .val (.tup (.int c :: r)), .val (.int (1 + x : Nat))]) := by
    unfold tN
    generalize nL bs = B at *
    have zt : (((1 + x : Nat) : Int)).toNat = 1 + x := Int.toNat_natCast _
    generalize ((1 + x : Nat) : Int) = X at *
    unfold f_law_row runD m_law_row
    simp [ok, zt, h2, gTuple, outsOf]
  have ex : (1 : Int) + (x : Int) = ((1 + x : Nat) : Int) := by omega
  unfold tN at *
  generalize nL bs = B at *
  generalize ((1 + x : Nat) : Int) = X at *
  simp [d, ex, e]
end K63
set_option Elab.async false
set_option linter.all false
set_option maxRecDepth 100000
set_option maxHeartbeats 0
namespace K63
open PySem PySem.Spec PyProof.Rows L2 MP
def topS (i : Nat) : Stmt := PySem.Challenge.pw_cellproof_k63_whole_worths_together.main.body.getD i (.Pass ⟨0, 0, 0, 0⟩)
abbrev s_raised : Stmt := (topS 6)
theorem sc_raised : FnScope ["base", "exponent", "result"] ["base", "exponent"] (defScope s_raised) := ⟨rfl, rfl, rfl, by decide +kernel, rfl, by decide +kernel, by decide +kernel⟩
def R_raised : Nat → Bool := fun i => false
abbrev s_words : Stmt := (topS 13)
theorem sc_words : FnScope ["colours", "length", "found", "_", "word", "colour"] ["colours", "length"] (defScope s_words) := ⟨rfl, rfl, rfl, by decide +kernel, rfl, by decide +kernel, by decide +kernel⟩
def R_words : Nat → Bool := fun i => false
abbrev s_checked_row : Stmt := (topS 14)
theorem sc_checked_row : FnScope ["rule", "row", "colour"] ["rule", "row"] (defScope s_checked_row) := ⟨rfl, rfl, rfl, by decide +kernel, rfl, by decide +kernel, by decide +kernel⟩
def R_checked_row : Nat → Bool := fun i => false
abbrev s_is_row : Stmt := (topS 15)
theorem sc_is_row : FnScope ["rule", "row", "colour"] ["rule", "row"] (defScope s_is_row) := ⟨rfl, rfl, rfl, by decide +kernel, rfl, by decide +kernel, by decide +kernel⟩
def R_is_row : Nat → Bool := fun i => false
abbrev s_checked_worths : Stmt := (topS 24)
theorem sc_checked_worths : FnScope ["rule", "worths"] ["rule", "worths"] (defScope s_checked_worths) := ⟨rfl, rfl, rfl, by decide +kernel, rfl, by decide +kernel, by decide +kernel⟩
def R_checked_worths : Nat → Bool := fun i => false
abbrev s_worth : Stmt := (topS 25)
theorem sc_worth : FnScope ["worths", "row", "colour"] ["worths", "row"] (defScope s_worth) := ⟨rfl, rfl, rfl, by decide +kernel, rfl, by decide +kernel, by decide +kernel⟩
def R_worth : Nat → Bool := fun i => false
abbrev s_turned : Stmt := (topS 32)
theorem sc_turned : FnScope ["row", "by"] ["row", "by"] (defScope s_turned) := ⟨rfl, rfl, rfl, by decide +kernel, rfl, by decide +kernel, by decide +kernel⟩
def R_turned : Nat → Bool := fun i => false
abbrev s_law_pool : Stmt := (topS 34)
theorem sc_law_pool : FnScope ["script", "budget"] ["script", "budget"] (defScope s_law_pool) := ⟨rfl, rfl, rfl, by decide +kernel, rfl, by decide +kernel, by decide +kernel⟩
def R_law_pool : Nat → Bool := fun i => false
abbrev s_law_draw : Stmt := (topS 35)
theorem sc_law_draw : FnScope ["pool", "size", "cell", "value"] ["pool", "size"] (defScope s_law_draw) := ⟨rfl, rfl, rfl, by decide +kernel, rfl, by decide +kernel, by decide +kernel⟩
def R_law_draw : Nat → Bool := fun i => i == 0
abbrev s_law_power : Stmt := (topS 37)
theorem sc_law_power : FnScope ["base", "e", "result", "turn"] ["base", "e"] (defScope s_law_power) := ⟨rfl, rfl, rfl, by decide +kernel, rfl, by decide +kernel, by decide +kernel⟩
def R_law_power : Nat → Bool := fun i => false
abbrev s_law_words : Stmt := (topS 38)
theorem sc_law_words : FnScope ["colours", "size", "found", "turn", "longer", "word", "colour"] ["colours", "size"] (defScope s_law_words) := ⟨rfl, rfl, rfl, by decide +kernel, rfl, by decide +kernel, by decide +kernel⟩
def R_law_words : Nat → Bool := fun i => false
abbrev s_Rule_of : Stmt := (inClass (topS 12) 3)
theorem sc_Rule_of : FnScope ["self", "window", "at", "colour"] ["self", "window"] (defScope s_Rule_of) := ⟨rfl, rfl, rfl, by decide +kernel, rfl, by decide +kernel, by decide +kernel⟩
def R_Rule_of : Nat → Bool := fun i => false
abbrev s_stepped : Stmt := (topS 16)
theorem sc_stepped : FnScope ["rule", "row", "size", "wide", "at"] ["rule", "row"] (defScope s_stepped) := ⟨rfl, rfl, rfl, by decide +kernel, rfl, by decide +kernel, by decide +kernel⟩
def R_stepped : Nat → Bool := fun i => false
abbrev s_nodes_of : Stmt := (topS 22)
theorem sc_nodes_of : FnScope ["rule"] ["rule"] (defScope s_nodes_of) := ⟨rfl, rfl, rfl, by decide +kernel, rfl, by decide +kernel, by decide +kernel⟩
def R_nodes_of : Nat → Bool := fun i => false
abbrev s_gain : Stmt := (topS 26)
theorem sc_gain : FnScope ["rule", "worths", "window"] ["rule", "worths", "window"] (defScope s_gain) := ⟨rfl, rfl, rfl, by decide +kernel, rfl, by decide +kernel, by decide +kernel⟩
def R_gain : Nat → Bool := fun i => false
abbrev s_law_rule : Stmt := (topS 39)
theorem sc_law_rule : FnScope ["pool", "most", "colours", "width", "turn", "windows", "way", "at", "factors", "table", "window", "drawn", "sums", "shifted", "k"] ["pool", "most"] (defScope s_law_rule) := ⟨rfl, rfl, rfl, by decide +kernel, rfl, by decide +kernel, by decide +kernel⟩
def R_law_rule : Nat → Bool := fun i => i == 0
abbrev s_law_row : Stmt := (topS 40)
theorem sc_law_row : FnScope ["pool", "rule", "size", "k"] ["pool", "rule", "size"] (defScope s_law_row) := ⟨rfl, rfl, rfl, by decide +kernel, rfl, by decide +kernel, by decide +kernel⟩
def R_law_row : Nat → Bool := fun i => i == 0
abbrev s_law_moving : Stmt := (topS 41)
theorem sc_law_moving : FnScope ["pool", "way", "table", "window", "left", "here", "right"] ["pool"] (defScope s_law_moving) := ⟨rfl, rfl, rfl, by decide +kernel, rfl, by decide +kernel, by decide +kernel⟩
def R_law_moving : Nat → Bool := fun i => i == 0
abbrev s_Rule_init : Stmt := (inClass (topS 12) 0)
theorem sc_Rule_init : FnScope ["self", "colours", "width", "table", "colour"] ["self", "colours", "width", "table"] (defScope s_Rule_init) := ⟨rfl, rfl, rfl, by decide +kernel, rfl, by decide +kernel, by decide +kernel⟩
def R_Rule_init : Nat → Bool := fun i => i == 0
abbrev s_step : Stmt := (topS 17)
theorem sc_step : FnScope ["rule", "row"] ["rule", "row"] (defScope s_step) := ⟨rfl, rfl, rfl, by decide +kernel, rfl, by decide +kernel, by decide +kernel⟩
def R_step : Nat → Bool := fun i => false
abbrev s_after : Stmt := (topS 18)
theorem sc_after : FnScope ["rule", "row", "steps", "_"] ["rule", "row", "steps"] (defScope s_after) := ⟨rfl, rfl, rfl, by decide +kernel, rfl, by decide +kernel, by decide +kernel⟩
def R_after : Nat → Bool := fun i => false
abbrev s_flows : Stmt := (topS 27)
theorem sc_flows : FnScope ["rule", "worths", "nodes", "flows", "ways", "queue", "at", "here", "colour", "window", "ahead"] ["rule", "worths"] (defScope s_flows) := ⟨rfl, rfl, rfl, by decide +kernel, rfl, by decide +kernel, by decide +kernel⟩
def R_flows : Nat → Bool := fun i => false
abbrev s_lost_row : Stmt := (topS 29)
theorem sc_lost_row : FnScope ["rule", "worths", "ways", "window", "first", "home", "cells", "row"] ["rule", "worths", "ways", "window"] (defScope s_lost_row) := ⟨rfl, rfl, rfl, by decide +kernel, rfl, by decide +kernel, by decide +kernel⟩
def R_lost_row : Nat → Bool := fun i => false
abbrev s_kept_right : Stmt := (topS 30)
theorem sc_kept_right : FnScope ["claim", "form", "rule", "worths", "told", "nodes", "flows", "window"] ["claim"] (defScope s_kept_right) := ⟨rfl, rfl, rfl, by decide +kernel, rfl, by decide +kernel, by decide +kernel⟩
def R_kept_right : Nat → Bool := fun i => false
abbrev s_behind : Stmt := (topS 19)
theorem sc_behind : FnScope ["first", "second", "width", "table", "word", "inner", "at"] ["first", "second"] (defScope s_behind) := ⟨rfl, rfl, rfl, by decide +kernel, rfl, by decide +kernel, by decide +kernel⟩
def R_behind : Nat → Bool := fun i => false
abbrev s_kept : Stmt := (topS 28)
theorem sc_kept : FnScope ["rule", "worths", "flows", "ways", "window", "node"] ["rule", "worths"] (defScope s_kept) := ⟨rfl, rfl, rfl, by decide +kernel, rfl, by decide +kernel, by decide +kernel⟩
def R_kept : Nat → Bool := fun i => false
abbrev s_law_same : Stmt := (topS 36)
theorem sc_law_same : FnScope ["actual", "due", "k"] ["actual", "due"] (defScope s_law_same) := ⟨rfl, rfl, rfl, by decide +kernel, rfl, by decide +kernel, by decide +kernel⟩
def R_law_same : Nat → Bool := fun i => false
abbrev s_law : Stmt := (topS 42)
theorem sc_law : FnScope ["script", "pool", "own", "rule", "count", "equal", "one", "two", "times", "both", "first", "second", "third", "row", "other", "lost", "by", "k", "flow"] ["script"] (defScope s_law) := ⟨rfl, rfl, rfl, by decide +kernel, rfl, by decide +kernel, by decide +kernel⟩
def R_law : Nat → Bool := fun i => false
structure TX (K : PySem.W.Frag) (mg : Str → Option Value) (cl : ClM) where
  a_raised : Addr
  d_raised : FuncData
  F_raised : Fun K "raised" "raised" s_raised a_raised d_raised
  b_raised : Binds K d_raised ["base", "exponent"] []
  mg_raised : mg "raised" = some (.ref a_raised)
  a_words : Addr
  d_words : FuncData
  F_words : Fun K "words" "words" s_words a_words d_words
  b_words : Binds K d_words ["colours", "length"] []
  mg_words : mg "words" = some (.ref a_words)
  a_checked_row : Addr
  d_checked_row : FuncData
  F_checked_row : Fun K "checked_row" "checked_row" s_checked_row a_checked_row d_checked_row
  b_checked_row : Binds K d_checked_row ["rule", "row"] []
  mg_checked_row : mg "checked_row" = some (.ref a_checked_row)
  a_is_row : Addr
  d_is_row : FuncData
  F_is_row : Fun K "is_row" "is_row" s_is_row a_is_row d_is_row
  b_is_row : Binds K d_is_row ["rule", "row"] []
  mg_is_row : mg "is_row" = some (.ref a_is_row)
  a_checked_worths : Addr
  d_checked_worths : FuncData
  F_checked_worths : Fun K "checked_worths" "checked_worths" s_checked_worths a_checked_worths d_checked_worths
  b_checked_worths : Binds K d_checked_worths ["rule", "worths"] []
  mg_checked_worths : mg "checked_worths" = some (.ref a_checked_worths)
  a_worth : Addr
  d_worth : FuncData
  F_worth : Fun K "worth" "worth" s_worth a_worth d_worth
  b_worth : Binds K d_worth ["worths", "row"] []
  mg_worth : mg "worth" = some (.ref a_worth)
  a_turned : Addr
  d_turned : FuncData
  F_turned : Fun K "turned" "turned" s_turned a_turned d_turned
  b_turned : Binds K d_turned ["row", "by"] []
  mg_turned : mg "turned" = some (.ref a_turned)
  a_law_pool : Addr
  d_law_pool : FuncData
  F_law_pool : Fun K "_law_pool" "_law_pool" s_law_pool a_law_pool d_law_pool
  b_law_pool : Binds K d_law_pool ["script", "budget"] []
  mg_law_pool : mg "_law_pool" = some (.ref a_law_pool)
  a_law_draw : Addr
  d_law_draw : FuncData
  F_law_draw : Fun K "_law_draw" "_law_draw" s_law_draw a_law_draw d_law_draw
  b_law_draw : Binds K d_law_draw ["pool", "size"] []
  mg_law_draw : mg "_law_draw" = some (.ref a_law_draw)
  a_law_power : Addr
  d_law_power : FuncData
  F_law_power : Fun K "_law_power" "_law_power" s_law_power a_law_power d_law_power
  b_law_power : Binds K d_law_power ["base", "e"] []
  mg_law_power : mg "_law_power" = some (.ref a_law_power)
  a_law_words : Addr
  d_law_words : FuncData
  F_law_words : Fun K "_law_words" "_law_words" s_law_words a_law_words d_law_words
  b_law_words : Binds K d_law_words ["colours", "size"] []
  mg_law_words : mg "_law_words" = some (.ref a_law_words)
  a_Rule_of : Addr
  d_Rule_of : FuncData
  F_Rule_of : Fun K "of" "Rule.of" s_Rule_of a_Rule_of d_Rule_of
  b_Rule_of : Binds K d_Rule_of ["self", "window"] []
  a_stepped : Addr
  d_stepped : FuncData
  F_stepped : Fun K "stepped" "stepped" s_stepped a_stepped d_stepped
  b_stepped : Binds K d_stepped ["rule", "row"] []
  mg_stepped : mg "stepped" = some (.ref a_stepped)
  a_nodes_of : Addr
  d_nodes_of : FuncData
  F_nodes_of : Fun K "nodes_of" "nodes_of" s_nodes_of a_nodes_of d_nodes_of
  b_nodes_of : Binds K d_nodes_of ["rule"] []
  mg_nodes_of : mg "nodes_of" = some (.ref a_nodes_of)
  a_gain : Addr
  d_gain : FuncData
  F_gain : Fun K "_gain" "_gain" s_gain a_gain d_gain
  b_gain : Binds K d_gain ["rule", "worths", "window"] []
  mg_gain : mg "_gain" = some (.ref a_gain)
  a_law_rule : Addr
  d_law_rule : FuncData
  F_law_rule : Fun K "_law_rule" "_law_rule" s_law_rule a_law_rule d_law_rule
  b_law_rule : Binds K d_law_rule ["pool", "most"] []
  mg_law_rule : mg "_law_rule" = some (.ref a_law_rule)
  a_law_row : Addr
  d_law_row : FuncData
  F_law_row : Fun K "_law_row" "_law_row" s_law_row a_law_row d_law_row
  b_law_row : Binds K d_law_row ["pool", "rule", "size"] []
  mg_law_row : mg "_law_row" = some (.ref a_law_row)
  a_law_moving : Addr
  d_law_moving : FuncData
  F_law_moving : Fun K "_law_moving" "_law_moving" s_law_moving a_law_moving d_law_moving
  b_law_moving : Binds K d_law_moving ["pool"] []
  mg_law_moving : mg "_law_moving" = some (.ref a_law_moving)
  a_Rule_init : Addr
  d_Rule_init : FuncData
  F_Rule_init : Fun K "__init__" "Rule.__init__" s_Rule_init a_Rule_init d_Rule_init
  b_Rule_init : Binds K d_Rule_init ["self", "colours", "width", "table"] []
  a_step : Addr
  d_step : FuncData
  F_step : Fun K "step" "step" s_step a_step d_step
  b_step : Binds K d_step ["rule", "row"] []
  mg_step : mg "step" = some (.ref a_step)
  a_after : Addr
  d_after : FuncData
  F_after : Fun K "after" "after" s_after a_after d_after
  b_after : Binds K d_after ["rule", "row", "steps"] []
  mg_after : mg "after" = some (.ref a_after)
  a_flows : Addr
  d_flows : FuncData
  F_flows : Fun K "_flows" "_flows" s_flows a_flows d_flows
  b_flows : Binds K d_flows ["rule", "worths"] []
  mg_flows : mg "_flows" = some (.ref a_flows)
  a_lost_row : Addr
  d_lost_row : FuncData
  F_lost_row : Fun K "_lost_row" "_lost_row" s_lost_row a_lost_row d_lost_row
  b_lost_row : Binds K d_lost_row ["rule", "worths", "ways", "window"] []
  mg_lost_row : mg "_lost_row" = some (.ref a_lost_row)
  a_kept_right : Addr
  d_kept_right : FuncData
  F_kept_right : Fun K "kept_right" "kept_right" s_kept_right a_kept_right d_kept_right
  b_kept_right : Binds K d_kept_right ["claim"] []
  mg_kept_right : mg "kept_right" = some (.ref a_kept_right)
  a_behind : Addr
  d_behind : FuncData
  F_behind : Fun K "behind" "behind" s_behind a_behind d_behind
  b_behind : Binds K d_behind ["first", "second"] []
  mg_behind : mg "behind" = some (.ref a_behind)
  a_kept : Addr
  d_kept : FuncData
  F_kept : Fun K "kept" "kept" s_kept a_kept d_kept
  b_kept : Binds K d_kept ["rule", "worths"] []
  mg_kept : mg "kept" = some (.ref a_kept)
  a_law_same : Addr
  d_law_same : FuncData
  F_law_same : Fun K "_law_same" "_law_same" s_law_same a_law_same d_law_same
  b_law_same : Binds K d_law_same ["actual", "due"] []
  mg_law_same : mg "_law_same" = some (.ref a_law_same)
  a_law : Addr
  d_law : FuncData
  F_law : Fun K "law" "law" s_law a_law d_law
  b_law : Binds K d_law ["script"] []
  mg_law : mg "law" = some (.ref a_law)
  A_Rule : Addr
  k_Rule : ClsOk K cl 0 A_Rule ["colours", "width", "table"]
  mg_Rule : mg "Rule" = some (.ref A_Rule)
  mk_Rule : Mk K A_Rule a_Rule_init
  me_Rule_of : Meth K A_Rule "of" a_Rule_of
  n_range : mg "range" = none
  n_tuple : mg "tuple" = none
  n_len : mg "len" = none
  n_all : mg "all" = none
  n_sum : mg "sum" = none
  n_list : mg "list" = none
  n_int : mg "int" = none
  n_dict : mg "dict" = none
  n_zip : mg "zip" = none
  n_isinstance : mg "isinstance" = none
  n_bool : mg "bool" = none
  n_str : mg "str" = none
  t_MOST_CELLS : Tok
  c_MOST_CELLS : mg "MOST_CELLS" = some (.int 60 t_MOST_CELLS)
  t_MOST_NODES : Tok
  c_MOST_NODES : mg "MOST_NODES" = some (.int 64 t_MOST_NODES)
  t_MOST_COLOURS : Tok
  c_MOST_COLOURS : mg "MOST_COLOURS" = some (.int 4 t_MOST_COLOURS)
  t_MOST_WIDTH : Tok
  c_MOST_WIDTH : mg "MOST_WIDTH" = some (.int 9 t_MOST_WIDTH)
  t_MOST_TABLE : Tok
  c_MOST_TABLE : mg "MOST_TABLE" = some (.int 1024 t_MOST_TABLE)
section
variable {P : Program} {w : World} {K : PySem.W.Frag} {mg : Str → Option Value} {base : Heap} {cl : ClM}
theorem ok_raised (T : TX K mg cl) (N : Nat) : FnOk P w K mg base CX0 1 T.a_raised T.d_raised ["base", "exponent"] (spG K cl 2 R_raised (f_raised N)) :=
  fn_ok T.F_raised sc_raised fun cdv A outer s H E hr =>
    have nd := sc_raised.nd
    have hu1 := hu_1 hr
    have hu64 := hu_64 hr
    have hu65 := hu_65 hr
    (mss_cons (ms_set me_int (fun _ p => ps_set (i := 2) nd rfl (Or.inl rfl) p) rfl)
    (mss_cons (ms_while (n := N) PassesOwn.never (mt_cmp om_gt (me_var (pv 1)) me_int (nomark _)) (mss_cons (ms_if (mt_cmp (om_eq hu64) (me_op om_mod (me_var (pv 1)) me_int) me_int (nomark _)) (mss_one (ms_set (me_op om_mul (me_var (pv 2)) (me_var (pv 0))) (fun _ p => ps_set (i := 2) nd rfl (Or.inl rfl) p) rfl)) mss_nil)
    (mss_cons (ms_set (me_op om_fdiv (me_var (pv 1)) me_int) (fun _ p => ps_set (i := 1) nd rfl (Or.inl rfl) p) rfl)
    (mss_one (ms_if (mt_cmp om_gt (me_var (pv 1)) me_int (nomark _)) (mss_one (ms_set (me_op om_mul (me_var (pv 0)) (me_var (pv 0))) (fun _ p => ps_set (i := 0) nd rfl (Or.inl rfl) p) rfl)) mss_nil)))))
    (mss_one (ms_ret (me_var (pv 2))))))
theorem ok_words (T : TX K mg cl) (N : Nat) : FnOk P w K mg base CX0 1 T.a_words T.d_words ["colours", "length"] (spG K cl 2 R_words (f_words N)) :=
  fn_ok T.F_words sc_words fun cdv A outer s H E hr =>
    have nd := sc_words.nd
    have hu1 := hu_1 hr
    have hu64 := hu_64 hr
    have hu65 := hu_65 hr
    (mss_cons (ms_set (me_frz (mf_lst (mal_cons (me_tup mal_nil) mal_nil fun _ _ p q => pa_cons p q))) (fun _ p => ps_set (i := 2) nd rfl (Or.inl rfl) p) rfl)
    (mss_cons (ms_for PassesOwn.never rfl (mi_r1 (mal_cons (me_var (pv 1)) mal_nil fun _ _ p q => pa_cons p q) fun _ p => pi_range1 (by rfl) T.n_range p) (mg_name (pg_name (i := 3) nd rfl (Or.inl rfl)) rfl) (mss_one (ms_setLc2 (vs := [4, 5]) (vs1 := [5]) (by decide) (mi_sq (me_var (pv 2))) (fun _ _ _ _ _ => (mg_name (pg_name (i := 4) nd rfl (by first | exact .inl rfl | exact .inr rfl)) rfl)) (fun _ _ _ _ _ => mts_nil) (fun _ _ _ _ _ => (mi_r1 (mal_cons (me_var (pv 0)) mal_nil fun _ _ p q => pa_cons p q) fun _ p => pi_range1 (by rfl) T.n_range p)) (fun _ _ _ _ _ => (mg_name (pg_name (i := 5) nd rfl (by first | exact .inl rfl | exact .inr rfl)) rfl)) (fun _ _ _ _ _ => mts_nil) (fun _ _ _ _ _ => (me_op om_add (me_var (pv 4)) (me_tup (mal_cons (me_var (pv 5)) mal_nil fun _ _ p q => pa_cons p q)))) (fun _ _ _ _ _ _ _ pi pg pt pi1 pg1 pt1 pe => ps_setLc2 (i := 2) (own := [("word", 4), ("colour", 5)]) (vs1 := [5]) rfl nd rfl rfl (sw_true rfl rfl rfl (by decide +kernel)) pi (blkOk_by (by kernel_rfl)) (by decide) pg pt pi1 pg1 pt1 pe) rfl)))
    (mss_one (ms_ret (me_var (pv 2))))))
theorem ok_checked_row (T : TX K mg cl) (N : Nat) : FnOk P w K mg base CX0 1 T.a_checked_row T.d_checked_row ["rule", "row"] (spG K cl 2 R_checked_row (f_checked_row N)) :=
  fn_ok T.F_checked_row sc_checked_row fun cdv A outer s H E hr =>
    have nd := sc_checked_row.nd
    have hu1 := hu_1 hr
    have hu64 := hu_64 hr
    have hu65 := hu_65 hr
    (mss_cons (ms_set (me_cb cm_tuple (mal_cons (me_var (pv 1)) mal_nil fun _ _ p q => pa_cons p q) fun _ _ hc p => pe_callTy hc (by rfl) T.n_tuple (by decide +kernel) p) (fun _ p => ps_set (i := 1) nd rfl (Or.inl rfl) p) rfl)
    (mss_cons (ms_if (mt_not (mt_chain om_le om_le me_int (me_cb cm_len (mal_cons (me_var (pv 1)) mal_nil fun _ _ p q => pa_cons p q) fun _ _ hc p => pe_callB hc (by rfl) T.n_len (by decide +kernel) p) (me_k (v := .int 60) (pe_glob (by rfl) T.c_MOST_CELLS ⟨_, rfl⟩) fun _ => .int _))) (mss_one ms_no) mss_nil)
    (mss_cons (ms_if (mt_not (mt_truth (me_cb (cm_all rfl) (mal_cons (me_frz (mf_lc (vs := [2]) (mi_sq (me_var (pv 1))) (fun _ _ _ _ _ => (mg_name (pg_name (i := 2) nd rfl (by first | exact .inl rfl | exact .inr rfl)) rfl)) (fun _ _ _ _ _ => mts_nil) (fun _ _ _ _ _ => (me_chain om_le om_lt me_int (me_var (pv 2)) (me_fld (j := 0) T.k_Rule rfl (me_var (pv 0)) fun _ p => pe_fld p rfl))) (fun _ _ _ _ pi pg pt pe => pe_lc (own := [("colour", 2)]) rfl nd pi (blkOk_by (by kernel_rfl)) pg pt pe))) mal_nil fun _ _ p q => pa_cons p q) fun _ _ hc p => pe_callB hc (by rfl) T.n_all (by decide +kernel) p) (by intro _; rfl))) (mss_one ms_no) mss_nil)
    (mss_one (ms_ret (me_var (pv 1)))))))
theorem ok_is_row (T : TX K mg cl) (N : Nat) : FnOk P w K mg base CX0 1 T.a_is_row T.d_is_row ["rule", "row"] (spG K cl 2 R_is_row (f_is_row N)) :=
  fn_ok T.F_is_row sc_is_row fun cdv A outer s H E hr =>
    have nd := sc_is_row.nd
    have hu1 := hu_1 hr
    have hu64 := hu_64 hr
    have hu65 := hu_65 hr
    (mss_one (ms_ret (me_andV (me_chain om_le om_le me_int (me_cb cm_len (mal_cons (me_var (pv 1)) mal_nil fun _ _ p q => pa_cons p q) fun _ _ hc p => pe_callB hc (by rfl) T.n_len (by decide +kernel) p) (me_k (v := .int 60) (pe_glob (by rfl) T.c_MOST_CELLS ⟨_, rfl⟩) fun _ => .int _)) (me_one (me_cb (cm_all rfl) (mal_cons (me_frz (mf_lc (vs := [2]) (mi_sq (me_var (pv 1))) (fun _ _ _ _ _ => (mg_name (pg_name (i := 2) nd rfl (by first | exact .inl rfl | exact .inr rfl)) rfl)) (fun _ _ _ _ _ => mts_nil) (fun _ _ _ _ _ => (me_chain om_le om_lt me_int (me_var (pv 2)) (me_fld (j := 0) T.k_Rule rfl (me_var (pv 0)) fun _ p => pe_fld p rfl))) (fun _ _ _ _ pi pg pt pe => pe_lc (own := [("colour", 2)]) rfl nd pi (blkOk_by (by kernel_rfl)) pg pt pe))) mal_nil fun _ _ p q => pa_cons p q) fun _ _ hc p => pe_callB hc (by rfl) T.n_all (by decide +kernel) p)))))
theorem ok_checked_worths (T : TX K mg cl) (N : Nat) : FnOk P w K mg base CX0 1 T.a_checked_worths T.d_checked_worths ["rule", "worths"] (spG K cl 2 R_checked_worths (f_checked_worths N)) :=
  fn_ok T.F_checked_worths sc_checked_worths fun cdv A outer s H E hr =>
    have nd := sc_checked_worths.nd
    have hu1 := hu_1 hr
    have hu64 := hu_64 hr
    have hu65 := hu_65 hr
    (mss_cons (ms_set (me_cb cm_tuple (mal_cons (me_var (pv 1)) mal_nil fun _ _ p q => pa_cons p q) fun _ _ hc p => pe_callTy hc (by rfl) T.n_tuple (by decide +kernel) p) (fun _ p => ps_set (i := 1) nd rfl (Or.inl rfl) p) rfl)
    (mss_cons (ms_if (mt_cmp (om_ne hu64) (me_cb cm_len (mal_cons (me_var (pv 1)) mal_nil fun _ _ p q => pa_cons p q) fun _ _ hc p => pe_callB hc (by rfl) T.n_len (by decide +kernel) p) (me_fld (j := 0) T.k_Rule rfl (me_var (pv 0)) fun _ p => pe_fld p rfl) (nomark _)) (mss_one ms_no) mss_nil)
    (mss_one (ms_ret (me_var (pv 1))))))
theorem ok_worth (T : TX K mg cl) (N : Nat) : FnOk P w K mg base CX0 1 T.a_worth T.d_worth ["worths", "row"] (spG K cl 2 R_worth (f_worth N)) :=
  fn_ok T.F_worth sc_worth fun cdv A outer s H E hr =>
    have nd := sc_worth.nd
    have hu1 := hu_1 hr
    have hu64 := hu_64 hr
    have hu65 := hu_65 hr
    (mss_one (ms_ret (me_cb (cm_sum rfl) (mal_cons (me_frz (mf_lc (vs := [2]) (mi_sq (me_var (pv 1))) (fun _ _ _ _ _ => (mg_name (pg_name (i := 2) nd rfl (by first | exact .inl rfl | exact .inr rfl)) rfl)) (fun _ _ _ _ _ => mts_nil) (fun _ _ _ _ _ => (me_ix (me_var (pv 0)) (me_var (pv 2)) fun _ _ => rfl)) (fun _ _ _ _ pi pg pt pe => pe_lc (own := [("colour", 2)]) rfl nd pi (blkOk_by (by kernel_rfl)) pg pt pe))) mal_nil fun _ _ p q => pa_cons p q) fun _ _ hc p => pe_callB hc (by rfl) T.n_sum (by decide +kernel) p)))
theorem ok_turned (T : TX K mg cl) (N : Nat) : FnOk P w K mg base CX0 1 T.a_turned T.d_turned ["row", "by"] (spG K cl 2 R_turned (f_turned N)) :=
  fn_ok T.F_turned sc_turned fun cdv A outer s H E hr =>
    have nd := sc_turned.nd
    have hu1 := hu_1 hr
    have hu64 := hu_64 hr
    have hu65 := hu_65 hr
    (mss_cons (ms_set (me_op om_mod (me_var (pv 1)) (me_cb cm_len (mal_cons (me_var (pv 0)) mal_nil fun _ _ p q => pa_cons p q) fun _ _ hc p => pe_callB hc (by rfl) T.n_len (by decide +kernel) p)) (fun _ p => ps_set (i := 1) nd rfl (Or.inl rfl) p) rfl)
    (mss_one (ms_ret (me_op om_add (me_cb cm_tuple (mal_cons (me_sl (me_var (pv 0)) (mo_some (me_var (pv 1))) mo_no) mal_nil fun _ _ p q => pa_cons p q) fun _ _ hc p => pe_callTy hc (by rfl) T.n_tuple (by decide +kernel) p) (me_cb cm_tuple (mal_cons (me_sl (me_var (pv 0)) mo_no (mo_some (me_var (pv 1)))) mal_nil fun _ _ p q => pa_cons p q) fun _ _ hc p => pe_callTy hc (by rfl) T.n_tuple (by decide +kernel) p)))))
theorem ok_law_pool (T : TX K mg cl) (N : Nat) : FnOk P w K mg base CX0 1 T.a_law_pool T.d_law_pool ["script", "budget"] (spG K cl 2 R_law_pool (f_law_pool N)) :=
  fn_ok T.F_law_pool sc_law_pool fun cdv A outer s H E hr =>
    have nd := sc_law_pool.nd
    have hu1 := hu_1 hr
    have hu64 := hu_64 hr
    have hu65 := hu_65 hr
    (mss_one (ms_retF (mf_lst (mal_cons (me_frz (mf_cb cf_list (mal_cons (me_var (pv 0)) mal_nil fun _ _ p q => pa_cons p q) fun _ _ hc p => pe_callTy hc (by rfl) T.n_list (by decide +kernel) p)) (mal_cons me_int (mal_cons me_int (mal_cons me_int (mal_cons me_int (mal_cons (me_var (pv 1)) mal_nil fun _ _ p q => pa_cons p q) fun _ _ p q => pa_cons p q) fun _ _ p q => pa_cons p q) fun _ _ p q => pa_cons p q) fun _ _ p q => pa_cons p q) fun _ _ p q => pa_cons p q))))
theorem ok_law_draw (T : TX K mg cl) (N : Nat) : FnOk P w K mg base CX0 1 T.a_law_draw T.d_law_draw ["pool", "size"] (spG K cl 2 R_law_draw (f_law_draw N)) :=
  fn_ok T.F_law_draw sc_law_draw fun cdv A outer s H E hr =>
    have nd := sc_law_draw.nd
    have hu1 := hu_1 hr
    have hu64 := hu_64 hr
    have hu65 := hu_65 hr
    (mss_cons (ms_if ((mw_and (mt_cmp om_le (me_ix (me_var (pv 0)) me_int fun _ _ => rfl) me_int (nomark _)) (mw_and (mt_cmp om_le (me_ix (me_var (pv 0)) me_int fun _ _ => rfl) me_int (nomark _)) (mw_and1 (mt_cmp om_lt (me_ix (me_var (pv 0)) me_int fun _ _ => rfl) (me_cb cm_len (mal_cons (me_ix (me_var (pv 0)) me_int fun _ _ => rfl) mal_nil fun _ _ p q => pa_cons p q) fun _ _ hc p => pe_callB hc (by rfl) T.n_len (by decide +kernel) p) (nomark _)))))).mt (mss_cons (ms_set (me_ix (me_ix (me_var (pv 0)) me_int fun _ _ => rfl) (me_ix (me_var (pv 0)) me_int fun _ _ => rfl) fun _ _ => rfl) (fun _ p => ps_set (i := 2) nd rfl (Or.inl rfl) p) rfl)
    (mss_cons (ms_setIx (me_op om_add (me_ix (me_var (pv 0)) me_int fun _ _ => rfl) me_int) me_int fun _ _ p q => ps_asg p (pg_sub (pv 0) q set_list))
    (mss_cons (ms_setIx (me_op om_mod (me_cb cm_int (mal_cons (me_op om_add (me_op om_mul (me_ix (me_var (pv 0)) me_int fun _ _ => rfl) me_int) (me_var (pv 2))) mal_nil fun _ _ p q => pa_cons p q) fun _ _ hc p => pe_callTy hc (by rfl) T.n_int (by decide +kernel) p) me_int) me_int fun _ _ p q => ps_asg p (pg_sub (pv 0) q set_list))
    (mss_cons (ms_setIx me_int me_int fun _ _ p q => ps_asg p (pg_sub (pv 0) q set_list))
    (mss_one (ms_if (mt_cmp om_ge (me_var (pv 2)) (me_op om_pow me_int me_int) (nomark _)) (mss_one (ms_setIx (me_var (pv 2)) me_int fun _ _ p q => ps_asg p (pg_sub (pv 0) q set_list))) mss_nil)))))) mss_nil)
    (mss_cons (ms_if (mt_cmp om_gt (me_ix (me_var (pv 0)) me_int fun _ _ => rfl) me_int (nomark _)) (mss_cons (ms_set (me_op om_mod (me_cb cm_int (mal_cons (me_ix (me_var (pv 0)) me_int fun _ _ => rfl) mal_nil fun _ _ p q => pa_cons p q) fun _ _ hc p => pe_callTy hc (by rfl) T.n_int (by decide +kernel) p) (me_var (pv 1))) (fun _ p => ps_set (i := 3) nd rfl (Or.inl rfl) p) rfl)
    (mss_cons (ms_setIx (me_op om_fdiv (me_ix (me_var (pv 0)) me_int fun _ _ => rfl) (me_var (pv 1))) me_int fun _ _ p q => ps_asg p (pg_sub (pv 0) q set_list))
    (mss_cons (ms_setIx me_int me_int fun _ _ p q => ps_asg p (pg_sub (pv 0) q set_list))
    (mss_one (ms_ret (me_var (pv 3))))))) mss_nil)
    (mss_cons (ms_setIx (me_op om_sub (me_ix (me_var (pv 0)) me_int fun _ _ => rfl) me_int) me_int fun _ _ p q => ps_asg p (pg_sub (pv 0) q set_list))
    (mss_cons (ms_setIx (me_op om_mod (me_cb cm_int (mal_cons (me_op om_add (me_op om_mul (me_ix (me_var (pv 0)) me_int fun _ _ => rfl) me_int) me_int) mal_nil fun _ _ p q => pa_cons p q) fun _ _ hc p => pe_callTy hc (by rfl) T.n_int (by decide +kernel) p) me_int) me_int fun _ _ p q => ps_asg p (pg_sub (pv 0) q set_list))
    (mss_one (ms_ret (me_op om_mod (me_op om_mod (me_cb cm_int (mal_cons (me_op om_add (me_op om_mul (me_ix (me_var (pv 0)) me_int fun _ _ => rfl) me_int) me_int) mal_nil fun _ _ p q => pa_cons p q) fun _ _ hc p => pe_callTy hc (by rfl) T.n_int (by decide +kernel) p) me_int) (me_var (pv 1)))))))))
theorem ok_law_power (T : TX K mg cl) (N : Nat) : FnOk P w K mg base CX0 1 T.a_law_power T.d_law_power ["base", "e"] (spG K cl 2 R_law_power (f_law_power N)) :=
  fn_ok T.F_law_power sc_law_power fun cdv A outer s H E hr =>
    have nd := sc_law_power.nd
    have hu1 := hu_1 hr
    have hu64 := hu_64 hr
    have hu65 := hu_65 hr
    (mss_cons (ms_set me_int (fun _ p => ps_set (i := 2) nd rfl (Or.inl rfl) p) rfl)
    (mss_cons (ms_for PassesOwn.never rfl (mi_r1 (mal_cons (me_var (pv 1)) mal_nil fun _ _ p q => pa_cons p q) fun _ p => pi_range1 (by rfl) T.n_range p) (mg_name (pg_name (i := 3) nd rfl (Or.inl rfl)) rfl) (mss_one (ms_set (me_op om_mul (me_var (pv 2)) (me_var (pv 0))) (fun _ p => ps_set (i := 2) nd rfl (Or.inl rfl) p) rfl)))
    (mss_one (ms_ret (me_var (pv 2))))))
theorem ok_law_words (T : TX K mg cl) (N : Nat) : FnOk P w K mg base CX0 1 T.a_law_words T.d_law_words ["colours", "size"] (spG K cl 2 R_law_words (f_law_words N)) :=
  fn_ok T.F_law_words sc_law_words fun cdv A outer s H E hr =>
    have nd := sc_law_words.nd
    have hu1 := hu_1 hr
    have hu64 := hu_64 hr
    have hu65 := hu_65 hr
    (mss_cons (ms_set (me_frz (mf_lst (mal_cons (me_tup mal_nil) mal_nil fun _ _ p q => pa_cons p q))) (fun _ p => ps_set (i := 2) nd rfl (Or.inl rfl) p) rfl)
    (mss_cons (ms_for PassesOwn.never rfl (mi_r1 (mal_cons (me_var (pv 1)) mal_nil fun _ _ p q => pa_cons p q) fun _ p => pi_range1 (by rfl) T.n_range p) (mg_name (pg_name (i := 3) nd rfl (Or.inl rfl)) rfl) (mss_cons (ms_set (me_frz (mf_lst mal_nil)) (fun _ p => ps_set (i := 4) nd rfl (Or.inl rfl) p) rfl)
    (mss_cons (ms_for PassesOwn.never rfl (mi_sq (me_var (pv 2))) (mg_name (pg_name (i := 5) nd rfl (Or.inr rfl)) rfl) (mss_one (ms_set (me_op om_add (me_var (pv 4)) (me_frz (mf_lc (vs := [6]) (mi_r1 (mal_cons (me_var (pv 0)) mal_nil fun _ _ p q => pa_cons p q) fun _ p => pi_range1 (by rfl) T.n_range p) (fun _ _ _ _ _ => (mg_name (pg_name (i := 6) nd rfl (by first | exact .inl rfl | exact .inr rfl)) rfl)) (fun _ _ _ _ _ => mts_nil) (fun _ _ _ _ _ => (me_op om_add (me_var (pv 5)) (me_tup (mal_cons (me_var (pv 6)) mal_nil fun _ _ p q => pa_cons p q)))) (fun _ _ _ _ pi pg pt pe => pe_lc (own := [("colour", 6)]) rfl nd pi (blkOk_by (by kernel_rfl)) pg pt pe)))) (fun _ p => ps_set (i := 4) nd rfl (Or.inl rfl) p) rfl)))
    (mss_one (ms_set (me_var (pv 4)) (fun _ p => ps_set (i := 2) nd rfl (Or.inl rfl) p) rfl)))))
    (mss_one (ms_ret (me_var (pv 2))))))
theorem ok_Rule_of (T : TX K mg cl) (N : Nat) : FnOk P w K mg base CX0 1 T.a_Rule_of T.d_Rule_of ["self", "window"] (spG K cl 2 R_Rule_of (f_Rule_of N)) :=
  fn_ok T.F_Rule_of sc_Rule_of fun cdv A outer s H E hr =>
    have nd := sc_Rule_of.nd
    have hu1 := hu_1 hr
    have hu64 := hu_64 hr
    have hu65 := hu_65 hr
    (mss_cons (ms_set me_int (fun _ p => ps_set (i := 2) nd rfl (Or.inl rfl) p) rfl)
    (mss_cons (ms_for PassesOwn.never rfl (mi_sq (me_var (pv 1))) (mg_name (pg_name (i := 3) nd rfl (Or.inl rfl)) rfl) (mss_one (ms_set (me_op om_add (me_op om_mul (me_var (pv 2)) (me_fld (j := 0) T.k_Rule rfl (me_var (pv 0)) fun _ p => pe_fld p rfl)) (me_var (pv 3))) (fun _ p => ps_set (i := 2) nd rfl (Or.inl rfl) p) rfl)))
    (mss_one (ms_ret (me_ix (me_fld (j := 2) T.k_Rule rfl (me_var (pv 0)) fun _ p => pe_fld p rfl) (me_var (pv 2)) fun _ _ => rfl)))))
theorem ok_stepped (T : TX K mg cl) (N : Nat) : FnOk P w K mg base CX0 2 T.a_stepped T.d_stepped ["rule", "row"] (spG K cl 2 R_stepped (f_stepped N)) :=
  fn_ok T.F_stepped sc_stepped fun cdv A outer s H E hr =>
    have nd := sc_stepped.nd
    have hu1 := hu_1 hr
    have hu64 := hu_64 hr
    have hu65 := hu_65 hr
    (mss_cons (ms_set (me_cb cm_len (mal_cons (me_var (pv 1)) mal_nil fun _ _ p q => pa_cons p q) fun _ _ hc p => pe_callB hc (by rfl) T.n_len (by decide +kernel) p) (fun _ p => ps_set (i := 2) nd rfl (Or.inl rfl) p) rfl)
    (mss_cons (ms_set (me_op om_mul (me_var (pv 1)) (me_op om_add (me_op om_fdiv (me_fld (j := 1) T.k_Rule rfl (me_var (pv 0)) fun _ p => pe_fld p rfl) (me_var (pv 2))) me_int)) (fun _ p => ps_set (i := 3) nd rfl (Or.inr rfl) p) rfl)
    (mss_one (ms_ret (me_cb cm_tuple (mal_cons (me_frz (mf_lc (vs := [4]) (mi_r1 (mal_cons (me_var (pv 2)) mal_nil fun _ _ p q => pa_cons p q) fun _ p => pi_range1 (by rfl) T.n_range p) (fun _ _ _ _ _ => (mg_name (pg_name (i := 4) nd rfl (by first | exact .inl rfl | exact .inr rfl)) rfl)) (fun _ _ _ _ _ => mts_nil) (fun _ _ _ _ _ => (me_meth (R := R_Rule_of) T.k_Rule.at_ (by decide) (me_var (pv 0)) (mal_cons (me_sl (me_var (pv 3)) (mo_some (me_var (pv 4))) (mo_some (me_op om_add (me_var (pv 4)) (me_fld (j := 1) T.k_Rule rfl (me_var (pv 0)) fun _ p => pe_fld p rfl)))) mal_nil fun _ _ p q => pa_cons p q) (fun _ _ po p => pe_meth po T.k_Rule.cls T.me_Rule_of (ok_Rule_of T N) hr T.b_Rule_of .nil pass0 p) fun _ _ _ h => aL_len h)) (fun _ _ _ _ pi pg pt pe => pe_lc (own := [("at", 4)]) rfl nd pi (blkOk_by (by kernel_rfl)) pg pt pe))) mal_nil fun _ _ p q => pa_cons p q) fun _ _ hc p => pe_callTy hc (by rfl) T.n_tuple (by decide +kernel) p)))))
theorem ok_nodes_of (T : TX K mg cl) (N : Nat) : FnOk P w K mg base CX0 2 T.a_nodes_of T.d_nodes_of ["rule"] (spG K cl 1 R_nodes_of (f_nodes_of N)) :=
  fn_ok T.F_nodes_of sc_nodes_of fun cdv A outer s H E hr =>
    have nd := sc_nodes_of.nd
    have hu1 := hu_1 hr
    have hu64 := hu_64 hr
    have hu65 := hu_65 hr
    (mss_cons (ms_if (mt_cmp om_gt (me_call (mal_cons (me_fld (j := 0) T.k_Rule rfl (me_var (pv 0)) fun _ p => pe_fld p rfl) (mal_cons (me_op om_sub (me_fld (j := 1) T.k_Rule rfl (me_var (pv 0)) fun _ p => pe_fld p rfl) me_int) mal_nil fun _ _ p q => pa_cons p q) fun _ _ p q => pa_cons p q) (fun _ p => pe_call (ok_raised T N) hr (by rfl) T.mg_raised T.F_raised.kp T.b_raised .nil pass0 p) fun _ _ _ h => aL_len h) (me_k (v := .int 64) (pe_glob (by rfl) T.c_MOST_NODES ⟨_, rfl⟩) fun _ => .int _) (nomark _)) (mss_one ms_no) mss_nil)
    (mss_one (ms_ret (me_call (mal_cons (me_fld (j := 0) T.k_Rule rfl (me_var (pv 0)) fun _ p => pe_fld p rfl) (mal_cons (me_op om_sub (me_fld (j := 1) T.k_Rule rfl (me_var (pv 0)) fun _ p => pe_fld p rfl) me_int) mal_nil fun _ _ p q => pa_cons p q) fun _ _ p q => pa_cons p q) (fun _ p => pe_call (ok_words T N) hr (by rfl) T.mg_words T.F_words.kp T.b_words .nil pass0 p) fun _ _ _ h => aL_len h))))
theorem ok_gain (T : TX K mg cl) (N : Nat) : FnOk P w K mg base CX0 2 T.a_gain T.d_gain ["rule", "worths", "window"] (spG K cl 3 R_gain (f_gain N)) :=
  fn_ok T.F_gain sc_gain fun cdv A outer s H E hr =>
    have nd := sc_gain.nd
    have hu1 := hu_1 hr
    have hu64 := hu_64 hr
    have hu65 := hu_65 hr
    (mss_one (ms_ret (me_op om_sub (me_ix (me_var (pv 1)) (me_meth (R := R_Rule_of) T.k_Rule.at_ (by decide) (me_var (pv 0)) (mal_cons (me_var (pv 2)) mal_nil fun _ _ p q => pa_cons p q) (fun _ _ po p => pe_meth po T.k_Rule.cls T.me_Rule_of (ok_Rule_of T N) hr T.b_Rule_of .nil pass0 p) fun _ _ _ h => aL_len h) fun _ _ => rfl) (me_ix (me_var (pv 1)) (me_ix (me_var (pv 2)) me_int fun _ _ => rfl) fun _ _ => rfl))))
theorem ok_law_rule (T : TX K mg cl) (N : Nat) : FnOk P w K mg base CX0 2 T.a_law_rule T.d_law_rule ["pool", "most"] (spG K cl 2 R_law_rule (f_law_rule N)) :=
  fn_ok T.F_law_rule sc_law_rule fun cdv A outer s H E hr =>
    have nd := sc_law_rule.nd
    have hu1 := hu_1 hr
    have hu64 := hu_64 hr
    have hu65 := hu_65 hr
    (mss_cons (ms_set (me_op om_add me_int (me_callR rfl (mal_cons (me_var (pv 0)) (mal_cons me_int mal_nil fun _ _ p q => pa_cons p q) fun _ _ p q => pa_cons p q) (fun _ p => pe_call (ok_law_draw T N) hr (by rfl) T.mg_law_draw T.F_law_draw.kp T.b_law_draw .nil pass0 p) fun _ _ _ h => aL_len h)) (fun _ p => ps_set (i := 2) nd rfl (Or.inr rfl) p) rfl)
    (mss_cons (ms_set (me_op om_add me_int (me_callR rfl (mal_cons (me_var (pv 0)) (mal_cons me_int mal_nil fun _ _ p q => pa_cons p q) fun _ _ p q => pa_cons p q) (fun _ p => pe_call (ok_law_draw T N) hr (by rfl) T.mg_law_draw T.F_law_draw.kp T.b_law_draw .nil pass0 p) fun _ _ _ h => aL_len h)) (fun _ p => ps_set (i := 3) nd rfl (Or.inl rfl) p) rfl)
    (mss_cons (ms_for PassesOwn.never rfl (mi_r1 (mal_cons me_int mal_nil fun _ _ p q => pa_cons p q) fun _ p => pi_range1 (by rfl) T.n_range p) (mg_name (pg_name (i := 4) nd rfl (Or.inl rfl)) rfl) (mss_one (ms_if (mt_cmp om_gt (me_call (mal_cons (me_var (pv 2)) (mal_cons (me_var (pv 3)) mal_nil fun _ _ p q => pa_cons p q) fun _ _ p q => pa_cons p q) (fun _ p => pe_call (ok_law_power T N) hr (by rfl) T.mg_law_power T.F_law_power.kp T.b_law_power .nil pass0 p) fun _ _ _ h => aL_len h) (me_var (pv 1)) (nomark _)) (mss_cons (ms_set (me_op om_sub (me_var (pv 3)) me_int) (fun _ p => ps_set (i := 3) nd rfl (Or.inl rfl) p) rfl)
    (mss_one (ms_if (mt_cmp (om_eq hu64) (me_var (pv 3)) me_int (nomark _)) (mss_one (ms_asg (me_tup (mal_cons me_int (mal_cons me_int mal_nil fun _ _ p q => pa_cons p q) fun _ _ p q => pa_cons p q)) (mg_tup rfl (mgs_cons (mg_name (pg_name (i := 2) nd rfl (Or.inr rfl)) rfl) (mgs_cons (mg_name (pg_name (i := 3) nd rfl (Or.inl rfl)) rfl) mgs_nil))) fun _ _ p q => ps_asg p q)) mss_nil))) mss_nil)))
    (mss_cons (ms_set (me_call (mal_cons (me_var (pv 2)) (mal_cons (me_var (pv 3)) mal_nil fun _ _ p q => pa_cons p q) fun _ _ p q => pa_cons p q) (fun _ p => pe_call (ok_law_words T N) hr (by rfl) T.mg_law_words T.F_law_words.kp T.b_law_words .nil pass0 p) fun _ _ _ h => aL_len h) (fun _ p => ps_set (i := 5) nd rfl (Or.inl rfl) p) rfl)
    (mss_cons (ms_set (me_callR rfl (mal_cons (me_var (pv 0)) (mal_cons me_int mal_nil fun _ _ p q => pa_cons p q) fun _ _ p q => pa_cons p q) (fun _ p => pe_call (ok_law_draw T N) hr (by rfl) T.mg_law_draw T.F_law_draw.kp T.b_law_draw .nil pass0 p) fun _ _ _ h => aL_len h) (fun _ p => ps_set (i := 6) nd rfl (Or.inl rfl) p) rfl)
    (mss_cons (ms_set (me_callR rfl (mal_cons (me_var (pv 0)) (mal_cons (me_var (pv 3)) mal_nil fun _ _ p q => pa_cons p q) fun _ _ p q => pa_cons p q) (fun _ p => pe_call (ok_law_draw T N) hr (by rfl) T.mg_law_draw T.F_law_draw.kp T.b_law_draw .nil pass0 p) fun _ _ _ h => aL_len h) (fun _ p => ps_set (i := 7) nd rfl (Or.inl rfl) p) rfl)
    (mss_cons (ms_set (me_frz (mf_lc (vs := [14]) (mi_r1 (mal_cons (me_var (pv 3)) mal_nil fun _ _ p q => pa_cons p q) fun _ p => pi_range1 (by rfl) T.n_range p) (fun _ _ _ _ _ => (mg_name (pg_name (i := 14) nd rfl (by first | exact .inl rfl | exact .inr rfl)) rfl)) (fun _ _ _ _ _ => mts_nil) (fun _ _ _ _ _ => (me_callR rfl (mal_cons (me_var (pv 0)) (mal_cons (me_var (pv 2)) mal_nil fun _ _ p q => pa_cons p q) fun _ _ p q => pa_cons p q) (fun _ p => pe_call (ok_law_draw T N) hr (by rfl) T.mg_law_draw T.F_law_draw.kp T.b_law_draw .nil pass0 p) fun _ _ _ h => aL_len h)) (fun _ _ _ _ pi pg pt pe => pe_lc (own := [("k", 14)]) rfl nd pi (blkOk_by (by kernel_rfl)) pg pt pe))) (fun _ p => ps_set (i := 8) nd rfl (Or.inr rfl) p) rfl)
    (mss_cons (ms_setO (mf_lst mal_nil) (fun _ p => ps_set (i := 9) nd rfl (Or.inl rfl) p) rfl)
    (mss_cons (ms_for PassesOwn.never rfl (mi_sq (me_var (pv 5))) (mg_name (pg_name (i := 10) nd rfl (Or.inr rfl)) rfl) (mss_cons (ms_set (me_callR rfl (mal_cons (me_var (pv 0)) (mal_cons (me_var (pv 2)) mal_nil fun _ _ p q => pa_cons p q) fun _ _ p q => pa_cons p q) (fun _ p => pe_call (ok_law_draw T N) hr (by rfl) T.mg_law_draw T.F_law_draw.kp T.b_law_draw .nil pass0 p) fun _ _ _ h => aL_len h) (fun _ p => ps_set (i := 11) nd rfl (Or.inl rfl) p) rfl)
    (mss_cons (ms_set (me_op om_mod (me_cb cm_int (mal_cons (me_cb (cm_sum rfl) (mal_cons (me_frz (mf_lc (vs := [14]) (mi_r1 (mal_cons (me_var (pv 3)) mal_nil fun _ _ p q => pa_cons p q) fun _ p => pi_range1 (by rfl) T.n_range p) (fun _ _ _ _ _ => (mg_name (pg_name (i := 14) nd rfl (by first | exact .inl rfl | exact .inr rfl)) rfl)) (fun _ _ _ _ _ => mts_nil) (fun _ _ _ _ _ => (me_op om_mul (me_ix (me_var (pv 8)) (me_var (pv 14)) fun _ _ => rfl) (me_ix (me_var (pv 10)) (me_var (pv 14)) fun _ _ => rfl))) (fun _ _ _ _ pi pg pt pe => pe_lc (own := [("k", 14)]) rfl nd pi (blkOk_by (by kernel_rfl)) pg pt pe))) mal_nil fun _ _ p q => pa_cons p q) fun _ _ hc p => pe_callB hc (by rfl) T.n_sum (by decide +kernel) p) mal_nil fun _ _ p q => pa_cons p q) fun _ _ hc p => pe_callTy hc (by rfl) T.n_int (by decide +kernel) p) (me_var (pv 2))) (fun _ p => ps_set (i := 12) nd rfl (Or.inl rfl) p) rfl)
    (mss_cons (ms_set (me_op om_mod (me_cb cm_int (mal_cons (me_op om_add (me_ix (me_var (pv 10)) (me_var (pv 7)) fun _ _ => rfl) (me_op om_mul (me_callR rfl (mal_cons (me_var (pv 0)) (mal_cons me_int mal_nil fun _ _ p q => pa_cons p q) fun _ _ p q => pa_cons p q) (fun _ p => pe_call (ok_law_draw T N) hr (by rfl) T.mg_law_draw T.F_law_draw.kp T.b_law_draw .nil pass0 p) fun _ _ _ h => aL_len h) (me_cb cm_int (mal_cons (me_cmp (om_eq hu64) (me_ix (me_var (pv 10)) me_int fun _ _ => rfl) me_int (nomark _)) mal_nil fun _ _ p q => pa_cons p q) fun _ _ hc p => pe_callTy hc (by rfl) T.n_int (by decide +kernel) p))) mal_nil fun _ _ p q => pa_cons p q) fun _ _ hc p => pe_callTy hc (by rfl) T.n_int (by decide +kernel) p) (me_var (pv 2))) (fun _ p => ps_set (i := 13) nd rfl (Or.inl rfl) p) rfl)
    (mss_one (ms_exp (me_mt ml_append (mal_cons (me_ix (me_tup (mal_cons (me_var (pv 11)) (mal_cons (me_ix (me_var (pv 10)) (me_var (pv 7)) fun _ _ => rfl) (mal_cons (me_var (pv 12)) (mal_cons (me_var (pv 13)) (mal_cons (me_op om_mul (me_var (pv 11)) (me_cb cm_int (mal_cons (me_cmp (om_ne hu64) (me_ix (me_var (pv 10)) me_int fun _ _ => rfl) (me_ix (me_var (pv 10)) (me_neg me_int) fun _ _ => rfl) (nomark _)) mal_nil fun _ _ p q => pa_cons p q) fun _ _ hc p => pe_callTy hc (by rfl) T.n_int (by decide +kernel) p)) mal_nil fun _ _ p q => pa_cons p q) fun _ _ p q => pa_cons p q) fun _ _ p q => pa_cons p q) fun _ _ p q => pa_cons p q) fun _ _ p q => pa_cons p q)) (me_var (pv 6)) fun _ _ => rfl) mal_nil fun _ _ p q => pa_cons p q) fun _ p => pe_bm PySem.F.plainAttrs_list PySem.F.slot_list_append PySem.F.type_list_append mt_append (pv 9) p)))))))
    (mss_one (ms_ret (me_tup (mal_cons (me_var (pv 2)) (mal_cons (me_var (pv 3)) (mal_cons (me_cb cm_tuple (mal_cons (me_var (pv 9)) mal_nil fun _ _ p q => pa_cons p q) fun _ _ hc p => pe_callTy hc (by rfl) T.n_tuple (by decide +kernel) p) mal_nil fun _ _ p q => pa_cons p q) fun _ _ p q => pa_cons p q) fun _ _ p q => pa_cons p q)))))))))))))
theorem ok_law_row (T : TX K mg cl) (N : Nat) : FnOk P w K mg base CX0 2 T.a_law_row T.d_law_row ["pool", "rule", "size"] (spG K cl 3 R_law_row (f_law_row N)) :=
  fn_ok T.F_law_row sc_law_row fun cdv A outer s H E hr =>
    have nd := sc_law_row.nd
    have hu1 := hu_1 hr
    have hu64 := hu_64 hr
    have hu65 := hu_65 hr
    (mss_one (ms_ret (me_cb cm_tuple (mal_cons (me_frz (mf_lc (vs := [3]) (mi_r1 (mal_cons (me_var (pv 2)) mal_nil fun _ _ p q => pa_cons p q) fun _ p => pi_range1 (by rfl) T.n_range p) (fun _ _ _ _ _ => (mg_name (pg_name (i := 3) nd rfl (by first | exact .inl rfl | exact .inr rfl)) rfl)) (fun _ _ _ _ _ => mts_nil) (fun _ _ _ _ _ => (me_callR rfl (mal_cons (me_var (pv 0)) (mal_cons (me_ix (me_var (pv 1)) me_int fun _ _ => rfl) mal_nil fun _ _ p q => pa_cons p q) fun _ _ p q => pa_cons p q) (fun _ p => pe_call (ok_law_draw T N) hr (by rfl) T.mg_law_draw T.F_law_draw.kp T.b_law_draw .nil pass0 p) fun _ _ _ h => aL_len h)) (fun _ _ _ _ pi pg pt pe => pe_lc (own := [("k", 3)]) rfl nd pi (blkOk_by (by kernel_rfl)) pg pt pe))) mal_nil fun _ _ p q => pa_cons p q) fun _ _ hc p => pe_callTy hc (by rfl) T.n_tuple (by decide +kernel) p)))
theorem ok_law_moving (T : TX K mg cl) (N : Nat) : FnOk P w K mg base CX0 2 T.a_law_moving T.d_law_moving ["pool"] (spG K cl 1 R_law_moving (f_law_moving N)) :=
  fn_ok T.F_law_moving sc_law_moving fun cdv A outer s H E hr =>
    have nd := sc_law_moving.nd
    have hu1 := hu_1 hr
    have hu64 := hu_64 hr
    have hu65 := hu_65 hr
    (mss_cons (ms_set (me_callR rfl (mal_cons (me_var (pv 0)) (mal_cons me_int mal_nil fun _ _ p q => pa_cons p q) fun _ _ p q => pa_cons p q) (fun _ p => pe_call (ok_law_draw T N) hr (by rfl) T.mg_law_draw T.F_law_draw.kp T.b_law_draw .nil pass0 p) fun _ _ _ h => aL_len h) (fun _ p => ps_set (i := 1) nd rfl (Or.inl rfl) p) rfl)
    (mss_cons (ms_setO (mf_lst mal_nil) (fun _ p => ps_set (i := 2) nd rfl (Or.inl rfl) p) rfl)
    (mss_cons (ms_for PassesOwn.never rfl (mi_sq (me_call (mal_cons me_int (mal_cons me_int mal_nil fun _ _ p q => pa_cons p q) fun _ _ p q => pa_cons p q) (fun _ p => pe_call (ok_law_words T N) hr (by rfl) T.mg_law_words T.F_law_words.kp T.b_law_words .nil pass0 p) fun _ _ _ h => aL_len h)) (mg_name (pg_name (i := 3) nd rfl (Or.inl rfl)) rfl) (mss_cons (ms_asg (me_var (pv 3)) (mg_tup rfl (mgs_cons (mg_name (pg_name (i := 4) nd rfl (Or.inl rfl)) rfl) (mgs_cons (mg_name (pg_name (i := 5) nd rfl (Or.inl rfl)) rfl) (mgs_cons (mg_name (pg_name (i := 6) nd rfl (Or.inl rfl)) rfl) mgs_nil)))) fun _ _ p q => ps_asg p q)
    (mss_one (ms_exp (me_mt ml_append (mal_cons (me_ix (me_tup (mal_cons (me_cb cm_int (mal_cons (me_orV (me_andV (me_cmp (om_eq hu64) (me_var (pv 5)) me_int (nomark _)) (me_one (me_cmp (om_eq hu64) (me_var (pv 6)) me_int (nomark _)))) (me_one (me_andV (me_cmp (om_eq hu64) (me_var (pv 5)) me_int (nomark _)) (me_one (me_cmp (om_eq hu64) (me_var (pv 4)) me_int (nomark _)))))) mal_nil fun _ _ p q => pa_cons p q) fun _ _ hc p => pe_callTy hc (by rfl) T.n_int (by decide +kernel) p) (mal_cons (me_var (pv 4)) (mal_cons (me_var (pv 6)) mal_nil fun _ _ p q => pa_cons p q) fun _ _ p q => pa_cons p q) fun _ _ p q => pa_cons p q)) (me_var (pv 1)) fun _ _ => rfl) mal_nil fun _ _ p q => pa_cons p q) fun _ p => pe_bm PySem.F.plainAttrs_list PySem.F.slot_list_append PySem.F.type_list_append mt_append (pv 2) p)))))
    (mss_one (ms_ret (me_tup (mal_cons me_int (mal_cons me_int (mal_cons (me_cb cm_tuple (mal_cons (me_var (pv 2)) mal_nil fun _ _ p q => pa_cons p q) fun _ _ hc p => pe_callTy hc (by rfl) T.n_tuple (by decide +kernel) p) mal_nil fun _ _ p q => pa_cons p q) fun _ _ p q => pa_cons p q) fun _ _ p q => pa_cons p q)))))))
theorem ok_Rule_init (T : TX K mg cl) (N : Nat) : FnOk P w K mg base CX0 2 T.a_Rule_init T.d_Rule_init ["self", "colours", "width", "table"] (spG K cl 4 R_Rule_init (f_Rule_init N)) :=
  fn_ok T.F_Rule_init sc_Rule_init fun cdv A outer s H E hr =>
    have nd := sc_Rule_init.nd
    have hu1 := hu_1 hr
    have hu64 := hu_64 hr
    have hu65 := hu_65 hr
    (mss_cons (ms_fldSet (j := 0) T.k_Rule rfl (me_var (pv 1)) fun _ p => ps_fld (pv 0) p rfl)
    (mss_cons (ms_fldSet (j := 1) T.k_Rule rfl (me_var (pv 2)) fun _ p => ps_fld (pv 0) p rfl)
    (mss_cons (ms_fldSet (j := 2) T.k_Rule rfl (me_cb cm_tuple (mal_cons (me_var (pv 3)) mal_nil fun _ _ p q => pa_cons p q) fun _ _ hc p => pe_callTy hc (by rfl) T.n_tuple (by decide +kernel) p) fun _ p => ps_fld (pv 0) p rfl)
    (mss_cons (ms_if (mt_not (mt_chain om_le om_le me_int (me_var (pv 1)) (me_k (v := .int 4) (pe_glob (by rfl) T.c_MOST_COLOURS ⟨_, rfl⟩) fun _ => .int _))) (mss_one ms_no) mss_nil)
    (mss_cons (ms_if ((mw_or (mt_not (mt_chain om_le om_le me_int (me_var (pv 2)) (me_k (v := .int 9) (pe_glob (by rfl) T.c_MOST_WIDTH ⟨_, rfl⟩) fun _ => .int _))) (mw_or1 (mt_cmp om_gt (me_call (mal_cons (me_var (pv 1)) (mal_cons (me_var (pv 2)) mal_nil fun _ _ p q => pa_cons p q) fun _ _ p q => pa_cons p q) (fun _ p => pe_call (ok_raised T N) hr (by rfl) T.mg_raised T.F_raised.kp T.b_raised .nil pass0 p) fun _ _ _ h => aL_len h) (me_k (v := .int 1024) (pe_glob (by rfl) T.c_MOST_TABLE ⟨_, rfl⟩) fun _ => .int _) (nomark _))))).mt (mss_one ms_no) mss_nil)
    (mss_one (ms_if ((mw_or (mt_cmp (om_ne hu64) (me_cb cm_len (mal_cons (me_fld (j := 2) T.k_Rule rfl (me_var (pv 0)) fun _ p => pe_fld p rfl) mal_nil fun _ _ p q => pa_cons p q) fun _ _ hc p => pe_callB hc (by rfl) T.n_len (by decide +kernel) p) (me_call (mal_cons (me_var (pv 1)) (mal_cons (me_var (pv 2)) mal_nil fun _ _ p q => pa_cons p q) fun _ _ p q => pa_cons p q) (fun _ p => pe_call (ok_raised T N) hr (by rfl) T.mg_raised T.F_raised.kp T.b_raised .nil pass0 p) fun _ _ _ h => aL_len h) (nomark _)) (mw_or1 (mt_not (mt_truth (me_cb (cm_all rfl) (mal_cons (me_frz (mf_lc (vs := [4]) (mi_sq (me_fld (j := 2) T.k_Rule rfl (me_var (pv 0)) fun _ p => pe_fld p rfl)) (fun _ _ _ _ _ => (mg_name (pg_name (i := 4) nd rfl (by first | exact .inl rfl | exact .inr rfl)) rfl)) (fun _ _ _ _ _ => mts_nil) (fun _ _ _ _ _ => (me_chain om_le om_lt me_int (me_var (pv 4)) (me_var (pv 1)))) (fun _ _ _ _ pi pg pt pe => pe_lc (own := [("colour", 4)]) rfl nd pi (blkOk_by (by kernel_rfl)) pg pt pe))) mal_nil fun _ _ p q => pa_cons p q) fun _ _ hc p => pe_callB hc (by rfl) T.n_all (by decide +kernel) p) (by intro _; rfl)))))).mt (mss_one ms_no) mss_nil)))))))
theorem ok_step (T : TX K mg cl) (N : Nat) : FnOk P w K mg base CX0 3 T.a_step T.d_step ["rule", "row"] (spG K cl 2 R_step (f_step N)) :=
  fn_ok T.F_step sc_step fun cdv A outer s H E hr =>
    have nd := sc_step.nd
    have hu1 := hu_1 hr
    have hu64 := hu_64 hr
    have hu65 := hu_65 hr
    (mss_one (ms_ret (me_call (mal_cons (me_var (pv 0)) (mal_cons (me_call (mal_cons (me_var (pv 0)) (mal_cons (me_var (pv 1)) mal_nil fun _ _ p q => pa_cons p q) fun _ _ p q => pa_cons p q) (fun _ p => pe_call (ok_checked_row T N) (hr.mono (by decide)) (by rfl) T.mg_checked_row T.F_checked_row.kp T.b_checked_row .nil pass0 p) fun _ _ _ h => aL_len h) mal_nil fun _ _ p q => pa_cons p q) fun _ _ p q => pa_cons p q) (fun _ p => pe_call (ok_stepped T N) hr (by rfl) T.mg_stepped T.F_stepped.kp T.b_stepped .nil pass0 p) fun _ _ _ h => aL_len h)))
theorem ok_after (T : TX K mg cl) (N : Nat) : FnOk P w K mg base CX0 3 T.a_after T.d_after ["rule", "row", "steps"] (spG K cl 3 R_after (f_after N)) :=
  fn_ok T.F_after sc_after fun cdv A outer s H E hr =>
    have nd := sc_after.nd
    have hu1 := hu_1 hr
    have hu64 := hu_64 hr
    have hu65 := hu_65 hr
    (mss_cons (ms_set (me_call (mal_cons (me_var (pv 0)) (mal_cons (me_var (pv 1)) mal_nil fun _ _ p q => pa_cons p q) fun _ _ p q => pa_cons p q) (fun _ p => pe_call (ok_checked_row T N) (hr.mono (by decide)) (by rfl) T.mg_checked_row T.F_checked_row.kp T.b_checked_row .nil pass0 p) fun _ _ _ h => aL_len h) (fun _ p => ps_set (i := 1) nd rfl (Or.inl rfl) p) rfl)
    (mss_cons (ms_for PassesOwn.never rfl (mi_r1 (mal_cons (me_var (pv 2)) mal_nil fun _ _ p q => pa_cons p q) fun _ p => pi_range1 (by rfl) T.n_range p) (mg_name (pg_name (i := 3) nd rfl (Or.inl rfl)) rfl) (mss_one (ms_set (me_call (mal_cons (me_var (pv 0)) (mal_cons (me_var (pv 1)) mal_nil fun _ _ p q => pa_cons p q) fun _ _ p q => pa_cons p q) (fun _ p => pe_call (ok_stepped T N) hr (by rfl) T.mg_stepped T.F_stepped.kp T.b_stepped .nil pass0 p) fun _ _ _ h => aL_len h) (fun _ p => ps_set (i := 1) nd rfl (Or.inl rfl) p) rfl)))
    (mss_one (ms_ret (me_var (pv 1))))))
theorem ok_flows (T : TX K mg cl) (N : Nat) : FnOk P w K mg base CX0 3 T.a_flows T.d_flows ["rule", "worths"] (spG K cl 2 R_flows (f_flows N)) :=
  fn_ok T.F_flows sc_flows fun cdv A outer s H E hr =>
    have nd := sc_flows.nd
    have hu1 := hu_1 hr
    have hu64 := hu_64 hr
    have hu65 := hu_65 hr
    (mss_cons (ms_set (me_call (mal_cons (me_var (pv 0)) mal_nil fun _ _ p q => pa_cons p q) (fun _ p => pe_call (ok_nodes_of T N) hr (by rfl) T.mg_nodes_of T.F_nodes_of.kp T.b_nodes_of .nil pass0 p) fun _ _ _ h => aL_len h) (fun _ p => ps_set (i := 2) nd rfl (Or.inl rfl) p) rfl)
    (mss_cons (ms_setO (mf_done hu64 (me_ix (me_var (pv 2)) me_int fun _ _ => rfl) me_int) (fun _ p => ps_set (i := 3) nd rfl (Or.inl rfl) p) rfl)
    (mss_cons (ms_setO (mf_done hu64 (me_ix (me_var (pv 2)) me_int fun _ _ => rfl) (me_tup mal_nil)) (fun _ p => ps_set (i := 4) nd rfl (Or.inl rfl) p) rfl)
    (mss_cons (ms_setO (mf_lst (mal_cons (me_ix (me_var (pv 2)) me_int fun _ _ => rfl) mal_nil fun _ _ p q => pa_cons p q)) (fun _ p => ps_set (i := 5) nd rfl (Or.inl rfl) p) rfl)
    (mss_cons (ms_set me_int (fun _ p => ps_set (i := 6) nd rfl (Or.inl rfl) p) rfl)
    (mss_cons (ms_while (n := N) PassesOwn.never (mt_cmp om_lt (me_var (pv 6)) (me_cb cm_len (mal_cons (me_var (pv 5)) mal_nil fun _ _ p q => pa_cons p q) fun _ _ hc p => pe_callB hc (by rfl) T.n_len (by decide +kernel) p) (nomark _)) (mss_cons (ms_set (me_ix (me_var (pv 5)) (me_var (pv 6)) fun _ _ => rfl) (fun _ p => ps_set (i := 7) nd rfl (Or.inl rfl) p) rfl)
    (mss_cons (ms_set (me_op om_add (me_var (pv 6)) me_int) (fun _ p => ps_set (i := 6) nd rfl (Or.inl rfl) p) rfl)
    (mss_one (ms_for PassesOwn.never rfl (mi_r1 (mal_cons (me_fld (j := 0) T.k_Rule rfl (me_var (pv 0)) fun _ p => pe_fld p rfl) mal_nil fun _ _ p q => pa_cons p q) fun _ p => pi_range1 (by rfl) T.n_range p) (mg_name (pg_name (i := 8) nd rfl (Or.inl rfl)) rfl) (mss_cons (ms_set (me_op om_add (me_var (pv 7)) (me_tup (mal_cons (me_var (pv 8)) mal_nil fun _ _ p q => pa_cons p q))) (fun _ p => ps_set (i := 9) nd rfl (Or.inl rfl) p) rfl)
    (mss_cons (ms_set (me_sl (me_var (pv 9)) (mo_some me_int) mo_no) (fun _ p => ps_set (i := 10) nd rfl (Or.inl rfl) p) rfl)
    (mss_one (ms_if (mt_dnin hu64 (me_var (pv 10)) (me_var (pv 3))) (mss_cons (ms_dput (me_op om_add (me_dix hu64 (me_var (pv 3)) (me_var (pv 7)) fun _ _ => rfl) (me_call (mal_cons (me_var (pv 0)) (mal_cons (me_var (pv 1)) (mal_cons (me_var (pv 9)) mal_nil fun _ _ p q => pa_cons p q) fun _ _ p q => pa_cons p q) fun _ _ p q => pa_cons p q) (fun _ p => pe_call (ok_gain T N) hr (by rfl) T.mg_gain T.F_gain.kp T.b_gain .nil pass0 p) fun _ _ _ h => aL_len h)) (me_var (pv 10)) fun _ _ p q => ps_dputU hu64 (pv 3) q p rfl)
    (mss_cons (ms_dput (me_op om_add (me_dix hu64 (me_var (pv 4)) (me_var (pv 7)) fun _ _ => rfl) (me_tup (mal_cons (me_var (pv 8)) mal_nil fun _ _ p q => pa_cons p q))) (me_var (pv 10)) fun _ _ p q => ps_dputU hu64 (pv 4) q p rfl)
    (mss_one (ms_exp (me_mt ml_append (mal_cons (me_var (pv 10)) mal_nil fun _ _ p q => pa_cons p q) fun _ p => pe_bm PySem.F.plainAttrs_list PySem.F.slot_list_append PySem.F.type_list_append mt_append (pv 5) p))))) mss_nil)))))))))
    (mss_one (ms_ret (me_tup (mal_cons (me_var (pv 3)) (mal_cons (me_var (pv 4)) mal_nil fun _ _ p q => pa_cons p q) fun _ _ p q => pa_cons p q))))))))))
theorem ok_lost_row (T : TX K mg cl) (N : Nat) : FnOk P w K mg base CX0 3 T.a_lost_row T.d_lost_row ["rule", "worths", "ways", "window"] (spG K cl 4 R_lost_row (f_lost_row N)) :=
  fn_ok T.F_lost_row sc_lost_row fun cdv A outer s H E hr =>
    have nd := sc_lost_row.nd
    have hu1 := hu_1 hr
    have hu64 := hu_64 hr
    have hu65 := hu_65 hr
    (mss_cons (ms_set (me_ix (me_call (mal_cons (me_var (pv 0)) mal_nil fun _ _ p q => pa_cons p q) (fun _ p => pe_call (ok_nodes_of T N) hr (by rfl) T.mg_nodes_of T.F_nodes_of.kp T.b_nodes_of .nil pass0 p) fun _ _ _ h => aL_len h) me_int fun _ _ => rfl) (fun _ p => ps_set (i := 4) nd rfl (Or.inl rfl) p) rfl)
    (mss_cons (ms_set (me_var (pv 4)) (fun _ p => ps_set (i := 5) nd rfl (Or.inl rfl) p) rfl)
    (mss_cons (ms_for PassesOwn.never rfl (mi_sq (me_tup (mal_cons (me_op om_add (me_dix hu64 (me_var (pv 2)) (me_sl (me_var (pv 3)) mo_no (mo_some (me_neg me_int))) fun _ _ => rfl) (me_sl (me_var (pv 3)) (mo_some (me_neg me_int)) mo_no)) (mal_cons (me_dix hu64 (me_var (pv 2)) (me_sl (me_var (pv 3)) (mo_some me_int) mo_no) fun _ _ => rfl) mal_nil fun _ _ p q => pa_cons p q) fun _ _ p q => pa_cons p q))) (mg_name (pg_name (i := 6) nd rfl (Or.inl rfl)) rfl) (mss_cons (ms_set (me_op om_add (me_var (pv 6)) (me_var (pv 5))) (fun _ p => ps_set (i := 7) nd rfl (Or.inl rfl) p) rfl)
    (mss_one (ms_if ((mw_and (mt_cmp om_gt (me_cb cm_len (mal_cons (me_var (pv 7)) mal_nil fun _ _ p q => pa_cons p q) fun _ _ hc p => pe_callB hc (by rfl) T.n_len (by decide +kernel) p) me_int (nomark _)) (mw_and1 (mt_cmp (om_ne hu64) (me_call (mal_cons (me_var (pv 1)) (mal_cons (me_var (pv 7)) mal_nil fun _ _ p q => pa_cons p q) fun _ _ p q => pa_cons p q) (fun _ p => pe_call (ok_worth T N) (hr.mono (by decide)) (by rfl) T.mg_worth T.F_worth.kp T.b_worth .nil pass0 p) fun _ _ _ h => aL_len h) (me_call (mal_cons (me_var (pv 1)) (mal_cons (me_call (mal_cons (me_var (pv 0)) (mal_cons (me_var (pv 7)) mal_nil fun _ _ p q => pa_cons p q) fun _ _ p q => pa_cons p q) (fun _ p => pe_call (ok_stepped T N) hr (by rfl) T.mg_stepped T.F_stepped.kp T.b_stepped .nil pass0 p) fun _ _ _ h => aL_len h) mal_nil fun _ _ p q => pa_cons p q) fun _ _ p q => pa_cons p q) (fun _ p => pe_call (ok_worth T N) (hr.mono (by decide)) (by rfl) T.mg_worth T.F_worth.kp T.b_worth .nil pass0 p) fun _ _ _ h => aL_len h) (nomark _))))).mt (mss_one (ms_ret (me_var (pv 7)))) mss_nil))))
    (mss_one (ms_ret me_non)))))
theorem ok_kept_right (T : TX K mg cl) (N : Nat) : FnOk P w K mg base CX0 3 T.a_kept_right T.d_kept_right ["claim"] (spG K cl 1 R_kept_right (f_kept_right N)) :=
  fn_ok T.F_kept_right sc_kept_right fun cdv A outer s H E hr =>
    have nd := sc_kept_right.nd
    have hu1 := hu_1 hr
    have hu64 := hu_64 hr
    have hu65 := hu_65 hr
    (mss_cons (ms_asg (me_var (pv 0)) (mg_tup rfl (mgs_cons (mg_name (pg_name (i := 1) nd rfl (Or.inl rfl)) rfl) (mgs_cons (mg_name (pg_name (i := 2) nd rfl (Or.inl rfl)) rfl) (mgs_cons (mg_name (pg_name (i := 3) nd rfl (Or.inl rfl)) rfl) (mgs_cons (mg_name (pg_name (i := 4) nd rfl (Or.inl rfl)) rfl) mgs_nil))))) fun _ _ p q => ps_asg p q)
    (mss_cons (ms_if (mt_cmp (om_ne hu64) (me_cb cm_len (mal_cons (me_var (pv 3)) mal_nil fun _ _ p q => pa_cons p q) fun _ _ hc p => pe_callB hc (by rfl) T.n_len (by decide +kernel) p) (me_fld (j := 0) T.k_Rule rfl (me_var (pv 2)) fun _ p => pe_fld p rfl) (nomark _)) (mss_one (ms_ret me_bl)) mss_nil)
    (mss_cons (ms_if (mt_cmp (om_eq hu64) (me_var (pv 1)) me_str (nomark _)) (mss_one (ms_ret (me_andV (me_call (mal_cons (me_var (pv 2)) (mal_cons (me_var (pv 4)) mal_nil fun _ _ p q => pa_cons p q) fun _ _ p q => pa_cons p q) (fun _ p => pe_call (ok_is_row T N) (hr.mono (by decide)) (by rfl) T.mg_is_row T.F_is_row.kp T.b_is_row .nil pass0 p) fun _ _ _ h => aL_len h) (me_one (me_cmp (om_ne hu64) (me_call (mal_cons (me_var (pv 3)) (mal_cons (me_var (pv 4)) mal_nil fun _ _ p q => pa_cons p q) fun _ _ p q => pa_cons p q) (fun _ p => pe_call (ok_worth T N) (hr.mono (by decide)) (by rfl) T.mg_worth T.F_worth.kp T.b_worth .nil pass0 p) fun _ _ _ h => aL_len h) (me_call (mal_cons (me_var (pv 3)) (mal_cons (me_call (mal_cons (me_var (pv 2)) (mal_cons (me_var (pv 4)) mal_nil fun _ _ p q => pa_cons p q) fun _ _ p q => pa_cons p q) (fun _ p => pe_call (ok_stepped T N) hr (by rfl) T.mg_stepped T.F_stepped.kp T.b_stepped .nil pass0 p) fun _ _ _ h => aL_len h) mal_nil fun _ _ p q => pa_cons p q) fun _ _ p q => pa_cons p q) (fun _ p => pe_call (ok_worth T N) (hr.mono (by decide)) (by rfl) T.mg_worth T.F_worth.kp T.b_worth .nil pass0 p) fun _ _ _ h => aL_len h) (nomark _)))))) mss_nil)
    (mss_cons (ms_set (me_call (mal_cons (me_fld (j := 0) T.k_Rule rfl (me_var (pv 2)) fun _ p => pe_fld p rfl) (mal_cons (me_op om_sub (me_fld (j := 1) T.k_Rule rfl (me_var (pv 2)) fun _ p => pe_fld p rfl) me_int) mal_nil fun _ _ p q => pa_cons p q) fun _ _ p q => pa_cons p q) (fun _ p => pe_call (ok_words T N) (hr.mono (by decide)) (by rfl) T.mg_words T.F_words.kp T.b_words .nil pass0 p) fun _ _ _ h => aL_len h) (fun _ p => ps_set (i := 5) nd rfl (Or.inl rfl) p) rfl)
    (mss_cons (ms_if (mt_cmp (om_ne hu64) (me_cb cm_len (mal_cons (me_var (pv 4)) mal_nil fun _ _ p q => pa_cons p q) fun _ _ hc p => pe_callB hc (by rfl) T.n_len (by decide +kernel) p) (me_cb cm_len (mal_cons (me_var (pv 5)) mal_nil fun _ _ p q => pa_cons p q) fun _ _ hc p => pe_callB hc (by rfl) T.n_len (by decide +kernel) p) (nomark _)) (mss_one (ms_ret me_bl)) mss_nil)
    (mss_cons (ms_set (me_frz (mf_dzip rfl hu64 (by rfl) T.n_dict (by rfl) T.n_zip (mal_cons (me_var (pv 5)) (mal_cons (me_var (pv 4)) mal_nil fun _ _ p q => pa_cons p q) fun _ _ p q => pa_cons p q))) (fun _ p => ps_set (i := 6) nd rfl (Or.inl rfl) p) rfl)
    (mss_cons (ms_for PassesOwn.never rfl (mi_sq (me_call (mal_cons (me_fld (j := 0) T.k_Rule rfl (me_var (pv 2)) fun _ p => pe_fld p rfl) (mal_cons (me_fld (j := 1) T.k_Rule rfl (me_var (pv 2)) fun _ p => pe_fld p rfl) mal_nil fun _ _ p q => pa_cons p q) fun _ _ p q => pa_cons p q) (fun _ p => pe_call (ok_words T N) (hr.mono (by decide)) (by rfl) T.mg_words T.F_words.kp T.b_words .nil pass0 p) fun _ _ _ h => aL_len h)) (mg_name (pg_name (i := 7) nd rfl (Or.inl rfl)) rfl) (mss_one (ms_if (mt_cmp (om_ne hu64) (me_op om_sub (me_dix hu64 (me_var (pv 6)) (me_sl (me_var (pv 7)) (mo_some me_int) mo_no) fun _ _ => rfl) (me_dix hu64 (me_var (pv 6)) (me_sl (me_var (pv 7)) mo_no (mo_some (me_neg me_int))) fun _ _ => rfl)) (me_call (mal_cons (me_var (pv 2)) (mal_cons (me_var (pv 3)) (mal_cons (me_var (pv 7)) mal_nil fun _ _ p q => pa_cons p q) fun _ _ p q => pa_cons p q) fun _ _ p q => pa_cons p q) (fun _ p => pe_call (ok_gain T N) hr (by rfl) T.mg_gain T.F_gain.kp T.b_gain .nil pass0 p) fun _ _ _ h => aL_len h) (nomark _)) (mss_one (ms_ret me_bl)) mss_nil)))
    (mss_one (ms_ret me_bl)))))))))
theorem ok_behind (T : TX K mg cl) (N : Nat) : FnOk P w K mg base CX0 4 T.a_behind T.d_behind ["first", "second"] (spG K cl 2 R_behind (f_behind N)) :=
  fn_ok T.F_behind sc_behind fun cdv A outer s H E hr =>
    have nd := sc_behind.nd
    have hu1 := hu_1 hr
    have hu64 := hu_64 hr
    have hu65 := hu_65 hr
    (mss_cons (ms_if (mt_cmp (om_ne hu64) (me_fld (j := 0) T.k_Rule rfl (me_var (pv 0)) fun _ p => pe_fld p rfl) (me_fld (j := 0) T.k_Rule rfl (me_var (pv 1)) fun _ p => pe_fld p rfl) (nomark _)) (mss_one ms_no) mss_nil)
    (mss_cons (ms_set (me_op om_sub (me_op om_add (me_fld (j := 1) T.k_Rule rfl (me_var (pv 0)) fun _ p => pe_fld p rfl) (me_fld (j := 1) T.k_Rule rfl (me_var (pv 1)) fun _ p => pe_fld p rfl)) me_int) (fun _ p => ps_set (i := 2) nd rfl (Or.inl rfl) p) rfl)
    (mss_cons (ms_if ((mw_or (mt_cmp om_gt (me_call (mal_cons (me_fld (j := 0) T.k_Rule rfl (me_var (pv 0)) fun _ p => pe_fld p rfl) (mal_cons (me_var (pv 2)) mal_nil fun _ _ p q => pa_cons p q) fun _ _ p q => pa_cons p q) (fun _ p => pe_call (ok_raised T N) (hr.mono (by decide)) (by rfl) T.mg_raised T.F_raised.kp T.b_raised .nil pass0 p) fun _ _ _ h => aL_len h) (me_k (v := .int 1024) (pe_glob (by rfl) T.c_MOST_TABLE ⟨_, rfl⟩) fun _ => .int _) (nomark _)) (mw_or1 (mt_cmp om_gt (me_var (pv 2)) (me_k (v := .int 9) (pe_glob (by rfl) T.c_MOST_WIDTH ⟨_, rfl⟩) fun _ => .int _) (nomark _))))).mt (mss_one ms_no) mss_nil)
    (mss_cons (ms_setO (mf_lst mal_nil) (fun _ p => ps_set (i := 3) nd rfl (Or.inl rfl) p) rfl)
    (mss_cons (ms_for PassesOwn.never rfl (mi_sq (me_call (mal_cons (me_fld (j := 0) T.k_Rule rfl (me_var (pv 0)) fun _ p => pe_fld p rfl) (mal_cons (me_var (pv 2)) mal_nil fun _ _ p q => pa_cons p q) fun _ _ p q => pa_cons p q) (fun _ p => pe_call (ok_words T N) (hr.mono (by decide)) (by rfl) T.mg_words T.F_words.kp T.b_words .nil pass0 p) fun _ _ _ h => aL_len h)) (mg_name (pg_name (i := 4) nd rfl (Or.inr rfl)) rfl) (mss_cons (ms_setLc (vs := [6]) (mi_r1 (mal_cons (me_fld (j := 1) T.k_Rule rfl (me_var (pv 1)) fun _ p => pe_fld p rfl) mal_nil fun _ _ p q => pa_cons p q) fun _ p => pi_range1 (by rfl) T.n_range p) (fun _ _ _ _ _ => (mg_name (pg_name (i := 6) nd rfl (by first | exact .inl rfl | exact .inr rfl)) rfl)) (fun _ _ _ _ _ => mts_nil) (fun _ _ _ _ _ => (me_meth (R := R_Rule_of) T.k_Rule.at_ (by decide) (me_var (pv 0)) (mal_cons (me_sl (me_var (pv 4)) (mo_some (me_var (pv 6))) (mo_some (me_op om_add (me_var (pv 6)) (me_fld (j := 1) T.k_Rule rfl (me_var (pv 0)) fun _ p => pe_fld p rfl)))) mal_nil fun _ _ p q => pa_cons p q) (fun _ _ po p => pe_meth po T.k_Rule.cls T.me_Rule_of (ok_Rule_of T N) (hr.mono (by decide)) T.b_Rule_of .nil pass0 p) fun _ _ _ h => aL_len h)) (fun _ _ _ _ pi pg pt pe => ps_setLc (i := 5) (own := [("at", 6)]) rfl nd rfl rfl (sw_true rfl rfl rfl (by decide +kernel)) pi (blkOk_by (by kernel_rfl)) pg pt pe) rfl)
    (mss_one (ms_exp (me_mt ml_append (mal_cons (me_meth (R := R_Rule_of) T.k_Rule.at_ (by decide) (me_var (pv 1)) (mal_cons (me_var (pv 5)) mal_nil fun _ _ p q => pa_cons p q) (fun _ _ po p => pe_meth po T.k_Rule.cls T.me_Rule_of (ok_Rule_of T N) (hr.mono (by decide)) T.b_Rule_of .nil pass0 p) fun _ _ _ h => aL_len h) mal_nil fun _ _ p q => pa_cons p q) fun _ p => pe_bm PySem.F.plainAttrs_list PySem.F.slot_list_append PySem.F.type_list_append mt_append (pv 3) p)))))
    (mss_one (ms_ret (me_frz (mf_make T.k_Rule.at_ rfl (mal_cons (me_fld (j := 0) T.k_Rule rfl (me_var (pv 0)) fun _ p => pe_fld p rfl) (mal_cons (me_var (pv 2)) (mal_cons (me_var (pv 3)) mal_nil fun _ _ p q => pa_cons p q) fun _ _ p q => pa_cons p q) fun _ _ p q => pa_cons p q) (fun _ p => pe_make T.mk_Rule (ok_Rule_init T N) hr (by rfl) T.mg_Rule T.b_Rule_init .nil pass0 p) fun _ _ _ h => congrArg (· + 1) (aL_len h))))))))))
theorem ok_kept (T : TX K mg cl) (N : Nat) : FnOk P w K mg base CX0 4 T.a_kept T.d_kept ["rule", "worths"] (spG K cl 2 R_kept (f_kept N)) :=
  fn_ok T.F_kept sc_kept fun cdv A outer s H E hr =>
    have nd := sc_kept.nd
    have hu1 := hu_1 hr
    have hu64 := hu_64 hr
    have hu65 := hu_65 hr
    (mss_cons (ms_set (me_call (mal_cons (me_var (pv 0)) (mal_cons (me_var (pv 1)) mal_nil fun _ _ p q => pa_cons p q) fun _ _ p q => pa_cons p q) (fun _ p => pe_call (ok_checked_worths T N) (hr.mono (by decide)) (by rfl) T.mg_checked_worths T.F_checked_worths.kp T.b_checked_worths .nil pass0 p) fun _ _ _ h => aL_len h) (fun _ p => ps_set (i := 1) nd rfl (Or.inl rfl) p) rfl)
    (mss_cons (ms_asg (me_call (mal_cons (me_var (pv 0)) (mal_cons (me_var (pv 1)) mal_nil fun _ _ p q => pa_cons p q) fun _ _ p q => pa_cons p q) (fun _ p => pe_call (ok_flows T N) hr (by rfl) T.mg_flows T.F_flows.kp T.b_flows .nil pass0 p) fun _ _ _ h => aL_len h) (mg_tup rfl (mgs_cons (mg_name (pg_name (i := 2) nd rfl (Or.inr rfl)) rfl) (mgs_cons (mg_name (pg_name (i := 3) nd rfl (Or.inl rfl)) rfl) mgs_nil))) fun _ _ p q => ps_asg p q)
    (mss_cons (ms_for PassesOwn.never rfl (mi_sq (me_call (mal_cons (me_fld (j := 0) T.k_Rule rfl (me_var (pv 0)) fun _ p => pe_fld p rfl) (mal_cons (me_fld (j := 1) T.k_Rule rfl (me_var (pv 0)) fun _ p => pe_fld p rfl) mal_nil fun _ _ p q => pa_cons p q) fun _ _ p q => pa_cons p q) (fun _ p => pe_call (ok_words T N) (hr.mono (by decide)) (by rfl) T.mg_words T.F_words.kp T.b_words .nil pass0 p) fun _ _ _ h => aL_len h)) (mg_name (pg_name (i := 4) nd rfl (Or.inl rfl)) rfl) (mss_one (ms_if (mt_cmp (om_ne hu64) (me_op om_sub (me_dix hu64 (me_var (pv 2)) (me_sl (me_var (pv 4)) (mo_some me_int) mo_no) fun _ _ => rfl) (me_dix hu64 (me_var (pv 2)) (me_sl (me_var (pv 4)) mo_no (mo_some (me_neg me_int))) fun _ _ => rfl)) (me_call (mal_cons (me_var (pv 0)) (mal_cons (me_var (pv 1)) (mal_cons (me_var (pv 4)) mal_nil fun _ _ p q => pa_cons p q) fun _ _ p q => pa_cons p q) fun _ _ p q => pa_cons p q) (fun _ p => pe_call (ok_gain T N) (hr.mono (by decide)) (by rfl) T.mg_gain T.F_gain.kp T.b_gain .nil pass0 p) fun _ _ _ h => aL_len h) (nomark _)) (mss_one (ms_ret (me_tup (mal_cons me_str (mal_cons (me_var (pv 0)) (mal_cons (me_var (pv 1)) (mal_cons (me_call (mal_cons (me_var (pv 0)) (mal_cons (me_var (pv 1)) (mal_cons (me_var (pv 3)) (mal_cons (me_var (pv 4)) mal_nil fun _ _ p q => pa_cons p q) fun _ _ p q => pa_cons p q) fun _ _ p q => pa_cons p q) fun _ _ p q => pa_cons p q) (fun _ p => pe_call (ok_lost_row T N) hr (by rfl) T.mg_lost_row T.F_lost_row.kp T.b_lost_row .nil pass0 p) fun _ _ _ h => aL_len h) mal_nil fun _ _ p q => pa_cons p q) fun _ _ p q => pa_cons p q) fun _ _ p q => pa_cons p q) fun _ _ p q => pa_cons p q)))) mss_nil)))
    (mss_one (ms_ret (me_tup (mal_cons me_str (mal_cons (me_var (pv 0)) (mal_cons (me_var (pv 1)) (mal_cons (me_cb cm_tuple (mal_cons (me_frz (mf_lc (vs := [5]) (mi_sq (me_call (mal_cons (me_var (pv 0)) mal_nil fun _ _ p q => pa_cons p q) (fun _ p => pe_call (ok_nodes_of T N) (hr.mono (by decide)) (by rfl) T.mg_nodes_of T.F_nodes_of.kp T.b_nodes_of .nil pass0 p) fun _ _ _ h => aL_len h)) (fun _ _ _ _ _ => (mg_name (pg_name (i := 5) nd rfl (by first | exact .inl rfl | exact .inr rfl)) rfl)) (fun _ _ _ _ _ => mts_nil) (fun _ _ _ _ _ => (me_dix hu64 (me_var (pv 2)) (me_var (pv 5)) fun _ _ => rfl)) (fun _ _ _ _ pi pg pt pe => pe_lc (own := [("node", 5)]) rfl nd pi (blkOk_by (by kernel_rfl)) pg pt pe))) mal_nil fun _ _ p q => pa_cons p q) fun _ _ hc p => pe_callTy hc (by rfl) T.n_tuple (by decide +kernel) p) mal_nil fun _ _ p q => pa_cons p q) fun _ _ p q => pa_cons p q) fun _ _ p q => pa_cons p q) fun _ _ p q => pa_cons p q)))))))
theorem ok_law_same_ (T : TX K mg cl) (N : Nat) : ∀ n : Nat, FnOk P w K mg base CX0 (0 + n) T.a_law_same T.d_law_same ["actual", "due"] (spG K cl 2 R_law_same (f_law_same_ N n))
  | 0 => fnok_none (ps := ["actual", "due"])
  | n + 1 => by
    exact fn_ok T.F_law_same sc_law_same fun cdv A outer s H E hr =>
    have nd := sc_law_same.nd
    have hu1 := hu_1 hr
    have hu64 := hu_64 hr
    have hu65 := hu_65 hr
    (mss_cons (ms_if ((mw_or (mt_truth (me_isi isi_tuple (me_var (pv 1)) fun _ p => pe_callB call_isi (by rfl) T.n_isinstance (by decide +kernel) (pa_cons p (pa_cons (pe_bltn (v := .ty "tuple") (by rfl) T.n_tuple PyProof.Rows.boot_tuple rfl) pa_nil))) (by intro _; rfl)) (mw_or1 (mt_truth (me_isi isi_list (me_var (pv 1)) fun _ p => pe_callB call_isi (by rfl) T.n_isinstance (by decide +kernel) (pa_cons p (pa_cons (pe_bltn (v := .ty "list") (by rfl) T.n_list PyProof.Rows.boot_list rfl) pa_nil))) (by intro _; rfl))))).mt (mss_cons (ms_if ((mw_or (mt_cmp (om_ne hu64) (me_isi isi_tuple (me_var (pv 1)) fun _ p => pe_callB call_isi (by rfl) T.n_isinstance (by decide +kernel) (pa_cons p (pa_cons (pe_bltn (v := .ty "tuple") (by rfl) T.n_tuple PyProof.Rows.boot_tuple rfl) pa_nil))) (me_isi isi_tuple (me_var (pv 0)) fun _ p => pe_callB call_isi (by rfl) T.n_isinstance (by decide +kernel) (pa_cons p (pa_cons (pe_bltn (v := .ty "tuple") (by rfl) T.n_tuple PyProof.Rows.boot_tuple rfl) pa_nil))) (nomark _)) (mw_or1 (mt_cmp (om_ne hu64) (me_isi isi_list (me_var (pv 1)) fun _ p => pe_callB call_isi (by rfl) T.n_isinstance (by decide +kernel) (pa_cons p (pa_cons (pe_bltn (v := .ty "list") (by rfl) T.n_list PyProof.Rows.boot_list rfl) pa_nil))) (me_isi isi_list (me_var (pv 0)) fun _ p => pe_callB call_isi (by rfl) T.n_isinstance (by decide +kernel) (pa_cons p (pa_cons (pe_bltn (v := .ty "list") (by rfl) T.n_list PyProof.Rows.boot_list rfl) pa_nil))) (nomark _))))).mt (mss_one (ms_ret me_bl)) mss_nil)
    (mss_cons (ms_if (mt_cmp (om_ne hu64) (me_cb cm_len (mal_cons (me_var (pv 0)) mal_nil fun _ _ p q => pa_cons p q) fun _ _ hc p => pe_callB hc (by rfl) T.n_len (by decide +kernel) p) (me_cb cm_len (mal_cons (me_var (pv 1)) mal_nil fun _ _ p q => pa_cons p q) fun _ _ hc p => pe_callB hc (by rfl) T.n_len (by decide +kernel) p) (nomark _)) (mss_one (ms_ret me_bl)) mss_nil)
    (mss_cons (ms_for PassesOwn.never rfl (mi_r1 (mal_cons (me_cb cm_len (mal_cons (me_var (pv 1)) mal_nil fun _ _ p q => pa_cons p q) fun _ _ hc p => pe_callB hc (by rfl) T.n_len (by decide +kernel) p) mal_nil fun _ _ p q => pa_cons p q) fun _ p => pi_range1 (by rfl) T.n_range p) (mg_name (pg_name (i := 2) nd rfl (Or.inl rfl)) rfl) (mss_one (ms_if (mt_not (mt_truth (me_call (mal_cons (me_ix (me_var (pv 0)) (me_var (pv 2)) fun _ _ => rfl) (mal_cons (me_ix (me_var (pv 1)) (me_var (pv 2)) fun _ _ => rfl) mal_nil fun _ _ p q => pa_cons p q) fun _ _ p q => pa_cons p q) (fun _ p => pe_call (ok_law_same_ T N n) hr (by rfl) T.mg_law_same T.F_law_same.kp T.b_law_same .nil pass0 p) fun _ _ _ h => aL_len h) (by intro _; rfl))) (mss_one (ms_ret me_bl)) mss_nil)))
    (mss_one (ms_ret me_bl))))) mss_nil)
    (mss_cons (ms_if ((mw_or (mt_cmp om_isN (me_var (pv 1)) me_non (nomark _)) (mw_or1 (mt_truth (me_isi isi_bool (me_var (pv 1)) fun _ p => pe_callB call_isi (by rfl) T.n_isinstance (by decide +kernel) (pa_cons p (pa_cons (pe_bltn (v := .ty "bool") (by rfl) T.n_bool PyProof.Rows.boot_bool rfl) pa_nil))) (by intro _; rfl))))).mt (mss_one (ms_ret (me_andV (me_cmp (om_eq hu64) (me_cmp om_isN (me_var (pv 0)) me_non (nomark _)) (me_cmp om_isN (me_var (pv 1)) me_non (nomark _)) (nomark _)) (me_andV (me_orV (me_cmp om_isN (me_var (pv 1)) me_non (nomark _)) (me_one (me_isi isi_bool (me_var (pv 0)) fun _ p => pe_callB call_isi (by rfl) T.n_isinstance (by decide +kernel) (pa_cons p (pa_cons (pe_bltn (v := .ty "bool") (by rfl) T.n_bool PyProof.Rows.boot_bool rfl) pa_nil))))) (me_one (me_cmp (om_eq hu64) (me_var (pv 0)) (me_var (pv 1)) (nomark _))))))) mss_nil)
    (mss_cons (ms_if (mt_truth (me_isi isi_int (me_var (pv 1)) fun _ p => pe_callB call_isi (by rfl) T.n_isinstance (by decide +kernel) (pa_cons p (pa_cons (pe_bltn (v := .ty "int") (by rfl) T.n_int PyProof.Rows.boot_int rfl) pa_nil))) (by intro _; rfl)) (mss_one (ms_ret (me_andV (me_isi isi_int (me_var (pv 0)) fun _ p => pe_callB call_isi (by rfl) T.n_isinstance (by decide +kernel) (pa_cons p (pa_cons (pe_bltn (v := .ty "int") (by rfl) T.n_int PyProof.Rows.boot_int rfl) pa_nil))) (me_andV (me_not (me_isi isi_bool (me_var (pv 0)) fun _ p => pe_callB call_isi (by rfl) T.n_isinstance (by decide +kernel) (pa_cons p (pa_cons (pe_bltn (v := .ty "bool") (by rfl) T.n_bool PyProof.Rows.boot_bool rfl) pa_nil)))) (me_one (me_cmp (om_eq hu64) (me_var (pv 0)) (me_var (pv 1)) (nomark _))))))) mss_nil)
    (mss_one (ms_ret (me_andV (me_isi isi_str (me_var (pv 0)) fun _ p => pe_callB call_isi (by rfl) T.n_isinstance (by decide +kernel) (pa_cons p (pa_cons (pe_bltn (v := .ty "str") (by rfl) T.n_str PyProof.Rows.boot_str rfl) pa_nil))) (me_one (me_cmp (om_eq hu64) (me_var (pv 0)) (me_var (pv 1)) (nomark _)))))))))
theorem ok_law_same (T : TX K mg cl) (N : Nat) : FnOk P w K mg base CX0 12 T.a_law_same T.d_law_same ["actual", "due"] (spG K cl 2 R_law_same (f_law_same N)) := ok_law_same_ T N 12
theorem ok_law (T : TX K mg cl) (N : Nat) : FnOk P w K mg base CX0 13 T.a_law T.d_law ["script"] (spG K cl 1 R_law (f_law N)) :=
  fn_ok T.F_law sc_law fun cdv A outer s H E hr =>
    have nd := sc_law.nd
    have hu1 := hu_1 hr
    have hu64 := hu_64 hr
    have hu65 := hu_65 hr
    (mss_cons (ms_setO (mf_call (mal_cons (me_var (pv 0)) (mal_cons me_int mal_nil fun _ _ p q => pa_cons p q) fun _ _ p q => pa_cons p q) (fun _ p => pe_call (ok_law_pool T N) (hr.mono (by decide)) (by rfl) T.mg_law_pool T.F_law_pool.kp T.b_law_pool .nil pass0 p) fun _ _ _ h => aL_len h) (fun _ p => ps_set (i := 1) nd rfl (Or.inr rfl) p) rfl)
    (mss_cons (ms_set (me_ix (me_tup (mal_cons (me_callR rfl (mal_cons (me_var (pv 1)) (mal_cons me_int mal_nil fun _ _ p q => pa_cons p q) fun _ _ p q => pa_cons p q) (fun _ p => pe_call (ok_law_rule T N) (hr.mono (by decide)) (by rfl) T.mg_law_rule T.F_law_rule.kp T.b_law_rule .nil pass0 p) fun _ _ _ h => aL_len h) (mal_cons (me_callR rfl (mal_cons (me_var (pv 1)) mal_nil fun _ _ p q => pa_cons p q) (fun _ p => pe_call (ok_law_moving T N) (hr.mono (by decide)) (by rfl) T.mg_law_moving T.F_law_moving.kp T.b_law_moving .nil pass0 p) fun _ _ _ h => aL_len h) mal_nil fun _ _ p q => pa_cons p q) fun _ _ p q => pa_cons p q)) (me_callR rfl (mal_cons (me_var (pv 1)) (mal_cons me_int mal_nil fun _ _ p q => pa_cons p q) fun _ _ p q => pa_cons p q) (fun _ p => pe_call (ok_law_draw T N) (hr.mono (by decide)) (by rfl) T.mg_law_draw T.F_law_draw.kp T.b_law_draw .nil pass0 p) fun _ _ _ h => aL_len h) fun _ _ => rfl) (fun _ p => ps_set (i := 2) nd rfl (Or.inl rfl) p) rfl)
    (mss_cons (ms_set (me_frz (mf_make T.k_Rule.at_ rfl (mal_cons (me_ix (me_var (pv 2)) me_int fun _ _ => rfl) (mal_cons (me_ix (me_var (pv 2)) me_int fun _ _ => rfl) (mal_cons (me_ix (me_var (pv 2)) me_int fun _ _ => rfl) mal_nil fun _ _ p q => pa_cons p q) fun _ _ p q => pa_cons p q) fun _ _ p q => pa_cons p q) (fun _ p => pe_make T.mk_Rule (ok_Rule_init T N) (hr.mono (by decide)) (by rfl) T.mg_Rule T.b_Rule_init .nil pass0 p) fun _ _ _ h => congrArg (· + 1) (aL_len h))) (fun _ p => ps_set (i := 3) nd rfl (Or.inl rfl) p) rfl)
    (mss_cons (ms_set (me_call (mal_cons (me_ix (me_var (pv 2)) me_int fun _ _ => rfl) (mal_cons (me_op om_sub (me_ix (me_var (pv 2)) me_int fun _ _ => rfl) me_int) mal_nil fun _ _ p q => pa_cons p q) fun _ _ p q => pa_cons p q) (fun _ p => pe_call (ok_law_power T N) (hr.mono (by decide)) (by rfl) T.mg_law_power T.F_law_power.kp T.b_law_power .nil pass0 p) fun _ _ _ h => aL_len h) (fun _ p => ps_set (i := 4) nd rfl (Or.inl rfl) p) rfl)
    (mss_cons (ms_set (me_call (mal_cons (me_var (pv 3)) (mal_cons (me_op om_mul (me_tup (mal_cons me_int mal_nil fun _ _ p q => pa_cons p q)) (me_ix (me_var (pv 2)) me_int fun _ _ => rfl)) mal_nil fun _ _ p q => pa_cons p q) fun _ _ p q => pa_cons p q) (fun _ p => pe_call (ok_kept T N) (hr.mono (by decide)) (by rfl) T.mg_kept T.F_kept.kp T.b_kept .nil pass0 p) fun _ _ _ h => aL_len h) (fun _ p => ps_set (i := 5) nd rfl (Or.inl rfl) p) rfl)
    (mss_cons (ms_if ((mw_or (mt_cmp (om_ne hu64) (me_ix (me_var (pv 5)) me_int fun _ _ => rfl) me_str (nomark _)) (mw_or1 (mt_cmp (om_ne hu64) (me_ix (me_var (pv 5)) me_int fun _ _ => rfl) (me_op om_mul (me_tup (mal_cons me_int mal_nil fun _ _ p q => pa_cons p q)) (me_var (pv 4))) (nomark _))))).mt (mss_one (ms_ret me_bl)) mss_nil)
    (mss_cons (ms_set (me_cb cm_tuple (mal_cons (me_frz (mf_lc (vs := [17]) (mi_r1 (mal_cons (me_ix (me_var (pv 2)) me_int fun _ _ => rfl) mal_nil fun _ _ p q => pa_cons p q) fun _ p => pi_range1 (by rfl) T.n_range p) (fun _ _ _ _ _ => (mg_name (pg_name (i := 17) nd rfl (by first | exact .inl rfl | exact .inr rfl)) rfl)) (fun _ _ _ _ _ => mts_nil) (fun _ _ _ _ _ => (me_op om_sub (me_callR rfl (mal_cons (me_var (pv 1)) (mal_cons me_int mal_nil fun _ _ p q => pa_cons p q) fun _ _ p q => pa_cons p q) (fun _ p => pe_call (ok_law_draw T N) (hr.mono (by decide)) (by rfl) T.mg_law_draw T.F_law_draw.kp T.b_law_draw .nil pass0 p) fun _ _ _ h => aL_len h) me_int)) (fun _ _ _ _ pi pg pt pe => pe_lc (own := [("k", 17)]) rfl nd pi (blkOk_by (by kernel_rfl)) pg pt pe))) mal_nil fun _ _ p q => pa_cons p q) fun _ _ hc p => pe_callTy hc (by rfl) T.n_tuple (by decide +kernel) p) (fun _ p => ps_set (i := 6) nd rfl (Or.inr rfl) p) rfl)
    (mss_cons (ms_set (me_cb cm_tuple (mal_cons (me_frz (mf_lc (vs := [17]) (mi_r1 (mal_cons (me_ix (me_var (pv 2)) me_int fun _ _ => rfl) mal_nil fun _ _ p q => pa_cons p q) fun _ p => pi_range1 (by rfl) T.n_range p) (fun _ _ _ _ _ => (mg_name (pg_name (i := 17) nd rfl (by first | exact .inl rfl | exact .inr rfl)) rfl)) (fun _ _ _ _ _ => mts_nil) (fun _ _ _ _ _ => (me_op om_sub (me_callR rfl (mal_cons (me_var (pv 1)) (mal_cons me_int mal_nil fun _ _ p q => pa_cons p q) fun _ _ p q => pa_cons p q) (fun _ p => pe_call (ok_law_draw T N) (hr.mono (by decide)) (by rfl) T.mg_law_draw T.F_law_draw.kp T.b_law_draw .nil pass0 p) fun _ _ _ h => aL_len h) me_int)) (fun _ _ _ _ pi pg pt pe => pe_lc (own := [("k", 17)]) rfl nd pi (blkOk_by (by kernel_rfl)) pg pt pe))) mal_nil fun _ _ p q => pa_cons p q) fun _ _ hc p => pe_callTy hc (by rfl) T.n_tuple (by decide +kernel) p) (fun _ p => ps_set (i := 7) nd rfl (Or.inr rfl) p) rfl)
    (mss_cons (ms_set (me_op om_sub (me_callR rfl (mal_cons (me_var (pv 1)) (mal_cons me_int mal_nil fun _ _ p q => pa_cons p q) fun _ _ p q => pa_cons p q) (fun _ p => pe_call (ok_law_draw T N) (hr.mono (by decide)) (by rfl) T.mg_law_draw T.F_law_draw.kp T.b_law_draw .nil pass0 p) fun _ _ _ h => aL_len h) me_int) (fun _ p => ps_set (i := 8) nd rfl (Or.inr rfl) p) rfl)
    (mss_cons (ms_set (me_cb cm_tuple (mal_cons (me_frz (mf_lc (vs := [17]) (mi_r1 (mal_cons (me_ix (me_var (pv 2)) me_int fun _ _ => rfl) mal_nil fun _ _ p q => pa_cons p q) fun _ p => pi_range1 (by rfl) T.n_range p) (fun _ _ _ _ _ => (mg_name (pg_name (i := 17) nd rfl (by first | exact .inl rfl | exact .inr rfl)) rfl)) (fun _ _ _ _ _ => mts_nil) (fun _ _ _ _ _ => (me_op om_add (me_ix (me_var (pv 6)) (me_var (pv 17)) fun _ _ => rfl) (me_op om_mul (me_var (pv 8)) (me_ix (me_var (pv 7)) (me_var (pv 17)) fun _ _ => rfl)))) (fun _ _ _ _ pi pg pt pe => pe_lc (own := [("k", 17)]) rfl nd pi (blkOk_by (by kernel_rfl)) pg pt pe))) mal_nil fun _ _ p q => pa_cons p q) fun _ _ hc p => pe_callTy hc (by rfl) T.n_tuple (by decide +kernel) p) (fun _ p => ps_set (i := 9) nd rfl (Or.inl rfl) p) rfl)
    (mss_cons (ms_asg (me_tup (mal_cons (me_call (mal_cons (me_var (pv 3)) (mal_cons (me_var (pv 6)) mal_nil fun _ _ p q => pa_cons p q) fun _ _ p q => pa_cons p q) (fun _ p => pe_call (ok_kept T N) (hr.mono (by decide)) (by rfl) T.mg_kept T.F_kept.kp T.b_kept .nil pass0 p) fun _ _ _ h => aL_len h) (mal_cons (me_call (mal_cons (me_var (pv 3)) (mal_cons (me_var (pv 7)) mal_nil fun _ _ p q => pa_cons p q) fun _ _ p q => pa_cons p q) (fun _ p => pe_call (ok_kept T N) (hr.mono (by decide)) (by rfl) T.mg_kept T.F_kept.kp T.b_kept .nil pass0 p) fun _ _ _ h => aL_len h) (mal_cons (me_call (mal_cons (me_var (pv 3)) (mal_cons (me_var (pv 9)) mal_nil fun _ _ p q => pa_cons p q) fun _ _ p q => pa_cons p q) (fun _ p => pe_call (ok_kept T N) (hr.mono (by decide)) (by rfl) T.mg_kept T.F_kept.kp T.b_kept .nil pass0 p) fun _ _ _ h => aL_len h) mal_nil fun _ _ p q => pa_cons p q) fun _ _ p q => pa_cons p q) fun _ _ p q => pa_cons p q)) (mg_tup rfl (mgs_cons (mg_name (pg_name (i := 10) nd rfl (Or.inr rfl)) rfl) (mgs_cons (mg_name (pg_name (i := 11) nd rfl (Or.inr rfl)) rfl) (mgs_cons (mg_name (pg_name (i := 12) nd rfl (Or.inl rfl)) rfl) mgs_nil)))) fun _ _ p q => ps_asg p q)
    (mss_cons (ms_if ((mw_and (mt_cmp (om_eq hu64) (me_ix (me_var (pv 10)) me_int fun _ _ => rfl) me_str (nomark _)) (mw_and1 (mt_cmp (om_eq hu64) (me_ix (me_var (pv 11)) me_int fun _ _ => rfl) me_str (nomark _))))).mt (mss_one (ms_if ((mw_or (mt_cmp (om_ne hu64) (me_ix (me_var (pv 12)) me_int fun _ _ => rfl) me_str (nomark _)) (mw_or1 (mt_cmp (om_ne hu64) (me_ix (me_var (pv 12)) me_int fun _ _ => rfl) (me_cb cm_tuple (mal_cons (me_frz (mf_lc (vs := [17]) (mi_r1 (mal_cons (me_var (pv 4)) mal_nil fun _ _ p q => pa_cons p q) fun _ p => pi_range1 (by rfl) T.n_range p) (fun _ _ _ _ _ => (mg_name (pg_name (i := 17) nd rfl (by first | exact .inl rfl | exact .inr rfl)) rfl)) (fun _ _ _ _ _ => mts_nil) (fun _ _ _ _ _ => (me_op om_add (me_ix (me_ix (me_var (pv 10)) me_int fun _ _ => rfl) (me_var (pv 17)) fun _ _ => rfl) (me_op om_mul (me_var (pv 8)) (me_ix (me_ix (me_var (pv 11)) me_int fun _ _ => rfl) (me_var (pv 17)) fun _ _ => rfl)))) (fun _ _ _ _ pi pg pt pe => pe_lc (own := [("k", 17)]) rfl nd pi (blkOk_by (by kernel_rfl)) pg pt pe))) mal_nil fun _ _ p q => pa_cons p q) fun _ _ hc p => pe_callTy hc (by rfl) T.n_tuple (by decide +kernel) p) (nomark _))))).mt (mss_one (ms_ret me_bl)) mss_nil)) mss_nil)
    (mss_cons (ms_if ((mw_and (mt_cmp (om_ne hu64) (me_ix (me_var (pv 10)) me_int fun _ _ => rfl) (me_ix (me_var (pv 11)) me_int fun _ _ => rfl) (nomark _)) (mw_and (mt_cmp (om_ne hu64) (me_var (pv 8)) me_int (nomark _)) (mw_and (mt_cmp (om_ne hu64) (me_ix (me_var (pv 12)) me_int fun _ _ => rfl) me_str (nomark _)) (mw_and1 ((mw_or (mt_cmp (om_eq hu64) (me_ix (me_var (pv 10)) me_int fun _ _ => rfl) me_str (nomark _)) (mw_or1 (mt_cmp (om_eq hu64) (me_ix (me_var (pv 11)) me_int fun _ _ => rfl) me_str (nomark _))))).mt))))).mt (mss_one (ms_ret me_bl)) mss_nil)
    (mss_cons (ms_set (me_callR rfl (mal_cons (me_var (pv 1)) (mal_cons (me_var (pv 2)) (mal_cons (me_op om_add me_int (me_callR rfl (mal_cons (me_var (pv 1)) (mal_cons me_int mal_nil fun _ _ p q => pa_cons p q) fun _ _ p q => pa_cons p q) (fun _ p => pe_call (ok_law_draw T N) (hr.mono (by decide)) (by rfl) T.mg_law_draw T.F_law_draw.kp T.b_law_draw .nil pass0 p) fun _ _ _ h => aL_len h)) mal_nil fun _ _ p q => pa_cons p q) fun _ _ p q => pa_cons p q) fun _ _ p q => pa_cons p q) (fun _ p => pe_call (ok_law_row T N) (hr.mono (by decide)) (by rfl) T.mg_law_row T.F_law_row.kp T.b_law_row .nil pass0 p) fun _ _ _ h => aL_len h) (fun _ p => ps_set (i := 13) nd rfl (Or.inl rfl) p) rfl)
    (mss_cons (ms_if (mt_cmp (om_eq hu64) (me_ix (me_var (pv 10)) me_int fun _ _ => rfl) me_str (nomark _)) (mss_cons (ms_if ((mw_or (mt_cmp (om_ne hu64) (me_call (mal_cons (me_var (pv 6)) (mal_cons (me_call (mal_cons (me_var (pv 3)) (mal_cons (me_var (pv 13)) (mal_cons me_int mal_nil fun _ _ p q => pa_cons p q) fun _ _ p q => pa_cons p q) fun _ _ p q => pa_cons p q) (fun _ p => pe_call (ok_after T N) (hr.mono (by decide)) (by rfl) T.mg_after T.F_after.kp T.b_after .nil pass0 p) fun _ _ _ h => aL_len h) mal_nil fun _ _ p q => pa_cons p q) fun _ _ p q => pa_cons p q) (fun _ p => pe_call (ok_worth T N) (hr.mono (by decide)) (by rfl) T.mg_worth T.F_worth.kp T.b_worth .nil pass0 p) fun _ _ _ h => aL_len h) (me_call (mal_cons (me_var (pv 6)) (mal_cons (me_var (pv 13)) mal_nil fun _ _ p q => pa_cons p q) fun _ _ p q => pa_cons p q) (fun _ p => pe_call (ok_worth T N) (hr.mono (by decide)) (by rfl) T.mg_worth T.F_worth.kp T.b_worth .nil pass0 p) fun _ _ _ h => aL_len h) (nomark _)) (mw_or1 (mt_not (mt_truth (me_call (mal_cons (me_call (mal_cons (me_tup (mal_cons me_str (mal_cons (me_var (pv 3)) (mal_cons (me_var (pv 6)) (mal_cons (me_var (pv 13)) mal_nil fun _ _ p q => pa_cons p q) fun _ _ p q => pa_cons p q) fun _ _ p q => pa_cons p q) fun _ _ p q => pa_cons p q)) mal_nil fun _ _ p q => pa_cons p q) (fun _ p => pe_call (ok_kept_right T N) (hr.mono (by decide)) (by rfl) T.mg_kept_right T.F_kept_right.kp T.b_kept_right .nil pass0 p) fun _ _ _ h => aL_len h) (mal_cons me_bl mal_nil fun _ _ p q => pa_cons p q) fun _ _ p q => pa_cons p q) (fun _ p => pe_call (ok_law_same T N) hr (by rfl) T.mg_law_same T.F_law_same.kp T.b_law_same .nil pass0 p) fun _ _ _ h => aL_len h) (by intro _; rfl)))))).mt (mss_one (ms_ret me_bl)) mss_nil)
    (mss_cons (ms_if (mt_not (mt_truth (me_call (mal_cons (me_call (mal_cons (me_tup (mal_cons me_str (mal_cons (me_var (pv 3)) (mal_cons (me_var (pv 6)) (mal_cons (me_cb cm_tuple (mal_cons (me_frz (mf_lc (vs := [18]) (mi_sq (me_ix (me_var (pv 10)) me_int fun _ _ => rfl)) (fun _ _ _ _ _ => (mg_name (pg_name (i := 18) nd rfl (by first | exact .inl rfl | exact .inr rfl)) rfl)) (fun _ _ _ _ _ => mts_nil) (fun _ _ _ _ _ => (me_op om_add (me_var (pv 18)) me_int)) (fun _ _ _ _ pi pg pt pe => pe_lc (own := [("flow", 18)]) rfl nd pi (blkOk_by (by kernel_rfl)) pg pt pe))) mal_nil fun _ _ p q => pa_cons p q) fun _ _ hc p => pe_callTy hc (by rfl) T.n_tuple (by decide +kernel) p) mal_nil fun _ _ p q => pa_cons p q) fun _ _ p q => pa_cons p q) fun _ _ p q => pa_cons p q) fun _ _ p q => pa_cons p q)) mal_nil fun _ _ p q => pa_cons p q) (fun _ p => pe_call (ok_kept_right T N) (hr.mono (by decide)) (by rfl) T.mg_kept_right T.F_kept_right.kp T.b_kept_right .nil pass0 p) fun _ _ _ h => aL_len h) (mal_cons me_bl mal_nil fun _ _ p q => pa_cons p q) fun _ _ p q => pa_cons p q) (fun _ p => pe_call (ok_law_same T N) hr (by rfl) T.mg_law_same T.F_law_same.kp T.b_law_same .nil pass0 p) fun _ _ _ h => aL_len h) (by intro _; rfl))) (mss_one (ms_ret me_bl)) mss_nil)
    (mss_cons (ms_set (me_callR rfl (mal_cons (me_var (pv 1)) mal_nil fun _ _ p q => pa_cons p q) (fun _ p => pe_call (ok_law_moving T N) (hr.mono (by decide)) (by rfl) T.mg_law_moving T.F_law_moving.kp T.b_law_moving .nil pass0 p) fun _ _ _ h => aL_len h) (fun _ p => ps_set (i := 14) nd rfl (Or.inl rfl) p) rfl)
    (mss_one (ms_if ((mw_and (mt_cmp (om_eq hu64) (me_ix (me_var (pv 2)) me_int fun _ _ => rfl) me_int (nomark _)) (mw_and (mt_cmp om_lt (me_ix (me_var (pv 2)) me_int fun _ _ => rfl) me_int (nomark _)) (mw_and1 (mt_cmp (om_ne hu64) (me_ix (me_call (mal_cons (me_call (mal_cons (me_var (pv 3)) (mal_cons (me_frz (mf_make T.k_Rule.at_ rfl (mal_cons me_int (mal_cons me_int (mal_cons (me_ix (me_var (pv 14)) me_int fun _ _ => rfl) mal_nil fun _ _ p q => pa_cons p q) fun _ _ p q => pa_cons p q) fun _ _ p q => pa_cons p q) (fun _ p => pe_make T.mk_Rule (ok_Rule_init T N) (hr.mono (by decide)) (by rfl) T.mg_Rule T.b_Rule_init .nil pass0 p) fun _ _ _ h => congrArg (· + 1) (aL_len h))) mal_nil fun _ _ p q => pa_cons p q) fun _ _ p q => pa_cons p q) (fun _ p => pe_call (ok_behind T N) (hr.mono (by decide)) (by rfl) T.mg_behind T.F_behind.kp T.b_behind .nil pass0 p) fun _ _ _ h => aL_len h) (mal_cons (me_var (pv 6)) mal_nil fun _ _ p q => pa_cons p q) fun _ _ p q => pa_cons p q) (fun _ p => pe_call (ok_kept T N) (hr.mono (by decide)) (by rfl) T.mg_kept T.F_kept.kp T.b_kept .nil pass0 p) fun _ _ _ h => aL_len h) me_int fun _ _ => rfl) me_str (nomark _)))))).mt (mss_one (ms_ret me_bl)) mss_nil))))) (mss_cons (ms_set (me_ix (me_var (pv 10)) me_int fun _ _ => rfl) (fun _ p => ps_set (i := 15) nd rfl (Or.inl rfl) p) rfl)
    (mss_cons (ms_for PassesOwn.never rfl (mi_r1 (mal_cons (me_cb cm_len (mal_cons (me_var (pv 15)) mal_nil fun _ _ p q => pa_cons p q) fun _ _ hc p => pe_callB hc (by rfl) T.n_len (by decide +kernel) p) mal_nil fun _ _ p q => pa_cons p q) fun _ p => pi_range1 (by rfl) T.n_range p) (mg_name (pg_name (i := 16) nd rfl (Or.inl rfl)) rfl) (mss_one (ms_if (mt_not (mt_truth (me_call (mal_cons (me_call (mal_cons (me_tup (mal_cons me_str (mal_cons (me_var (pv 3)) (mal_cons (me_var (pv 6)) (mal_cons (me_call (mal_cons (me_var (pv 15)) (mal_cons (me_var (pv 16)) mal_nil fun _ _ p q => pa_cons p q) fun _ _ p q => pa_cons p q) (fun _ p => pe_call (ok_turned T N) (hr.mono (by decide)) (by rfl) T.mg_turned T.F_turned.kp T.b_turned .nil pass0 p) fun _ _ _ h => aL_len h) mal_nil fun _ _ p q => pa_cons p q) fun _ _ p q => pa_cons p q) fun _ _ p q => pa_cons p q) fun _ _ p q => pa_cons p q)) mal_nil fun _ _ p q => pa_cons p q) (fun _ p => pe_call (ok_kept_right T N) (hr.mono (by decide)) (by rfl) T.mg_kept_right T.F_kept_right.kp T.b_kept_right .nil pass0 p) fun _ _ _ h => aL_len h) (mal_cons me_bl mal_nil fun _ _ p q => pa_cons p q) fun _ _ p q => pa_cons p q) (fun _ p => pe_call (ok_law_same T N) hr (by rfl) T.mg_law_same T.F_law_same.kp T.b_law_same .nil pass0 p) fun _ _ _ h => aL_len h) (by intro _; rfl))) (mss_one (ms_ret me_bl)) mss_nil)))
    (mss_one (ms_if ((mw_and (mt_cmp om_le (me_cb cm_len (mal_cons (me_var (pv 15)) mal_nil fun _ _ p q => pa_cons p q) fun _ _ hc p => pe_callB hc (by rfl) T.n_len (by decide +kernel) p) me_int (nomark _)) (mw_and1 (mt_cmp (om_ne hu64) (me_op om_sub (me_call (mal_cons (me_var (pv 6)) (mal_cons (me_call (mal_cons (me_var (pv 3)) (mal_cons (me_op om_add (me_var (pv 15)) (me_var (pv 15))) mal_nil fun _ _ p q => pa_cons p q) fun _ _ p q => pa_cons p q) (fun _ p => pe_call (ok_step T N) (hr.mono (by decide)) (by rfl) T.mg_step T.F_step.kp T.b_step .nil pass0 p) fun _ _ _ h => aL_len h) mal_nil fun _ _ p q => pa_cons p q) fun _ _ p q => pa_cons p q) (fun _ p => pe_call (ok_worth T N) (hr.mono (by decide)) (by rfl) T.mg_worth T.F_worth.kp T.b_worth .nil pass0 p) fun _ _ _ h => aL_len h) (me_call (mal_cons (me_var (pv 6)) (mal_cons (me_op om_add (me_var (pv 15)) (me_var (pv 15))) mal_nil fun _ _ p q => pa_cons p q) fun _ _ p q => pa_cons p q) (fun _ p => pe_call (ok_worth T N) (hr.mono (by decide)) (by rfl) T.mg_worth T.F_worth.kp T.b_worth .nil pass0 p) fun _ _ _ h => aL_len h)) (me_op om_mul me_int (me_op om_sub (me_call (mal_cons (me_var (pv 6)) (mal_cons (me_call (mal_cons (me_var (pv 3)) (mal_cons (me_var (pv 15)) mal_nil fun _ _ p q => pa_cons p q) fun _ _ p q => pa_cons p q) (fun _ p => pe_call (ok_step T N) (hr.mono (by decide)) (by rfl) T.mg_step T.F_step.kp T.b_step .nil pass0 p) fun _ _ _ h => aL_len h) mal_nil fun _ _ p q => pa_cons p q) fun _ _ p q => pa_cons p q) (fun _ p => pe_call (ok_worth T N) (hr.mono (by decide)) (by rfl) T.mg_worth T.F_worth.kp T.b_worth .nil pass0 p) fun _ _ _ h => aL_len h) (me_call (mal_cons (me_var (pv 6)) (mal_cons (me_var (pv 15)) mal_nil fun _ _ p q => pa_cons p q) fun _ _ p q => pa_cons p q) (fun _ p => pe_call (ok_worth T N) (hr.mono (by decide)) (by rfl) T.mg_worth T.F_worth.kp T.b_worth .nil pass0 p) fun _ _ _ h => aL_len h))) (nomark _))))).mt (mss_one (ms_ret me_bl)) mss_nil)))))
    (mss_one (ms_ret me_bl)))))))))))))))))
end
end K63
set_option linter.all false
set_option maxRecDepth 100000
namespace K63
open PySem L2 MP
abbrev keptS : Xs := (sSeq (sIf (tO (tOfB (eBin gNe (eCall (f_worth 300) (aL [(eVar 6), (eCall (f_after 300) (aL [(eVar 3), (eVar 13), (eK (.int 5))]))])) (eCall (f_worth 300) (aL [(eVar 6), (eVar 13)])))) (tNo (tTru (eCall (f_law_same 300) (aL [(eCall (f_kept_right 300) (aL [(eTup (aL [(eK (.str (Str.ofString "lost"))), (eVar 3), (eVar 6), (eVar 13)]))])), (eK (.bl false))]))))) (sRet (eK (.bl false))) sNext)
    (sSeq (sIf (tNo (tTru (eCall (f_law_same 300) (aL [(eCall (f_kept_right 300) (aL [(eTup (aL [(eK (.str (Str.ofString "kept"))), (eVar 3), (eVar 6), (eCB gTuple (aL [(eFrz (fComp [18] (iSq (eBin gIx (eVar 10) (eK (.int 3)))) (gNm 18) tYs (eBin gAdd (eVar 18) (eK (.int 3)))))]))]))])), (eK (.bl true))])))) (sRet (eK (.bl false))) sNext)
    (sSeq (sAsg (eCallR (f_law_moving 300) (aL [(eVar 1)])) (gNm 14))
    (sIf (tAn (tOfB (eBin gEq (eBin gIx (eVar 2) (eK (.int 0))) (eK (.int 2)))) (tAn (tOfB (eBin gLt (eBin gIx (eVar 2) (eK (.int 1))) (eK (.int 4)))) (tOfB (eBin gNe (eBin gIx (eCall (f_kept 300) (aL [(eCall (f_behind 300) (aL [(eVar 3), (eFrz (fMake 0 (f_Rule_init 300) (aL [(eK (.int 2)), (eK (.int 3)), (eBin gIx (eVar 14) (eK (.int 2)))])))])), (eVar 6)])) (eK (.int 0))) (eK (.str (Str.ofString "kept"))))))) (sRet (eK (.bl false))) sNext))))
abbrev lostS : Xs := (sSeq (sAsg (eBin gIx (eVar 10) (eK (.int 3))) (gNm 15))
    (sSeq (sFor (iR1 (aL [(eCB gLen (aL [(eVar 15)]))])) (gNm 16) (sIf (tNo (tTru (eCall (f_law_same 300) (aL [(eCall (f_kept_right 300) (aL [(eTup (aL [(eK (.str (Str.ofString "lost"))), (eVar 3), (eVar 6), (eCall (f_turned 300) (aL [(eVar 15), (eVar 16)]))]))])), (eK (.bl true))])))) (sRet (eK (.bl false))) sNext))
    (sIf (tAn (tOfB (eBin gLe (eCB gLen (aL [(eVar 15)])) (eK (.int 30)))) (tOfB (eBin gNe (eBin gSub (eCall (f_worth 300) (aL [(eVar 6), (eCall (f_step 300) (aL [(eVar 3), (eBin gAdd (eVar 15) (eVar 15))]))])) (eCall (f_worth 300) (aL [(eVar 6), (eBin gAdd (eVar 15) (eVar 15))]))) (eBin gMul (eK (.int 2)) (eBin gSub (eCall (f_worth 300) (aL [(eVar 6), (eCall (f_step 300) (aL [(eVar 3), (eVar 15)]))])) (eCall (f_worth 300) (aL [(eVar 6), (eVar 15)]))))))) (sRet (eK (.bl false))) sNext)))
theorem k_1 {RU A W W2 S : D} {x : Int} {o1 o2 o3 o4 : List Sl} (e1 : f_after 300 [.val RU, .val W, .val (.int 5)] = some (.d W2, o1)) (e2 : f_worth 300 [.val A, .val W2] = some (.d (.int x), o2)) (e3 : f_worth 300 [.val A, .val W] = some (.d (.int x), o3)) (e4 : f_kept_right 300 [.val (.tup [S, RU, A, W])] = some (.d (.bl false), o4)) (s0 s1 s2 s4 s5 s7 s8 s9 s10 s11 s12 : Sl) (rest : List Sl) :
    (sIf (tO (tOfB (eBin gNe (eCall (f_worth 300) (aL [(eVar 6), (eCall (f_after 300) (aL [(eVar 3), (eVar 13), (eK (.int 5))]))])) (eCall (f_worth 300) (aL [(eVar 6), (eVar 13)])))) (tNo (tTru (eCall (f_law_same 300) (aL [(eCall (f_kept_right 300) (aL [(eTup (aL [(eK S), (eVar 3), (eVar 6), (eVar 13)]))])), (eK (.bl false))]))))) (sRet (eK (.bl false))) sNext)
      (s0 :: s1 :: s2 :: .val RU :: s4 :: s5 :: .val A :: s7 :: s8 :: s9 :: s10 :: s11 :: s12 :: .val W :: rest) = some (.nx, s0 :: s1 :: s2 :: .val RU :: s4 :: s5 :: .val A :: s7 :: s8 :: s9 :: s10 :: s11 :: s12 :: .val W :: rest) := by
  obtain ⟨o5, e5⟩ := same_false
  simp [e1, e2, e3, e4, e5]
theorem k_2 {RU A S : D} {F : List Int} (hF : F.length ≤ 1000) {o : List Sl} (e : f_kept_right 300 [.val (.tup [S, RU, A, wD (F.map (· + 3))])] = some (.d (.bl true), o)) (G G2 A2 : D) (s0 s1 s2 s4 s5 s7 s8 s9 s11 s12 s13 s14 s15 s16 : Sl) :
    (sIf (tNo (tTru (eCall (f_law_same 300) (aL [(eCall (f_kept_right 300) (aL [(eTup (aL [(eK S), (eVar 3), (eVar 6), (eCB gTuple (aL [(eFrz (fComp [18] (iSq (eBin gIx (eVar 10) (eK (.int 3)))) (gNm 18) tYs (eBin gAdd (eVar 18) (eK (.int 3)))))]))]))])), (eK (.bl true))])))) (sRet (eK (.bl false))) sNext)
      [s0, s1, s2, .val RU, s4, s5, .val A, s7, s8, s9, .val (.tup [G, G2, A2, wD F]), s11, s12, s13, s14, s15, s16, .none, .none] = some (.nx, [s0, s1, s2, .val RU, s4, s5, .val A, s7, s8, s9, .val (.tup [G, G2, A2, wD F]), s11, s12, s13, s14, s15, s16, .none, .none]) := by
  obtain ⟨o5, e5⟩ := same_true true
  have cc := comp1 D.int (fun x => D.int (x + 3)) (k := 18) (m := eBin gAdd (eVar 18) (eK (.int 3))) F [s0, s1, s2, .val RU, s4, s5, .val A, s7, s8, s9, .val (.tup [G, G2, A2, wD F]), s11, s12, s13, s14, s15, s16, .none, .none] rfl (by omega) fun x hx => by
    simp
  rw [show (F.map fun x => D.int (x + 3)) = (F.map (· + 3)).map .int by
    rw [List.map_map]
    rfl] at cc
  unfold wD at *
  generalize (F.map (· + 3)).map D.int = CC at *
  generalize F.map D.int = AA at *
  simp [cc, gTuple, e, e5]
theorem k_3 (p : Pl) (hp : 0 ≤ p.i) : ∃ (x : Nat) (q : Pl), x < 3 ∧ 0 ≤ q.i ∧ ∀ (s0 s2 s3 s4 s5 s6 s7 s8 s9 s10 s11 s12 s13 s14 : Sl) (rest : List Sl),
    (sAsg (eCallR (f_law_moving 300) (aL [(eVar 1)])) (gNm 14)) (s0 :: .own p.so :: s2 :: s3 :: s4 :: s5 :: s6 :: s7 :: s8 :: s9 :: s10 :: s11 :: s12 :: s13 :: s14 :: rest) =
      some (.nx, s0 :: .own q.so :: s2 :: s3 :: s4 :: s5 :: s6 :: s7 :: s8 :: s9 :: s10 :: s11 :: s12 :: s13 :: .val (.tup [.int 2, .int 3, tN (mv x)]) :: rest) := by
  obtain ⟨x, q, hx, hq, e⟩ := law_moving_ok p hp
  refine ⟨x, q, hx, hq, fun s0 s2 s3 s4 s5 s6 s7 s8 s9 s10 s11 s12 s13 s14 rest => ?_⟩
  generalize tN (mv x) = M at *
  simp [e]
theorem k_4 {c k : Nat} {t : List Nat} (h : Ru c k t) {A : List Int} (hA : A.length = c) (hk : Kept c k t A) {x : Nat} (hx : x < 3) (s0 s1 s4 s5 s7 s8 s9 s10 s11 s12 s13 : Sl) (rest : List Sl) :
    (sIf (tAn (tOfB (eBin gEq (eBin gIx (eVar 2) (eK (.int 0))) (eK (.int 2)))) (tAn (tOfB (eBin gLt (eBin gIx (eVar 2) (eK (.int 1))) (eK (.int 4)))) (tOfB (eBin gNe (eBin gIx (eCall (f_kept 300) (aL [(eCall (f_behind 300) (aL [(eVar 3), (eFrz (fMake 0 (f_Rule_init 300) (aL [(eK (.int 2)), (eK (.int 3)), (eBin gIx (eVar 14) (eK (.int 2)))])))])), (eVar 6)])) (eK (.int 0))) (eK (.str (Str.ofString "kept"))))))) (sRet (eK (.bl false))) sNext)
      (s0 :: s1 :: .val (oD c k t) :: .val (ru c k t) :: s4 :: s5 :: .val (wD A) :: s7 :: s8 :: s9 :: s10 :: s11 :: s12 :: s13 :: .val (.tup [.int 2, .int 3, tN (mv x)]) :: rest) =
      some (.nx, s0 :: s1 :: .val (oD c k t) :: .val (ru c k t) :: s4 :: s5 :: .val (wD A) :: s7 :: s8 :: s9 :: s10 :: s11 :: s12 :: s13 :: .val (.tup [.int 2, .int 3, tN (mv x)]) :: rest) := by
  by_cases hc : c = 2
  · subst hc
    by_cases hk4 : k < 4
    · have hm := ru_mv hx
      obtain ⟨o1, e1⟩ := behind_ok h hm (by omega)
      have ri := rule_init hm (d := tN (mv x)) (.inl rfl)
      obtain ⟨o2, e2⟩ := kept_yes (ru_bt h hm (by omega)) hA (kept_bt h hx (by omega) hA hk)
      have n := ne_fk true
      rw [fm_t] at n
      have hk4' : (k : Int) < 4 := by omega
      rw [show ((2 : Nat) : Int) = 2 from rfl, show ((3 : Nat) : Int) = 3 from rfl] at ri
      rw [show ru 2 3 (mv x) = .obj 0 [.int 2, .int 3, tN (mv x)] from rfl] at e1
      generalize ru 2 (k + 2) (bt k t (mv x)) = RB at *
      generalize wD (flD 2 (k + 2) (bt k t (mv x)) A) = FD at *
      generalize D.str (Str.ofString "kept") = S at *
      unfold oD
      rw [show ((2 : Nat) : Int) = 2 from rfl]
      generalize ru 2 k t = RU at *
      generalize tN t = T at *
      generalize tN (mv x) = M at *
      generalize wD A = AA at *
      simp [hk4, hk4', ri, e1, e2, n]
    · have hk4' : ¬ (k : Int) < 4 := by omega
      unfold oD
      rw [show ((2 : Nat) : Int) = 2 from rfl]
      generalize ru 2 k t = RU at *
      generalize tN t = T at *
      generalize tN (mv x) = M at *
      generalize wD A = AA at *
      simp [hk4, hk4']
  · have hc' : ¬ (c : Int) = 2 := by omega
    unfold oD
    generalize ru c k t = RU at *
    generalize tN t = T at *
    generalize tN (mv x) = M at *
    generalize wD A = AA at *
    simp [hc, hc']
theorem l_body {RU A L L2 S : D} {b : Nat} {o1 o2 : List Sl} (e1 : f_turned 300 [.val L, .val (.int b)] = some (.d L2, o1)) (e2 : f_kept_right 300 [.val (.tup [S, RU, A, L2])] = some (.d (.bl true), o2)) (s0 s1 s2 s4 s5 s7 s8 s9 s10 s11 s12 s13 s14 : Sl) (rest : List Sl) :
    (sIf (tNo (tTru (eCall (f_law_same 300) (aL [(eCall (f_kept_right 300) (aL [(eTup (aL [(eK S), (eVar 3), (eVar 6), (eCall (f_turned 300) (aL [(eVar 15), (eVar 16)]))]))])), (eK (.bl true))])))) (sRet (eK (.bl false))) sNext)
      (s0 :: s1 :: s2 :: .val RU :: s4 :: s5 :: .val A :: s7 :: s8 :: s9 :: s10 :: s11 :: s12 :: s13 :: s14 :: .val L :: .val (.int b) :: rest) = some (.nx, s0 :: s1 :: s2 :: .val RU :: s4 :: s5 :: .val A :: s7 :: s8 :: s9 :: s10 :: s11 :: s12 :: s13 :: s14 :: .val L :: .val (.int b) :: rest) := by
  obtain ⟨o5, e5⟩ := same_true true
  simp [e1, e2, e5]
theorem l_loop {c k : Nat} {t : List Nat} (h : Ru c k t) {A : List Int} (hA : A.length = c) {row : List Nat} (hl : Lost c k t A row) (s0 s1 s2 s4 s5 s7 s8 s9 s10 s11 s12 s13 s14 : Sl) (rest : List Sl) : ∀ (bs : List Nat) (s16 : Sl), (∀ b ∈ bs, b < row.length) → ∃ s16', sLoop (gNm 16) (sIf (tNo (tTru (eCall (f_law_same 300) (aL [(eCall (f_kept_right 300) (aL [(eTup (aL [(eK (.str (Str.ofString "lost"))), (eVar 3), (eVar 6), (eCall (f_turned 300) (aL [(eVar 15), (eVar 16)]))]))])), (eK (.bl true))])))) (sRet (eK (.bl false))) sNext) (nL bs)
      (s0 :: s1 :: s2 :: .val (ru c k t) :: s4 :: s5 :: .val (wD A) :: s7 :: s8 :: s9 :: s10 :: s11 :: s12 :: s13 :: s14 :: .val (tN row) :: s16 :: rest) = some (.nx, s0 :: s1 :: s2 :: .val (ru c k t) :: s4 :: s5 :: .val (wD A) :: s7 :: s8 :: s9 :: s10 :: s11 :: s12 :: s13 :: s14 :: .val (tN row) :: s16' :: rest)
  | [], s16, _ => ⟨s16, rfl⟩
  | b :: bs, s16, hb => by
    obtain ⟨s16', ih⟩ := l_loop h hA hl s0 s1 s2 s4 s5 s7 s8 s9 s10 s11 s12 s13 s14 rest bs (.val (.int b)) fun x hx => hb x (List.mem_cons_of_mem _ hx)
    have hb1 := hb b List.mem_cons_self
    have l1 := hl.len
    obtain ⟨o1, e1⟩ := turned_ok hb1 (by omega)
    obtain ⟨o2, e2⟩ := right_lost h hA (row := trn row b) (by rw [trn_len]; omega) (by rw [trn_len]; omega) (fun x hx => by
      unfold trn at hx
      rcases List.mem_append.1 hx with hx | hx
      · exact hl.lt x (List.mem_of_mem_drop hx)
      · exact hl.lt x (List.mem_of_mem_take hx))
    rw [df_trn (by omega), decide_eq_true hl.df] at e2
    refine ⟨s16', ?_⟩
    rw [show nL (b :: bs) = D.int (b : Nat) :: nL bs from rfl, ← ih]
    refine sLoop_cons (e1 := s0 :: s1 :: s2 :: .val (ru c k t) :: s4 :: s5 :: .val (wD A) :: s7 :: s8 :: s9 :: s10 :: s11 :: s12 :: s13 :: s14 :: .val (tN row) :: .val (.int b) :: rest) (by simp) ?_
    exact l_body e1 e2 _ _ _ _ _ _ _ _ _ _ _ _ _ _
theorem l_last {RU A L LL L2 LL2 : D} {l : List D} {x1 x2 y1 y2 : Int} {o1 o2 o3 o4 o5 o6 : List Sl} (hL : L = .tup l) (hl : l.length ≤ 30) (hLL : LL = .tup (l ++ l)) (e1 : f_step 300 [.val RU, .val LL] = some (.d LL2, o1)) (e2 : f_worth 300 [.val A, .val LL2] = some (.d (.int x1), o2)) (e3 : f_worth 300 [.val A, .val LL] = some (.d (.int x2), o3)) (e4 : f_step 300 [.val RU, .val L] = some (.d L2, o4)) (e5 : f_worth 300 [.val A, .val L2] = some (.d (.int y1), o5)) (e6 : f_worth 300 [.val A, .val L] = some (.d (.int y2), o6)) (hx : x1 - x2 = 2 * (y1 - y2)) (s0 s1 s2 s4 s5 s7 s8 s9 s10 s11 s12 s13 s14 : Sl) (rest : List Sl) :
    (sIf (tAn (tOfB (eBin gLe (eCB gLen (aL [(eVar 15)])) (eK (.int 30)))) (tOfB (eBin gNe (eBin gSub (eCall (f_worth 300) (aL [(eVar 6), (eCall (f_step 300) (aL [(eVar 3), (eBin gAdd (eVar 15) (eVar 15))]))])) (eCall (f_worth 300) (aL [(eVar 6), (eBin gAdd (eVar 15) (eVar 15))]))) (eBin gMul (eK (.int 2)) (eBin gSub (eCall (f_worth 300) (aL [(eVar 6), (eCall (f_step 300) (aL [(eVar 3), (eVar 15)]))])) (eCall (f_worth 300) (aL [(eVar 6), (eVar 15)]))))))) (sRet (eK (.bl false))) sNext)
      (s0 :: s1 :: s2 :: .val RU :: s4 :: s5 :: .val A :: s7 :: s8 :: s9 :: s10 :: s11 :: s12 :: s13 :: s14 :: .val L :: rest) = some (.nx, s0 :: s1 :: s2 :: .val RU :: s4 :: s5 :: .val A :: s7 :: s8 :: s9 :: s10 :: s11 :: s12 :: s13 :: s14 :: .val L :: rest) := by
  subst hL hLL
  have hm : mulOk 2 (y1 - y2) = true := mulOk_l _ _ (by decide)
  have n1 : (l.length : Int) ≤ 30 := by omega
  have n2 : l.length + l.length ≤ 16777216 := by omega
  simp [n1, n2, hl, e1, e2, e3, e4, e5, e6, hm, hx]
theorem kept_branch {c k : Nat} {t : List Nat} (h : Ru c k t) {A : List Int} (hA : A.length = c) (hk : Kept c k t A) {row : List Nat} (hr1 : 1 ≤ row.length) (hr9 : row.length ≤ 9) (hr : ∀ x ∈ row, x < c) (p : Pl) (hp : 0 ≤ p.i) (G G2 A2 : D) (s0 s4 s5 s7 s8 s9 s11 s12 s14 s15 s16 : Sl) : ∃ e, 1 ≤ e.length ∧ keptS
      [s0, .own p.so, .val (oD c k t), .val (ru c k t), s4, s5, .val (wD A), s7, s8, s9, .val (.tup [G, G2, A2, wD (flD c k t A)]), s11, s12, .val (tN row), s14, s15, s16, .none, .none] = some (.nx, e) := by
  obtain ⟨i1, i2⟩ := itS_ok h 5 hr1 hr
  obtain ⟨o1, e1⟩ := after_ok h hr1 (by omega) hr
  obtain ⟨o2, e2⟩ := worth_ok (W := A) (row := itS c k t 5 row) (by rw [i1]; omega) (by rw [hA]; exact i2)
  obtain ⟨o3, e3⟩ := worth_ok (W := A) (row := row) (by omega) (by rw [hA]; exact hr)
  rw [kept_after h hk 5 hr1 hr] at e2
  obtain ⟨o4, e4⟩ := right_lost h hA hr1 (by omega) hr
  rw [kept_ring h hk hr1 hr, decide_eq_false (by simp)] at e4
  obtain ⟨o5, e5⟩ := right_kept h hA hk 3
  obtain ⟨x, q, hx, hq, e6⟩ := k_3 p hp
  unfold keptS
  rw [sSeq_nx (k_1 e1 e2 e3 e4 _ _ _ _ _ _ _ _ _ _ _ _)]
  rw [sSeq_nx (k_2 (by rw [flD_len h]; have := h.cn.pred.small; omega) e5 _ _ _ _ _ _ _ _ _ _ _ _ _ _ _ _ _)]
  rw [sSeq_nx (e6 _ _ _ _ _ _ _ _ _ _ _ _ _ _ _)]
  exact ⟨_, by simp, k_4 h hA hk hx _ _ _ _ _ _ _ _ _ _ _ _⟩
theorem lost_branch {c k : Nat} {t : List Nat} (h : Ru c k t) {A : List Int} (hA : A.length = c) {row : List Nat} (hl : Lost c k t A row) (G G2 A2 : D) (s0 s1 s2 s4 s5 s7 s8 s9 s11 s12 s13 s14 s15 s16 : Sl) (rest : List Sl) : ∃ e, 1 ≤ e.length ∧ lostS
      (s0 :: s1 :: s2 :: .val (ru c k t) :: s4 :: s5 :: .val (wD A) :: s7 :: s8 :: s9 :: .val (.tup [G, G2, A2, tN row]) :: s11 :: s12 :: s13 :: s14 :: s15 :: s16 :: rest) = some (.nx, e) := by
  have l1 := hl.len
  obtain ⟨s16', lp⟩ := l_loop h hA hl s0 s1 s2 s4 s5 s7 s8 s9 (.val (.tup [G, G2, A2, tN row])) s11 s12 s13 s14 rest (List.range row.length) s16 fun b hb => List.mem_range.1 hb
  have h2l : (row ++ row).length ≤ 60 := by rw [List.length_append]; omega
  have h2r : ∀ x ∈ row ++ row, x < c := fun x hx => by
    rcases List.mem_append.1 hx with hx | hx <;> exact hl.lt x hx
  have h21 : 1 ≤ (row ++ row).length := by rw [List.length_append]; omega
  obtain ⟨o1, e1⟩ := step_ok h h21 h2l h2r
  obtain ⟨o2, e2⟩ := worth_ok (W := A) (row := st c k t (row ++ row)) (by rw [st_len]; omega) (by rw [hA]; exact st_lt h h21 h2r)
  obtain ⟨o3, e3⟩ := worth_ok (W := A) (row := row ++ row) (by omega) (by rw [hA]; exact h2r)
  obtain ⟨o4, e4⟩ := step_ok h l1.1 (by omega) hl.lt
  obtain ⟨o5, e5⟩ := worth_ok (W := A) (row := st c k t row) (by rw [st_len]; omega) (by rw [hA]; exact st_lt h l1.1 hl.lt)
  obtain ⟨o6, e6⟩ := worth_ok (W := A) (row := row) (by omega) (by rw [hA]; exact hl.lt)
  have d2 := df_twice (c := c) (k := k) (t := t) (W := A) (row := row)
  unfold df at d2
  unfold lostS
  rw [sSeq_nx (e1 := s0 :: s1 :: s2 :: .val (ru c k t) :: s4 :: s5 :: .val (wD A) :: s7 :: s8 :: s9 :: .val (.tup [G, G2, A2, tN row]) :: s11 :: s12 :: s13 :: s14 :: .val (tN row) :: s16 :: rest) (by
    generalize tN row = R at *
    generalize ru c k t = RU at *
    generalize wD A = AA at *
    simp)]
  rw [sSeq_nx (e1 := s0 :: s1 :: s2 :: .val (ru c k t) :: s4 :: s5 :: .val (wD A) :: s7 :: s8 :: s9 :: .val (.tup [G, G2, A2, tN row]) :: s11 :: s12 :: s13 :: s14 :: .val (tN row) :: s16' :: rest) (by
    rw [sFor_s]
    have ok := okR_nat row.length (by omega)
    have ll := nL_len row
    have z : rgD 0 row.length = nL (List.range row.length) := by simp [rgD, nL]
    have e : iR1 (aL [(eCB gLen (aL [(eVar 15)]))]) (s0 :: s1 :: s2 :: .val (ru c k t) :: s4 :: s5 :: .val (wD A) :: s7 :: s8 :: s9 :: .val (.tup [G, G2, A2, tN row]) :: s11 :: s12 :: s13 :: s14 :: .val (tN row) :: s16 :: rest) = some (nL (List.range row.length), s0 :: s1 :: s2 :: .val (ru c k t) :: s4 :: s5 :: .val (wD A) :: s7 :: s8 :: s9 :: .val (.tup [G, G2, A2, tN row]) :: s11 :: s12 :: s13 :: s14 :: .val (tN row) :: s16 :: rest) := by
      rw [← z]
      generalize ru c k t = RU at *
      generalize wD A = AA at *
      unfold tN
      generalize nL row = R at *
      simp [ll, ok]
    rw [e]
    exact lp)]
  refine ⟨_, by simp, l_last (l := nL row) (LL := tN (row ++ row)) rfl (by rw [nL_len]; exact l1.2) (by
    unfold tN nL
    rw [List.map_append]) e1 e2 e3 e4 e5 e6 d2 _ _ _ _ _ _ _ _ _ _ _ _ _ _⟩
theorem law_true (ns : List Int) (hl : ns.length ≤ 63) : ∃ N outs, f_law N [.val (.scr (ns.map D.int))] = some (.d (.bl true), outs) := by
  refine ⟨300, yes_of ?_⟩
  have e0 : ([MP.Slot.val (D.scr (ns.map D.int))] ++ List.replicate (19 - 1) MP.Slot.none) = .val (.scr (ns.map D.int)) :: .none :: .none :: .none :: .none :: .none :: .none :: .none :: .none :: .none :: .none :: .none :: .none :: .none :: .none :: .none :: .none :: .none :: .none :: [] := rfl
  rw [e0]
  unfold m_law
  refine stp (st_pool ns _ _) ?_
  have hp0 : 0 ≤ (Pl.mk ns 0 0 1 0 0).i := Int.le_refl 0
  generalize Pl.mk ns 0 0 1 0 0 = p0 at *
  generalize D.scr (ns.map D.int) = SC
  obtain ⟨c, k, t, p1, h, hp1, x1⟩ := b_own p0 hp0
  have c2 := h.c2
  refine stp (x1 _ _ _) ?_
  refine stp (b_rule h _ _ _ _) ?_
  refine stp (b_count h _ _ _ _ _) ?_
  refine stp (b_equal h _ _ _ _ _) ?_
  have sm := h.cn.pred.small
  refine stp (b_check (by omega) _ _ _ _ _) ?_
  obtain ⟨A, p2, hp2, hA, x2⟩ := b_one c2.2.1 p1 hp1
  refine stp (x2 _ _ _ _ _ _ _ _ _ _ _ _ _ _ _ _) ?_
  obtain ⟨B, p3, hp3, hB, x3⟩ := b_two c2.2.1 p2 hp2
  refine stp (x3 _ _ _ _ _ _ _ _ _ _ _ _ _ _ _ _) ?_
  obtain ⟨z, p4, hp4, z1, z2, x4⟩ := b_times p3 hp3
  refine stp (x4 _ _ _ _ _ _ _ _ _) ?_
  refine stp (b_both c2.2.1 hA hB z1 z2 _ _ _ _ _ _ _ _ _ _ _ _ _ _) ?_
  have hC : (cmb c A z B).length = c := by simp [cmb]
  obtain ⟨b1, X1, o1, e1, v1t, v1f⟩ := verdict h hA
  obtain ⟨b2, X2, o2, e2, v2t, v2f⟩ := verdict h hB
  obtain ⟨b3, X3, o3, e3, v3t, v3f⟩ := verdict h hC
  refine stp (b_three e1 e2 e3 _ _ _ _ _ _ _ _ _ _) ?_
  have hb3 : b1 = true → b2 = true → b3 = true := fun q1 q2 => by
    cases b3 with
    | true => rfl
    | false => exact absurd (kept_cmb h (z := z) (v1t q1).1 (v2t q2).1) (v3f rfl).1
  refine stp (b_sum (n := c ^ (k - 1)) (F1 := flD c k t A) (F2 := flD c k t B) (by omega) z1 z2 (fun q1 q2 => ⟨hb3 q1 q2, (v1t q1).2, (v2t q2).2, flD_len h A, flD_len h B, by rw [(v3t (hb3 q1 q2)).2, flD_cmb h]⟩) _ _ _ _ _ _ _ _ _ _ _ _) ?_
  refine stp (b_mix (fun hne hz => by
    cases b3 with
    | false => rfl
    | true =>
      have k3 := (v3t rfl).1
      cases b1 with
      | true =>
        cases b2 with
        | true => exact absurd rfl hne
        | false => exact absurd k3 (lost_cmb2 h hz (v1t rfl).1 (v2f rfl).1)
      | false =>
        cases b2 with
        | true => exact absurd k3 (lost_cmb1 h (v1f rfl).1 (v2t rfl).1)
        | false => exact absurd rfl hne) _ _ _ _ _ _ _ _ _ _) ?_
  obtain ⟨row, p5, r1, r9, rl, hp5, x5⟩ := b_row c2.1 c2.2.1 p4 hp4
  refine stp (x5 _ _ _ _ _ _ _ _ _ _ _ _ _ _) ?_
  have qk := eq_fk b1
  have fin : ∃ e, 1 ≤ e.length ∧ (sIf (tOfB (eBin gEq (eBin gIx (eVar 10) (eK (.int 0))) (eK (.str (Str.ofString "kept"))))) keptS lostS) [.val SC, .own p5.so, .val (oD c k t), .val (ru c k t), .val (.int (c ^ (k - 1) : Nat)), .val (.tup [fm true, ru c k t, wD (List.replicate c 5), wD (List.replicate (c ^ (k - 1)) 0)]), .val (wD A), .val (wD B), .val (.int z), .val (wD (cmb c A z B)), .val (.tup [fm b1, ru c k t, wD A, X1]), .val (.tup [fm b2, ru c k t, wD B, X2]), .val (.tup [fm b3, ru c k t, wD (cmb c A z B), X3]), .val (tN row), .none, .none, .none, .none, .none] = some (.nx, e) := by
    cases b1 with
    | true =>
      obtain ⟨hk, rfl⟩ := v1t rfl
      obtain ⟨e, he, hr⟩ := kept_branch h hA hk r1 r9 rl p5 hp5 (fm true) (ru c k t) (wD A) (.val SC) (.val (.int (c ^ (k - 1) : Nat))) (.val (.tup [fm true, ru c k t, wD (List.replicate c 5), wD (List.replicate (c ^ (k - 1)) 0)])) (.val (wD B)) (.val (.int z)) (.val (wD (cmb c A z B))) (.val (.tup [fm b2, ru c k t, wD B, X2])) (.val (.tup [fm b3, ru c k t, wD (cmb c A z B), X3])) .none .none .none
      refine ⟨e, he, ?_⟩
      rw [← hr, sIf_s]
      generalize keptS = KS at *
      generalize lostS = LS at *
      generalize D.str (Str.ofString "kept") = S at *
      generalize fm true = G1 at *
      generalize oD c k t = OD at *
      generalize ru c k t = RU at *
      generalize wD A = AA at *
      generalize wD B = BB at *
      generalize wD (cmb c A z B) = CC at *
      simp [qk]
    | false =>
      obtain ⟨_, lr, hl, rfl⟩ := v1f rfl
      obtain ⟨e, he, hr⟩ := lost_branch h hA hl (fm false) (ru c k t) (wD A) (.val SC) (.own p5.so) (.val (oD c k t)) (.val (.int (c ^ (k - 1) : Nat))) (.val (.tup [fm true, ru c k t, wD (List.replicate c 5), wD (List.replicate (c ^ (k - 1)) 0)])) (.val (wD B)) (.val (.int z)) (.val (wD (cmb c A z B))) (.val (.tup [fm b2, ru c k t, wD B, X2])) (.val (.tup [fm b3, ru c k t, wD (cmb c A z B), X3])) (.val (tN row)) .none .none .none [.none, .none]
      refine ⟨e, he, ?_⟩
      rw [← hr, sIf_s]
      generalize keptS = KS at *
      generalize lostS = LS at *
      generalize D.str (Str.ofString "kept") = S at *
      generalize fm false = G1 at *
      generalize oD c k t = OD at *
      generalize ru c k t = RU at *
      generalize wD A = AA at *
      generalize wD B = BB at *
      generalize wD (cmb c A z B) = CC at *
      simp [qk]
  obtain ⟨e, he, hf⟩ := fin
  refine stp hf ?_
  exact yes_ret (e1 := e) rfl he
end K63
namespace K63
open PySem PySem.Spec PyProof.Rows L2 MP
theorem all_mk {l : PySem.W.OpenLaw} {w : World} {K : PySem.W.Frag} {h : Heap} {mg : Str → Option Value} {fa : Addr} (X : K.In h) (G : h.Ns mainGlobals mg) (hfa : mg "law" = some (.ref fa))
    {f0 : Addr} {od0 an0 : Option Addr} {sl0 : Array (Option Value)} {oc0 kV0 dc0 pm0 cd0 ct0 : Value}
    {f1 : Addr} {od1 an1 : Option Addr} {sl1 : Array (Option Value)} {oc1 kV1 dc1 pm1 cd1 ct1 : Value}
    {f2 : Addr} {od2 an2 : Option Addr} {sl2 : Array (Option Value)} {oc2 kV2 dc2 pm2 cd2 ct2 : Value}
    {f3 : Addr} {od3 an3 : Option Addr} {sl3 : Array (Option Value)} {oc3 kV3 dc3 pm3 cd3 ct3 : Value}
    {f4 : Addr} {od4 an4 : Option Addr} {sl4 : Array (Option Value)} {oc4 kV4 dc4 pm4 cd4 ct4 : Value}
    {f5 : Addr} {od5 an5 : Option Addr} {sl5 : Array (Option Value)} {oc5 kV5 dc5 pm5 cd5 ct5 : Value}
    {f6 : Addr} {od6 an6 : Option Addr} {sl6 : Array (Option Value)} {oc6 kV6 dc6 pm6 cd6 ct6 : Value}
    {f7 : Addr} {od7 an7 : Option Addr} {sl7 : Array (Option Value)} {oc7 kV7 dc7 pm7 cd7 ct7 : Value}
    {f8 : Addr} {od8 an8 : Option Addr} {sl8 : Array (Option Value)} {oc8 kV8 dc8 pm8 cd8 ct8 : Value}
    {f9 : Addr} {od9 an9 : Option Addr} {sl9 : Array (Option Value)} {oc9 kV9 dc9 pm9 cd9 ct9 : Value}
    {f10 : Addr} {od10 an10 : Option Addr} {sl10 : Array (Option Value)} {oc10 kV10 dc10 pm10 cd10 ct10 : Value}
    {f11 : Addr} {od11 an11 : Option Addr} {sl11 : Array (Option Value)} {oc11 kV11 dc11 pm11 cd11 ct11 : Value}
    {f12 : Addr} {od12 an12 : Option Addr} {sl12 : Array (Option Value)} {oc12 kV12 dc12 pm12 cd12 ct12 : Value}
    {f13 : Addr} {od13 an13 : Option Addr} {sl13 : Array (Option Value)} {oc13 kV13 dc13 pm13 cd13 ct13 : Value}
    {f14 : Addr} {od14 an14 : Option Addr} {sl14 : Array (Option Value)} {oc14 kV14 dc14 pm14 cd14 ct14 : Value}
    {f15 : Addr} {od15 an15 : Option Addr} {sl15 : Array (Option Value)} {oc15 kV15 dc15 pm15 cd15 ct15 : Value}
    {f16 : Addr} {od16 an16 : Option Addr} {sl16 : Array (Option Value)} {oc16 kV16 dc16 pm16 cd16 ct16 : Value}
    {f17 : Addr} {od17 an17 : Option Addr} {sl17 : Array (Option Value)} {oc17 kV17 dc17 pm17 cd17 ct17 : Value}
    {f18 : Addr} {od18 an18 : Option Addr} {sl18 : Array (Option Value)} {oc18 kV18 dc18 pm18 cd18 ct18 : Value}
    {f19 : Addr} {od19 an19 : Option Addr} {sl19 : Array (Option Value)} {oc19 kV19 dc19 pm19 cd19 ct19 : Value}
    {f20 : Addr} {od20 an20 : Option Addr} {sl20 : Array (Option Value)} {oc20 kV20 dc20 pm20 cd20 ct20 : Value}
    {f21 : Addr} {od21 an21 : Option Addr} {sl21 : Array (Option Value)} {oc21 kV21 dc21 pm21 cd21 ct21 : Value}
    {f22 : Addr} {od22 an22 : Option Addr} {sl22 : Array (Option Value)} {oc22 kV22 dc22 pm22 cd22 ct22 : Value}
    {f23 : Addr} {od23 an23 : Option Addr} {sl23 : Array (Option Value)} {oc23 kV23 dc23 pm23 cd23 ct23 : Value}
    {f24 : Addr} {od24 an24 : Option Addr} {sl24 : Array (Option Value)} {oc24 kV24 dc24 pm24 cd24 ct24 : Value}
    {f25 : Addr} {od25 an25 : Option Addr} {sl25 : Array (Option Value)} {oc25 kV25 dc25 pm25 cd25 ct25 : Value}
    {f26 : Addr} {od26 an26 : Option Addr} {sl26 : Array (Option Value)} {oc26 kV26 dc26 pm26 cd26 ct26 : Value}
    {f27 : Addr} {od27 an27 : Option Addr} {sl27 : Array (Option Value)} {oc27 kV27 dc27 pm27 cd27 ct27 : Value}
    {C_Rule : Addr}
    {t_MOST_CELLS : Tok}
    {t_MOST_NODES : Tok}
    {t_MOST_COLOURS : Tok}
    {t_MOST_WIDTH : Tok}
    {t_MOST_TABLE : Tok}
    (aC_Rule : PySem.W.nsIn K mainGlobals "Rule" = some (some (.ref C_Rule)))
    (a0 : PySem.W.nsIn K mainGlobals "raised" = some (some (.ref f0)))
    (l0 : K.lookup f0 = some ⟨oc0, od0, .func (PySem.W.fnOf "raised" "raised" (defArgs s_raised) (defBody s_raised) (defScope s_raised) .none kV0 dc0 pm0 an0 cd0 ct0), sl0⟩) (c0 : PySem.W.codeIn K cd0 "raised" = true) (k0 : PySem.W.keepIn K (.ref f0) = true)
    (a1 : PySem.W.nsIn K mainGlobals "words" = some (some (.ref f1)))
    (l1 : K.lookup f1 = some ⟨oc1, od1, .func (PySem.W.fnOf "words" "words" (defArgs s_words) (defBody s_words) (defScope s_words) .none kV1 dc1 pm1 an1 cd1 ct1), sl1⟩) (c1 : PySem.W.codeIn K cd1 "words" = true) (k1 : PySem.W.keepIn K (.ref f1) = true)
    (a2 : PySem.W.nsIn K mainGlobals "checked_row" = some (some (.ref f2)))
    (l2 : K.lookup f2 = some ⟨oc2, od2, .func (PySem.W.fnOf "checked_row" "checked_row" (defArgs s_checked_row) (defBody s_checked_row) (defScope s_checked_row) .none kV2 dc2 pm2 an2 cd2 ct2), sl2⟩) (c2 : PySem.W.codeIn K cd2 "checked_row" = true) (k2 : PySem.W.keepIn K (.ref f2) = true)
    (a3 : PySem.W.nsIn K mainGlobals "is_row" = some (some (.ref f3)))
    (l3 : K.lookup f3 = some ⟨oc3, od3, .func (PySem.W.fnOf "is_row" "is_row" (defArgs s_is_row) (defBody s_is_row) (defScope s_is_row) .none kV3 dc3 pm3 an3 cd3 ct3), sl3⟩) (c3 : PySem.W.codeIn K cd3 "is_row" = true) (k3 : PySem.W.keepIn K (.ref f3) = true)
    (a4 : PySem.W.nsIn K mainGlobals "checked_worths" = some (some (.ref f4)))
    (l4 : K.lookup f4 = some ⟨oc4, od4, .func (PySem.W.fnOf "checked_worths" "checked_worths" (defArgs s_checked_worths) (defBody s_checked_worths) (defScope s_checked_worths) .none kV4 dc4 pm4 an4 cd4 ct4), sl4⟩) (c4 : PySem.W.codeIn K cd4 "checked_worths" = true) (k4 : PySem.W.keepIn K (.ref f4) = true)
    (a5 : PySem.W.nsIn K mainGlobals "worth" = some (some (.ref f5)))
    (l5 : K.lookup f5 = some ⟨oc5, od5, .func (PySem.W.fnOf "worth" "worth" (defArgs s_worth) (defBody s_worth) (defScope s_worth) .none kV5 dc5 pm5 an5 cd5 ct5), sl5⟩) (c5 : PySem.W.codeIn K cd5 "worth" = true) (k5 : PySem.W.keepIn K (.ref f5) = true)
    (a6 : PySem.W.nsIn K mainGlobals "turned" = some (some (.ref f6)))
    (l6 : K.lookup f6 = some ⟨oc6, od6, .func (PySem.W.fnOf "turned" "turned" (defArgs s_turned) (defBody s_turned) (defScope s_turned) .none kV6 dc6 pm6 an6 cd6 ct6), sl6⟩) (c6 : PySem.W.codeIn K cd6 "turned" = true) (k6 : PySem.W.keepIn K (.ref f6) = true)
    (a7 : PySem.W.nsIn K mainGlobals "_law_pool" = some (some (.ref f7)))
    (l7 : K.lookup f7 = some ⟨oc7, od7, .func (PySem.W.fnOf "_law_pool" "_law_pool" (defArgs s_law_pool) (defBody s_law_pool) (defScope s_law_pool) .none kV7 dc7 pm7 an7 cd7 ct7), sl7⟩) (c7 : PySem.W.codeIn K cd7 "_law_pool" = true) (k7 : PySem.W.keepIn K (.ref f7) = true)
    (a8 : PySem.W.nsIn K mainGlobals "_law_draw" = some (some (.ref f8)))
    (l8 : K.lookup f8 = some ⟨oc8, od8, .func (PySem.W.fnOf "_law_draw" "_law_draw" (defArgs s_law_draw) (defBody s_law_draw) (defScope s_law_draw) .none kV8 dc8 pm8 an8 cd8 ct8), sl8⟩) (c8 : PySem.W.codeIn K cd8 "_law_draw" = true) (k8 : PySem.W.keepIn K (.ref f8) = true)
    (a9 : PySem.W.nsIn K mainGlobals "_law_power" = some (some (.ref f9)))
    (l9 : K.lookup f9 = some ⟨oc9, od9, .func (PySem.W.fnOf "_law_power" "_law_power" (defArgs s_law_power) (defBody s_law_power) (defScope s_law_power) .none kV9 dc9 pm9 an9 cd9 ct9), sl9⟩) (c9 : PySem.W.codeIn K cd9 "_law_power" = true) (k9 : PySem.W.keepIn K (.ref f9) = true)
    (a10 : PySem.W.nsIn K mainGlobals "_law_words" = some (some (.ref f10)))
    (l10 : K.lookup f10 = some ⟨oc10, od10, .func (PySem.W.fnOf "_law_words" "_law_words" (defArgs s_law_words) (defBody s_law_words) (defScope s_law_words) .none kV10 dc10 pm10 an10 cd10 ct10), sl10⟩) (c10 : PySem.W.codeIn K cd10 "_law_words" = true) (k10 : PySem.W.keepIn K (.ref f10) = true)
    (a11 : PySem.W.findIn K (.ref C_Rule) "of" = some (some (.ref f11))) (i11 : PySem.W.isFn K (.ref f11) = true)
    (l11 : K.lookup f11 = some ⟨oc11, od11, .func (PySem.W.fnOf "of" "Rule.of" (defArgs s_Rule_of) (defBody s_Rule_of) (defScope s_Rule_of) .none kV11 dc11 pm11 an11 cd11 ct11), sl11⟩) (c11 : PySem.W.codeIn K cd11 "Rule.of" = true) (k11 : PySem.W.keepIn K (.ref f11) = true)
    (a12 : PySem.W.nsIn K mainGlobals "stepped" = some (some (.ref f12)))
    (l12 : K.lookup f12 = some ⟨oc12, od12, .func (PySem.W.fnOf "stepped" "stepped" (defArgs s_stepped) (defBody s_stepped) (defScope s_stepped) .none kV12 dc12 pm12 an12 cd12 ct12), sl12⟩) (c12 : PySem.W.codeIn K cd12 "stepped" = true) (k12 : PySem.W.keepIn K (.ref f12) = true)
    (a13 : PySem.W.nsIn K mainGlobals "nodes_of" = some (some (.ref f13)))
    (l13 : K.lookup f13 = some ⟨oc13, od13, .func (PySem.W.fnOf "nodes_of" "nodes_of" (defArgs s_nodes_of) (defBody s_nodes_of) (defScope s_nodes_of) .none kV13 dc13 pm13 an13 cd13 ct13), sl13⟩) (c13 : PySem.W.codeIn K cd13 "nodes_of" = true) (k13 : PySem.W.keepIn K (.ref f13) = true)
    (a14 : PySem.W.nsIn K mainGlobals "_gain" = some (some (.ref f14)))
    (l14 : K.lookup f14 = some ⟨oc14, od14, .func (PySem.W.fnOf "_gain" "_gain" (defArgs s_gain) (defBody s_gain) (defScope s_gain) .none kV14 dc14 pm14 an14 cd14 ct14), sl14⟩) (c14 : PySem.W.codeIn K cd14 "_gain" = true) (k14 : PySem.W.keepIn K (.ref f14) = true)
    (a15 : PySem.W.nsIn K mainGlobals "_law_rule" = some (some (.ref f15)))
    (l15 : K.lookup f15 = some ⟨oc15, od15, .func (PySem.W.fnOf "_law_rule" "_law_rule" (defArgs s_law_rule) (defBody s_law_rule) (defScope s_law_rule) .none kV15 dc15 pm15 an15 cd15 ct15), sl15⟩) (c15 : PySem.W.codeIn K cd15 "_law_rule" = true) (k15 : PySem.W.keepIn K (.ref f15) = true)
    (a16 : PySem.W.nsIn K mainGlobals "_law_row" = some (some (.ref f16)))
    (l16 : K.lookup f16 = some ⟨oc16, od16, .func (PySem.W.fnOf "_law_row" "_law_row" (defArgs s_law_row) (defBody s_law_row) (defScope s_law_row) .none kV16 dc16 pm16 an16 cd16 ct16), sl16⟩) (c16 : PySem.W.codeIn K cd16 "_law_row" = true) (k16 : PySem.W.keepIn K (.ref f16) = true)
    (a17 : PySem.W.nsIn K mainGlobals "_law_moving" = some (some (.ref f17)))
    (l17 : K.lookup f17 = some ⟨oc17, od17, .func (PySem.W.fnOf "_law_moving" "_law_moving" (defArgs s_law_moving) (defBody s_law_moving) (defScope s_law_moving) .none kV17 dc17 pm17 an17 cd17 ct17), sl17⟩) (c17 : PySem.W.codeIn K cd17 "_law_moving" = true) (k17 : PySem.W.keepIn K (.ref f17) = true)
    (a18 : PySem.W.findIn K (.ref C_Rule) "__init__" = some (some (.ref f18))) (i18 : PySem.W.isFn K (.ref f18) = true)
    (l18 : K.lookup f18 = some ⟨oc18, od18, .func (PySem.W.fnOf "__init__" "Rule.__init__" (defArgs s_Rule_init) (defBody s_Rule_init) (defScope s_Rule_init) .none kV18 dc18 pm18 an18 cd18 ct18), sl18⟩) (c18 : PySem.W.codeIn K cd18 "Rule.__init__" = true) (k18 : PySem.W.keepIn K (.ref f18) = true)
    (a19 : PySem.W.nsIn K mainGlobals "step" = some (some (.ref f19)))
    (l19 : K.lookup f19 = some ⟨oc19, od19, .func (PySem.W.fnOf "step" "step" (defArgs s_step) (defBody s_step) (defScope s_step) .none kV19 dc19 pm19 an19 cd19 ct19), sl19⟩) (c19 : PySem.W.codeIn K cd19 "step" = true) (k19 : PySem.W.keepIn K (.ref f19) = true)
    (a20 : PySem.W.nsIn K mainGlobals "after" = some (some (.ref f20)))
    (l20 : K.lookup f20 = some ⟨oc20, od20, .func (PySem.W.fnOf "after" "after" (defArgs s_after) (defBody s_after) (defScope s_after) .none kV20 dc20 pm20 an20 cd20 ct20), sl20⟩) (c20 : PySem.W.codeIn K cd20 "after" = true) (k20 : PySem.W.keepIn K (.ref f20) = true)
    (a21 : PySem.W.nsIn K mainGlobals "_flows" = some (some (.ref f21)))
    (l21 : K.lookup f21 = some ⟨oc21, od21, .func (PySem.W.fnOf "_flows" "_flows" (defArgs s_flows) (defBody s_flows) (defScope s_flows) .none kV21 dc21 pm21 an21 cd21 ct21), sl21⟩) (c21 : PySem.W.codeIn K cd21 "_flows" = true) (k21 : PySem.W.keepIn K (.ref f21) = true)
    (a22 : PySem.W.nsIn K mainGlobals "_lost_row" = some (some (.ref f22)))
    (l22 : K.lookup f22 = some ⟨oc22, od22, .func (PySem.W.fnOf "_lost_row" "_lost_row" (defArgs s_lost_row) (defBody s_lost_row) (defScope s_lost_row) .none kV22 dc22 pm22 an22 cd22 ct22), sl22⟩) (c22 : PySem.W.codeIn K cd22 "_lost_row" = true) (k22 : PySem.W.keepIn K (.ref f22) = true)
    (a23 : PySem.W.nsIn K mainGlobals "kept_right" = some (some (.ref f23)))
    (l23 : K.lookup f23 = some ⟨oc23, od23, .func (PySem.W.fnOf "kept_right" "kept_right" (defArgs s_kept_right) (defBody s_kept_right) (defScope s_kept_right) .none kV23 dc23 pm23 an23 cd23 ct23), sl23⟩) (c23 : PySem.W.codeIn K cd23 "kept_right" = true) (k23 : PySem.W.keepIn K (.ref f23) = true)
    (a24 : PySem.W.nsIn K mainGlobals "behind" = some (some (.ref f24)))
    (l24 : K.lookup f24 = some ⟨oc24, od24, .func (PySem.W.fnOf "behind" "behind" (defArgs s_behind) (defBody s_behind) (defScope s_behind) .none kV24 dc24 pm24 an24 cd24 ct24), sl24⟩) (c24 : PySem.W.codeIn K cd24 "behind" = true) (k24 : PySem.W.keepIn K (.ref f24) = true)
    (a25 : PySem.W.nsIn K mainGlobals "kept" = some (some (.ref f25)))
    (l25 : K.lookup f25 = some ⟨oc25, od25, .func (PySem.W.fnOf "kept" "kept" (defArgs s_kept) (defBody s_kept) (defScope s_kept) .none kV25 dc25 pm25 an25 cd25 ct25), sl25⟩) (c25 : PySem.W.codeIn K cd25 "kept" = true) (k25 : PySem.W.keepIn K (.ref f25) = true)
    (a26 : PySem.W.nsIn K mainGlobals "_law_same" = some (some (.ref f26)))
    (l26 : K.lookup f26 = some ⟨oc26, od26, .func (PySem.W.fnOf "_law_same" "_law_same" (defArgs s_law_same) (defBody s_law_same) (defScope s_law_same) .none kV26 dc26 pm26 an26 cd26 ct26), sl26⟩) (c26 : PySem.W.codeIn K cd26 "_law_same" = true) (k26 : PySem.W.keepIn K (.ref f26) = true)
    (a27 : PySem.W.nsIn K mainGlobals "law" = some (some (.ref f27)))
    (l27 : K.lookup f27 = some ⟨oc27, od27, .func (PySem.W.fnOf "law" "law" (defArgs s_law) (defBody s_law) (defScope s_law) .none kV27 dc27 pm27 an27 cd27 ct27), sl27⟩) (c27 : PySem.W.codeIn K cd27 "law" = true) (k27 : PySem.W.keepIn K (.ref f27) = true)
    (pg_Rule : PySem.W.plainGet K C_Rule Str.empty = true) (hd_Rule : PySem.W.hasDictIn K C_Rule = true) (po_Rule : PySem.W.plainOver K C_Rule = true) (sa_Rule : PySem.W.findIn K (.ref C_Rule) "__setattr__" = some (some (.builtin "object.__setattr__"))) (mk_Rule : PySem.W.makesIn K C_Rule = true) (kc_Rule : PySem.W.keepIn K (.ref C_Rule) = true)
    (no_Rule_colours : PySem.W.findIn K (.ref C_Rule) "colours" = some none)
    (no_Rule_width : PySem.W.findIn K (.ref C_Rule) "width" = some none)
    (no_Rule_table : PySem.W.findIn K (.ref C_Rule) "table" = some none)
    (z_range : PySem.W.nsIn K mainGlobals "range" = some none)
    (z_tuple : PySem.W.nsIn K mainGlobals "tuple" = some none)
    (z_len : PySem.W.nsIn K mainGlobals "len" = some none)
    (z_all : PySem.W.nsIn K mainGlobals "all" = some none)
    (z_sum : PySem.W.nsIn K mainGlobals "sum" = some none)
    (z_list : PySem.W.nsIn K mainGlobals "list" = some none)
    (z_int : PySem.W.nsIn K mainGlobals "int" = some none)
    (z_dict : PySem.W.nsIn K mainGlobals "dict" = some none)
    (z_zip : PySem.W.nsIn K mainGlobals "zip" = some none)
    (z_isinstance : PySem.W.nsIn K mainGlobals "isinstance" = some none)
    (z_bool : PySem.W.nsIn K mainGlobals "bool" = some none)
    (z_str : PySem.W.nsIn K mainGlobals "str" = some none)
    (g_MOST_CELLS : PySem.W.nsIn K mainGlobals "MOST_CELLS" = some (some (.int 60 t_MOST_CELLS)))
    (g_MOST_NODES : PySem.W.nsIn K mainGlobals "MOST_NODES" = some (some (.int 64 t_MOST_NODES)))
    (g_MOST_COLOURS : PySem.W.nsIn K mainGlobals "MOST_COLOURS" = some (some (.int 4 t_MOST_COLOURS)))
    (g_MOST_WIDTH : PySem.W.nsIn K mainGlobals "MOST_WIDTH" = some (some (.int 9 t_MOST_WIDTH)))
    (g_MOST_TABLE : PySem.W.nsIn K mainGlobals "MOST_TABLE" = some (some (.int 1024 t_MOST_TABLE)))
    : ∃ fd : FuncData, (∀ (s : Shared) (v : Value), BindsTo s fd ⟨[v], []⟩ [("script", v)]) ∧ ∀ base : Heap, K.In base → base.Ns mainGlobals mg → FnOk l.prog w K mg base CX0 13 fa fd ["script"] (spLaw K) := by
  have e := hfa.symm.trans (PySem.W.mg_of X G a27)
  cases e
  let cl : ClM := fun c => match c with | 0 => some (C_Rule, ["colours", "width", "table"]) | _ => none
  have F0 := fun_mk (st := s_raised) l0 c0 k0
  have b0 := F0.binds (ps := ["base", "exponent"]) fun _ _ _ _ _ _ us hl => match us, hl with | [_, _], _ => rfl
  have F1 := fun_mk (st := s_words) l1 c1 k1
  have b1 := F1.binds (ps := ["colours", "length"]) fun _ _ _ _ _ _ us hl => match us, hl with | [_, _], _ => rfl
  have F2 := fun_mk (st := s_checked_row) l2 c2 k2
  have b2 := F2.binds (ps := ["rule", "row"]) fun _ _ _ _ _ _ us hl => match us, hl with | [_, _], _ => rfl
  have F3 := fun_mk (st := s_is_row) l3 c3 k3
  have b3 := F3.binds (ps := ["rule", "row"]) fun _ _ _ _ _ _ us hl => match us, hl with | [_, _], _ => rfl
  have F4 := fun_mk (st := s_checked_worths) l4 c4 k4
  have b4 := F4.binds (ps := ["rule", "worths"]) fun _ _ _ _ _ _ us hl => match us, hl with | [_, _], _ => rfl
  have F5 := fun_mk (st := s_worth) l5 c5 k5
  have b5 := F5.binds (ps := ["worths", "row"]) fun _ _ _ _ _ _ us hl => match us, hl with | [_, _], _ => rfl
  have F6 := fun_mk (st := s_turned) l6 c6 k6
  have b6 := F6.binds (ps := ["row", "by"]) fun _ _ _ _ _ _ us hl => match us, hl with | [_, _], _ => rfl
  have F7 := fun_mk (st := s_law_pool) l7 c7 k7
  have b7 := F7.binds (ps := ["script", "budget"]) fun _ _ _ _ _ _ us hl => match us, hl with | [_, _], _ => rfl
  have F8 := fun_mk (st := s_law_draw) l8 c8 k8
  have b8 := F8.binds (ps := ["pool", "size"]) fun _ _ _ _ _ _ us hl => match us, hl with | [_, _], _ => rfl
  have F9 := fun_mk (st := s_law_power) l9 c9 k9
  have b9 := F9.binds (ps := ["base", "e"]) fun _ _ _ _ _ _ us hl => match us, hl with | [_, _], _ => rfl
  have F10 := fun_mk (st := s_law_words) l10 c10 k10
  have b10 := F10.binds (ps := ["colours", "size"]) fun _ _ _ _ _ _ us hl => match us, hl with | [_, _], _ => rfl
  have F11 := fun_mk (st := s_Rule_of) l11 c11 k11
  have b11 := F11.binds (ps := ["self", "window"]) fun _ _ _ _ _ _ us hl => match us, hl with | [_, _], _ => rfl
  have F12 := fun_mk (st := s_stepped) l12 c12 k12
  have b12 := F12.binds (ps := ["rule", "row"]) fun _ _ _ _ _ _ us hl => match us, hl with | [_, _], _ => rfl
  have F13 := fun_mk (st := s_nodes_of) l13 c13 k13
  have b13 := F13.binds (ps := ["rule"]) fun _ _ _ _ _ _ us hl => match us, hl with | [_], _ => rfl
  have F14 := fun_mk (st := s_gain) l14 c14 k14
  have b14 := F14.binds (ps := ["rule", "worths", "window"]) fun _ _ _ _ _ _ us hl => match us, hl with | [_, _, _], _ => rfl
  have F15 := fun_mk (st := s_law_rule) l15 c15 k15
  have b15 := F15.binds (ps := ["pool", "most"]) fun _ _ _ _ _ _ us hl => match us, hl with | [_, _], _ => rfl
  have F16 := fun_mk (st := s_law_row) l16 c16 k16
  have b16 := F16.binds (ps := ["pool", "rule", "size"]) fun _ _ _ _ _ _ us hl => match us, hl with | [_, _, _], _ => rfl
  have F17 := fun_mk (st := s_law_moving) l17 c17 k17
  have b17 := F17.binds (ps := ["pool"]) fun _ _ _ _ _ _ us hl => match us, hl with | [_], _ => rfl
  have F18 := fun_mk (st := s_Rule_init) l18 c18 k18
  have b18 := F18.binds (ps := ["self", "colours", "width", "table"]) fun _ _ _ _ _ _ us hl => match us, hl with | [_, _, _, _], _ => rfl
  have F19 := fun_mk (st := s_step) l19 c19 k19
  have b19 := F19.binds (ps := ["rule", "row"]) fun _ _ _ _ _ _ us hl => match us, hl with | [_, _], _ => rfl
  have F20 := fun_mk (st := s_after) l20 c20 k20
  have b20 := F20.binds (ps := ["rule", "row", "steps"]) fun _ _ _ _ _ _ us hl => match us, hl with | [_, _, _], _ => rfl
  have F21 := fun_mk (st := s_flows) l21 c21 k21
  have b21 := F21.binds (ps := ["rule", "worths"]) fun _ _ _ _ _ _ us hl => match us, hl with | [_, _], _ => rfl
  have F22 := fun_mk (st := s_lost_row) l22 c22 k22
  have b22 := F22.binds (ps := ["rule", "worths", "ways", "window"]) fun _ _ _ _ _ _ us hl => match us, hl with | [_, _, _, _], _ => rfl
  have F23 := fun_mk (st := s_kept_right) l23 c23 k23
  have b23 := F23.binds (ps := ["claim"]) fun _ _ _ _ _ _ us hl => match us, hl with | [_], _ => rfl
  have F24 := fun_mk (st := s_behind) l24 c24 k24
  have b24 := F24.binds (ps := ["first", "second"]) fun _ _ _ _ _ _ us hl => match us, hl with | [_, _], _ => rfl
  have F25 := fun_mk (st := s_kept) l25 c25 k25
  have b25 := F25.binds (ps := ["rule", "worths"]) fun _ _ _ _ _ _ us hl => match us, hl with | [_, _], _ => rfl
  have F26 := fun_mk (st := s_law_same) l26 c26 k26
  have b26 := F26.binds (ps := ["actual", "due"]) fun _ _ _ _ _ _ us hl => match us, hl with | [_, _], _ => rfl
  have F27 := fun_mk (st := s_law) l27 c27 k27
  have b27 := F27.binds (ps := ["script"]) fun _ _ _ _ _ _ us hl => match us, hl with | [_], _ => rfl
  have T : TX K mg cl := {
    a_raised := f0, d_raised := _, F_raised := F0, b_raised := b0,
    mg_raised := PySem.W.mg_of X G a0,
    a_words := f1, d_words := _, F_words := F1, b_words := b1,
    mg_words := PySem.W.mg_of X G a1,
    a_checked_row := f2, d_checked_row := _, F_checked_row := F2, b_checked_row := b2,
    mg_checked_row := PySem.W.mg_of X G a2,
    a_is_row := f3, d_is_row := _, F_is_row := F3, b_is_row := b3,
    mg_is_row := PySem.W.mg_of X G a3,
    a_checked_worths := f4, d_checked_worths := _, F_checked_worths := F4, b_checked_worths := b4,
    mg_checked_worths := PySem.W.mg_of X G a4,
    a_worth := f5, d_worth := _, F_worth := F5, b_worth := b5,
    mg_worth := PySem.W.mg_of X G a5,
    a_turned := f6, d_turned := _, F_turned := F6, b_turned := b6,
    mg_turned := PySem.W.mg_of X G a6,
    a_law_pool := f7, d_law_pool := _, F_law_pool := F7, b_law_pool := b7,
    mg_law_pool := PySem.W.mg_of X G a7,
    a_law_draw := f8, d_law_draw := _, F_law_draw := F8, b_law_draw := b8,
    mg_law_draw := PySem.W.mg_of X G a8,
    a_law_power := f9, d_law_power := _, F_law_power := F9, b_law_power := b9,
    mg_law_power := PySem.W.mg_of X G a9,
    a_law_words := f10, d_law_words := _, F_law_words := F10, b_law_words := b10,
    mg_law_words := PySem.W.mg_of X G a10,
    a_Rule_of := f11, d_Rule_of := _, F_Rule_of := F11, b_Rule_of := b11,
    a_stepped := f12, d_stepped := _, F_stepped := F12, b_stepped := b12,
    mg_stepped := PySem.W.mg_of X G a12,
    a_nodes_of := f13, d_nodes_of := _, F_nodes_of := F13, b_nodes_of := b13,
    mg_nodes_of := PySem.W.mg_of X G a13,
    a_gain := f14, d_gain := _, F_gain := F14, b_gain := b14,
    mg_gain := PySem.W.mg_of X G a14,
    a_law_rule := f15, d_law_rule := _, F_law_rule := F15, b_law_rule := b15,
    mg_law_rule := PySem.W.mg_of X G a15,
    a_law_row := f16, d_law_row := _, F_law_row := F16, b_law_row := b16,
    mg_law_row := PySem.W.mg_of X G a16,
    a_law_moving := f17, d_law_moving := _, F_law_moving := F17, b_law_moving := b17,
    mg_law_moving := PySem.W.mg_of X G a17,
    a_Rule_init := f18, d_Rule_init := _, F_Rule_init := F18, b_Rule_init := b18,
    a_step := f19, d_step := _, F_step := F19, b_step := b19,
    mg_step := PySem.W.mg_of X G a19,
    a_after := f20, d_after := _, F_after := F20, b_after := b20,
    mg_after := PySem.W.mg_of X G a20,
    a_flows := f21, d_flows := _, F_flows := F21, b_flows := b21,
    mg_flows := PySem.W.mg_of X G a21,
    a_lost_row := f22, d_lost_row := _, F_lost_row := F22, b_lost_row := b22,
    mg_lost_row := PySem.W.mg_of X G a22,
    a_kept_right := f23, d_kept_right := _, F_kept_right := F23, b_kept_right := b23,
    mg_kept_right := PySem.W.mg_of X G a23,
    a_behind := f24, d_behind := _, F_behind := F24, b_behind := b24,
    mg_behind := PySem.W.mg_of X G a24,
    a_kept := f25, d_kept := _, F_kept := F25, b_kept := b25,
    mg_kept := PySem.W.mg_of X G a25,
    a_law_same := f26, d_law_same := _, F_law_same := F26, b_law_same := b26,
    mg_law_same := PySem.W.mg_of X G a26,
    a_law := fa, d_law := _, F_law := F27, b_law := b27,
    mg_law := PySem.W.mg_of X G a27,
    A_Rule := C_Rule, k_Rule := ⟨rfl, ⟨pg_Rule, hd_Rule, po_Rule, sa_Rule⟩, by decide +kernel, (by intro f hf; simp only [List.mem_cons, List.not_mem_nil, or_false] at hf; rcases hf with rfl | rfl | rfl <;> assumption), by decide⟩, mg_Rule := PySem.W.mg_of X G aC_Rule,
    me_Rule_of := ⟨a11, i11, k11⟩,
    mk_Rule := ⟨mk_Rule, a18, i18, kc_Rule⟩,
    n_range := PySem.W.mg_none_of X G z_range,
    n_tuple := PySem.W.mg_none_of X G z_tuple,
    n_len := PySem.W.mg_none_of X G z_len,
    n_all := PySem.W.mg_none_of X G z_all,
    n_sum := PySem.W.mg_none_of X G z_sum,
    n_list := PySem.W.mg_none_of X G z_list,
    n_int := PySem.W.mg_none_of X G z_int,
    n_dict := PySem.W.mg_none_of X G z_dict,
    n_zip := PySem.W.mg_none_of X G z_zip,
    n_isinstance := PySem.W.mg_none_of X G z_isinstance,
    n_bool := PySem.W.mg_none_of X G z_bool,
    n_str := PySem.W.mg_none_of X G z_str,
    t_MOST_CELLS := _, c_MOST_CELLS := PySem.W.mg_of X G g_MOST_CELLS,
    t_MOST_NODES := _, c_MOST_NODES := PySem.W.mg_of X G g_MOST_NODES,
    t_MOST_COLOURS := _, c_MOST_COLOURS := PySem.W.mg_of X G g_MOST_COLOURS,
    t_MOST_WIDTH := _, c_MOST_WIDTH := PySem.W.mg_of X G g_MOST_WIDTH,
    t_MOST_TABLE := _, c_MOST_TABLE := PySem.W.mg_of X G g_MOST_TABLE }
  refine ⟨_, ?_, fun base _ _ => law_of rfl (fun N => ok_law (P := l.prog) (w := w) (base := base) ({
    a_raised := f0, d_raised := _, F_raised := F0, b_raised := b0,
    mg_raised := PySem.W.mg_of X G a0,
    a_words := f1, d_words := _, F_words := F1, b_words := b1,
    mg_words := PySem.W.mg_of X G a1,
    a_checked_row := f2, d_checked_row := _, F_checked_row := F2, b_checked_row := b2,
    mg_checked_row := PySem.W.mg_of X G a2,
    a_is_row := f3, d_is_row := _, F_is_row := F3, b_is_row := b3,
    mg_is_row := PySem.W.mg_of X G a3,
    a_checked_worths := f4, d_checked_worths := _, F_checked_worths := F4, b_checked_worths := b4,
    mg_checked_worths := PySem.W.mg_of X G a4,
    a_worth := f5, d_worth := _, F_worth := F5, b_worth := b5,
    mg_worth := PySem.W.mg_of X G a5,
    a_turned := f6, d_turned := _, F_turned := F6, b_turned := b6,
    mg_turned := PySem.W.mg_of X G a6,
    a_law_pool := f7, d_law_pool := _, F_law_pool := F7, b_law_pool := b7,
    mg_law_pool := PySem.W.mg_of X G a7,
    a_law_draw := f8, d_law_draw := _, F_law_draw := F8, b_law_draw := b8,
    mg_law_draw := PySem.W.mg_of X G a8,
    a_law_power := f9, d_law_power := _, F_law_power := F9, b_law_power := b9,
    mg_law_power := PySem.W.mg_of X G a9,
    a_law_words := f10, d_law_words := _, F_law_words := F10, b_law_words := b10,
    mg_law_words := PySem.W.mg_of X G a10,
    a_Rule_of := f11, d_Rule_of := _, F_Rule_of := F11, b_Rule_of := b11,
    a_stepped := f12, d_stepped := _, F_stepped := F12, b_stepped := b12,
    mg_stepped := PySem.W.mg_of X G a12,
    a_nodes_of := f13, d_nodes_of := _, F_nodes_of := F13, b_nodes_of := b13,
    mg_nodes_of := PySem.W.mg_of X G a13,
    a_gain := f14, d_gain := _, F_gain := F14, b_gain := b14,
    mg_gain := PySem.W.mg_of X G a14,
    a_law_rule := f15, d_law_rule := _, F_law_rule := F15, b_law_rule := b15,
    mg_law_rule := PySem.W.mg_of X G a15,
    a_law_row := f16, d_law_row := _, F_law_row := F16, b_law_row := b16,
    mg_law_row := PySem.W.mg_of X G a16,
    a_law_moving := f17, d_law_moving := _, F_law_moving := F17, b_law_moving := b17,
    mg_law_moving := PySem.W.mg_of X G a17,
    a_Rule_init := f18, d_Rule_init := _, F_Rule_init := F18, b_Rule_init := b18,
    a_step := f19, d_step := _, F_step := F19, b_step := b19,
    mg_step := PySem.W.mg_of X G a19,
    a_after := f20, d_after := _, F_after := F20, b_after := b20,
    mg_after := PySem.W.mg_of X G a20,
    a_flows := f21, d_flows := _, F_flows := F21, b_flows := b21,
    mg_flows := PySem.W.mg_of X G a21,
    a_lost_row := f22, d_lost_row := _, F_lost_row := F22, b_lost_row := b22,
    mg_lost_row := PySem.W.mg_of X G a22,
    a_kept_right := f23, d_kept_right := _, F_kept_right := F23, b_kept_right := b23,
    mg_kept_right := PySem.W.mg_of X G a23,
    a_behind := f24, d_behind := _, F_behind := F24, b_behind := b24,
    mg_behind := PySem.W.mg_of X G a24,
    a_kept := f25, d_kept := _, F_kept := F25, b_kept := b25,
    mg_kept := PySem.W.mg_of X G a25,
    a_law_same := f26, d_law_same := _, F_law_same := F26, b_law_same := b26,
    mg_law_same := PySem.W.mg_of X G a26,
    a_law := fa, d_law := _, F_law := F27, b_law := b27,
    mg_law := PySem.W.mg_of X G a27,
    A_Rule := C_Rule, k_Rule := ⟨rfl, ⟨pg_Rule, hd_Rule, po_Rule, sa_Rule⟩, by decide +kernel, (by intro f hf; simp only [List.mem_cons, List.not_mem_nil, or_false] at hf; rcases hf with rfl | rfl | rfl <;> assumption), by decide⟩, mg_Rule := PySem.W.mg_of X G aC_Rule,
    me_Rule_of := ⟨a11, i11, k11⟩,
    mk_Rule := ⟨mk_Rule, a18, i18, kc_Rule⟩,
    n_range := PySem.W.mg_none_of X G z_range,
    n_tuple := PySem.W.mg_none_of X G z_tuple,
    n_len := PySem.W.mg_none_of X G z_len,
    n_all := PySem.W.mg_none_of X G z_all,
    n_sum := PySem.W.mg_none_of X G z_sum,
    n_list := PySem.W.mg_none_of X G z_list,
    n_int := PySem.W.mg_none_of X G z_int,
    n_dict := PySem.W.mg_none_of X G z_dict,
    n_zip := PySem.W.mg_none_of X G z_zip,
    n_isinstance := PySem.W.mg_none_of X G z_isinstance,
    n_bool := PySem.W.mg_none_of X G z_bool,
    n_str := PySem.W.mg_none_of X G z_str,
    t_MOST_CELLS := _, c_MOST_CELLS := PySem.W.mg_of X G g_MOST_CELLS,
    t_MOST_NODES := _, c_MOST_NODES := PySem.W.mg_of X G g_MOST_NODES,
    t_MOST_COLOURS := _, c_MOST_COLOURS := PySem.W.mg_of X G g_MOST_COLOURS,
    t_MOST_WIDTH := _, c_MOST_WIDTH := PySem.W.mg_of X G g_MOST_WIDTH,
    t_MOST_TABLE := _, c_MOST_TABLE := PySem.W.mg_of X G g_MOST_TABLE } : TX K mg cl) N) law_true⟩
  exact fun s v => .of_eq rfl
end K63
open PySem PySem.W PyProof.Rows
set_option maxRecDepth 100000 in
set_option maxHeartbeats 0 in
theorem PySem.Challenge.cw_cellproof_k63_whole_worths_together_holds : PySem.Challenge.rw_cellproof_k63_whole_worths_together.Holds := by
  w_on; o_law; k_head; (case hw => w_witness2)
  k_fill
  refine L2.walk_of (l := PySem.Challenge.rw_cellproof_k63_whole_worths_together) (n := 63) (k := 13) (x := "script") (CX := fun _ => L2.CX0) (sp := fun w => MP.spLaw _) rfl (by decide) rfl ⟨rfl, by decide, by decide⟩ (fun w h Y => PySem.W.kIn_of Y) ?F (fun _ _ a ns hl _ hS => ⟨a, ns, rfl, hS, hl, fun _ => rfl⟩) (fun _ _ _ _ _ h => h)
  case F =>
    intro w mg fa h KX G hmg
    refine' K63.all_mk KX G hmg ?aC_Rule ?a0 ?l0 ?c0 ?k0 ?a1 ?l1 ?c1 ?k1 ?a2 ?l2 ?c2 ?k2 ?a3 ?l3 ?c3 ?k3 ?a4 ?l4 ?c4 ?k4 ?a5 ?l5 ?c5 ?k5 ?a6 ?l6 ?c6 ?k6 ?a7 ?l7 ?c7 ?k7 ?a8 ?l8 ?c8 ?k8 ?a9 ?l9 ?c9 ?k9 ?a10 ?l10 ?c10 ?k10 ?a11 ?i11 ?l11 ?c11 ?k11 ?a12 ?l12 ?c12 ?k12 ?a13 ?l13 ?c13 ?k13 ?a14 ?l14 ?c14 ?k14 ?a15 ?l15 ?c15 ?k15 ?a16 ?l16 ?c16 ?k16 ?a17 ?l17 ?c17 ?k17 ?a18 ?i18 ?l18 ?c18 ?k18 ?a19 ?l19 ?c19 ?k19 ?a20 ?l20 ?c20 ?k20 ?a21 ?l21 ?c21 ?k21 ?a22 ?l22 ?c22 ?k22 ?a23 ?l23 ?c23 ?k23 ?a24 ?l24 ?c24 ?k24 ?a25 ?l25 ?c25 ?k25 ?a26 ?l26 ?c26 ?k26 ?a27 ?l27 ?c27 ?k27 ?pg_Rule ?hd_Rule ?po_Rule ?sa_Rule ?mk_Rule ?kc_Rule ?no_Rule_colours ?no_Rule_width ?no_Rule_table ?z_range ?z_tuple ?z_len ?z_all ?z_sum ?z_list ?z_int ?z_dict ?z_zip ?z_isinstance ?z_bool ?z_str ?g_MOST_CELLS ?g_MOST_NODES ?g_MOST_COLOURS ?g_MOST_WIDTH ?g_MOST_TABLE
    (case aC_Rule => k_is)
    (case a0 => k_is)
    (case l0 => k_is)
    (case c0 => k_is)
    (case k0 => k_is)
    (case a1 => k_is)
    (case l1 => k_is)
    (case c1 => k_is)
    (case k1 => k_is)
    (case a2 => k_is)
    (case l2 => k_is)
    (case c2 => k_is)
    (case k2 => k_is)
    (case a3 => k_is)
    (case l3 => k_is)
    (case c3 => k_is)
    (case k3 => k_is)
    (case a4 => k_is)
    (case l4 => k_is)
    (case c4 => k_is)
    (case k4 => k_is)
    (case a5 => k_is)
    (case l5 => k_is)
    (case c5 => k_is)
    (case k5 => k_is)
    (case a6 => k_is)
    (case l6 => k_is)
    (case c6 => k_is)
    (case k6 => k_is)
    (case a7 => k_is)
    (case l7 => k_is)
    (case c7 => k_is)
    (case k7 => k_is)
    (case a8 => k_is)
    (case l8 => k_is)
    (case c8 => k_is)
    (case k8 => k_is)
    (case a9 => k_is)
    (case l9 => k_is)
    (case c9 => k_is)
    (case k9 => k_is)
    (case a10 => k_is)
    (case l10 => k_is)
    (case c10 => k_is)
    (case k10 => k_is)
    (case a11 => k_is)
    (case i11 => k_is)
    (case l11 => k_is)
    (case c11 => k_is)
    (case k11 => k_is)
    (case a12 => k_is)
    (case l12 => k_is)
    (case c12 => k_is)
    (case k12 => k_is)
    (case a13 => k_is)
    (case l13 => k_is)
    (case c13 => k_is)
    (case k13 => k_is)
    (case a14 => k_is)
    (case l14 => k_is)
    (case c14 => k_is)
    (case k14 => k_is)
    (case a15 => k_is)
    (case l15 => k_is)
    (case c15 => k_is)
    (case k15 => k_is)
    (case a16 => k_is)
    (case l16 => k_is)
    (case c16 => k_is)
    (case k16 => k_is)
    (case a17 => k_is)
    (case l17 => k_is)
    (case c17 => k_is)
    (case k17 => k_is)
    (case a18 => k_is)
    (case i18 => k_is)
    (case l18 => k_is)
    (case c18 => k_is)
    (case k18 => k_is)
    (case a19 => k_is)
    (case l19 => k_is)
    (case c19 => k_is)
    (case k19 => k_is)
    (case a20 => k_is)
    (case l20 => k_is)
    (case c20 => k_is)
    (case k20 => k_is)
    (case a21 => k_is)
    (case l21 => k_is)
    (case c21 => k_is)
    (case k21 => k_is)
    (case a22 => k_is)
    (case l22 => k_is)
    (case c22 => k_is)
    (case k22 => k_is)
    (case a23 => k_is)
    (case l23 => k_is)
    (case c23 => k_is)
    (case k23 => k_is)
    (case a24 => k_is)
    (case l24 => k_is)
    (case c24 => k_is)
    (case k24 => k_is)
    (case a25 => k_is)
    (case l25 => k_is)
    (case c25 => k_is)
    (case k25 => k_is)
    (case a26 => k_is)
    (case l26 => k_is)
    (case c26 => k_is)
    (case k26 => k_is)
    (case a27 => k_is)
    (case l27 => k_is)
    (case c27 => k_is)
    (case k27 => k_is)
    (case pg_Rule => k_is)
    (case hd_Rule => k_is)
    (case po_Rule => k_is)
    (case sa_Rule => k_is)
    (case mk_Rule => k_is)
    (case kc_Rule => k_is)
    (case no_Rule_colours => k_is)
    (case no_Rule_width => k_is)
    (case no_Rule_table => k_is)
    (case z_range => k_is)
    (case z_tuple => k_is)
    (case z_len => k_is)
    (case z_all => k_is)
    (case z_sum => k_is)
    (case z_list => k_is)
    (case z_int => k_is)
    (case z_dict => k_is)
    (case z_zip => k_is)
    (case z_isinstance => k_is)
    (case z_bool => k_is)
    (case z_str => k_is)
    (case g_MOST_CELLS => k_is)
    (case g_MOST_NODES => k_is)
    (case g_MOST_COLOURS => k_is)
    (case g_MOST_WIDTH => k_is)
    (case g_MOST_TABLE => k_is)
