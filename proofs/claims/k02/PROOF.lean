import PyProof.Rows.All
import Wide.All
import OpenK.AllK
import Wide.FinOn
import HandS.ForMost
import HandS.TupAny
import HandS.TupMul
import KE.KDictKeyed
import HandS.IsInst
import HandS.Wide
import HandS.Style
import HandS.ListEq
import KE.SortData
import HandS.Deep
import HandS.Zip
import HandS.DictComp
import HandS.Iter
import KE.KDictSum
import KE.KDictDisplayH
import HandS.HeadHook2
import HandS.Defaults
import KE.LtData
import HandS.Ends
import HandS.Head0
import HandS.Head1
import HandS.Head2
import HandS.HeadEnd
import HandS.HeadHook1
import KE.KStateDown
import PySem.Challenge.RW_fewestsent_k02_lines_and_forms_reckoned
set_option Elab.async false
set_option linter.all false
set_option maxRecDepth 100000
set_option maxHeartbeats 4000000
/-! D0: tuples that are known to be plain (no dict of their own): laid so by each rule that lays one. -/
namespace Dl
open PySem PySem.Spec PyProof.Rows L2

def NewT (H : Hp) (Q : VK) (xs : List V) : Prop := ∀ p o, H p = none → o.dict = none → Q (.ref p) (upd H p (.frz o (.tup xs)))
def PlT (K : PySem.W.Frag) (F : Hp) (a : Addr) (xs : List V) : Prop := (∃ o, F a = some (.frz o (.tup xs)) ∧ o.dict = none) ∨
  ∃ (o : Obj) (its : Array Value) (n : Nat), K.lookup a = some o ∧ o.cls = .type "tuple" ∧ o.dict = none ∧ o.data = .seq its n ∧ its.size ≤ sizeLine ∧ Vals xs its.toList
theorem PlT.sq {K : PySem.W.Frag} {F : Hp} {a : Addr} {xs : List V} (h : PlT K F a xs) : SqT K F a xs := by
  rcases h with ⟨o, h, _⟩ | ⟨o, its, n, h1, h2, _, h3⟩
  · exact .inl (.inr ⟨o, h⟩)
  · exact .inr ⟨o, its, n, h1, h2, h3⟩
theorem PlT.sub {K : PySem.W.Frag} {F F' : Hp} {a : Addr} {xs : List V} (h : PlT K F a xs) (s : ∀ a o, F a = some o → F' a = some o) : PlT K F' a xs := by
  rcases h with ⟨o, h, d⟩ | h
  · exact .inl ⟨o, s _ _ h, d⟩
  · exact .inr h
section
variable {X : Cx} {pins : List (Addr × Obj)} {σ : L2.St} {H : Hp} {s : Shared}
theorem inv_plain (I : Inv X pins σ H s) {a : Addr} {xs : List V} (h : PlT X.K H a xs) : ∃ its : List Value, Vals xs its ∧ PlainSeq "tuple" s.heap a its.toArray ∧ xs.length ≤ sizeLine := by
  rcases h with ⟨o, h, d⟩ | ⟨o, its, n, hk, hc, hd, hs, hz, r⟩
  · obtain ⟨e, z, its, r, o', e', c, n, q⟩ := I.hok a _ h
    rw [e] at e'; cases e'
    exact ⟨its, r, ⟨o, n, e, c, d, q⟩, z⟩
  · refine ⟨its.toList, r, ⟨o, n, I.kIn a o hk, hc, hd, by simpa using hs⟩, ?_⟩
    have e := r.length
    simp only [Array.length_toList] at e
    omega
theorem layT {xs : List V} {its : List Value} {Q : VK} (I : Inv X pins σ H s) (r : Vals xs its) (hz : xs.length ≤ sizeLine) (q : NewT H Q xs) :
    EP X pins σ Q (.ref s.heap.objs.size) { s with heap := s.heap.push { cls := .type "tuple", data := .seq its.toArray } } :=
  ⟨.ref s.heap.objs.size, _, I.laid (t' := s.toks) (o := .frz { cls := .type "tuple", data := .seq its.toArray } (.tup xs)) (fun _ _ e => Heap.get?_push_of_some _ e) (Nat.le_refl _)
    ⟨Heap.get?_push_size _ rfl, hz, its, r, IsTup.new _ _⟩, rfl, q _ _ (I.hok.fresh (Nat.le_refl _)) rfl⟩
end
section
variable {X : Cx} {es : List Expr} {t : TA} {pos : Pos}
def tTupF (t : TA) : TE := fun σ H Q => t σ H fun xs H1 => xs.length ≤ sizeLine ∧ NewT H1 Q xs
theorem pe_tupF {x1} (h : PA X es t) : PE X (.Tuple es x1 pos) (tTupF t) := ⟨fun pins s σ H Q I hq =>
  wpAny_Tuple_spliced (thn (h.run pos pins s σ H _ I hq) fun us sA ⟨xs, HA, IA, r, z, q⟩ => ⟨by rw [← r.length]; exact z, layT IA r z q⟩)⟩
theorem call_tupleF : CallR X (.type "tuple") (fun xs H Q => ∃ p ys, xs = [.ref p] ∧ ((SqL X.K H p ys ∧ NewT H Q ys) ∨ (SqT X.K H p ys ∧ Q (.ref p) H))) := by
  intro pins s σ H xs us Q I r h
  obtain ⟨p, ys, ex, h⟩ := h
  subst ex
  obtain ⟨u, eu, rx⟩ := vals1 r
  subst eu
  cases rx
  rcases h with ⟨hq, q⟩ | ⟨hq, q⟩
  · obtain ⟨its, rv, pl, hz⟩ := I.list hq
    have e := rv.length
    refine call_tuple_list pl.isList (fun h' kp => ?_) (by simp only [List.size_toArray] <;> omega)
    exact layT (s := { s with heap := h' }) (I.kept (t' := s.toks) kp) rv hz q
  · obtain ⟨its, _, pl, _⟩ := I.tuple hq
    exact call_tuple_same pl ⟨.ref p, H, I, rfl, q⟩
def rCatF (K : PySem.W.Frag) : R2 := fun x y H Q => ∃ a b xs ys, x = .ref a ∧ y = .ref b ∧ SqT K H a xs ∧ SqT K H b ys ∧ xs.length + ys.length ≤ sizeLine ∧
  (xs = [] → Q (.ref b) H) ∧ (ys = [] → Q (.ref a) H) ∧ NewT H Q (xs ++ ys)
theorem op_catF : OpR X (binaryOp .Add) (rCatF X.K) := by
  intro pins s σ H x y v u Q I rx ry h
  obtain ⟨a, b, xs, ys, rfl, rfl, ha, hb, hz, q0, q1, q2⟩ := h
  cases rx
  cases ry
  obtain ⟨us, ru, pu, _⟩ := I.tuple ha
  obtain ⟨ws, rw', pw, _⟩ := I.tuple hb
  by_cases hx : xs = []
  · subst hx
    cases ru
    exact cat_tup0 pu pw ⟨.ref b, H, I, rfl, q0 rfl⟩
  · refine HT.cat_tup pu pw (fun z => hx (ru.nil_iff.mp z)) (fun z => ⟨.ref a, H, I, rfl, q1 (rw'.nil_iff.mp z)⟩) (fun _ => layT I (ru.append rw') ?_ q2) (by rw [← ru.length, ← rw'.length]; exact hz)
    rw [List.length_append]
    exact hz
def rSlF (K : PySem.W.Frag) : V → Option Int → Option Int → Hp → VK → Prop := fun x lo hi H Q => ∃ a xs, x = .ref a ∧ SqT K H a xs ∧
  (HT.sIx xs.length 0 lo = 0 ∧ HT.sIx xs.length xs.length hi = xs.length → Q (.ref a) H) ∧ NewT H Q (cutV xs lo hi)
theorem sl_tupF : SlR X (rSlF X.K) := by
  intro pins s σ H x v vl vu lo hi sl Q I rx hs pl pu h
  obtain ⟨a, xs, ex, hx, q1, q2⟩ := h
  subst ex
  cases rx
  obtain ⟨its, r, ht, hz⟩ := I.tuple hx
  have hlen : its.toArray.size = xs.length := by rw [List.size_toArray]; exact r.length.symm
  refine ⟨"tuple", _, PyProof.Rows.slot_tuple_getitem.lookup, ht.typeIs, ?_⟩
  by_cases hw : HT.sIx xs.length 0 lo = 0 ∧ HT.sIx xs.length xs.length hi = xs.length
  · exact getItem_tuple_whole ht hs pl pu (by rw [hlen]; exact hw) ⟨.ref a, H, I, rfl, q1 hw⟩
  · refine HT.getItem_tuple_cut ht hs pl pu (by rw [hlen]; exact hw) ?_ (by rw [hlen]; exact hz)
    rw [hlen]
    exact layT I ((r.drop (HT.sIx xs.length 0 lo)).take (HT.sIx xs.length xs.length hi - HT.sIx xs.length 0 lo)) (Nat.le_trans (cutV_length xs lo hi) hz) q2
end
end Dl

set_option Elab.async false
set_option linter.all false
set_option maxRecDepth 100000
set_option maxHeartbeats 4000000
/-! DA: data as values of a plain inductive type, and how a heap bears them. -/
namespace Dl
open PySem PySem.Spec PyProof.Rows L2

/-- what a Python value is worth, its objects looked through -/
inductive Dat where
  | non
  | bl (b : Bool)
  | int (i : Int)
  | str (s : Str)
  | tup (xs : List Dat)
  | lst (xs : List Dat)
  | dic (nest : Bool) (kvs : List (NestedKey × Dat))
  | scr (ns : List Int)
  /-- a dict whose keys are tuples, for good as it is: it may be walked -/
  | dil (kvs : List (NestedKey × Dat))
  /-- a tuple of which no more is known (zip's pairs): to be unpacked, no more -/
  | wtp (xs : List Dat)
  deriving Inhabited

mutual
def kd : NestedKey → Dat
  | .none => .non
  | .num i => .int i
  | .text s => .str s
  | .tup ks => .tup (kds ks)
def kds : List NestedKey → List Dat
  | [] => []
  | k :: ks => kd k :: kds ks
end
mutual
def keyOf : Dat → Option NestedKey
  | .non => some .none
  | .int i => some (.num i)
  | .str s => some (.text s)
  | .tup xs => (keysOf xs).map .tup
  | .bl _ => none
  | .lst _ => none
  | .dic _ _ => none
  | .scr _ => none
  | .wtp _ => none
  | .dil _ => none
def keysOf : List Dat → Option (List NestedKey)
  | [] => some []
  | x :: xs => match keyOf x, keysOf xs with
    | some k, some ks => some (k :: ks)
    | _, _ => none
end
mutual
theorem keyOf_kd : ∀ (d : Dat) (k : NestedKey), keyOf d = some k → kd k = d
  | .non, k, h => by simp [keyOf] at h; subst h; rfl
  | .int i, k, h => by simp [keyOf] at h; subst h; rfl
  | .str s, k, h => by simp [keyOf] at h; subst h; rfl
  | .tup xs, k, h => by
    simp only [keyOf, Option.map_eq_some_iff] at h
    obtain ⟨ks, h1, rfl⟩ := h
    rw [kd, keysOf_kds xs ks h1]
  | .bl _, k, h => by simp [keyOf] at h
  | .lst _, k, h => by simp [keyOf] at h
  | .dic _ _, k, h => by simp [keyOf] at h
  | .scr _, k, h => by simp [keyOf] at h
  | .wtp _, k, h => by simp [keyOf] at h
  | .dil _, k, h => by simp [keyOf] at h
theorem keysOf_kds : ∀ (xs : List Dat) (ks : List NestedKey), keysOf xs = some ks → kds ks = xs
  | [], ks, h => by simp [keysOf] at h; subst h; rfl
  | x :: xs, ks, h => by
    simp only [keysOf] at h
    split at h
    · rename_i k ks' e1 e2
      cases h
      rw [kds, keyOf_kd x k e1, keysOf_kds xs ks' e2]
    · cases h
end
mutual
theorem kd_keyOf : ∀ (k : NestedKey), keyOf (kd k) = some k
  | .none => rfl
  | .num _ => rfl
  | .text _ => rfl
  | .tup ks => by rw [kd, keyOf, kds_keysOf ks]; rfl
theorem kds_keysOf : ∀ (ks : List NestedKey), keysOf (kds ks) = some ks
  | [] => rfl
  | k :: ks => by rw [kds, keysOf, kd_keyOf k, kds_keysOf ks]
end

/-- a dict's entries whose keys are tuples, as they stand in the object at a -/
def RawN (P : Program) (w : World) (a : Addr) (L : List (NestedKey × Addr × V)) : Heap → Prop := fun h =>
  (a == sysModules) = false ∧ L.length ≤ sizeLine ∧ ∃ xs : List (NestedKey × Addr × Value),
    Paired (fun (p : NestedKey × Addr × V) (q : NestedKey × Addr × Value) => p.1 = q.1 ∧ p.2.1 = q.2.1 ∧ RelV p.2.2 q.2.2) L xs ∧
    ∃ o es ep, h.get? a = some o ∧ o.ExactDict ∧ o.data = .dict es ep ∧ es.toList = xs.map (entryOfKey (nestedKind P w)) ∧ (xs.map (·.1)).Nodup
def hoN (P : Program) (w : World) (a : Addr) (L : List (NestedKey × Addr × V)) : HO := .ext (RawN P w a L)

/-- a key of a dict of numbers and texts -/
def nk : Key → NestedKey
  | .inl i => .num i
  | .inr s => .text s

mutual
inductive Rp (P : Program) (w : World) (K : PySem.W.Frag) (F : Hp) : V → Dat → Prop
  | non : Rp P w K F .non .non
  | bl (b : Bool) : Rp P w K F (.bl b) (.bl b)
  | int (i : Int) : Rp P w K F (.int i) (.int i)
  | str (s : Str) : Rp P w K F (.str s) (.str s)
  | tup {a xs ds} : PlT K F a xs → RpAll P w K F xs ds → Rp P w K F (.ref a) (.tup ds)
  | wtp {a xs ds} : SqT K F a xs → RpAll P w K F xs ds → Rp P w K F (.ref a) (.wtp ds)
  | scr {a ns} : SqL K F a (ns.map V.int) → Rp P w K F (.ref a) (.scr ns)
  | lst {a xs ds} : F a = some (.lst xs) → RpAll P w K F xs ds → Rp P w K F (.ref a) (.lst ds)
  | dic {a L kvs} : Rd F a (hoN P w a L) → RpN P w K F L kvs → Rp P w K F (.ref a) (.dic true kvs)
  | dil {a o L kvs} : F a = some (.frz o (hoN P w a L)) → RpN P w K F L kvs → Rp P w K F (.ref a) (.dil kvs)
  | dik {a l kvs} : Rd F a (.dK l) → RpK P w K F l kvs → Rp P w K F (.ref a) (.dic false kvs)
inductive RpAll (P : Program) (w : World) (K : PySem.W.Frag) (F : Hp) : List V → List Dat → Prop
  | nil : RpAll P w K F [] []
  | cons {v vs d ds} : Rp P w K F v d → RpAll P w K F vs ds → RpAll P w K F (v :: vs) (d :: ds)
inductive RpN (P : Program) (w : World) (K : PySem.W.Frag) (F : Hp) : List (NestedKey × Addr × V) → List (NestedKey × Dat) → Prop
  | nil : RpN P w K F [] []
  | cons {k b v L d kvs} : Rp P w K F (.ref b) (kd k) → k.depth ≤ 8 → Rp P w K F v d → RpN P w K F L kvs → RpN P w K F ((k, b, v) :: L) ((k, d) :: kvs)
inductive RpK (P : Program) (w : World) (K : PySem.W.Frag) (F : Hp) : List (Key × V) → List (NestedKey × Dat) → Prop
  | nil : RpK P w K F [] []
  | cons {k v l d kvs} : Rp P w K F v d → RpK P w K F l kvs → RpK P w K F ((k, v) :: l) ((nk k, d) :: kvs)
end

/-- F' holds all that F holds, for readers -/
def Ext (F F' : Hp) : Prop := (∀ a u, Rd F a u → Rd F' a u) ∧ (∀ a xs, F a = some (.lst xs) → F' a = some (.lst xs)) ∧ ∀ a o u, F a = some (.frz o u) → F' a = some (.frz o u)
/-- F' holds all that F holds -/
def Sub (F F' : Hp) : Prop := ∀ a o, F a = some o → F' a = some o
theorem Sub.refl {F : Hp} : Sub F F := fun _ _ h => h
theorem Sub.trans {F G H : Hp} (a : Sub F G) (b : Sub G H) : Sub F H := fun _ _ h => b _ _ (a _ _ h)
theorem Sub.ext {F F' : Hp} (h : Sub F F') : Ext F F' := ⟨fun a u r => by
  rcases r with r | ⟨o, r⟩
  · exact .inl (h _ _ r)
  · exact .inr ⟨o, h _ _ r⟩, fun a xs r => h _ _ r, fun a o u r => h _ _ r⟩
theorem Ext.plT {K : PySem.W.Frag} {F F' : Hp} (h : Ext F F') {a xs} (s : PlT K F a xs) : PlT K F' a xs := by
  rcases s with ⟨o, r, d⟩ | r
  · exact .inl ⟨o, h.2.2 _ _ _ r, d⟩
  · exact .inr r
theorem Ext.sqT {K : PySem.W.Frag} {F F' : Hp} (h : Ext F F') {a xs} (s : SqT K F a xs) : SqT K F' a xs := s.imp (h.1 _ _) id
theorem Ext.sqL {K : PySem.W.Frag} {F F' : Hp} (h : Ext F F') {a xs} (s : SqL K F a xs) : SqL K F' a xs := s.imp (h.1 _ _) id

section
variable {P : Program} {w : World} {K : PySem.W.Frag} {F F' : Hp}
mutual
theorem Rp.ext (h : Ext F F') : ∀ {v : V} {d : Dat}, Rp P w K F v d → Rp P w K F' v d
  | _, _, .non => .non
  | _, _, .bl b => .bl b
  | _, _, .int b => .int b
  | _, _, .str b => .str b
  | _, _, .tup s r => .tup (h.plT s) (RpAll.ext h r)
  | _, _, .wtp s r => .wtp (h.sqT s) (RpAll.ext h r)
  | _, _, .scr s => .scr (h.sqL s)
  | _, _, .lst s r => .lst (h.2.1 _ _ s) (RpAll.ext h r)
  | _, _, .dic s r => .dic (h.1 _ _ s) (RpN.ext h r)
  | _, _, .dik s r => .dik (h.1 _ _ s) (RpK.ext h r)
  | _, _, .dil s r => .dil (h.2.2 _ _ _ s) (RpN.ext h r)
theorem RpAll.ext (h : Ext F F') : ∀ {v : List V} {d : List Dat}, RpAll P w K F v d → RpAll P w K F' v d
  | _, _, .nil => .nil
  | _, _, .cons a b => .cons (Rp.ext h a) (RpAll.ext h b)
theorem RpN.ext (h : Ext F F') : ∀ {v : List (NestedKey × Addr × V)} {d : List (NestedKey × Dat)}, RpN P w K F v d → RpN P w K F' v d
  | _, _, .nil => .nil
  | _, _, .cons a z b c => .cons (Rp.ext h a) z (Rp.ext h b) (RpN.ext h c)
theorem RpK.ext (h : Ext F F') : ∀ {v : List (Key × V)} {d : List (NestedKey × Dat)}, RpK P w K F v d → RpK P w K F' v d
  | _, _, .nil => .nil
  | _, _, .cons a b => .cons (Rp.ext h a) (RpK.ext h b)
end
theorem Rp.sub {v d} (r : Rp P w K F v d) (h : Sub F F') : Rp P w K F' v d := Rp.ext h.ext r
theorem RpAll.sub {v d} (r : RpAll P w K F v d) (h : Sub F F') : RpAll P w K F' v d := RpAll.ext h.ext r
theorem RpN.sub {v d} (r : RpN P w K F v d) (h : Sub F F') : RpN P w K F' v d := RpN.ext h.ext r
theorem RpK.sub {v d} (r : RpK P w K F v d) (h : Sub F F') : RpK P w K F' v d := RpK.ext h.ext r
theorem RpAll.length : ∀ {vs : List V} {ds : List Dat}, RpAll P w K F vs ds → vs.length = ds.length
  | _, _, .nil => rfl
  | _, _, .cons _ t => by rw [List.length_cons, List.length_cons, RpAll.length t]
theorem RpAll.get : ∀ {vs : List V} {ds : List Dat} {i : Nat} {d : Dat}, RpAll P w K F vs ds → ds[i]? = some d → ∃ v, vs[i]? = some v ∧ Rp P w K F v d
  | _, _, _, _, .nil, e => by simp at e
  | _, _, 0, _, .cons r _, e => by simp at e; subst e; exact ⟨_, rfl, r⟩
  | _, _, i + 1, d, .cons _ t, e => by
    obtain ⟨v, h1, h2⟩ := RpAll.get (i := i) (d := d) t (by simpa using e)
    exact ⟨v, by simpa using h1, h2⟩
theorem RpAll.getV : ∀ {vs : List V} {ds : List Dat} {i : Nat} {v : V}, RpAll P w K F vs ds → vs[i]? = some v → ∃ d, ds[i]? = some d ∧ Rp P w K F v d
  | _, _, _, _, .nil, e => by simp at e
  | _, _, 0, _, .cons r _, e => by simp at e; subst e; exact ⟨_, rfl, r⟩
  | _, _, i + 1, v, .cons _ t, e => by
    obtain ⟨d, h1, h2⟩ := RpAll.getV (i := i) (v := v) t (by simpa using e)
    exact ⟨d, by simpa using h1, h2⟩
theorem RpAll.append : ∀ {vs us : List V} {ds es : List Dat}, RpAll P w K F vs ds → RpAll P w K F us es → RpAll P w K F (vs ++ us) (ds ++ es)
  | _, _, _, _, .nil, s => s
  | _, _, _, _, .cons r t, s => .cons r (RpAll.append t s)
theorem RpAll.take : ∀ {vs : List V} {ds : List Dat} (n : Nat), RpAll P w K F vs ds → RpAll P w K F (vs.take n) (ds.take n)
  | _, _, 0, _ => .nil
  | _, _, _ + 1, .nil => .nil
  | _, _, n + 1, .cons r t => .cons r (RpAll.take n t)
theorem RpAll.drop : ∀ {vs : List V} {ds : List Dat} (n : Nat), RpAll P w K F vs ds → RpAll P w K F (vs.drop n) (ds.drop n)
  | _, _, 0, r => r
  | _, _, _ + 1, .nil => .nil
  | _, _, n + 1, .cons _ t => RpAll.drop n t
theorem RpAll.reverse : ∀ {vs : List V} {ds : List Dat}, RpAll P w K F vs ds → RpAll P w K F vs.reverse ds.reverse
  | _, _, .nil => .nil
  | _, _, .cons r t => by rw [List.reverse_cons, List.reverse_cons]; exact (RpAll.reverse t).append (.cons r .nil)
theorem RpAll.set {v : V} {d : Dat} (r : Rp P w K F v d) : ∀ {vs : List V} {ds : List Dat} (n : Nat), RpAll P w K F vs ds → RpAll P w K F (vs.set n v) (ds.set n d)
  | _, _, _, .nil => .nil
  | _, _, 0, .cons _ t => .cons r t
  | _, _, n + 1, .cons q t => .cons q (RpAll.set r n t)
theorem RpAll.eraseIdx : ∀ {vs : List V} {ds : List Dat} (n : Nat), RpAll P w K F vs ds → RpAll P w K F (vs.eraseIdx n) (ds.eraseIdx n)
  | _, _, _, .nil => .nil
  | _, _, 0, .cons _ t => t
  | _, _, n + 1, .cons q t => .cons q (RpAll.eraseIdx n t)
/-- of a perhaps permuted list: each value of the one is worth a datum of the other -/
theorem RpAll.mem {vs : List V} {ds : List Dat} (r : RpAll P w K F vs ds) {v : V} (h : v ∈ vs) : ∃ d ∈ ds, Rp P w K F v d := by
  obtain ⟨i, hi⟩ := List.mem_iff_getElem?.mp h
  obtain ⟨d, h1, h2⟩ := r.getV hi
  exact ⟨d, List.mem_of_getElem? h1, h2⟩
end
end Dl

set_option Elab.async false
set_option linter.all false
set_option maxRecDepth 100000
set_option maxHeartbeats 4000000
/-! DB: what a def's names hold (slots), the state's relation, expressions as functions of slots. -/
namespace Dl
open PySem PySem.Spec PyProof.Rows L2

/-- an object of one's own: it stands at a in H, its parts are borne by F -/
inductive Own (P : Program) (w : World) (K : PySem.W.Frag) (H F : Hp) : Addr → Dat → Prop
  | lst {a xs ds} : H a = some (.lst xs) → RpAll P w K F xs ds → Own P w K H F a (.lst ds)
  | dic {a L kvs} : H a = some (hoN P w a L) → RpN P w K F L kvs → Own P w K H F a (.dic true kvs)
  | dik {a l kvs} : H a = some (.dK l) → RpK P w K F l kvs → Own P w K H F a (.dic false kvs)
theorem Own.there {P w K H F a d} (h : Own P w K H F a d) : ∃ o, H a = some o := by cases h <;> exact ⟨_, by assumption⟩
theorem Own.mono {P w K H F H' F' a d} (h : Own P w K H F a d) (hH : H' a = H a) (hF : Sub F F') : Own P w K H' F' a d := by
  cases h with
  | lst e r => exact .lst (hH.trans e) (r.sub hF)
  | dic e r => exact .dic (hH.trans e) (r.sub hF)
  | dik e r => exact .dik (hH.trans e) (r.sub hF)
/-- what may be looked at -/
def View (P : Program) (w : World) (K : PySem.W.Frag) (H F : Hp) (v : V) (d : Dat) : Prop := Rp P w K F v d ∨ ∃ a, v = .ref a ∧ Own P w K H F a d

abbrev Sg := L2.St
inductive Slot where
  | un
  | val (d : Dat)
  | own (fix : Bool) (d : Dat)
abbrev Rho := List Slot

structure SO (P : Program) (w : World) (K : PySem.W.Frag) (ρ : Rho) (σ : Sg) (H F : Hp) : Prop where
  sub : Sub F H
  len : ρ.length = σ.length
  val : ∀ (i : Nat) (d : Dat), ρ[i]? = some (.val d) → ∃ v, σ[i]? = some (some v) ∧ Rp P w K F v d
  own : ∀ (i : Nat) (b : Bool) (d : Dat), ρ[i]? = some (.own b d) → ∃ a, σ[i]? = some (some (.ref a)) ∧ F a = none ∧ Own P w K H F a d
  inj : ∀ (i j : Nat) (b c : Bool) (d e : Dat) (a : Addr), ρ[i]? = some (.own b d) → ρ[j]? = some (.own c e) → σ[i]? = some (some (.ref a)) → σ[j]? = some (some (.ref a)) → i = j
def IsOwn (ρ : Rho) (σ : Sg) (a : Addr) : Prop := ∃ (i : Nat) (b : Bool) (d : Dat), ρ[i]? = some (.own b d) ∧ σ[i]? = some (some (.ref a))
structure Step (ρ : Rho) (σ : Sg) (H F : Hp) (ρ' : Rho) (σ' : Sg) (H' F' : Hp) : Prop where
  subF : Sub F F'
  fresh : ∀ a o, F' a = some o → F a = some o ∨ H a = none ∨ IsOwn ρ σ a
  keep : ∀ a o, H a = some o → ¬ IsOwn ρ σ a → H' a = some o
  own : ∀ a, IsOwn ρ' σ' a → IsOwn ρ σ a ∨ H a = none
  stay : ∀ a o, H a = some o → ∃ o', H' a = some o'
  par : ∀ (i : Nat) (d : Dat), ρ[i]? = some (.own true d) → (∃ d', ρ'[i]? = some (.own true d')) ∧ σ'[i]? = σ[i]?
/-- objects are laid, no more -/
structure New (H F H' F' : Hp) : Prop where
  subF : Sub F F'
  fresh : ∀ a o, F' a = some o → F a = some o ∨ H a = none
  keep : Sub H H'
  subH : Sub F' H'
theorem Step.refl {ρ σ H F} : Step ρ σ H F ρ σ H F := ⟨Sub.refl, fun _ _ h => .inl h, fun _ _ h _ => h, fun _ h => .inl h, fun _ o h => ⟨o, h⟩, fun _ d h => ⟨⟨d, h⟩, rfl⟩⟩
theorem Step.trans {ρ σ H F ρ1 σ1 H1 F1 ρ2 σ2 H2 F2} (a : Step ρ σ H F ρ1 σ1 H1 F1) (b : Step ρ1 σ1 H1 F1 ρ2 σ2 H2 F2) : Step ρ σ H F ρ2 σ2 H2 F2 := by
  have back : ∀ c, H1 c = none → H c = none := fun c h => by
    cases e : H c with
    | none => rfl
    | some o =>
      obtain ⟨u, hu⟩ := a.stay c o e
      rw [hu] at h
      cases h
  refine ⟨a.subF.trans b.subF, fun c o h => ?_, fun c o h n => ?_, fun c h => ?_, fun c o h => ?_, fun i d h => ?_⟩
  · rcases b.fresh c o h with h | h | h
    · exact a.fresh c o h
    · exact .inr (.inl (back c h))
    · exact .inr (a.own c h).symm
  · refine b.keep c o (a.keep c o h n) fun z => ?_
    rcases a.own c z with z | z
    · exact n z
    · rw [h] at z; cases z
  · rcases b.own c h with z | z
    · exact a.own c z
    · exact .inr (back c z)
  · obtain ⟨u, hu⟩ := a.stay c o h
    exact b.stay c u hu
  · obtain ⟨⟨d1, h1⟩, e1⟩ := a.par i d h
    obtain ⟨h2, e2⟩ := b.par i d1 h1
    exact ⟨h2, e2.trans e1⟩
theorem New.refl {H F} (h : Sub F H) : New H F H F := ⟨Sub.refl, fun _ _ h => .inl h, Sub.refl, h⟩
theorem New.trans {H F H1 F1 H2 F2} (a : New H F H1 F1) (b : New H1 F1 H2 F2) : New H F H2 F2 := by
  refine ⟨a.subF.trans b.subF, fun c o h => ?_, a.keep.trans b.keep, b.subH⟩
  rcases b.fresh c o h with h | h
  · exact a.fresh c o h
  · refine .inr ?_
    cases e : H c with
    | none => rfl
    | some u => rw [a.keep c u e] at h; cases h
theorem New.step {H F H' F' ρ σ} (a : New H F H' F') : Step ρ σ H F ρ σ H' F' :=
  ⟨a.subF, fun c o h => (a.fresh c o h).imp id .inl, fun c o h _ => a.keep c o h, fun _ h => .inl h, fun c o h => ⟨o, a.keep c o h⟩, fun _ d h => ⟨⟨d, h⟩, rfl⟩⟩
/-- one object is laid -/
theorem New.one {H F : Hp} {p : Addr} {o : HO} (h : Sub F H) (hp : H p = none) : New H F (upd H p o) (upd F p o) := by
  have hf : F p = none := by
    cases e : F p with
    | none => rfl
    | some u => rw [h p u e] at hp; cases hp
  refine ⟨fun a u e => ?_, fun a u e => ?_, fun a u e => ?_, fun a u e => ?_⟩
  · rw [upd_ne (ne_of_none e hf)]; exact e
  · by_cases ha : a = p
    · subst ha; exact .inr hp
    · rw [upd_ne ha] at e; exact .inl e
  · rw [upd_ne (ne_of_none e hp)]; exact e
  · by_cases ha : a = p
    · subst ha; rw [upd_same] at e ⊢; exact e
    · rw [upd_ne ha] at e ⊢; exact h a u e
section
variable {P : Program} {w : World} {K : PySem.W.Frag} {ρ ρ' : Rho} {σ : Sg} {H F H' F' : Hp}
theorem SO.new (so : SO P w K ρ σ H F) (n : New H F H' F') : SO P w K ρ σ H' F' where
  sub := n.subH
  len := so.len
  val := fun i d e => let ⟨v, h1, h2⟩ := so.val i d e; ⟨v, h1, h2.sub n.subF⟩
  own := fun i b d e => by
    obtain ⟨a, h1, h2, h3⟩ := so.own i b d e
    obtain ⟨o, ho⟩ := h3.there
    refine ⟨a, h1, ?_, h3.mono ((n.keep a o ho).trans ho.symm) n.subF⟩
    cases q : F' a with
    | none => rfl
    | some u =>
      rcases n.fresh a u q with z | z
      · rw [h2] at z; cases z
      · rw [ho] at z; cases z
  inj := so.inj
end

/-- an expression's end: a datum, the object of one's own in a slot, a new object that nobody else has -/
inductive Hd where
  | dat (d : Dat)
  | slot (i : Nat)
  | new (d : Dat)
def HdOk (P : Program) (w : World) (K : PySem.W.Frag) (ρ : Rho) (σ : Sg) (H0 H F : Hp) (v : V) : Hd → Prop
  | .dat d => Rp P w K F v d
  | .slot i => σ[i]? = some (some v)
  | .new d => ∃ a, v = .ref a ∧ Own P w K H F a d ∧ F a = none ∧ ¬ IsOwn ρ σ a ∧ H0 a = none
def rv (ρ : Rho) : Hd → Option Dat
  | .dat d => some d
  | .slot i => match ρ[i]? with
    | some (.own _ d) => some d
    | _ => none
  | .new d => some d
theorem HdOk.step {P w K ρ σ H0 H F v h ρ' H' F'} (r : HdOk P w K ρ σ H0 H F v h) (s : Step ρ σ H F ρ' σ H' F') : HdOk P w K ρ' σ H0 H' F' v h := by
  cases h with
  | dat d => exact Rp.sub (show Rp P w K F v d from r) s.subF
  | slot i => exact r
  | new d =>
    obtain ⟨a, rfl, h1, h2, h3, h4⟩ := r
    obtain ⟨o, ho⟩ := h1.there
    refine ⟨a, rfl, h1.mono ((s.keep a o ho h3).trans ho.symm) s.subF, ?_, fun z => ?_, h4⟩
    · cases q : F' a with
      | none => rfl
      | some u =>
        rcases s.fresh a u q with z | z | z
        · rw [h2] at z; cases z
        · rw [ho] at z; cases z
        · exact (h3 z).elim
    · rcases s.own a z with z | z
      · exact h3 z
      · rw [ho] at z; cases z
theorem HdOk.from {P w K ρ σ H0 H1 H F v h} (r : HdOk P w K ρ σ H1 H F v h) (s : ∀ a o, H0 a = some o → ∃ o', H1 a = some o') : HdOk P w K ρ σ H0 H F v h := by
  cases h with
  | dat d => exact r
  | slot i => exact r
  | new d =>
    obtain ⟨a, rfl, h1, h2, h3, h4⟩ := r
    refine ⟨a, rfl, h1, h2, h3, ?_⟩
    cases q : H0 a with
    | none => rfl
    | some u =>
      obtain ⟨u', z⟩ := s a u q
      rw [h4] at z; cases z
theorem SO.view {P w K ρ σ H0 H F v h d} (so : SO P w K ρ σ H F) (k : HdOk P w K ρ σ H0 H F v h) (e : rv ρ h = some d) : View P w K H F v d := by
  cases h with
  | dat d' => cases e; exact .inl k
  | slot i =>
    simp only [rv] at e
    split at e
    · rename_i b d' q
      cases e
      obtain ⟨a, h1, h2, h3⟩ := so.own i _ _ q
      have z : σ[i]? = some (some v) := k
      rw [h1] at z
      cases z
      exact .inr ⟨a, rfl, h3⟩
    · cases e
  | new d' =>
    cases e
    obtain ⟨a, e1, h1, _⟩ := k
    exact .inr ⟨a, e1, h1⟩

abbrev FE := Rho → Option (Hd × Rho)
def tD (P : Program) (w : World) (K : PySem.W.Frag) (f : FE) : TE := fun σ H Q => ∃ ρ F h ρ', SO P w K ρ σ H F ∧ f ρ = some (h, ρ') ∧
  ∀ v H' F', SO P w K ρ' σ H' F' → Step ρ σ H F ρ' σ H' F' → HdOk P w K ρ' σ H H' F' v h → Q v H'
abbrev DE (X : Cx) (e : Expr) (f : FE) : Prop := PE X e (tD X.prog X.w X.K f)
abbrev FT := Rho → Option (Bool × Rho)
def tT (P : Program) (w : World) (K : PySem.W.Frag) (f : FT) : TT := fun σ H Q => ∃ ρ F b ρ', SO P w K ρ σ H F ∧ f ρ = some (b, ρ') ∧
  ∀ H' F', SO P w K ρ' σ H' F' → Step ρ σ H F ρ' σ H' F' → Q b H'
abbrev DT (X : Cx) (e : Expr) (f : FT) : Prop := PT X e (tT X.prog X.w X.K f)
abbrev DW (X : Cx) (e : Expr) (f : FT) : Prop := PW X e (tT X.prog X.w X.K f)
theorem peImp {X : Cx} {e : Expr} {t t' : TE} (h : PE X e t) (i : ∀ σ H Q, t' σ H Q → t σ H Q) : PE X e t' := ⟨fun pins s σ H Q I q => h.run pins s σ H Q I (i σ H Q q)⟩
theorem ptImp {X : Cx} {e : Expr} {t t' : TT} (h : PT X e t) (i : ∀ σ H Q, t' σ H Q → t σ H Q) : PT X e t' := ⟨fun pins s σ H Q I q => h.run pins s σ H Q I (i σ H Q q)⟩
theorem pwImp {X : Cx} {e : Expr} {t t' : TT} (h : PW X e t) (i : ∀ σ H Q, t' σ H Q → t σ H Q) : PW X e t' := ⟨fun w pins s σ H Q I q => h.run w pins s σ H Q I (i σ H Q q)⟩

/-! ### names, constants -/
def cVar (i : Nat) : FE := fun ρ => match ρ[i]? with
  | some (.val d) => some (.dat d, ρ)
  | some (.own _ _) => some (.slot i, ρ)
  | _ => none
def cK (d : Dat) : FE := fun ρ => some (.dat d, ρ)
section
variable {X : Cx}
theorem de_var {i : Nat} {x : Str} {pos : Pos} (h : PE X (.Name x pos) (tVar i)) : DE X (.Name x pos) (cVar i) := by
  refine peImp h fun σ H Q q => ?_
  obtain ⟨ρ, F, h, ρ', so, e, k⟩ := q
  simp only [cVar] at e
  split at e
  · rename_i d q
    cases e
    obtain ⟨v, h1, h2⟩ := so.val i d q
    exact ⟨v, h1, k v H F so Step.refl h2⟩
  · rename_i b d q
    cases e
    obtain ⟨a, h1, h2, h3⟩ := so.own i b d q
    exact ⟨_, h1, k _ H F so Step.refl h1⟩
  · cases e
/-- a value that is so whatever the heap: a constant, a module's constant -/
theorem de_const {e : Expr} {v : V} {d : Dat} (h : PE X e (tC v)) (r : ∀ F, Rp X.prog X.w X.K F v d) : DE X e (cK d) := by
  refine peImp h fun σ H Q q => ?_
  obtain ⟨ρ, F, h, ρ', so, e, k⟩ := q
  cases e
  exact k v H F so Step.refl (r F)
theorem de_int {i j pos} : DE X (.Constant (.int i) j pos) (cK (.int i)) := de_const pe_int fun _ => .int i
theorem de_bl {i j pos} : DE X (.Constant (.bool i) j pos) (cK (.bl i)) := de_const pe_bl fun _ => .bl i
theorem de_non {j pos} : DE X (.Constant .none j pos) (cK .non) := de_const pe_non fun _ => .non
theorem de_str {i j pos} : DE X (.Constant (.str i) j pos) (cK (.str i)) := de_const pe_str fun _ => .str i
end

/-! ### operators on looked-at data -/
def rD2 (P : Program) (w : World) (K : PySem.W.Frag) (g : Dat → Dat → Option Dat) : R2 := fun x y H Q => ∃ F d e z, Sub F H ∧ View P w K H F x d ∧ View P w K H F y e ∧ g d e = some z ∧
  ∀ v H' F', New H F H' F' → Rp P w K F' v z → Q v H'
abbrev DOp (X : Cx) (f : Value → Value → Sem Value) (g : Dat → Dat → Option Dat) : Prop := OpR X f (rD2 X.prog X.w X.K g)
def rD1 (P : Program) (w : World) (K : PySem.W.Frag) (g : Dat → Option Dat) : V → Hp → VK → Prop := fun x H Q => ∃ F d z, Sub F H ∧ View P w K H F x d ∧ g d = some z ∧
  ∀ v H' F', New H F H' F' → Rp P w K F' v z → Q v H'
abbrev DUn (X : Cx) (f : Value → Sem Value) (g : Dat → Option Dat) : Prop := UnR X f (rD1 X.prog X.w X.K g)
inductive ViewAll (P : Program) (w : World) (K : PySem.W.Frag) (H F : Hp) : List V → List Dat → Prop
  | nil : ViewAll P w K H F [] []
  | cons {v vs d ds} : View P w K H F v d → ViewAll P w K H F vs ds → ViewAll P w K H F (v :: vs) (d :: ds)
def rDs (P : Program) (w : World) (K : PySem.W.Frag) (g : List Dat → Option Dat) : List V → Hp → VK → Prop := fun xs H Q => ∃ F ds z, Sub F H ∧ ViewAll P w K H F xs ds ∧ g ds = some z ∧
  ∀ v H' F', New H F H' F' → Rp P w K F' v z → Q v H'
abbrev DCall (X : Cx) (f : Value) (g : List Dat → Option Dat) : Prop := CallR X f (rDs X.prog X.w X.K g)

def c1 (g : Dat → Option Dat) (fa : FE) : FE := fun ρ => (fa ρ).bind fun p => (rv p.2 p.1).bind fun d => (g d).bind fun z => some (.dat z, p.2)
def c2 (g : Dat → Dat → Option Dat) (fa fb : FE) : FE := fun ρ => (fa ρ).bind fun p => (fb p.2).bind fun q => (rv q.2 p.1).bind fun d => (rv q.2 q.1).bind fun e => (g d e).bind fun z => some (.dat z, q.2)
section
variable {X : Cx} {a b : Expr} {fa fb : FE} {pos : Pos}
theorem tD_c2 {P w K} {g : Dat → Dat → Option Dat} {σ : Sg} {H : Hp} {Q : VK} (q : tD P w K (c2 g fa fb) σ H Q) : tOp (rD2 P w K g) (tD P w K fa) (tD P w K fb) σ H Q := by
  obtain ⟨ρ, F, h, ρ', so, e, k⟩ := q
  simp only [c2, Option.bind_eq_some_iff] at e
  obtain ⟨⟨h1, ρ1⟩, e1, ⟨h2, ρ2⟩, e2, d, e3, d', e4, z, e5, e6⟩ := e
  cases e6
  refine ⟨ρ, F, h1, ρ1, so, e1, fun x H1 F1 so1 st1 k1 => ⟨ρ1, F1, h2, ρ2, so1, e2, fun y H2 F2 so2 st2 k2 => ?_⟩⟩
  exact ⟨F2, d, d', z, so2.sub, so2.view (k1.step st2) e3, so2.view k2 e4, e5, fun v H' F' n r => k v H' F' (so2.new n) ((st1.trans st2).trans n.step) r⟩
theorem de_op {op : Operator} {g : Dat → Dat → Option Dat} (ho : DOp X (binaryOp op) g) (ha : DE X a fa) (hb : DE X b fb) : DE X (.BinOp a op b pos) (c2 g fa fb) :=
  peImp (pe_op ho ha hb) fun _ _ _ => tD_c2
theorem de_cmp {op : CmpOp} {g : Dat → Dat → Option Dat} (ho : DOp X (compareOp op) g) (ha : DE X a fa) (hb : DE X b fb) (hm : behindInMarks op b = false) : DE X (.Compare a [op] [b] pos) (c2 g fa fb) :=
  peImp (pe_cmpR ho ha hb hm) fun _ _ _ => tD_c2
theorem de_un {op : UnaryOp} {g : Dat → Option Dat} (ho : DUn X (unaryOp op) g) (ha : DE X a fa) : DE X (.UnaryOp op a pos) (c1 g fa) := by
  refine peImp (pe_un ho ha) fun σ H Q q => ?_
  obtain ⟨ρ, F, h, ρ', so, e, k⟩ := q
  simp only [c1, Option.bind_eq_some_iff] at e
  obtain ⟨⟨h1, ρ1⟩, e1, d, e3, z, e5, e6⟩ := e
  cases e6
  exact ⟨ρ, F, h1, ρ1, so, e1, fun x H1 F1 so1 st1 k1 => ⟨F1, d, z, so1.sub, so1.view k1 e3, e5, fun v H' F' n r => k v H' F' (so1.new n) (st1.trans n.step) r⟩⟩
theorem de_ix {g : Dat → Dat → Option Dat} (ho : IxR X (rD2 X.prog X.w X.K g)) (ha : DE X a fa) (hb : DE X b fb) (hs : PlainIx b) : DE X (.Subscript a b pos) (c2 g fa fb) :=
  peImp (pe_ix ho ha hb hs) fun _ _ _ => tD_c2
end
end Dl

set_option Elab.async false
set_option linter.all false
set_option maxRecDepth 100000
set_option maxHeartbeats 4000000
/-! DC: displays, tests, calls, statements, defs: as functions of slots. -/
namespace Dl
open PySem PySem.Spec PyProof.Rows L2

theorem sub_upd {F : Hp} {a : Addr} {o : HO} (h : F a = none) : Sub F (upd F a o) := fun b u e => by rw [upd_ne (ne_of_none e h)]; exact e
theorem Own.rp {P w K H F a d o} (h : Own P w K H F a d) (ho : H a = some o) (hf : F a = none) : Rp P w K (upd F a o) (.ref a) d := by
  cases h with
  | lst e r =>
    rw [e] at ho; cases ho
    exact .lst upd_same (r.sub (sub_upd hf))
  | dic e r =>
    rw [e] at ho; cases ho
    exact .dic (.inl upd_same) (r.sub (sub_upd hf))
  | dik e r =>
    rw [e] at ho; cases ho
    exact .dik (.inl upd_same) (r.sub (sub_upd hf))
theorem SO.fz {P w K ρ σ H F a o} (so : SO P w K ρ σ H F) (ho : H a = some o) (hf : F a = none) (hn : ¬ IsOwn ρ σ a) : SO P w K ρ σ H (upd F a o) where
  sub := fun b u e => by
    by_cases hb : b = a
    · subst hb; rw [upd_same] at e; rw [← e]; exact ho
    · rw [upd_ne hb] at e; exact so.sub b u e
  len := so.len
  val := fun i d e => let ⟨v, h1, h2⟩ := so.val i d e; ⟨v, h1, h2.sub (sub_upd hf)⟩
  own := fun i b d e => by
    obtain ⟨c, h1, h2, h3⟩ := so.own i b d e
    refine ⟨c, h1, ?_, h3.mono rfl (sub_upd hf)⟩
    have hc : c ≠ a := fun z => hn ⟨i, b, d, e, by rw [← z]; exact h1⟩
    rw [upd_ne hc]
    exact h2
  inj := so.inj
theorem Step.fz {ρ0 σ0 H0 F0 ρ σ H F} {a : Addr} {o : HO} (st : Step ρ0 σ0 H0 F0 ρ σ H F) (hf : F a = none) (h0 : H0 a = none) : Step ρ0 σ0 H0 F0 ρ σ H (upd F a o) :=
  ⟨st.subF.trans (sub_upd hf), fun b u e => by
    by_cases hb : b = a
    · subst hb; exact .inr (.inl h0)
    · rw [upd_ne hb] at e; exact st.fresh b u e, st.keep, st.own, st.stay, st.par⟩

def cFz (f : FE) : FE := fun ρ => match f ρ with
  | some (.dat d, ρ1) => some (.dat d, ρ1)
  | some (.new d, ρ1) => some (.dat d, ρ1)
  | _ => none
section
variable {X : Cx} {a b c : Expr} {fa fb fc : FE} {ta tb tc : FT} {pos : Pos}
theorem tD_fz {P w K} {σ : Sg} {H : Hp} {Q : VK} (q : tD P w K (cFz fa) σ H Q) : tD P w K fa σ H Q := by
  obtain ⟨ρ, F, h, ρ', so, e, k⟩ := q
  unfold cFz at e
  split at e
  · rename_i d ρ1 e1
    cases e
    exact ⟨ρ, F, _, _, so, e1, k⟩
  · rename_i d ρ1 e1
    cases e
    refine ⟨ρ, F, _, _, so, e1, fun v H' F' so' st hk => ?_⟩
    obtain ⟨p, rfl, ow, hf, hn, h0⟩ := hk
    obtain ⟨o, ho⟩ := ow.there
    exact k _ H' _ (so'.fz ho hf hn) (st.fz hf h0) (ow.rp ho hf)
  · cases e
theorem de_fz (h : DE X a fa) : DE X a (cFz fa) := peImp h fun _ _ _ => tD_fz

/-! ### tests -/
def cB (f : FE) : FT := fun ρ => match f ρ with
  | some (.dat (.bl b), ρ1) => some (b, ρ1)
  | _ => none
theorem tD_B {P w K} {σ : Sg} {H : Hp} {Q : Bool → Hp → Prop} (q : tT P w K (cB fa) σ H Q) : tD P w K fa σ H fun x H' => ∃ k, x = .bl k ∧ Q k H' := by
  obtain ⟨ρ, F, h, ρ', so, e, k⟩ := q
  unfold cB at e
  split at e
  · rename_i b ρ1 e1
    cases e
    refine ⟨ρ, F, _, _, so, e1, fun v H' F' so' st hk => ?_⟩
    cases (show Rp P w K F' v (.bl h) from hk)
    exact ⟨h, rfl, k H' F' so' st⟩
  · cases e
theorem dt_val (h : DE X a fa) (he : ∀ whole, isTrue a X.env whole = (do let v ← whole; standAt a.pos; holding [v] (truthy v)) := by intro _; rfl) : DT X a (cB fa) :=
  ptImp (pt_val h he) fun _ _ _ => tD_B
theorem tT_c2 {P w K} {g : Dat → Dat → Option Dat} {σ : Sg} {H : Hp} {Q : Bool → Hp → Prop} (q : tT P w K (cB (c2 g fa fb)) σ H Q) : tTest (tOp (rD2 P w K g) (tD P w K fa) (tD P w K fb)) σ H Q :=
  tD_c2 (tD_B q)
theorem dt_cmp {op : CmpOp} {g : Dat → Dat → Option Dat} (ho : DOp X (compareOp op) g) (ha : DE X a fa) (hb : DE X b fb) (hm : behindInMarks op b = false) : DT X (.Compare a [op] [b] pos) (cB (c2 g fa fb)) :=
  ptImp (pt_cmpR ho ha hb hm) fun _ _ _ => tT_c2
/-- a < b < c -/
def cCh (g g' : Dat → Dat → Option Dat) (fa fb fc : FE) : FE := fun ρ => (fa ρ).bind fun p => (fb p.2).bind fun q => (rv q.2 p.1).bind fun d => (rv q.2 q.1).bind fun e => match g d e with
  | some (.bl true) => (fc q.2).bind fun r => (rv r.2 q.1).bind fun e' => (rv r.2 r.1).bind fun h => (g' e' h).bind fun z => some (.dat z, r.2)
  | some (.bl false) => some (.dat (.bl false), q.2)
  | _ => none
theorem tD_ch {P w K} {g g' : Dat → Dat → Option Dat} {σ : Sg} {H : Hp} {Q : VK} (q : tD P w K (cCh g g' fa fb fc) σ H Q) : tChain (rD2 P w K g) (rD2 P w K g') (tD P w K fa) (tD P w K fb) (tD P w K fc) σ H Q := by
  obtain ⟨ρ, F, h, ρ', so, e, k⟩ := q
  simp only [cCh, Option.bind_eq_some_iff] at e
  obtain ⟨⟨h1, ρ1⟩, e1, ⟨h2, ρ2⟩, e2, d, e3, d', e4, e⟩ := e
  refine ⟨ρ, F, h1, ρ1, so, e1, fun x H1 F1 so1 st1 k1 => ⟨ρ1, F1, h2, ρ2, so1, e2, fun y H2 F2 so2 st2 k2 => ?_⟩⟩
  split at e
  · rename_i e5
    simp only [Option.bind_eq_some_iff] at e
    obtain ⟨⟨h3, ρ3⟩, e6, d2, e7, d3, e8, z, e9, e10⟩ := e
    cases e10
    refine ⟨F2, d, d', _, so2.sub, so2.view (k1.step st2) e3, so2.view k2 e4, e5, fun v H' F' n r => ?_⟩
    cases r
    refine ⟨true, rfl, ?_⟩
    refine iteT ?_
    refine ⟨ρ2, F', h3, ρ3, so2.new n, e6, fun u H3 F3 so3 st3 k3 => ?_⟩
    exact ⟨F3, d2, d3, z, so3.sub, so3.view ((k2.step n.step).step st3) e7, so3.view k3 e8, e9, fun v H' F' n' r' => k v H' F' (so3.new n') (((st1.trans st2).trans n.step).trans (st3.trans n'.step)) r'⟩
  · rename_i e5
    cases e
    refine ⟨F2, d, d', _, so2.sub, so2.view (k1.step st2) e3, so2.view k2 e4, e5, fun v H' F' n r => ?_⟩
    cases r
    refine ⟨false, rfl, ?_⟩
    refine iteF ?_
    exact k _ H' F' (so2.new n) ((st1.trans st2).trans n.step) (.bl false)
  · cases e
theorem de_chain {op op' : CmpOp} {g g' : Dat → Dat → Option Dat} (ho : DOp X (compareOp op) g) (ho' : DOp X (compareOp op') g') (ha : DE X a fa) (hb : DE X b fb) (hc : DE X c fc)
    (hm : lastMarks [op, op'] [b, c] = false := by with_unfolding_all rfl) : DE X (.Compare a [op, op'] [b, c] pos) (cCh g g' fa fb fc) :=
  peImp (pe_chain ho ho' ha hb hc hm) fun _ _ _ => tD_ch
theorem dt_chain {op op' : CmpOp} {g g' : Dat → Dat → Option Dat} (ho : DOp X (compareOp op) g) (ho' : DOp X (compareOp op') g') (ha : DE X a fa) (hb : DE X b fb) (hc : DE X c fc)
    (hm : lastMarks [op, op'] [b, c] = false := by with_unfolding_all rfl) : DT X (.Compare a [op, op'] [b, c] pos) (cB (cCh g g' fa fb fc)) :=
  ptImp (pt_chain ho ho' ha hb hc hm) fun _ _ _ q => tD_ch (tD_B q)

def cAnd (f g : FT) : FT := fun ρ => match f ρ with
  | some (true, ρ1) => g ρ1
  | some (false, ρ1) => some (false, ρ1)
  | none => none
def cOr (f g : FT) : FT := fun ρ => match f ρ with
  | some (true, ρ1) => some (true, ρ1)
  | some (false, ρ1) => g ρ1
  | none => none
def cNot (f : FT) : FT := fun ρ => match f ρ with
  | some (b, ρ1) => some (!b, ρ1)
  | none => none
theorem dw_and1 (h : DT X a ta) : DW X (.BoolOp .And [a] pos) ta := pw_and1 h
theorem dw_or1 (h : DT X a ta) : DW X (.BoolOp .Or [a] pos) ta := pw_or1 h
theorem dw_and {es : List Expr} (h : DT X a ta) (h' : DW X (.BoolOp .And (b :: es) pos) tb) : DW X (.BoolOp .And (a :: b :: es) pos) (cAnd ta tb) := pwImp (pw_and h h') fun σ H Q q => by
  obtain ⟨ρ, F, b, ρ', so, e, k⟩ := q
  unfold cAnd at e
  split at e
  · rename_i ρ1 e1
    refine ⟨ρ, F, _, _, so, e1, fun H' F' so' st => ?_⟩
    refine iteT ?_
    exact ⟨ρ1, F', b, ρ', so', e, fun H2 F2 so2 st2 => k H2 F2 so2 (st.trans st2)⟩
  · rename_i ρ1 e1
    cases e
    refine ⟨ρ, F, _, _, so, e1, fun H' F' so' st => ?_⟩
    refine iteF ?_
    exact k H' F' so' st
  · cases e
theorem dw_or {es : List Expr} (h : DT X a ta) (h' : DW X (.BoolOp .Or (b :: es) pos) tb) : DW X (.BoolOp .Or (a :: b :: es) pos) (cOr ta tb) := pwImp (pw_or h h') fun σ H Q q => by
  obtain ⟨ρ, F, b, ρ', so, e, k⟩ := q
  unfold cOr at e
  split at e
  · rename_i ρ1 e1
    cases e
    refine ⟨ρ, F, _, _, so, e1, fun H' F' so' st => ?_⟩
    refine iteT ?_
    exact k H' F' so' st
  · rename_i ρ1 e1
    refine ⟨ρ, F, _, _, so, e1, fun H' F' so' st => ?_⟩
    refine iteF ?_
    exact ⟨ρ1, F', b, ρ', so', e, fun H2 F2 so2 st2 => k H2 F2 so2 (st.trans st2)⟩
  · cases e
theorem dt_not (h : DT X a ta) : DT X (.UnaryOp .Not a pos) (cNot ta) := ptImp (pt_not h) fun σ H Q q => by
  obtain ⟨ρ, F, b, ρ', so, e, k⟩ := q
  unfold cNot at e
  split at e
  · rename_i b1 ρ1 e1
    cases e
    exact ⟨ρ, F, _, _, so, e1, fun H' F' so' st => k H' F' so' st⟩
  · cases e
theorem dt_w (h : DW X a ta) : DT X a ta := PW.pt h

/-! ### and, or, not as values; a if t else b -/
def cAndV (f g : FE) : FE := fun ρ => match f ρ with
  | some (.dat (.bl true), ρ1) => g ρ1
  | some (.dat (.bl false), ρ1) => some (.dat (.bl false), ρ1)
  | _ => none
def cOrV (f g : FE) : FE := fun ρ => match f ρ with
  | some (.dat (.bl true), ρ1) => some (.dat (.bl true), ρ1)
  | some (.dat (.bl false), ρ1) => g ρ1
  | _ => none
def cNotV (f : FE) : FE := fun ρ => match f ρ with
  | some (.dat (.bl b), ρ1) => some (.dat (.bl (!b)), ρ1)
  | _ => none
def cIf (t : FT) (f g : FE) : FE := fun ρ => match t ρ with
  | some (true, ρ1) => f ρ1
  | some (false, ρ1) => g ρ1
  | none => none
theorem go_on {P w K} {ρ ρ1 ρ' : Rho} {σ : Sg} {H H1 F F1 : Hp} {h : Hd} {Q : VK} {f : FE} (so : SO P w K ρ1 σ H1 F1) (st : Step ρ σ H F ρ1 σ H1 F1) (e : f ρ1 = some (h, ρ'))
    (k : ∀ v H' F', SO P w K ρ' σ H' F' → Step ρ σ H F ρ' σ H' F' → HdOk P w K ρ' σ H H' F' v h → Q v H') : tD P w K f σ H1 Q :=
  ⟨ρ1, F1, h, ρ', so, e, fun v H2 F2 so2 st2 k2 => k v H2 F2 so2 (st.trans st2) (k2.from st.stay)⟩
theorem de_one {op} (h : DE X a fa) : DE X (.BoolOp op [a] pos) fa := pe_one h
theorem de_and {es : List Expr} (h : DE X a fa) (h' : DE X (.BoolOp .And (b :: es) pos) fb) : DE X (.BoolOp .And (a :: b :: es) pos) (cAndV fa fb) := peImp (pe_and h h') fun σ H Q q => by
  obtain ⟨ρ, F, b, ρ', so, e, k⟩ := q
  unfold cAndV at e
  split at e
  · rename_i ρ1 e1
    refine ⟨ρ, F, _, _, so, e1, fun v H' F' so' st hk => ?_⟩
    cases (show Rp _ _ _ F' v (.bl true) from hk)
    refine ⟨true, rfl, ?_⟩
    refine iteT ?_
    exact go_on so' st e k
  · rename_i ρ1 e1
    cases e
    refine ⟨ρ, F, _, _, so, e1, fun v H' F' so' st hk => ?_⟩
    cases (show Rp _ _ _ F' v (.bl false) from hk)
    refine ⟨false, rfl, ?_⟩
    refine iteF ?_
    exact k _ H' F' so' st (.bl false)
  · cases e
theorem de_or {es : List Expr} (h : DE X a fa) (h' : DE X (.BoolOp .Or (b :: es) pos) fb) : DE X (.BoolOp .Or (a :: b :: es) pos) (cOrV fa fb) := peImp (pe_or h h') fun σ H Q q => by
  obtain ⟨ρ, F, b, ρ', so, e, k⟩ := q
  unfold cOrV at e
  split at e
  · rename_i ρ1 e1
    cases e
    refine ⟨ρ, F, _, _, so, e1, fun v H' F' so' st hk => ?_⟩
    cases (show Rp _ _ _ F' v (.bl true) from hk)
    refine ⟨true, rfl, ?_⟩
    refine iteT ?_
    exact k _ H' F' so' st (.bl true)
  · rename_i ρ1 e1
    refine ⟨ρ, F, _, _, so, e1, fun v H' F' so' st hk => ?_⟩
    cases (show Rp _ _ _ F' v (.bl false) from hk)
    refine ⟨false, rfl, ?_⟩
    refine iteF ?_
    exact go_on so' st e k
  · cases e
theorem de_not (h : DE X a fa) : DE X (.UnaryOp .Not a pos) (cNotV fa) := peImp (pe_not h) fun σ H Q q => by
  obtain ⟨ρ, F, b, ρ', so, e, k⟩ := q
  unfold cNotV at e
  split at e
  · rename_i b1 ρ1 e1
    cases e
    refine ⟨ρ, F, _, _, so, e1, fun v H' F' so' st hk => ?_⟩
    cases (show Rp _ _ _ F' v (.bl b1) from hk)
    exact ⟨b1, rfl, k _ H' F' so' st (.bl _)⟩
  · cases e
theorem de_if (ht : DT X c ta) (h : DE X a fa) (h' : DE X b fb) : DE X (.IfExp c a b pos) (cIf ta fa fb) := peImp (pe_ifExp ht h h') fun σ H Q q => by
  obtain ⟨ρ, F, b, ρ', so, e, k⟩ := q
  unfold cIf at e
  split at e
  · rename_i ρ1 e1
    refine ⟨ρ, F, _, _, so, e1, fun H' F' so' st => ?_⟩
    refine iteT ?_
    exact go_on so' st e k
  · rename_i ρ1 e1
    refine ⟨ρ, F, _, _, so, e1, fun H' F' so' st => ?_⟩
    refine iteF ?_
    exact go_on so' st e k
  · cases e

/-! ### argument lists, displays -/
abbrev FA := Rho → Option (List Dat × Rho)
def tAd (P : Program) (w : World) (K : PySem.W.Frag) (f : FA) : TA := fun σ H Q => ∃ ρ F ds ρ', SO P w K ρ σ H F ∧ f ρ = some (ds, ρ') ∧
  ∀ vs H' F', SO P w K ρ' σ H' F' → Step ρ σ H F ρ' σ H' F' → RpAll P w K F' vs ds → Q vs H'
abbrev DA (X : Cx) (es : List Expr) (f : FA) : Prop := PA X es (tAd X.prog X.w X.K f)
theorem paImp {es : List Expr} {t t' : TA} (h : PA X es t) (i : ∀ σ H Q, t' σ H Q → t σ H Q) : PA X es t' := ⟨fun pos pins s σ H Q I q => h.run pos pins s σ H Q I (i σ H Q q)⟩
def aNil : FA := fun ρ => some ([], ρ)
def aCons (f : FE) (g : FA) : FA := fun ρ => match cFz f ρ with
  | some (.dat d, ρ1) => (g ρ1).bind fun p => some (d :: p.1, p.2)
  | _ => none
theorem da_nil : DA X [] aNil := paImp pa_nil fun σ H Q q => by
  obtain ⟨ρ, F, b, ρ', so, e, k⟩ := q
  cases e
  exact k [] H F so Step.refl .nil
theorem da_cons {es : List Expr} {g : FA} (h : DE X a fa) (h' : DA X es g) (hs : starEach (a :: es) X.env = (false, eval a X.env) :: starEach es X.env := by rfl) : DA X (a :: es) (aCons fa g) := paImp (pa_cons (de_fz h) h' hs) fun σ H Q q => by
  obtain ⟨ρ, F, b, ρ', so, e, k⟩ := q
  unfold aCons at e
  split at e
  · rename_i d ρ1 e1
    simp only [Option.bind_eq_some_iff] at e
    obtain ⟨⟨ds, ρ2⟩, e2, e3⟩ := e
    cases e3
    refine ⟨ρ, F, _, _, so, e1, fun v H' F' so' st hk => ⟨ρ1, F', ds, _, so', e2, fun vs H2 F2 so2 st2 r => ?_⟩⟩
    exact k (v :: vs) H2 F2 so2 (st.trans st2) (.cons (Rp.sub (show Rp _ _ _ F' v d from hk) st2.subF) r)
  · cases e
def cTup (f : FA) : FE := fun ρ => match f ρ with
  | some (ds, ρ1) => if ds.length < 1000 then some (.dat (.tup ds), ρ1) else none
  | none => none
def cLst (f : FA) : FE := fun ρ => match f ρ with
  | some (ds, ρ1) => if ds.length < 1000 then some (.new (.lst ds), ρ1) else none
  | none => none
theorem fits1000 {n : Nat} (h : n < 1000) : n ≤ sizeLine := Nat.le_of_lt (Nat.lt_of_lt_of_le h (by decide))
theorem de_tup {es : List Expr} {f : FA} {x1} (h : DA X es f) : DE X (.Tuple es x1 pos) (cTup f) := peImp (pe_tupF h) fun σ H Q q => by
  obtain ⟨ρ, F, b, ρ', so, e, k⟩ := q
  unfold cTup at e
  split at e
  · rename_i ds ρ1 e1
    split at e
    · rename_i hl
      cases e
      refine ⟨ρ, F, _, _, so, e1, fun vs H' F' so' st r => ⟨by rw [r.length]; exact fits1000 hl, fun p o hp ho => ?_⟩⟩
      have n := New.one (o := .frz o (.tup vs)) so'.sub hp
      exact k _ _ _ (so'.new n) (st.trans n.step) (.tup (.inl ⟨o, upd_same, ho⟩) (r.sub n.subF))
    · cases e
  · cases e
theorem de_lst {es : List Expr} {f : FA} (h : DA X es f) : DE X (.List es pos) (cLst f) := peImp (pe_lst h) fun σ H Q q => by
  obtain ⟨ρ, F, b, ρ', so, e, k⟩ := q
  unfold cLst at e
  split at e
  · rename_i ds ρ1 e1
    split at e
    · rename_i hl
      cases e
      refine ⟨ρ, F, _, _, so, e1, fun vs H' F' so' st r => ⟨by rw [r.length]; exact fits1000 hl, fun p hp => ?_⟩⟩
      have hf : F' p = none := by
        cases q : F' p with
        | none => rfl
        | some u => rw [so'.sub _ _ q] at hp; cases hp
      have n : New H' F' (upd H' p (.lst vs)) F' := ⟨Sub.refl, fun _ _ z => .inl z, sub_upd hp, so'.sub.trans (sub_upd hp)⟩
      refine k _ _ _ (so'.new n) (st.trans n.step) ⟨p, rfl, .lst upd_same r, hf, fun z => ?_, ?_⟩
      · obtain ⟨i, b, d, z1, z2⟩ := z
        obtain ⟨c, y1, y2, y3⟩ := so'.own i b d z1
        rw [y1] at z2; cases z2
        obtain ⟨o, ho⟩ := y3.there
        rw [hp] at ho; cases ho
      · cases q : H p with
        | none => rfl
        | some u =>
          obtain ⟨u', z⟩ := st.stay p u q
          rw [hp] at z; cases z
    · cases e
  · cases e
end
end Dl

set_option Elab.async false
set_option linter.all false
set_option maxRecDepth 100000
set_option maxHeartbeats 4000000
/-! DD: targets, statements, loops. -/
namespace Dl
open PySem PySem.Spec PyProof.Rows L2

section
variable {P : Program} {w : World} {K : PySem.W.Frag} {ρ ρ' : Rho} {σ σ' : Sg} {H F : Hp} {i : Nat} {v : V} {d : Dat}
theorem setNe {α : Type} {l : List α} {i j : Nat} {x y : α} (h : (l.set i x)[j]? = some y) (n : i ≠ j) : l[j]? = some y := by
  rwa [List.getElem?_set_ne n] at h
theorem setEq {α : Type} {l : List α} {i : Nat} {x y : α} (h : (l.set i x)[i]? = some y) : x = y := by
  by_cases hl : i < l.length
  · rw [List.getElem?_set_self hl] at h; exact Option.some.inj h
  · rw [List.getElem?_eq_none (by rw [List.length_set]; omega)] at h; cases h
theorem SO.setVal (so : SO P w K ρ σ H F) (r : Rp P w K F v d) (hi : i < ρ.length) : SO P w K (ρ.set i (.val d)) (σ.set i (some v)) H F where
  sub := so.sub
  len := by rw [List.length_set, List.length_set, so.len]
  val := fun j e h => by
    by_cases hj : i = j
    · subst hj
      cases setEq h
      exact ⟨v, List.getElem?_set_self (by rw [← so.len]; exact hi), r⟩
    · obtain ⟨u, h1, h2⟩ := so.val j e (setNe h hj)
      exact ⟨u, by rw [List.getElem?_set_ne hj]; exact h1, h2⟩
  own := fun j b e h => by
    by_cases hj : i = j
    · subst hj
      cases setEq h
    · obtain ⟨u, h1, h2⟩ := so.own j b e (setNe h hj)
      exact ⟨u, by rw [List.getElem?_set_ne hj]; exact h1, h2⟩
  inj := fun j k b c e e' a h1 h2 h3 h4 => by
    by_cases hj : i = j
    · subst hj
      cases setEq h1
    · by_cases hk : i = k
      · subst hk
        cases setEq h2
      · exact so.inj j k b c e e' a (setNe h1 hj) (setNe h2 hk) (setNe h3 hj) (setNe h4 hk)
theorem IsOwn.ofSetVal {a : Addr} {u : Option V} (h : IsOwn (ρ.set i (.val d)) (σ.set i u) a) : IsOwn ρ σ a := by
  obtain ⟨j, b, e, h1, h2⟩ := h
  by_cases hj : i = j
  · subst hj
    cases setEq h1
  · exact ⟨j, b, e, setNe h1 hj, setNe h2 hj⟩
/-- slot i may be stored to -/
def free (ρ : Rho) (i : Nat) : Bool := match ρ[i]? with
  | some (.own true _) => false
  | some _ => true
  | none => false
theorem free_lt (h : free ρ i = true) : i < ρ.length := by
  unfold free at h
  split at h
  · cases h
  · rename_i e; exact (List.getElem?_eq_some_iff.mp e).1
  · cases h
theorem free_ne {j : Nat} {e : Dat} (h : free ρ i = true) (hj : ρ[j]? = some (.own true e)) : i ≠ j := by
  rintro rfl
  unfold free at h
  rw [hj] at h
  cases h
theorem Step.setVal (hf : free ρ i = true) : Step ρ σ H F (ρ.set i (.val d)) (σ.set i (some v)) H F :=
  ⟨Sub.refl, fun _ _ h => .inl h, fun _ _ h _ => h, fun _ h => .inl h.ofSetVal, fun _ o h => ⟨o, h⟩, fun j e h =>
    ⟨⟨e, by rw [List.getElem?_set_ne (free_ne hf h)]; exact h⟩, by rw [List.getElem?_set_ne (free_ne hf h)]⟩⟩
theorem SO.setOwn {a : Addr} (so : SO P w K ρ σ H F) (ow : Own P w K H F a d) (hF : F a = none) (hn : ¬ IsOwn ρ σ a) (hi : i < ρ.length) :
    SO P w K (ρ.set i (.own false d)) (σ.set i (some (.ref a))) H F where
  sub := so.sub
  len := by rw [List.length_set, List.length_set, so.len]
  val := fun j e h => by
    by_cases hj : i = j
    · subst hj
      cases setEq h
    · obtain ⟨u, h1, h2⟩ := so.val j e (setNe h hj)
      exact ⟨u, by rw [List.getElem?_set_ne hj]; exact h1, h2⟩
  own := fun j b e h => by
    by_cases hj : i = j
    · subst hj
      cases setEq h
      exact ⟨a, List.getElem?_set_self (by rw [← so.len]; exact hi), hF, ow⟩
    · obtain ⟨u, h1, h2⟩ := so.own j b e (setNe h hj)
      exact ⟨u, by rw [List.getElem?_set_ne hj]; exact h1, h2⟩
  inj := fun j k b c e e' x h1 h2 h3 h4 => by
    by_cases hj : i = j
    · subst hj
      by_cases hk : i = k
      · exact hk
      · have := setEq h3
        cases this
        exact (hn ⟨k, c, e', setNe h2 hk, setNe h4 hk⟩).elim
    · by_cases hk : i = k
      · subst hk
        have := setEq h4
        cases this
        exact (hn ⟨j, b, e, setNe h1 hj, setNe h3 hj⟩).elim
      · exact so.inj j k b c e e' x (setNe h1 hj) (setNe h2 hk) (setNe h3 hj) (setNe h4 hk)
theorem Step.setOwn {ρ0 : Rho} {H0 F0 : Hp} {a : Addr} (st : Step ρ0 σ H0 F0 ρ σ H F) (h0 : H0 a = none) (hf : free ρ i = true) :
    Step ρ0 σ H0 F0 (ρ.set i (.own false d)) (σ.set i (some (.ref a))) H F := by
  refine ⟨st.subF, st.fresh, st.keep, fun b h => ?_, st.stay, fun j e h => ?_⟩
  · obtain ⟨j, c, e, h1, h2⟩ := h
    by_cases hj : i = j
    · subst hj
      have := setEq h2
      cases this
      exact .inr h0
    · exact st.own b ⟨j, c, e, setNe h1 hj, setNe h2 hj⟩
  · obtain ⟨⟨e', h1⟩, h2⟩ := st.par j e h
    exact ⟨⟨e', by rw [List.getElem?_set_ne (free_ne hf h1)]; exact h1⟩, by rw [List.getElem?_set_ne (free_ne hf h1)]⟩
end

/-! ### targets -/
/-- outside the places vs all stands as it stood -/
def Out (vs : List Nat) (σ σ' : Sg) : Prop := σ'.length = σ.length ∧ ∀ j : Nat, j ∉ vs → σ'[j]? = σ[j]?
abbrev FG := Dat → Rho → Option Rho
def tGd (P : Program) (w : World) (K : PySem.W.Frag) (vs : List Nat) (g : FG) : TG := fun v σ H Q => ∃ ρ F d ρ', SO P w K ρ σ H F ∧ Rp P w K F v d ∧ g d ρ = some ρ' ∧
  ∀ σ', SO P w K ρ' σ' H F → Step ρ σ H F ρ' σ' H F → Out vs σ σ' → Q σ' H
abbrev DG (X : Cx) (tg : Expr) (vs : List Nat) (g : FG) : Prop := PG X tg (tGd X.prog X.w X.K vs g)
abbrev FGs := List Dat → Rho → Option Rho
def tGs (P : Program) (w : World) (K : PySem.W.Frag) (vs : List Nat) (g : FGs) : TGs := fun us σ H Q => ∃ ρ F ds ρ', SO P w K ρ σ H F ∧ RpAll P w K F us ds ∧ g ds ρ = some ρ' ∧
  ∀ σ', SO P w K ρ' σ' H F → Step ρ σ H F ρ' σ' H F → Out vs σ σ' → Q σ' H
abbrev DGs (X : Cx) (ts : List Expr) (vs : List Nat) (g : FGs) : Prop := PGs X ts (tGs X.prog X.w X.K vs g)
theorem pgImp {X : Cx} {e : Expr} {t t' : TG} (h : PG X e t) (i : ∀ v σ H Q, t' v σ H Q → t v σ H Q) : PG X e t' := ⟨fun pins s σ H v u Q I r q => h.run pins s σ H v u Q I r (i v σ H Q q)⟩
theorem pgsImp {X : Cx} {e : List Expr} {t t' : TGs} (h : PGs X e t) (i : ∀ v σ H Q, t' v σ H Q → t v σ H Q) : PGs X e t' := ⟨fun pins s σ H v u Q I r q => h.run pins s σ H v u Q I r (i v σ H Q q)⟩
def gN (i : Nat) : FG := fun d ρ => if free ρ i = true then some (ρ.set i (.val d)) else none
def gNil' : FGs := fun ds ρ => match ds with
  | [] => some ρ
  | _ => none
def gCons' (g : FG) (gs : FGs) : FGs := fun ds ρ => match ds with
  | d :: ds => (g d ρ).bind (gs ds)
  | [] => none
def gT (n : Nat) (gs : FGs) : FG := fun d ρ => match d with
  | .tup ds => if ds.length = n then gs ds ρ else none
  | .wtp ds => if ds.length = n then gs ds ρ else none
  | _ => none
section
variable {X : Cx} {pos : Pos}
theorem gN_imp {P w K i v σ H Q} (q : tGd P w K [i] (gN i) v σ H Q) : gName i v σ H Q := by
  obtain ⟨ρ, F, d, ρ', so, r, e, k⟩ := q
  unfold gN at e
  split at e
  · rename_i hf
    cases e
    exact k _ (so.setVal r (free_lt hf)) (Step.setVal hf) ⟨List.length_set, fun j hj => by
      rw [List.getElem?_set_ne]
      simp only [List.mem_singleton] at hj
      exact fun z => hj z.symm⟩
  · cases e
theorem dg_n {i : Nat} {x : Str} (h : PG X (.Name x pos) (gName i)) : DG X (.Name x pos) [i] (gN i) := pgImp h fun _ _ _ _ => gN_imp
theorem dgs_nil : DGs X [] [] gNil' := pgsImp pgs_nil fun us σ H Q q => by
  obtain ⟨ρ, F, d, ρ', so, r, e, k⟩ := q
  cases r with
  | nil =>
    cases e
    exact ⟨rfl, k σ so Step.refl ⟨rfl, fun _ _ => rfl⟩⟩
  | cons _ _ => cases e
theorem dgs_cons {e : Expr} {es : List Expr} {vs us : List Nat} {g : FG} {gs : FGs} (h1 : DG X e vs g) (h2 : DGs X es us gs)
    (hs : (assignEach (e :: es) X.env).map (·.2) = assign e X.env :: (assignEach es X.env).map (·.2) := by rfl) : DGs X (e :: es) (vs ++ us) (gCons' g gs) := pgsImp (pgs_cons h1 h2 hs) fun xs σ H Q q => by
  obtain ⟨ρ, F, d, ρ', so, r, e, k⟩ := q
  cases r with
  | nil => cases e
  | @cons x xs d ds r rs =>
    simp only [gCons', Option.bind_eq_some_iff] at e
    obtain ⟨ρ1, e1, e2⟩ := e
    refine ⟨x, xs, rfl, ρ, F, d, ρ1, so, r, e1, fun σ1 so1 st1 n1 => ⟨ρ1, F, ds, ρ', so1, rs, e2, fun σ2 so2 st2 n2 => ?_⟩⟩
    refine k σ2 so2 (st1.trans st2) ⟨n2.1.trans n1.1, fun j hj => ?_⟩
    simp only [List.mem_append, not_or] at hj
    exact (n2.2 j hj.2).trans (n1.2 j hj.1)
theorem dg_t {es : List Expr} {k : Nat} {vs : List Nat} {gs : FGs} {n : Nat} (hc : X.calm = true) (h : DGs X es vs gs)
    (hn : (assignEach es X.env).length = n := by rfl) (hst : (assignEach es X.env).findIdx? (·.1) = none := by rfl) : DG X (.Tuple es k pos) vs (gT n gs) := pgImp (pg_tup hc h hn hst) fun v σ H Q q => by
  obtain ⟨ρ, F, d, ρ', so, r, e, k⟩ := q
  unfold gT at e
  split at e
  · rename_i ds
    split at e
    · rename_i hl
      cases r with
      | tup hs ra => exact ⟨_, _, rfl, so.sub.ext.sqT hs.sq, by rw [ra.length]; exact hl, ρ, F, ds, ρ', so, ra, e, k⟩
    · cases e
  · rename_i ds
    split at e
    · rename_i hl
      cases r with
      | wtp hs ra => exact ⟨_, _, rfl, so.sub.ext.sqT hs, by rw [ra.length]; exact hl, ρ, F, ds, ρ', so, ra, e, k⟩
    · cases e
  · cases e
end

/-! ### statements -/
inductive Ctl where
  | nx
  | rt (d : Dat)
  | rn (d : Dat)
  | bk
  | ct
abbrev FS := Rho → Option (Rho × Ctl)
def After (P : Program) (w : World) (K : PySem.W.Frag) (ρ : Rho) (σ : Sg) (H : Hp) (D : Ends) (ρ' : Rho) (σ' : Sg) (H' F' : Hp) : Ctl → Prop
  | .nx => D.nx σ' H'
  | .bk => D.bk σ' H'
  | .ct => D.ct σ' H'
  | .rt d => ∀ v, Rp P w K F' v d → D.rt v H'
  | .rn d => ∀ a, Own P w K H' F' a d → F' a = none → ¬ IsOwn ρ' σ' a → (H a = none ∨ IsOwn ρ σ a) → D.rt (.ref a) H'
def tSd (P : Program) (w : World) (K : PySem.W.Frag) (f : FS) : TS := fun D σ H => ∃ ρ F ρ' c, SO P w K ρ σ H F ∧ f ρ = some (ρ', c) ∧
  ∀ σ' H' F', SO P w K ρ' σ' H' F' → Step ρ σ H F ρ' σ' H' F' → After P w K ρ σ H D ρ' σ' H' F' c
abbrev DS (X : Cx) (st : Stmt) (f : FS) : Prop := PS X st (tSd X.prog X.w X.K f)
abbrev DSs (X : Cx) (sts : List Stmt) (f : FS) : Prop := PSs X sts (tSd X.prog X.w X.K f)
theorem psImp {X : Cx} {e : Stmt} {t t' : TS} (h : PS X e t) (i : ∀ D σ H, t' D σ H → t D σ H) : PS X e t' := ⟨fun pins s σ H D I q => h.run pins s σ H D I (i D σ H q)⟩
theorem pssImp {X : Cx} {e : List Stmt} {t t' : TS} (h : PSs X e t) (i : ∀ D σ H, t' D σ H → t D σ H) : PSs X e t' := ⟨fun pins s σ H D I q => h.run pins s σ H D I (i D σ H q)⟩
def sNil : FS := fun ρ => some (ρ, .nx)
def sSeq (f g : FS) : FS := fun ρ => match f ρ with
  | some (ρ1, .nx) => g ρ1
  | r => r
/-- what follows, seen from the beginning -/
theorem After.from {P w K ρ0 σ0 H0 F0 ρ σ H F ρ' σ' H' F' D c} (st : Step ρ0 σ0 H0 F0 ρ σ H F) (a : After P w K ρ0 σ0 H0 D ρ' σ' H' F' c) : After P w K ρ σ H D ρ' σ' H' F' c := by
  cases c with
  | rn d =>
    intro p h1 h2 h3 h4
    refine a p h1 h2 h3 ?_
    rcases h4 with h4 | h4
    · refine .inl ?_
      cases q : H0 p with
      | none => rfl
      | some u =>
        obtain ⟨u', z⟩ := st.stay p u q
        rw [h4] at z; cases z
    · exact (st.own p h4).symm
  | _ => exact a
theorem goS {P w K} {ρ ρ1 ρ' : Rho} {σ σ1 : Sg} {H H1 F F1 : Hp} {c : Ctl} {D : Ends} {f : FS} (so : SO P w K ρ1 σ1 H1 F1) (st : Step ρ σ H F ρ1 σ1 H1 F1) (e : f ρ1 = some (ρ', c))
    (k : ∀ σ' H' F', SO P w K ρ' σ' H' F' → Step ρ σ H F ρ' σ' H' F' → After P w K ρ σ H D ρ' σ' H' F' c) : tSd P w K f D σ1 H1 :=
  ⟨ρ1, F1, ρ', c, so, e, fun σ2 H2 F2 so2 st2 => (k σ2 H2 F2 so2 (st.trans st2)).from st⟩
section
variable {X : Cx} {pos : Pos}
theorem dss_nil : DSs X [] sNil := pssImp pss_nil fun D σ H q => by
  obtain ⟨ρ, F, ρ', c, so, e, k⟩ := q
  cases e
  exact k σ H F so Step.refl
theorem dss_one {st : Stmt} {f : FS} (h : DS X st f) : DSs X [st] f := pss_one h
theorem dss_cons {st : Stmt} {r : List Stmt} {f g : FS} (h : DS X st f) (h' : DSs X r g) : DSs X (st :: r) (sSeq f g) := pssImp (pss_cons h h') fun D σ H q => by
  obtain ⟨ρ, F, ρ', c, so, e, k⟩ := q
  unfold sSeq at e
  split at e
  · rename_i ρ1 e1
    exact ⟨ρ, F, ρ1, .nx, so, e1, fun σ1 H1 F1 so1 st1 => goS so1 st1 e k⟩
  · rename_i hne
    refine ⟨ρ, F, ρ', c, so, e, fun σ1 H1 F1 so1 st1 => ?_⟩
    have q := k σ1 H1 F1 so1 st1
    cases c with
    | nx => exact (hne _ e).elim
    | _ => exact q
def sEx (f : FE) : FS := fun ρ => match f ρ with
  | some (_, ρ1) => some (ρ1, .nx)
  | none => none
theorem ds_expr {e : Expr} {f : FE} (h : DE X e f) (hs : swapsWith e none pos.line X.env = pure false := by rfl) : DS X (.Expr e pos) (sEx f) := psImp (ps_expr h hs) fun D σ H q => by
  obtain ⟨ρ, F, ρ', c, so, e, k⟩ := q
  unfold sEx at e
  split at e
  · rename_i h' ρ1 e1
    cases e
    exact ⟨ρ, F, _, _, so, e1, fun v H1 F1 so1 st1 _ => k σ H1 F1 so1 st1⟩
  · cases e
theorem ds_doc {x j pos'} : DS X (.Expr (.Constant (.str x) j pos) pos') sNil := psImp ps_doc fun D σ H q => by
  obtain ⟨ρ, F, ρ', c, so, e, k⟩ := q
  cases e
  exact k σ H F so Step.refl
theorem ds_pass : DS X (.Pass pos) sNil := psImp ps_pass fun D σ H q => by
  obtain ⟨ρ, F, ρ', c, so, e, k⟩ := q
  cases e
  exact k σ H F so Step.refl
def sBk : FS := fun ρ => some (ρ, .bk)
def sCt : FS := fun ρ => some (ρ, .ct)
theorem ds_break : DS X (.Break pos) sBk := psImp ps_break fun D σ H q => by
  obtain ⟨ρ, F, ρ', c, so, e, k⟩ := q
  cases e
  exact k σ H F so Step.refl
theorem ds_continue : DS X (.Continue pos) sCt := psImp ps_continue fun D σ H q => by
  obtain ⟨ρ, F, ρ', c, so, e, k⟩ := q
  cases e
  exact k σ H F so Step.refl
def unOwn (ρ : Rho) (i : Nat) : Rho := ρ.set i .un
def sRet (f : FE) : FS := fun ρ => match f ρ with
  | some (.dat d, ρ1) => some (ρ1, .rt d)
  | some (.new d, ρ1) => some (ρ1, .rn d)
  | some (.slot i, ρ1) => match ρ1[i]? with
    | some (.own false d) => some (ρ1.set i .un, .rn d)
    | _ => none
  | none => none
theorem SO.setUn {P w K ρ σ H F} (so : SO P w K ρ σ H F) (i : Nat) : SO P w K (ρ.set i .un) σ H F where
  sub := so.sub
  len := by rw [List.length_set, so.len]
  val := fun j e h => by
    by_cases hj : i = j
    · subst hj; cases setEq h
    · exact so.val j e (setNe h hj)
  own := fun j b e h => by
    by_cases hj : i = j
    · subst hj; cases setEq h
    · exact so.own j b e (setNe h hj)
  inj := fun j k b c e e' a h1 h2 => by
    by_cases hj : i = j
    · subst hj; cases setEq h1
    · by_cases hk : i = k
      · subst hk; cases setEq h2
      · exact so.inj j k b c e e' a (setNe h1 hj) (setNe h2 hk)
theorem IsOwn.ofSetUn {ρ : Rho} {σ : Sg} {i : Nat} {a : Addr} (h : IsOwn (ρ.set i .un) σ a) : IsOwn ρ σ a := by
  obtain ⟨j, b, e, h1, h2⟩ := h
  by_cases hj : i = j
  · subst hj; cases setEq h1
  · exact ⟨j, b, e, setNe h1 hj, h2⟩
theorem Step.setUn {ρ σ H F} {i : Nat} (hf : ∀ d, ρ[i]? ≠ some (.own true d)) : Step ρ σ H F (ρ.set i .un) σ H F :=
  ⟨Sub.refl, fun _ _ h => .inl h, fun _ _ h _ => h, fun _ h => .inl h.ofSetUn, fun _ o h => ⟨o, h⟩, fun j e h => by
    have hj : i ≠ j := by rintro rfl; exact hf e h
    exact ⟨⟨e, by rw [List.getElem?_set_ne hj]; exact h⟩, rfl⟩⟩
theorem ds_ret {e : Expr} {f : FE} (h : DE X e f) : DS X (.Return (some e) pos) (sRet f) := psImp (ps_ret h) fun D σ H q => by
  obtain ⟨ρ, F, ρ', c, so, e, k⟩ := q
  unfold sRet at e
  split at e
  · rename_i d ρ1 e1
    cases e
    exact ⟨ρ, F, _, _, so, e1, fun v H1 F1 so1 st1 r => k σ H1 F1 so1 st1 v r⟩
  · rename_i d ρ1 e1
    cases e
    refine ⟨ρ, F, _, _, so, e1, fun v H1 F1 so1 st1 r => ?_⟩
    obtain ⟨a, rfl, h1, h2, h3, h4⟩ := r
    exact k σ H1 F1 so1 st1 a h1 h2 h3 (.inl h4)
  · rename_i i ρ1 e1
    split at e
    · rename_i d e2
      cases e
      refine ⟨ρ, F, _, _, so, e1, fun v H1 F1 so1 st1 r => ?_⟩
      have hv : σ[i]? = some (some v) := r
      obtain ⟨a, y1, y2, y3⟩ := so1.own i false d e2
      rw [hv] at y1; cases y1
      have hs : Step ρ1 σ H1 F1 (ρ1.set i .un) σ H1 F1 := Step.setUn fun d' z => by rw [e2] at z; cases z
      refine k σ H1 F1 (so1.setUn i) (st1.trans hs) a y3 y2 (fun z => ?_) (st1.own a ⟨i, false, d, e2, hv⟩).symm
      obtain ⟨j, b, e', z1, z2⟩ := z
      by_cases hj : i = j
      · subst hj; cases setEq z1
      · exact hj (so1.inj i j false b d e' a e2 (setNe z1 hj) hv z2)
    · cases e
  · cases e
def sRetN : FS := fun ρ => some (ρ, .rt .non)
theorem ds_retN : DS X (.Return none pos) sRetN := psImp ps_retN fun D σ H q => by
  obtain ⟨ρ, F, ρ', c, so, e, k⟩ := q
  cases e
  exact k σ H F so Step.refl .non .non
def sIf (t : FT) (f g : FS) : FS := fun ρ => match t ρ with
  | some (true, ρ1) => f ρ1
  | some (false, ρ1) => g ρ1
  | none => none
theorem ds_if {c : Expr} {a b : List Stmt} {t : FT} {f g : FS} (hc : DT X c t) (ha : DSs X a f) (hb : DSs X b g) : DS X (.If c a b pos) (sIf t f g) := psImp (ps_if hc ha hb) fun D σ H q => by
  obtain ⟨ρ, F, ρ', c, so, e, k⟩ := q
  unfold sIf at e
  split at e
  · rename_i ρ1 e1
    refine ⟨ρ, F, _, _, so, e1, fun H1 F1 so1 st1 => ?_⟩
    refine iteT ?_
    exact goS so1 st1 e k
  · rename_i ρ1 e1
    refine ⟨ρ, F, _, _, so, e1, fun H1 F1 so1 st1 => ?_⟩
    refine iteF ?_
    exact goS so1 st1 e k
  · cases e
/-- what no run reaches -/
def sNo : FS := fun _ => none
theorem ds_no {st : Stmt} : DS X st sNo := psImp ps_never fun D σ H q => by
  obtain ⟨ρ, F, ρ', c, so, e, k⟩ := q
  cases e
theorem dss_no {st : List Stmt} : DSs X st sNo := pssImp pss_never fun D σ H q => by
  obtain ⟨ρ, F, ρ', c, so, e, k⟩ := q
  cases e
/-- target = value: a datum -/
def sAsg (f : FE) (g : FG) : FS := fun ρ => match cFz f ρ with
  | some (.dat d, ρ1) => (g d ρ1).bind fun ρ2 => some (ρ2, .nx)
  | _ => none
theorem sAsg_imp {P w K f g vs D σ H} (q : tSd P w K (sAsg f g) D σ H) : tAsg (tD P w K f) (tGd P w K vs g) D σ H := by
  obtain ⟨ρ, F, ρ', c, so, e, k⟩ := q
  unfold sAsg at e
  split at e
  · rename_i d ρ1 e1
    simp only [Option.bind_eq_some_iff] at e
    obtain ⟨ρ2, e2, e3⟩ := e
    cases e3
    refine tD_fz ⟨ρ, F, _, _, so, e1, fun v H1 F1 so1 st1 r => ?_⟩
    exact ⟨ρ1, F1, d, _, so1, r, e2, fun σ2 so2 st2 _ => k σ2 H1 F1 so2 (st1.trans st2)⟩
  · cases e
theorem ds_asg {tg e : Expr} {f : FE} {g : FG} {vs : List Nat} (he : DE X e f) (hg : DG X tg vs g) (hs : swapsWithSole [tg] e pos.line X.env = pure false := by rfl) (hw : swappedStores [tg] e X.env = pure none := by rfl)
    (h1 : (assignEach [tg] X.env).map (·.2) = [assign tg X.env] := by rfl) : DS X (.Assign [tg] e pos) (sAsg f g) := psImp (ps_asg he hg hs hw h1) fun _ _ _ => sAsg_imp
/-- name = value, whatever statement it is -/
theorem ds_set {st : Stmt} {i : Nat} {f : FE} (h : PS X st (tAsg (tD X.prog X.w X.K f) (gName i))) : DS X st (sAsg f (gN i)) := psImp h fun D σ H q => by
  have q1 := sAsg_imp (vs := [i]) q
  obtain ⟨ρ, F, h, ρ', so, e, k⟩ := q1
  exact ⟨ρ, F, h, ρ', so, e, fun v H1 F1 so1 st1 r => gN_imp (k v H1 F1 so1 st1 r)⟩
/-- name = a new object, one's own -/
def sOwn (i : Nat) (f : FE) : FS := fun ρ => match f ρ with
  | some (.new d, ρ1) => if free ρ1 i = true then some (ρ1.set i (.own false d), .nx) else none
  | _ => none
theorem ds_own {st : Stmt} {i : Nat} {f : FE} (h : PS X st (tAsg (tD X.prog X.w X.K f) (gName i))) : DS X st (sOwn i f) := psImp h fun D σ H q => by
  obtain ⟨ρ, F, ρ', c, so, e, k⟩ := q
  unfold sOwn at e
  split at e
  · rename_i d ρ1 e1
    split at e
    · rename_i hf
      cases e
      refine ⟨ρ, F, _, _, so, e1, fun v H1 F1 so1 st1 r => ?_⟩
      obtain ⟨a, rfl, h1, h2, h3, h4⟩ := r
      exact k _ H1 F1 (so1.setOwn h1 h2 h3 (free_lt hf)) (st1.setOwn h4 hf)
    · cases e
  · cases e
/-- an object of one's own is given up: it never changes from here on -/
def sFz (i : Nat) (f : FS) : FS := fun ρ => match ρ[i]? with
  | some (.own false d) => f (ρ.set i (.val d))
  | _ => f ρ
theorem tS_fz {P w K i f D σ H} (q : tSd P w K (sFz i f) D σ H) : tSd P w K f D σ H := by
  obtain ⟨ρ, F, ρ', c, so, e, k⟩ := q
  unfold sFz at e
  split at e
  · rename_i d e1
    obtain ⟨a, h1, h2, h3⟩ := so.own i false d e1
    obtain ⟨o, ho⟩ := h3.there
    have hi : i < ρ.length := (List.getElem?_eq_some_iff.mp e1).1
    have rp := h3.rp ho h2
    have un := so.setUn i
    have hn : ¬ IsOwn (ρ.set i .un) σ a := fun z => by
      obtain ⟨j, b, e', z1, z2⟩ := z
      by_cases hj : i = j
      · subst hj; cases setEq z1
      · exact hj (so.inj i j false b d e' a e1 (setNe z1 hj) h1 z2)
    have so2 := (un.fz ho h2 hn).setVal (i := i) rp (by rw [List.length_set]; exact hi)
    have es : σ.set i (some (V.ref a)) = σ := by
      apply List.ext_getElem?
      intro j
      by_cases hj : i = j
      · subst hj
        rw [h1]
        exact List.getElem?_set_self (by rw [← so.len]; exact hi)
      · rw [List.getElem?_set_ne hj]
    rw [es, List.set_set] at so2
    have st2 : Step ρ σ H F (ρ.set i (.val d)) σ H (upd F a o) := by
      refine ⟨sub_upd h2, fun b u z => ?_, fun _ _ z _ => z, fun b z => ?_, fun _ u z => ⟨u, z⟩, fun j e' z => ?_⟩
      · by_cases hb : b = a
        · subst hb; exact .inr (.inr ⟨i, false, d, e1, h1⟩)
        · rw [upd_ne hb] at z; exact .inl z
      · obtain ⟨j, b', e', z1, z2⟩ := z
        by_cases hj : i = j
        · subst hj; cases setEq z1
        · exact .inl ⟨j, b', e', setNe z1 hj, z2⟩
      · have hj : i ≠ j := by rintro rfl; rw [e1] at z; cases z
        exact ⟨⟨e', by rw [List.getElem?_set_ne hj]; exact z⟩, rfl⟩
    exact goS so2 st2 e k
  · exact ⟨ρ, F, ρ', c, so, e, k⟩
theorem ds_fz {st : Stmt} {i : Nat} {f : FS} (h : DS X st f) : DS X st (sFz i f) := psImp h fun _ _ _ => tS_fz
theorem dss_fz {st : List Stmt} {i : Nat} {f : FS} (h : DSs X st f) : DSs X st (sFz i f) := pssImp h fun _ _ _ => tS_fz
end
end Dl

set_option Elab.async false
set_option linter.all false
set_option maxRecDepth 100000
set_option maxHeartbeats 4000000
/-! DF: loops, comprehensions. -/
namespace Dl
open PySem PySem.Spec PyProof.Rows L2

def whl : Nat → FT → FS → Rho → Option (Rho × Ctl)
  | 0, _, _, _ => none
  | n + 1, c, b, ρ => match c ρ with
    | some (true, ρ1) => match b ρ1 with
      | some (ρ2, .nx) => whl n c b ρ2
      | some (ρ2, .ct) => whl n c b ρ2
      | some (ρ2, .bk) => some (ρ2, .nx)
      | r => r
    | some (false, ρ1) => some (ρ1, .nx)
    | none => none
def sWh (μ : Rho → Nat) (c : FT) (b : FS) : FS := fun ρ => whl (μ ρ) c b ρ
section
variable {X : Cx} {pos : Pos}
theorem ds_while {c : Expr} {body : List Stmt} {t : FT} {f : FS} (μ : Rho → Nat) (hp : PassesOwn (model X.prog X.w) X.A X.env X.xe) (hc : DT X c t) (hb : DSs X body f) : DS X (.While c body [] pos) (sWh μ t f) := psImp (ps_while hp hc hb) fun D σ H q => by
  obtain ⟨ρ, F, ρ', c, so, e, k⟩ := q
  refine ⟨fun m σ1 H1 => ∃ ρ1 F1, SO X.prog X.w X.K ρ1 σ1 H1 F1 ∧ Step ρ σ H F ρ1 σ1 H1 F1 ∧ whl m t f ρ1 = some (ρ', c), ⟨_, ρ, F, so, Step.refl, e⟩, ?_⟩
  rintro m σ1 H1 ⟨ρ1, F1, so1, st1, e1⟩
  cases m with
  | zero => cases e1
  | succ m =>
    simp only [whl] at e1
    split at e1
    · rename_i ρ2 e2
      refine ⟨ρ1, F1, _, _, so1, e2, fun H2 F2 so2 st2 => ?_⟩
      refine iteT ⟨fun σ3 H3 => ∃ ρ3 F3, SO X.prog X.w X.K ρ3 σ3 H3 F3 ∧ Step ρ σ H F ρ3 σ3 H3 F3 ∧ whl m t f ρ3 = some (ρ', c), fun σ3 H3 ⟨ρ3, F3, h⟩ => ⟨m, Nat.lt_succ_self m, ρ3, F3, h⟩, ?_⟩
      have st := st1.trans st2
      split at e1
      · rename_i ρ3 e3
        exact ⟨ρ2, F2, _, _, so2, e3, fun σ3 H3 F3 so3 st3 => ⟨ρ3, F3, so3, st.trans st3, e1⟩⟩
      · rename_i ρ3 e3
        exact ⟨ρ2, F2, _, _, so2, e3, fun σ3 H3 F3 so3 st3 => ⟨ρ3, F3, so3, st.trans st3, e1⟩⟩
      · rename_i ρ3 e3
        cases e1
        exact ⟨ρ2, F2, _, _, so2, e3, fun σ3 H3 F3 so3 st3 => k σ3 H3 F3 so3 (st.trans st3)⟩
      · rename_i n1 n2 n3
        refine ⟨ρ2, F2, ρ', c, so2, e1, fun σ3 H3 F3 so3 st3 => ?_⟩
        have q := (k σ3 H3 F3 so3 (st.trans st3)).from st
        cases c with
        | nx => exact (n1 _ e1).elim
        | bk => exact (n3 _ e1).elim
        | ct => exact (n2 _ e1).elim
        | rt d => exact q
        | rn d => exact q
    · rename_i ρ2 e2
      cases e1
      refine ⟨ρ1, F1, _, _, so1, e2, fun H2 F2 so2 st2 => ?_⟩
      exact iteF (k σ1 H2 F2 so2 (st1.trans st2))
    · cases e1
end

/-! ### what is walked -/
/-- the iterator J yields the data ds, one by one, where all that F0 holds stands -/
structure Walks (P : Program) (w : World) (K : PySem.W.Frag) (J : It) (ds : List Dat) (F0 : Hp) : Prop where
  go : ∀ (i : Nat) (H F : Hp) (d : Dat), ds[i]? = some d → Sub F0 F → Sub F H → J.go i H ∧ ∀ x H', J.yld i H x H' → ∃ F', New H F H' F' ∧ Rp P w K F' x d
  stop : ∀ (i : Nat) (H F : Hp), ds.length ≤ i → Sub F0 F → Sub F H → J.stop i H
abbrev FI := FA
def tId (P : Program) (w : World) (K : PySem.W.Frag) (f : FI) : TI := fun σ H R => ∃ ρ F ds ρ', SO P w K ρ σ H F ∧ f ρ = some (ds, ρ') ∧
  ∀ J H' F', SO P w K ρ' σ H' F' → Step ρ σ H F ρ' σ H' F' → Walks P w K J ds F' → R J H'
abbrev DI (X : Cx) (tg iter : Expr) (f : FI) : Prop := PI X tg iter (tId X.prog X.w X.K f)
theorem piImp {X : Cx} {tg e : Expr} {t t' : TI} (h : PI X tg e t) (i : ∀ σ H Q, t' σ H Q → t σ H Q) : PI X tg e t' := ⟨fun pins s σ H Q I q => h.run pins s σ H Q I (i σ H Q q)⟩
theorem walks_list {P w K a xs ds} {F0 : Hp} (s : SqL K F0 a xs) (r : RpAll P w K F0 xs ds) : Walks P w K (Itl K a) ds F0 where
  go := fun i H F d e h1 h2 => by
    obtain ⟨v, hv, rv⟩ := r.get e
    refine ⟨⟨xs, v, (h1.trans h2).ext.sqL s, hv⟩, fun x H' y => ?_⟩
    obtain ⟨rfl, y⟩ := y
    have := y xs ((h1.trans h2).ext.sqL s)
    rw [hv] at this; cases this
    exact ⟨F, New.refl h2, rv.sub h1⟩
  stop := fun i H F e h1 h2 => ⟨xs, (h1.trans h2).ext.sqL s, by rw [r.length]; exact e⟩
theorem walks_tup {P w K a xs ds} {F0 : Hp} (s : SqT K F0 a xs) (r : RpAll P w K F0 xs ds) : Walks P w K (Itt K a) ds F0 where
  go := fun i H F d e h1 h2 => by
    obtain ⟨v, hv, rv⟩ := r.get e
    refine ⟨⟨xs, v, (h1.trans h2).ext.sqT s, hv⟩, fun x H' y => ?_⟩
    obtain ⟨rfl, y⟩ := y
    have := y xs ((h1.trans h2).ext.sqT s)
    rw [hv] at this; cases this
    exact ⟨F, New.refl h2, rv.sub h1⟩
  stop := fun i H F e h1 h2 => ⟨xs, (h1.trans h2).ext.sqT s, by rw [r.length]; exact e⟩
def rngD (lo : Int) (n : Nat) : List Dat := (List.range n).map fun (i : Nat) => Dat.int (lo + i)
theorem walks_range {P w K} {F0 : Hp} (lo : Int) (n : Nat) : Walks P w K (Itr lo n) (rngD lo n) F0 where
  go := fun i H F d e h1 h2 => by
    simp only [rngD, List.getElem?_map, Option.map_eq_some_iff] at e
    obtain ⟨j, e1, rfl⟩ := e
    obtain ⟨h3, e2⟩ := List.getElem?_eq_some_iff.mp e1
    simp only [List.getElem_range] at e2
    subst e2
    refine ⟨(by simpa using h3 : i < n), fun x H' y => ?_⟩
    obtain ⟨rfl, rfl⟩ := y
    exact ⟨F, New.refl h2, .int _⟩
  stop := fun i H F e h1 h2 => (by simpa [rngD] using e : n ≤ i)

def iLst (f : FE) : FI := fun ρ => match cFz f ρ with
  | some (.dat (.lst ds), ρ1) => some (ds, ρ1)
  | _ => none
def iTup' (f : FE) : FI := fun ρ => match cFz f ρ with
  | some (.dat (.tup ds), ρ1) => some (ds, ρ1)
  | _ => none
def iR1 (f : FA) : FI := fun ρ => match f ρ with
  | some ([.int j], ρ1) => if -(2 ^ 62) ≤ j ∧ j < 2 ^ 62 then some (rngD 0 j.toNat, ρ1) else none
  | _ => none
def iR2 (f : FA) : FI := fun ρ => match f ρ with
  | some ([.int i, .int j], ρ1) => if -(2 ^ 62) ≤ i ∧ i < 2 ^ 62 ∧ -(2 ^ 62) ≤ j ∧ j < 2 ^ 62 then some (rngD i (j - i).toNat, ρ1) else none
  | _ => none
/-- a list or a tuple, whichever it is -/
def iSeq (f : FE) : FI := fun ρ => match cFz f ρ with
  | some (.dat (.lst ds), ρ1) => some (ds, ρ1)
  | some (.dat (.tup ds), ρ1) => some (ds, ρ1)
  | _ => none
section
variable {X : Cx} {pos : Pos} {tg : Expr}
theorem di_seq {e : Expr} {f : FE} (h : DE X e f) : DI X tg e (iSeq f) := ⟨fun pins s σ H R I q => by
  obtain ⟨ρ, F, ds, ρ', so, e, k⟩ := q
  unfold iSeq at e
  split at e
  · rename_i ds' ρ1 e1
    cases e
    refine (pi_list h).run pins s σ H R I (tD_fz ⟨ρ, F, _, _, so, e1, fun v H1 F1 so1 st1 r => ?_⟩)
    cases (show Rp _ _ _ F1 v (.lst ds) from r) with
    | lst hs ra => exact ⟨_, rfl, ⟨_, .of (so1.sub _ _ hs)⟩, k _ H1 F1 so1 st1 (walks_list (.of hs) ra)⟩
  · rename_i ds' ρ1 e1
    cases e
    refine (pi_tup h).run pins s σ H R I (tD_fz ⟨ρ, F, _, _, so, e1, fun v H1 F1 so1 st1 r => ?_⟩)
    cases (show Rp _ _ _ F1 v (.tup ds) from r) with
    | tup hs ra => exact ⟨_, rfl, ⟨_, so1.sub.ext.sqT hs.sq⟩, k _ H1 F1 so1 st1 (walks_tup hs.sq ra)⟩
  · cases e⟩
theorem di_r1 {a : Expr} {f : FA} {p pos : Pos} (hg : Gl X "range") (hm : X.mg "range" = none) (ha : DA X [a] f) (hs : starEach [a] X.env = [(false, eval a X.env)] := by rfl) : DI X tg (.Call (.Name "range" p) [a] [] pos) (iR1 f) :=
  piImp (pi_range1 hg hm ha hs) fun σ H R q => by
    obtain ⟨ρ, F, ds, ρ', so, e, k⟩ := q
    unfold iR1 at e
    split at e
    · rename_i j ρ1 e1
      split at e
      · rename_i hj
        cases e
        refine ⟨ρ, F, _, _, so, e1, fun vs H1 F1 so1 st1 r => ?_⟩
        cases r with
        | cons r1 r2 =>
          cases r2
          cases r1
          exact ⟨j, rfl, hj.1, hj.2, k _ H1 F1 so1 st1 (walks_range 0 _)⟩
      · cases e
    · cases e
theorem di_r2 {a b : Expr} {f : FA} {p pos : Pos} (hg : Gl X "range") (hm : X.mg "range" = none) (ha : DA X [a, b] f) (hs : starEach [a, b] X.env = [(false, eval a X.env), (false, eval b X.env)] := by rfl) (hs2 : starEach [b] X.env = [(false, eval b X.env)] := by rfl) :
    DI X tg (.Call (.Name "range" p) [a, b] [] pos) (iR2 f) :=
  piImp (pi_range2 hg hm ha hs hs2) fun σ H R q => by
    obtain ⟨ρ, F, ds, ρ', so, e, k⟩ := q
    unfold iR2 at e
    split at e
    · rename_i i j ρ1 e1
      split at e
      · rename_i hj
        cases e
        refine ⟨ρ, F, _, _, so, e1, fun vs H1 F1 so1 st1 r => ?_⟩
        cases r with
        | cons r1 r2 =>
          cases r2 with
          | cons r2 r3 =>
            cases r3
            cases r1
            cases r2
            exact ⟨i, j, rfl, hj, k _ H1 F1 so1 st1 (walks_range i _)⟩
      · cases e
    · cases e
end

/-! ### for -/
def lp (g : FG) (b : FS) : List Dat → Rho → Option (Rho × Ctl)
  | [], ρ => some (ρ, .nx)
  | d :: ds, ρ => match g d ρ with
    | none => none
    | some ρ1 => match b ρ1 with
      | some (ρ2, .nx) => lp g b ds ρ2
      | some (ρ2, .ct) => lp g b ds ρ2
      | some (ρ2, .bk) => some (ρ2, .nx)
      | r => r
def sFor (it : FI) (g : FG) (b : FS) : FS := fun ρ => match it ρ with
  | some (ds, ρ1) => lp g b ds ρ1
  | none => none
section
variable {X : Cx} {pos : Pos}
theorem ds_for {tg iter : Expr} {body : List Stmt} {it : FI} {g : FG} {vs : List Nat} {b : FS} (hp : PassesOwn (model X.prog X.w) X.A X.env X.xe) (hc : X.calm = true) (hi : DI X tg iter it) (hg : DG X tg vs g) (hb : DSs X body b)
    (hs : ∀ x, foldedSetIterable iter X.env x = pure x := by intro _; rfl) : DS X (.For tg iter body [] pos) (sFor it g b) := psImp (ps_for hp hc hi hg hb hs) fun D σ H q => by
  obtain ⟨ρ, F, ρ', c, so, e, k⟩ := q
  unfold sFor at e
  split at e
  · rename_i ds ρ0 e0
    refine ⟨ρ, F, ds, ρ0, so, e0, fun J H0 F0 so0 st0 wk => ?_⟩
    refine ⟨fun i m σ1 H1 => m = ds.length - i ∧ ∃ ρ1 F1, SO X.prog X.w X.K ρ1 σ1 H1 F1 ∧ Step ρ σ H F ρ1 σ1 H1 F1 ∧ Sub F0 F1 ∧ lp g b (ds.drop i) ρ1 = some (ρ', c),
      ⟨_, rfl, ρ0, F0, so0, st0, Sub.refl, e⟩, ?_⟩
    rintro i m σ1 H1 ⟨rfl, ρ1, F1, so1, st1, sb1, e1⟩
    by_cases hl : i < ds.length
    · have hd : ds[i]? = some ds[i] := List.getElem?_eq_getElem hl
      rw [List.drop_eq_getElem_cons hl] at e1
      obtain ⟨go, yl⟩ := wk.go i H1 F1 _ hd sb1 so1.sub
      refine .inr ⟨go, fun σ2 H2 => ∃ ρ2 F2, SO X.prog X.w X.K ρ2 σ2 H2 F2 ∧ Step ρ σ H F ρ2 σ2 H2 F2 ∧ Sub F0 F2 ∧ lp g b (ds.drop (i + 1)) ρ2 = some (ρ', c),
        fun σ2 H2 z => ⟨ds.length - (i + 1), by omega, rfl, z⟩, fun x H2 y => ?_⟩
      obtain ⟨F2, nw, rp⟩ := yl x H2 y
      simp only [lp] at e1
      split at e1
      · cases e1
      · rename_i ρ2 e2
        refine ⟨ρ1, F2, _, _, so1.new nw, rp, e2, fun σ3 so3 st3 _ => ?_⟩
        have stA := (st1.trans nw.step).trans st3
        have sbA := sb1.trans nw.subF
        split at e1
        · rename_i ρ4 e4
          exact ⟨ρ2, F2, _, _, so3, e4, fun σ5 H5 F5 so5 st5 => ⟨ρ4, F5, so5, stA.trans st5, sbA.trans st5.subF, e1⟩⟩
        · rename_i ρ4 e4
          exact ⟨ρ2, F2, _, _, so3, e4, fun σ5 H5 F5 so5 st5 => ⟨ρ4, F5, so5, stA.trans st5, sbA.trans st5.subF, e1⟩⟩
        · rename_i ρ4 e4
          cases e1
          exact ⟨ρ2, F2, _, _, so3, e4, fun σ5 H5 F5 so5 st5 => k σ5 H5 F5 so5 (stA.trans st5)⟩
        · rename_i n1 n2 n3
          refine ⟨ρ2, F2, ρ', c, so3, e1, fun σ5 H5 F5 so5 st5 => ?_⟩
          have q := (k σ5 H5 F5 so5 (stA.trans st5)).from stA
          cases c with
          | nx => exact (n1 _ e1).elim
          | bk => exact (n3 _ e1).elim
          | ct => exact (n2 _ e1).elim
          | rt d => exact q
          | rn d => exact q
    · rw [List.drop_eq_nil_of_le (by omega)] at e1
      simp only [lp] at e1
      cases e1
      exact .inl ⟨wk.stop i H1 F1 (by omega) sb1 so1.sub, k σ1 H1 F1 so1 st1⟩
  · cases e
end

/-! ### comprehensions -/
def wipeR (ρ : Rho) : List Nat → Rho
  | [] => ρ
  | v :: vs => (wipeR ρ vs).set v .un
/-- outside the places vs all stands as ρ has it, at them as ρ0 has it -/
def back (ρ0 ρ : Rho) (vs : List Nat) : Rho := (List.range ρ.length).map fun i => if i ∈ vs then (ρ0[i]?).getD .un else (ρ[i]?).getD .un
def lcp (g : FG) (t : FT) (f : FE) (vs : List Nat) : List Dat → Rho → List Dat → Option (List Dat × Rho)
  | [], ρ, acc => some (acc, ρ)
  | d :: ds, ρ, acc => match g d ρ with
    | none => none
    | some ρ1 => match t ρ1 with
      | none => none
      | some (false, ρ2) => lcp g t f vs ds (wipeR ρ2 vs) acc
      | some (true, ρ2) => match cFz f ρ2 with
        | some (.dat x, ρ3) => if acc.length < 100000 then lcp g t f vs ds (wipeR ρ3 vs) (acc ++ [x]) else none
        | _ => none
def cLc (it : FI) (g : FG) (t : FT) (f : FE) (vs : List Nat) : FE := fun ρ => match it ρ with
  | some (ds, ρ1) => match lcp g t f vs ds (wipeR ρ1 vs) [] with
    | some (acc, ρ2) => some (.new (.lst acc), back ρ1 ρ2 vs)
    | none => none
  | none => none
end Dl

set_option Elab.async false
set_option linter.all false
set_option maxRecDepth 100000
set_option maxHeartbeats 4000000
/-! DH: list comprehensions. -/
namespace Dl
open PySem PySem.Spec PyProof.Rows L2
section
variable {P : Program} {w : World} {K : PySem.W.Frag} {ρ ρ' ρ0 : Rho} {σ σ' : Sg} {H F H' F' : Hp}
theorem SO.setUn2 (so : SO P w K ρ σ H F) (i : Nat) (u : Option V) : SO P w K (ρ.set i .un) (σ.set i u) H F where
  sub := so.sub
  len := by rw [List.length_set, List.length_set, so.len]
  val := fun j e h => by
    by_cases hj : i = j
    · subst hj; cases setEq h
    · rw [List.getElem?_set_ne hj]; exact so.val j e (setNe h hj)
  own := fun j b e h => by
    by_cases hj : i = j
    · subst hj; cases setEq h
    · rw [List.getElem?_set_ne hj]; exact so.own j b e (setNe h hj)
  inj := fun j k b c e e' a h1 h2 h3 h4 => by
    by_cases hj : i = j
    · subst hj; cases setEq h1
    · by_cases hk : i = k
      · subst hk; cases setEq h2
      · exact so.inj j k b c e e' a (setNe h1 hj) (setNe h2 hk) (setNe h3 hj) (setNe h4 hk)
theorem SO.wipe (so : SO P w K ρ σ H F) : ∀ vs : List Nat, SO P w K (wipeR ρ vs) (L2.wipe σ vs) H F
  | [] => so
  | v :: vs => (SO.wipe so vs).setUn2 v none
theorem wipeR_length (ρ : Rho) : ∀ vs : List Nat, (wipeR ρ vs).length = ρ.length
  | [] => rfl
  | v :: vs => by rw [wipeR, List.length_set, wipeR_length ρ vs]
theorem wipeR_out {i : Nat} : ∀ {vs : List Nat}, i ∉ vs → (wipeR ρ vs)[i]? = ρ[i]?
  | [], _ => rfl
  | v :: vs, h => by
    simp only [List.mem_cons, not_or] at h
    rw [wipeR, List.getElem?_set_ne (Ne.symm h.1), wipeR_out h.2]
theorem wipeR_in {i : Nat} : ∀ {vs : List Nat}, i ∈ vs → i < ρ.length → (wipeR ρ vs)[i]? = some .un
  | v :: vs, h, hl => by
    by_cases e : v = i
    · subst e
      rw [wipeR]
      exact List.getElem?_set_self (by rw [wipeR_length]; exact hl)
    · rw [wipeR, List.getElem?_set_ne e]
      rcases List.mem_cons.mp h with z | z
      · exact (e z.symm).elim
      · exact wipeR_in z hl
theorem wipeR_some {i : Nat} {vs : List Nat} {x : Slot} (h : (wipeR ρ vs)[i]? = some x) (hx : x ≠ .un) : i ∉ vs ∧ ρ[i]? = some x := by
  by_cases hi : i ∈ vs
  · have hl : i < ρ.length := by
      have := (List.getElem?_eq_some_iff.mp h).1
      rwa [wipeR_length] at this
    rw [wipeR_in hi hl] at h
    cases h
    exact (hx rfl).elim
  · rw [wipeR_out hi] at h
    exact ⟨hi, h⟩
theorem wipe_outside {i : Nat} : ∀ {vs : List Nat}, i ∉ vs → (L2.wipe σ vs)[i]? = σ[i]?
  | [], _ => rfl
  | v :: vs, h => by
    simp only [List.mem_cons, not_or] at h
    rw [L2.wipe, List.getElem?_set_ne (Ne.symm h.1), wipe_outside h.2]
theorem wipe_inside {i : Nat} : ∀ {vs : List Nat}, i ∈ vs → i < σ.length → (L2.wipe σ vs)[i]? = some none
  | v :: vs, h, hl => by
    by_cases e : v = i
    · subst e
      rw [L2.wipe]
      exact List.getElem?_set_self (by rw [L2.wipe_length]; exact hl)
    · rw [L2.wipe, List.getElem?_set_ne e]
      rcases List.mem_cons.mp h with z | z
      · exact (e z.symm).elim
      · exact wipe_inside z hl
theorem wipe_eq {vs : List Nat} (hl : σ'.length = σ.length) (h : ∀ j, j ∉ vs → σ'[j]? = (L2.wipe σ vs)[j]?) : L2.wipe σ' vs = L2.wipe σ vs := by
  apply List.ext_getElem?
  intro j
  by_cases hj : j ∈ vs
  · by_cases hlt : j < σ.length
    · rw [wipe_inside hj hlt, wipe_inside hj (by rw [hl]; exact hlt)]
    · rw [List.getElem?_eq_none (by rw [L2.wipe_length, hl]; omega), List.getElem?_eq_none (by rw [L2.wipe_length]; omega)]
  · rw [wipe_outside hj, h j hj]
theorem IsOwn.wiped {vs : List Nat} {a : Addr} (h : IsOwn (wipeR ρ vs) (L2.wipe σ vs) a) : IsOwn ρ σ a ∧ ∃ i b d, i ∉ vs ∧ ρ[i]? = some (.own b d) ∧ σ[i]? = some (some (.ref a)) := by
  obtain ⟨i, b, d, h1, h2⟩ := h
  obtain ⟨n, e⟩ := wipeR_some h1 (fun z => by cases z)
  rw [wipe_outside n] at h2
  exact ⟨⟨i, b, d, e, h2⟩, i, b, d, n, e, h2⟩
theorem SO.ownThere (so : SO P w K ρ σ H F) {a : Addr} (h : IsOwn ρ σ a) : ∃ o, H a = some o := by
  obtain ⟨i, b, d, h1, h2⟩ := h
  obtain ⟨c, e1, e2, e3⟩ := so.own i b d h1
  rw [h2] at e1; cases e1
  exact e3.there
theorem SO.updOut {D : Addr} {o : HO} (so : SO P w K ρ σ H F) (hF : F D = none) (hn : ¬ IsOwn ρ σ D) : SO P w K ρ σ (upd H D o) F where
  sub := fun b u e => by rw [upd_ne (ne_of_none e hF)]; exact so.sub b u e
  len := so.len
  val := so.val
  own := fun i b d e => by
    obtain ⟨c, e1, e2, e3⟩ := so.own i b d e
    have hc : c ≠ D := fun z => hn ⟨i, b, d, e, by rw [← z]; exact e1⟩
    exact ⟨c, e1, e2, e3.mono (by rw [upd_ne hc]) Sub.refl⟩
  inj := so.inj
theorem Step.updOut {D : Addr} {o : HO} (st : Step ρ σ H F ρ' σ' H' F') (h0 : H D = none) : Step ρ σ H F ρ' σ' (upd H' D o) F' :=
  ⟨st.subF, st.fresh, fun b u e n => by rw [upd_ne (ne_of_none e h0)]; exact st.keep b u e n, st.own, fun b u e => by rw [upd_ne (ne_of_none e h0)]; exact st.stay b u e, st.par⟩
theorem Step.wipeEnd {vs : List Nat} (st : Step ρ σ H F ρ' σ' H' F') (hw : ∀ i ∈ vs, ∀ d, ρ[i]? ≠ some (.own true d)) : Step ρ σ H F (wipeR ρ' vs) (L2.wipe σ' vs) H' F' :=
  ⟨st.subF, st.fresh, st.keep, fun a h => st.own a h.wiped.1, st.stay, fun i d h => by
    have hi : i ∉ vs := fun z => hw i z d h
    rw [wipeR_out hi, wipe_outside hi]
    exact st.par i d h⟩
theorem back_get {vs : List Nat} {i : Nat} {x : Slot} (h : (back ρ0 ρ vs)[i]? = some x) (hx : x ≠ .un) : (i ∈ vs ∧ ρ0[i]? = some x) ∨ (i ∉ vs ∧ ρ[i]? = some x) := by
  unfold back at h
  rw [List.getElem?_map, Option.map_eq_some_iff] at h
  obtain ⟨j, h1, h2⟩ := h
  obtain ⟨hl, e⟩ := List.getElem?_eq_some_iff.mp h1
  simp only [List.getElem_range] at e
  subst e
  by_cases hi : i ∈ vs
  · rw [if_pos hi] at h2
    refine .inl ⟨hi, ?_⟩
    cases q : ρ0[i]? with
    | none => rw [q] at h2; exact (hx h2.symm).elim
    | some y => rw [q] at h2; exact congrArg some h2
  · rw [if_neg hi] at h2
    refine .inr ⟨hi, ?_⟩
    cases q : ρ[i]? with
    | none => rw [q] at h2; exact (hx h2.symm).elim
    | some y => rw [q] at h2; exact congrArg some h2
theorem back_in {vs : List Nat} {i : Nat} {x : Slot} (hi : i ∈ vs) (h : ρ0[i]? = some x) (hl : ρ.length = ρ0.length) : (back ρ0 ρ vs)[i]? = some x := by
  have hlt : i < ρ0.length := (List.getElem?_eq_some_iff.mp h).1
  unfold back
  rw [List.getElem?_map, List.getElem?_range (by omega)]
  simp only [Option.map_some, if_pos hi, h]
  rfl
theorem back_out {vs : List Nat} {i : Nat} {x : Slot} (hi : i ∉ vs) (h : ρ[i]? = some x) : (back ρ0 ρ vs)[i]? = some x := by
  have hlt : i < ρ.length := (List.getElem?_eq_some_iff.mp h).1
  unfold back
  rw [List.getElem?_map, List.getElem?_range hlt]
  simp only [Option.map_some, if_neg hi, h]
  rfl
/-- behind a comprehension: the def's own state again -/
theorem SO.back {vs : List Nat} (so0 : SO P w K ρ0 σ H F) (so : SO P w K ρ (L2.wipe σ vs) H' F') (st : Step (wipeR ρ0 vs) (L2.wipe σ vs) H F ρ (L2.wipe σ vs) H' F') :
    SO P w K (back ρ0 ρ vs) σ H' F' ∧ Step ρ0 σ H F (back ρ0 ρ vs) σ H' F' := by
  have len : ρ.length = ρ0.length := by rw [so.len, L2.wipe_length, so0.len]
  have inn : ∀ {i b d a}, i ∈ vs → ρ0[i]? = some (.own b d) → σ[i]? = some (some (.ref a)) → ¬ IsOwn (wipeR ρ0 vs) (L2.wipe σ vs) a := fun {i b d a} hi h1 h2 z => by
    obtain ⟨_, j, c, e, hj, h3, h4⟩ := z.wiped
    have := so0.inj i j b c d e a h1 h3 h2 h4
    subst this
    exact hj hi
  have kept : ∀ {i b d a}, i ∈ vs → ρ0[i]? = some (.own b d) → σ[i]? = some (some (.ref a)) → F' a = none ∧ H' a = H a ∧ ∃ o, H a = some o := fun {i b d a} hi h1 h2 => by
    obtain ⟨o, ho⟩ := so0.ownThere ⟨i, b, d, h1, h2⟩
    have hn := inn hi h1 h2
    refine ⟨?_, (st.keep a o ho hn).trans ho.symm, o, ho⟩
    obtain ⟨c, e1, e2, _⟩ := so0.own i b d h1
    rw [h2] at e1; cases e1
    cases q : F' a with
    | none => rfl
    | some u =>
      rcases st.fresh a u q with z | z | z
      · rw [e2] at z; cases z
      · rw [ho] at z; cases z
      · exact (hn z).elim
  refine ⟨⟨so.sub, by rw [show (Dl.back ρ0 ρ vs).length = ρ.length by simp [Dl.back], so.len, L2.wipe_length], fun i d h => ?_, fun i b d h => ?_, fun i j b c d e a h1 h2 h3 h4 => ?_⟩,
    ⟨st.subF, fun a o h => ?_, fun a o h n => st.keep a o h fun z => n z.wiped.1, fun a h => ?_, st.stay, fun i d h => ⟨?_, rfl⟩⟩⟩
  · rcases back_get h (fun z => by cases z) with ⟨hi, z⟩ | ⟨hi, z⟩
    · obtain ⟨v, h1, h2⟩ := so0.val i d z
      exact ⟨v, h1, h2.sub st.subF⟩
    · obtain ⟨v, h1, h2⟩ := so.val i d z
      exact ⟨v, by rw [← wipe_outside hi]; exact h1, h2⟩
  · rcases back_get h (fun z => by cases z) with ⟨hi, z⟩ | ⟨hi, z⟩
    · obtain ⟨a, h1, h2, h3⟩ := so0.own i b d z
      obtain ⟨k1, k2, _⟩ := kept hi z h1
      exact ⟨a, h1, k1, h3.mono k2 st.subF⟩
    · obtain ⟨a, h1, h2, h3⟩ := so.own i b d z
      exact ⟨a, by rw [← wipe_outside hi]; exact h1, h2, h3⟩
  · rcases back_get h1 (fun z => by cases z) with ⟨hi, z⟩ | ⟨hi, z⟩ <;> rcases back_get h2 (fun z => by cases z) with ⟨hj, y⟩ | ⟨hj, y⟩
    · exact so0.inj i j b c d e a z y h3 h4
    · obtain ⟨_, _, o, ho⟩ := kept hi z h3
      rcases st.own a ⟨j, c, e, y, by rw [wipe_outside hj]; exact h4⟩ with q | q
      · exact (inn hi z h3 q).elim
      · rw [ho] at q; cases q
    · obtain ⟨_, _, o, ho⟩ := kept hj y h4
      rcases st.own a ⟨i, b, d, z, by rw [wipe_outside hi]; exact h3⟩ with q | q
      · exact (inn hj y h4 q).elim
      · rw [ho] at q; cases q
    · exact so.inj i j b c d e a z y (by rw [wipe_outside hi]; exact h3) (by rw [wipe_outside hj]; exact h4)
  · rcases st.fresh a o h with z | z | z
    · exact .inl z
    · exact .inr (.inl z)
    · exact .inr (.inr z.wiped.1)
  · obtain ⟨i, b, d, h1, h2⟩ := h
    rcases back_get h1 (fun z => by cases z) with ⟨hi, z⟩ | ⟨hi, z⟩
    · exact .inl ⟨i, b, d, z, h2⟩
    · rcases st.own a ⟨i, b, d, z, by rw [wipe_outside hi]; exact h2⟩ with q | q
      · exact .inl q.wiped.1
      · exact .inr q
  · by_cases hi : i ∈ vs
    · exact ⟨d, back_in hi h len⟩
    · obtain ⟨⟨d', z⟩, _⟩ := st.par i d (by rw [wipeR_out hi]; exact h)
      exact ⟨d', back_out hi z⟩
end
abbrev DTs (X : Cx) (ifs : List Expr) (f : FT) : Prop := PTs X ifs (tT X.prog X.w X.K f)
def tAll : FT := fun ρ => some (true, ρ)
theorem ptsImp {X : Cx} {e : List Expr} {t t' : TT} (h : PTs X e t) (i : ∀ σ H Q, t' σ H Q → t σ H Q) : PTs X e t' := ⟨fun pins s σ H Q I q => h.run pins s σ H Q I (i σ H Q q)⟩
theorem dts_nil {X : Cx} : DTs X [] tAll := ptsImp pts_nil fun σ H Q q => by
  obtain ⟨ρ, F, b, ρ', so, e, k⟩ := q
  cases e
  exact k H F so Step.refl
theorem dts_one {X : Cx} {c : Expr} {f : FT} (h : DT X c f) : DTs X [c] f := pts_one h
theorem tLc_imp {P w K} {it : FI} {g : FG} {t : FT} {f : FE} {vs us : List Nat} {σ : Sg} {H : Hp} {Q : VK} (hu : ∀ j ∈ us, j ∈ vs) (q : tD P w K (cLc it g t f vs) σ H Q) :
    tLc (tId P w K it) (tGd P w K us g) (tT P w K t) (tD P w K f) vs σ H Q := by
  obtain ⟨ρ, F, h, ρ', so, e, k⟩ := q
  unfold cLc at e
  split at e
  · rename_i ds ρ1 e1
    split at e
    · rename_i acc ρ2 e2
      cases e
      refine ⟨ρ, F, ds, ρ1, so, e1, fun J H1 F1 so1 st1 wk D hD => ?_⟩
      have nD : ¬ IsOwn ρ1 σ D := fun z => by
        obtain ⟨o, ho⟩ := so1.ownThere z
        rw [hD] at ho; cases ho
      have fD : F1 D = none := by
        cases q : F1 D with
        | none => rfl
        | some u => rw [so1.sub _ _ q] at hD; cases hD
      have len1 : ρ1.length = σ.length := so1.len
      refine ⟨fun i m H2 => m = ds.length - i ∧ ∃ ρi Fi ac va, SO P w K ρi (L2.wipe σ vs) H2 Fi ∧ Step (wipeR ρ1 vs) (L2.wipe σ vs) H1 F1 ρi (L2.wipe σ vs) H2 Fi ∧
          H2 D = some (.lst va) ∧ Fi D = none ∧ ¬ IsOwn ρi (L2.wipe σ vs) D ∧ RpAll P w K Fi va ac ∧ (∀ j ∈ vs, ∀ d, ρi[j]? ≠ some (.own true d)) ∧ lcp g t f vs (ds.drop i) ρi ac = some (acc, ρ2),
        ⟨_, rfl, wipeR ρ1 vs, F1, [], [], (so1.wipe vs).updOut fD (fun z => nD z.wiped.1), Step.refl.updOut hD, upd_same, fD, fun z => nD z.wiped.1, .nil, fun j hj d z => ?_, e2⟩, ?_⟩
      · have hl : j < ρ1.length := by
          have := (List.getElem?_eq_some_iff.mp z).1
          rwa [wipeR_length] at this
        rw [wipeR_in hj hl] at z; cases z
      rintro i m H2 ⟨rfl, ρi, Fi, ac, va, so2, st2, d2, f2, n2, r2, w2, e3⟩
      by_cases hl : i < ds.length
      · have hd : ds[i]? = some ds[i] := List.getElem?_eq_getElem hl
        rw [List.drop_eq_getElem_cons hl] at e3
        obtain ⟨go, yl⟩ := wk.go i H2 Fi _ hd st2.subF so2.sub
        refine .inr ⟨go, fun H3 => ∃ ρi Fi ac va, SO P w K ρi (L2.wipe σ vs) H3 Fi ∧ Step (wipeR ρ1 vs) (L2.wipe σ vs) H1 F1 ρi (L2.wipe σ vs) H3 Fi ∧
          H3 D = some (.lst va) ∧ Fi D = none ∧ ¬ IsOwn ρi (L2.wipe σ vs) D ∧ RpAll P w K Fi va ac ∧ (∀ j ∈ vs, ∀ d, ρi[j]? ≠ some (.own true d)) ∧ lcp g t f vs (ds.drop (i + 1)) ρi ac = some (acc, ρ2),
          fun H3 z => ⟨ds.length - (i + 1), by omega, rfl, z⟩, fun x H3 y => ?_⟩
        obtain ⟨F3, nw, rp⟩ := yl x H3 y
        simp only [lcp] at e3
        split at e3
        · cases e3
        · rename_i ρ4 e4
          refine ⟨ρi, F3, _, _, so2.new nw, rp, e4, fun σ4 so4 st4 q4 => ?_⟩
          have hw : L2.wipe σ4 vs = L2.wipe σ vs := wipe_eq (by rw [q4.1, L2.wipe_length]) fun j hj => q4.2 j fun z => hj (hu j z)
          have st34 := nw.step.trans st4
          refine ⟨hw, ?_⟩
          have wout : ∀ (ρx : Rho), ∀ j ∈ vs, ∀ d, (wipeR ρx vs)[j]? ≠ some (.own true d) := fun ρx j hj d z => (wipeR_some z (fun z => by cases z)).1 hj
          have fin : ∀ (ρx : Rho) (Hx Fx : Hp), SO P w K ρx σ4 Hx Fx → Step ρi (L2.wipe σ vs) H2 Fi ρx σ4 Hx Fx →
              SO P w K (wipeR ρx vs) (L2.wipe σ vs) Hx Fx ∧ Step (wipeR ρ1 vs) (L2.wipe σ vs) H1 F1 (wipeR ρx vs) (L2.wipe σ vs) Hx Fx ∧ Hx D = some (.lst va) ∧ Fx D = none ∧ ¬ IsOwn (wipeR ρx vs) (L2.wipe σ vs) D := fun ρx Hx Fx sx tx => by
            have a1 := sx.wipe vs
            have a2 := tx.wipeEnd w2
            rw [hw] at a1 a2
            refine ⟨a1, st2.trans a2, (a2.keep D _ d2 n2), ?_, fun z => ?_⟩
            · cases q : Fx D with
              | none => rfl
              | some u =>
                rcases a2.fresh D u q with z | z | z
                · rw [f2] at z; cases z
                · rw [d2] at z; cases z
                · exact (n2 z).elim
            · rcases a2.own D z with z | z
              · exact n2 z
              · rw [d2] at z; cases z
          split at e3
          · cases e3
          · rename_i ρ5 e5
            refine ⟨ρ4, F3, _, _, so4, e5, fun H5 F5 so5 st5 => ?_⟩
            obtain ⟨b1, b2, b3, b4, b5⟩ := fin ρ5 H5 F5 so5 (st34.trans st5)
            refine iteF ?_
            exact ⟨wipeR ρ5 vs, F5, ac, va, b1, b2, b3, b4, b5, r2.sub (st34.trans st5).subF, wout _, e3⟩
          · rename_i ρ5 e5
            split at e3
            · rename_i xd ρ6 e6
              split at e3
              · rename_i hz
                refine ⟨ρ4, F3, _, _, so4, e5, fun H5 F5 so5 st5 => ?_⟩
                refine iteT ?_
                refine tD_fz ⟨ρ5, F5, _, _, so5, e6, fun v H6 F6 so6 st6 rx => ?_⟩
                have stx := (st34.trans st5).trans st6
                obtain ⟨b1, b2, b3, b4, b5⟩ := fin ρ6 H6 F6 so6 stx
                have r6 : RpAll P w K F6 va ac := r2.sub stx.subF
                refine ⟨va, b3, ?_, ?_⟩
                · rw [r6.length]
                  exact Nat.lt_trans hz (by decide)
                · exact ⟨wipeR ρ6 vs, F6, ac ++ [xd], va ++ [v], b1.updOut b4 b5, b2.updOut hD, upd_same, b4, b5, r6.append (.cons rx .nil), wout _, e3⟩
              · cases e3
            · cases e3
      · rw [List.drop_eq_nil_of_le (by omega)] at e3
        simp only [lcp] at e3
        cases e3
        obtain ⟨so5, st5⟩ := so1.back so2 st2
        refine .inl ⟨wk.stop i H2 Fi (by omega) st2.subF so2.sub, k _ H2 Fi so5 (st1.trans st5) ⟨D, rfl, .lst d2 r2, f2, fun z => ?_, ?_⟩⟩
        · obtain ⟨j, b, d, z1, z2⟩ := z
          rcases back_get z1 (fun z => by cases z) with ⟨hj, y⟩ | ⟨hj, y⟩
          · exact nD ⟨j, b, d, y, z2⟩
          · exact n2 ⟨j, b, d, y, by rw [wipe_outside hj]; exact z2⟩
        · cases q : H D with
          | none => rfl
          | some u =>
            obtain ⟨u', z⟩ := st1.stay D u q
            rw [hD] at z; cases z
    · cases e
  · cases e
section
variable {X : Cx} {elt tg iter : Expr} {ifs : List Expr} {scope : Scope} {own : List (Str × Nat)} {pos : Pos} {it : FI} {g : FG} {us : List Nat} {t : FT} {f : FE}
theorem de_lc (hc : X.calm = true) (hN : X.N.Nodup) (hi : DI X tg iter it) (ok : BlkOk X.N X.env.scope scope own) (hu : ∀ j ∈ us, j ∈ own.map (·.2))
    (hg : ∀ (s : Shared) (H : Hp) (C : Addr) (cl : List (Str × Addr)) (fp : List Addr), DG (X.blk s H scope (compEnvC scope cl C X.env) fp) tg us g)
    (ht : ∀ (s : Shared) (H : Hp) (C : Addr) (cl : List (Str × Addr)) (fp : List Addr), DTs (X.blk s H scope (compEnvC scope cl C X.env) fp) ifs t)
    (he : ∀ (s : Shared) (H : Hp) (C : Addr) (cl : List (Str × Addr)) (fp : List Addr), DE (X.blk s H scope (compEnvC scope cl C X.env) fp) elt f)
    (hs : ∀ x, foldedSetIterable iter X.env x = pure x := by intro _; rfl) : DE X (.ListComp elt [⟨tg, iter, ifs, 0⟩] scope pos) (cLc it g t f (own.map (·.2))) :=
  peImp (pe_lc hc hN hi ok hg ht he hs) fun _ _ _ => tLc_imp hu
/-- name = [..] on one line, the name a local -/
theorem pa_lc {i : Nat} {y : Str} {py spos : Pos} (hc : X.calm = true) (hN : X.N.Nodup) (hy : X.N[i]? = some y) (hyl : X.env.scope.names.lookup y = some .local)
    (hsw : swapsWith (.ListComp elt [⟨tg, iter, ifs, 0⟩] scope pos) (some (.Name y py)) spos.line X.env = pure true) (hi : DI X tg iter it) (ok : BlkOk X.N X.env.scope scope own) (hu : ∀ j ∈ us, j ∈ own.map (·.2))
    (hg : ∀ (s : Shared) (H : Hp) (C : Addr) (cl : List (Str × Addr)) (fp : List Addr), DG (X.blk s H scope (compEnvC scope cl C X.env) fp) tg us g)
    (ht : ∀ (s : Shared) (H : Hp) (C : Addr) (cl : List (Str × Addr)) (fp : List Addr), DTs (X.blk s H scope (compEnvC scope cl C X.env) fp) ifs t)
    (he : ∀ (s : Shared) (H : Hp) (C : Addr) (cl : List (Str × Addr)) (fp : List Addr), DE (X.blk s H scope (compEnvC scope cl C X.env) fp) elt f)
    (hs : ∀ x, foldedSetIterable iter X.env x = pure x := by intro _; rfl) :
    PS X (.Assign [.Name y py] (.ListComp elt [⟨tg, iter, ifs, 0⟩] scope pos) spos) (tAsg (tD X.prog X.w X.K (cLc it g t f (own.map (·.2)))) (gName i)) :=
  psImp (ps_setLc hc hN hy hyl hsw hi ok hg ht he hs) fun _ _ _ q => tLc_imp hu q
end
end Dl

set_option Elab.async false
set_option linter.all false
set_option maxRecDepth 100000
set_option maxHeartbeats 4000000
/-! DJ: what a def promises, calls. -/
namespace Dl
open PySem PySem.Spec PyProof.Rows L2

/-- a def of data: it hands back m of its arguments, all else stands -/
def spA (P : Program) (w : World) (K : PySem.W.Frag) (m : List Dat → Option Dat) : Sp := fun vs H Q _ => ∃ F ds d, Sub F H ∧ RpAll P w K F vs ds ∧ m ds = some d ∧
  ∀ v H' F', New H F H' F' → Rp P w K F' v d → Q v H'
/-- .. a new object that nobody else has -/
def spN (P : Program) (w : World) (K : PySem.W.Frag) (m : List Dat → Option Dat) : Sp := fun vs H Q _ => ∃ F ds d, Sub F H ∧ RpAll P w K F vs ds ∧ m ds = some d ∧
  ∀ a H' F', New H F H' F' → Own P w K H' F' a d → F' a = none → H a = none → Q (.ref a) H'
/-- all but the object at p stands -/
structure NewB (p : Addr) (H F H' F' : Hp) : Prop where
  subF : Sub F F'
  fresh : ∀ a o, F' a = some o → F a = some o ∨ H a = none
  keep : ∀ a o, H a = some o → a ≠ p → H' a = some o
  subH : Sub F' H'
/-- a def whose first argument is changed -/
def spP (P : Program) (w : World) (K : PySem.W.Frag) (m : Dat → List Dat → Option (Dat × Dat)) : Sp := fun vs H Q _ => ∃ F p us c ds d c', vs = .ref p :: us ∧ Sub F H ∧ F p = none ∧ Own P w K H F p c ∧
  RpAll P w K F us ds ∧ m c ds = some (d, c') ∧ ∀ v H' F', NewB p H F H' F' → Own P w K H' F' p c' → Rp P w K F' v d → Q v H'

def rho0 (n : Nat) (ds : List Dat) : Rho := ds.map .val ++ List.replicate (n - ds.length) .un
def runA (n : Nat) (f : FS) (ds : List Dat) : Option Dat := match f (rho0 n ds) with
  | some (_, .rt d) => some d
  | some (_, .rn d) => some d
  | some (_, .nx) => some .non
  | _ => none
def runN (n : Nat) (f : FS) (ds : List Dat) : Option Dat := match f (rho0 n ds) with
  | some (_, .rn d) => some d
  | _ => none
def rhoP (n : Nat) (c : Dat) (ds : List Dat) : Rho := .own true c :: rho0 (n - 1) ds
def pool0 (ρ : Rho) : Option Dat := match ρ with
  | .own true c :: _ => some c
  | _ => none
def runP (n : Nat) (f : FS) (c : Dat) (ds : List Dat) : Option (Dat × Dat) := match f (rhoP n c ds) with
  | some (ρ, .rt d) => (pool0 ρ).map fun c' => (d, c')
  | some (ρ, .rn d) => (pool0 ρ).map fun c' => (d, c')
  | some (ρ, .nx) => (pool0 ρ).map fun c' => (.non, c')
  | _ => none
section
variable {P : Program} {w : World} {K : PySem.W.Frag} {ρ ρ' : Rho} {σ σ' : Sg} {H F H' F' : Hp}
theorem rho0_length {n : Nat} {ds : List Dat} (h : ds.length ≤ n) : (rho0 n ds).length = n := by
  simp [rho0]; omega
theorem rho0_val {n i : Nat} {ds : List Dat} {x : Slot} (h : (rho0 n ds)[i]? = some x) (hx : x ≠ .un) : ∃ d, x = .val d ∧ ds[i]? = some d := by
  unfold rho0 at h
  by_cases hi : i < ds.length
  · rw [List.getElem?_append_left (by simpa using hi), List.getElem?_map] at h
    rw [List.getElem?_eq_getElem hi] at h ⊢
    cases h
    exact ⟨_, rfl, rfl⟩
  · rw [List.getElem?_append_right (by simpa using Nat.le_of_not_lt hi)] at h
    have := List.eq_of_mem_replicate (List.mem_of_getElem? h)
    exact (hx this).elim
theorem start_get {N : List Str} {vs : List V} {i : Nat} {v : V} (h : vs[i]? = some v) : (L2.start N vs)[i]? = some (some v) := by
  unfold L2.start
  have hi : i < vs.length := (List.getElem?_eq_some_iff.mp h).1
  rw [List.getElem?_append_left (by simpa using hi), List.getElem?_map, h]
  rfl
theorem start_length {N : List Str} {vs : List V} (h : vs.length ≤ N.length) : (L2.start N vs).length = N.length := by
  simp [L2.start]; omega
theorem SO.start {N : List Str} {vs : List V} {ds : List Dat} (sb : Sub F H) (r : RpAll P w K F vs ds) (hl : vs.length ≤ N.length) : SO P w K (rho0 N.length ds) (L2.start N vs) H F where
  sub := sb
  len := by rw [rho0_length (by rw [← r.length]; exact hl), start_length hl]
  val := fun i d e => by
    obtain ⟨d', h1, h2⟩ := rho0_val e (fun z => by cases z)
    cases h1
    obtain ⟨v, hv, rv⟩ := r.get h2
    exact ⟨v, start_get hv, rv⟩
  own := fun i b d e => by
    obtain ⟨d', h1, h2⟩ := rho0_val e (fun z => by cases z)
    cases h1
  inj := fun i j b c d e a h => by
    obtain ⟨d', h1, h2⟩ := rho0_val h (fun z => by cases z)
    cases h1
theorem noOwn0 {n : Nat} {ds : List Dat} {a : Addr} : ¬ IsOwn (rho0 n ds) σ a := fun ⟨i, b, d, h, _⟩ => by
  obtain ⟨d', h1, h2⟩ := rho0_val h (fun z => by cases z)
  cases h1
theorem Step.new {n : Nat} {ds : List Dat} (st : Step (rho0 n ds) σ H F ρ' σ' H' F') (sb : Sub F' H') : New H F H' F' :=
  ⟨st.subF, fun a o h => (st.fresh a o h).imp id (fun z => z.elim id fun z => (noOwn0 z).elim), fun a o h => st.keep a o h noOwn0, sb⟩
theorem New.fz {a : Addr} {o : HO} (n : New H F H' F') (h0 : H a = none) (ho : H' a = some o) (hf : F' a = none) : New H F H' (upd F' a o) :=
  ⟨n.subF.trans (sub_upd hf), fun b u e => by
    by_cases hb : b = a
    · subst hb; exact .inr h0
    · rw [upd_ne hb] at e; exact n.fresh b u e, n.keep, fun b u e => by
    by_cases hb : b = a
    · subst hb; rw [upd_same] at e; rw [← e]; exact ho
    · rw [upd_ne hb] at e; exact n.subH b u e⟩
theorem tS_A {N : List Str} {vs : List V} {f : FS} {Q : VK} {E : XK} (hl : vs.length ≤ N.length) (h : spA P w K (runA N.length f) vs H Q E) :
    tSd P w K f { nx := fun _ H' => Q .non H', rt := Q } (L2.start N vs) H := by
  obtain ⟨F, ds, d, sb, r, e, k⟩ := h
  unfold runA at e
  have so := SO.start (N := N) sb r hl
  split at e
  · rename_i ρ' d' e1
    cases e
    exact ⟨_, F, _, _, so, e1, fun σ1 H1 F1 so1 st1 v rv => k v H1 F1 (st1.new so1.sub) rv⟩
  · rename_i ρ' d' e1
    cases e
    refine ⟨_, F, _, _, so, e1, fun σ1 H1 F1 so1 st1 a h1 h2 h3 h4 => ?_⟩
    obtain ⟨o, ho⟩ := h1.there
    have h0 : H a = none := h4.elim id fun z => (noOwn0 z).elim
    exact k _ H1 _ ((st1.new so1.sub).fz h0 ho h2) (h1.rp ho h2)
  · rename_i ρ' e1
    cases e
    exact ⟨_, F, _, _, so, e1, fun σ1 H1 F1 so1 st1 => k .non H1 F1 (st1.new so1.sub) .non⟩
  · cases e
theorem tS_N {N : List Str} {vs : List V} {f : FS} {Q : VK} {E : XK} (hl : vs.length ≤ N.length) (h : spN P w K (runN N.length f) vs H Q E) :
    tSd P w K f { nx := fun _ H' => Q .non H', rt := Q } (L2.start N vs) H := by
  obtain ⟨F, ds, d, sb, r, e, k⟩ := h
  unfold runN at e
  have so := SO.start (N := N) sb r hl
  split at e
  · rename_i ρ' d' e1
    cases e
    exact ⟨_, F, _, _, so, e1, fun σ1 H1 F1 so1 st1 a h1 h2 h3 h4 => k a H1 F1 (st1.new so1.sub) h1 h2 (h4.elim id fun z => (noOwn0 z).elim)⟩
  · cases e
theorem SO.startP {N : List Str} {p : Addr} {c : Dat} {vs : List V} {ds : List Dat} (sb : Sub F H) (hF : F p = none) (ow : Own P w K H F p c) (r : RpAll P w K F vs ds) (hl : vs.length + 1 ≤ N.length) :
    SO P w K (rhoP N.length c ds) (L2.start N (.ref p :: vs)) H F where
  sub := sb
  len := by
    rw [start_length (by simpa using hl)]
    unfold rhoP
    rw [List.length_cons, rho0_length (by rw [← r.length]; omega)]
    omega
  val := fun i d e => by
    cases i with
    | zero => cases e
    | succ i =>
      obtain ⟨d', h1, h2⟩ := rho0_val (show (rho0 (N.length - 1) ds)[i]? = some (.val d) from e) (fun z => by cases z)
      cases h1
      obtain ⟨v, hv, rv⟩ := r.get h2
      exact ⟨v, start_get (by simpa using hv), rv⟩
  own := fun i b d e => by
    cases i with
    | zero =>
      cases e
      exact ⟨p, start_get rfl, hF, ow⟩
    | succ i =>
      obtain ⟨d', h1, h2⟩ := rho0_val (show (rho0 (N.length - 1) ds)[i]? = some (.own b d) from e) (fun z => by cases z)
      cases h1
  inj := fun i j b c d e a h h' _ _ => by
    cases i with
    | zero =>
      cases j with
      | zero => rfl
      | succ j =>
        obtain ⟨d', h1, h2⟩ := rho0_val (show (rho0 (N.length - 1) ds)[j]? = some (.own c e) from h') (fun z => by cases z)
        cases h1
    | succ i =>
      obtain ⟨d', h1, h2⟩ := rho0_val (show (rho0 (N.length - 1) ds)[i]? = some (.own b d) from h) (fun z => by cases z)
      cases h1
theorem ownP {N : List Str} {n : Nat} {c : Dat} {ds : List Dat} {p a : Addr} {vs : List V} (h : IsOwn (rhoP n c ds) (L2.start N (.ref p :: vs)) a) : a = p := by
  obtain ⟨i, b, d, h, h'⟩ := h
  cases i with
  | zero =>
    have e : (L2.start N (.ref p :: vs))[0]? = some (some (.ref p)) := start_get rfl
    rw [e] at h'; cases h'
    rfl
  | succ i =>
    obtain ⟨d', h1, h2⟩ := rho0_val (show (rho0 (n - 1) ds)[i]? = some (.own b d) from h) (fun z => by cases z)
    cases h1
theorem Step.newB {N : List Str} {n : Nat} {c : Dat} {ds : List Dat} {p : Addr} {vs : List V} (st : Step (rhoP n c ds) (L2.start N (.ref p :: vs)) H F ρ' σ' H' F') (sb : Sub F' H') (hF' : F' p = none) : NewB p H F H' F' :=
  ⟨st.subF, fun a o h => (st.fresh a o h).imp id (fun z => z.elim id fun z => by
    have := ownP z
    subst this
    rw [hF'] at h; cases h), fun a o h n => st.keep a o h fun z => n (ownP z), sb⟩
theorem NewB.fz {p a : Addr} {o : HO} (n : NewB p H F H' F') (h0 : H a = none) (ho : H' a = some o) (hf : F' a = none) : NewB p H F H' (upd F' a o) :=
  ⟨n.subF.trans (sub_upd hf), fun b u e => by
    by_cases hb : b = a
    · subst hb; exact .inr h0
    · rw [upd_ne hb] at e; exact n.fresh b u e, n.keep, fun b u e => by
    by_cases hb : b = a
    · subst hb; rw [upd_same] at e; rw [← e]; exact ho
    · rw [upd_ne hb] at e; exact n.subH b u e⟩
theorem pool0_some {ρ : Rho} {c : Dat} (h : pool0 ρ = some c) : ρ[0]? = some (.own true c) := by
  unfold pool0 at h
  split at h
  · cases h; rfl
  · cases h
theorem tS_P {N : List Str} {vs : List V} {f : FS} {Q : VK} {E : XK} (hl : vs.length ≤ N.length) (h : spP P w K (runP N.length f) vs H Q E) :
    tSd P w K f { nx := fun _ H' => Q .non H', rt := Q } (L2.start N vs) H := by
  obtain ⟨F, p, us, c, ds, d, c', rfl, sb, hF, ow, r, e, k⟩ := h
  unfold runP at e
  have so := SO.startP (N := N) sb hF ow r (by simpa using hl)
  have end_ : ∀ {ρ1 : Rho} {σ1 : Sg} {H1 F1 : Hp}, SO P w K ρ1 σ1 H1 F1 → Step (rhoP N.length c ds) (L2.start N (.ref p :: us)) H F ρ1 σ1 H1 F1 → pool0 ρ1 = some c' → NewB p H F H1 F1 ∧ Own P w K H1 F1 p c' ∧ F1 p = none := fun {ρ1 σ1 H1 F1} so1 st1 e1 => by
    have e2 := pool0_some e1
    obtain ⟨a, h1, h2, h3⟩ := so1.own 0 true c' e2
    have e0 : (L2.start N (.ref p :: us))[0]? = some (some (.ref p)) := start_get rfl
    have e3 := (st1.par 0 c rfl).2
    rw [e3, e0] at h1
    cases h1
    exact ⟨st1.newB so1.sub h2, h3, h2⟩
  split at e
  · rename_i ρ' d' e1
    simp only [Option.map_eq_some_iff] at e
    obtain ⟨c2, e2, e3⟩ := e
    cases e3
    refine ⟨_, F, _, _, so, e1, fun σ1 H1 F1 so1 st1 v rv => ?_⟩
    obtain ⟨q1, q2, _⟩ := end_ so1 st1 e2
    exact k v H1 F1 q1 q2 rv
  · rename_i ρ' d' e1
    simp only [Option.map_eq_some_iff] at e
    obtain ⟨c2, e2, e3⟩ := e
    cases e3
    refine ⟨_, F, _, _, so, e1, fun σ1 H1 F1 so1 st1 a h1 h2 h3 h4 => ?_⟩
    obtain ⟨q1, q2, q3⟩ := end_ so1 st1 e2
    obtain ⟨o, ho⟩ := h1.there
    have e2' := pool0_some e2
    have e0 : (L2.start N (.ref p :: us))[0]? = some (some (.ref p)) := start_get rfl
    have hap : a ≠ p := fun z => h3 ⟨0, true, _, e2', by rw [(st1.par 0 c rfl).2, e0, z]⟩
    have h0 : H a = none := h4.elim id fun z => (hap (ownP z)).elim
    exact k _ H1 _ (q1.fz h0 ho h2) (q2.mono rfl (sub_upd h2)) (h1.rp ho h2)
  · rename_i ρ' e1
    simp only [Option.map_eq_some_iff] at e
    obtain ⟨c2, e2, e3⟩ := e
    cases e3
    refine ⟨_, F, _, _, so, e1, fun σ1 H1 F1 so1 st1 => ?_⟩
    obtain ⟨q1, q2, _⟩ := end_ so1 st1 e2
    exact k .non H1 F1 q1 q2 .non
  · cases e
end

/-- a def of the module that others call -/
structure Cal (P : Program) (w : World) (K : PySem.W.Frag) (mg : Str → Option Value) (base : Heap) (x : Str) (k : Nat) (sp : Sp) : Prop where
  ex : ∃ f fd ps, FnOk P w K mg base CX0 k f fd ps sp ∧ mg x = some (.ref f) ∧ PySem.W.keepIn K (.ref f) = true ∧ Binds K fd ps []
def cCall (m : List Dat → Option Dat) (f : FA) : FE := fun ρ => match f ρ with
  | some (ds, ρ1) => match m ds with
    | some d => some (.dat d, ρ1)
    | none => none
  | none => none
def cCallN (m : List Dat → Option Dat) (f : FA) : FE := fun ρ => match f ρ with
  | some (ds, ρ1) => match m ds with
    | some d => some (.new d, ρ1)
    | none => none
  | none => none
def cCallP (i : Nat) (m : Dat → List Dat → Option (Dat × Dat)) (f : FA) : FE := fun ρ => match cVar i ρ with
  | some (.slot _, ρ0) => match f ρ0 with
    | some (ds, ρ1) => match ρ1[i]? with
      | some (.own b c) => match m c ds with
        | some (d, c') => some (.dat d, ρ1.set i (.own b c'))
        | none => none
      | _ => none
    | none => none
  | _ => none
section
variable {X : Cx} {x : Str} {e : Expr} {es : List Expr} {p pos : Pos} {k j : Nat}
theorem de_call {m : List Dat → Option Dat} {f : FA} (C : Cal X.prog X.w X.K X.mg X.base x k (spA X.prog X.w X.K m)) (hr : Room j X.A) (hk : k ≤ j) (hg : Gl X x) (ha : DA X (e :: es) f)
    (hdb : (x == ("__debug__" : Str)) = false := by decide) (he : starEach (e :: es) X.env = (false, eval e X.env) :: starEach es X.env := by rfl) (hpl : (backTo pos (starEach es X.env)).any (·.1) = false := by rfl) :
    DE X (.Call (.Name x p) (e :: es) [] pos) (cCall m f) := by
  obtain ⟨fa, fd, ps, F, hm, kp, b⟩ := C.ex
  refine peImp (pe_call F (hr.mono hk) hg hm kp b .nil pass0 ha hdb he hpl) fun σ H Q q => ?_
  obtain ⟨ρ, F0, h, ρ', so, e, k⟩ := q
  unfold cCall at e
  split at e
  · rename_i ds ρ1 e1
    split at e
    · rename_i d e2
      cases e
      refine ⟨ρ, F0, ds, _, so, e1, fun vs H1 F1 so1 st1 r => ?_⟩
      show spA _ _ _ m (vs ++ []) H1 Q E0
      rw [List.append_nil]
      exact ⟨F1, ds, d, so1.sub, r, e2, fun v H2 F2 n rv => k v H2 F2 (so1.new n) (st1.trans n.step) rv⟩
    · cases e
  · cases e
theorem de_callN {m : List Dat → Option Dat} {f : FA} (C : Cal X.prog X.w X.K X.mg X.base x k (spN X.prog X.w X.K m)) (hr : Room j X.A) (hk : k ≤ j) (hg : Gl X x) (ha : DA X (e :: es) f)
    (hdb : (x == ("__debug__" : Str)) = false := by decide) (he : starEach (e :: es) X.env = (false, eval e X.env) :: starEach es X.env := by rfl) (hpl : (backTo pos (starEach es X.env)).any (·.1) = false := by rfl) :
    DE X (.Call (.Name x p) (e :: es) [] pos) (cCallN m f) := by
  obtain ⟨fa, fd, ps, F, hm, kp, b⟩ := C.ex
  refine peImp (pe_call F (hr.mono hk) hg hm kp b .nil pass0 ha hdb he hpl) fun σ H Q q => ?_
  obtain ⟨ρ, F0, h, ρ', so, e, k⟩ := q
  unfold cCallN at e
  split at e
  · rename_i ds ρ1 e1
    split at e
    · rename_i d e2
      cases e
      refine ⟨ρ, F0, ds, _, so, e1, fun vs H1 F1 so1 st1 r => ?_⟩
      show spN _ _ _ m (vs ++ []) H1 Q E0
      rw [List.append_nil]
      refine ⟨F1, ds, d, so1.sub, r, e2, fun a H2 F2 n ow hf h0 => k _ H2 F2 (so1.new n) (st1.trans n.step) ⟨a, rfl, ow, hf, fun z => ?_, ?_⟩⟩
      · obtain ⟨o, ho⟩ := so1.ownThere z
        rw [h0] at ho; cases ho
      · cases q : H a with
        | none => rfl
        | some u =>
          obtain ⟨u', z⟩ := st1.stay a u q
          rw [h0] at z; cases z
    · cases e
  · cases e
theorem de_callP {i : Nat} {m : Dat → List Dat → Option (Dat × Dat)} {f : FA} (C : Cal X.prog X.w X.K X.mg X.base x k (spP X.prog X.w X.K m)) (hr : Room j X.A) (hk : k ≤ j) (hg : Gl X x) (hv : DE X e (cVar i)) (ha : DA X es f)
    (hse : starEach (e :: es) X.env = (false, eval e X.env) :: starEach es X.env := by rfl)
    (hdb : (x == ("__debug__" : Str)) = false := by decide) (hpl : (backTo pos (starEach es X.env)).any (·.1) = false := by rfl) :
    DE X (.Call (.Name x p) (e :: es) [] pos) (cCallP i m f) := by
  obtain ⟨fa, fd, ps, F, hm, kp, b⟩ := C.ex
  refine peImp (pe_call F (hr.mono hk) hg hm kp b .nil pass0 (pa_cons hv ha hse) hdb hse hpl) fun σ H Q q => ?_
  obtain ⟨ρ, F0, h, ρ', so, e, k⟩ := q
  unfold cCallP at e
  split at e
  · rename_i i' ρ0 e0
    have hi : i' = i ∧ ρ0 = ρ := by
      unfold cVar at e0
      split at e0 <;> cases e0
      exact ⟨rfl, rfl⟩
    obtain ⟨rfl, rfl⟩ := hi
    split at e
    · rename_i ds ρ1 e1
      split at e
      · rename_i b c e2
        split at e
        · rename_i d c' e3
          cases e
          refine ⟨_, F0, _, _, so, e0, fun v H1 F1 so1 st1 rv => ⟨_, F1, ds, _, so1, e1, fun vs H2 F2 so2 st2 r => ?_⟩⟩
          show spP _ _ _ m ((v :: vs) ++ []) H2 Q E0
          rw [List.append_nil]
          obtain ⟨q, h1, h2, h3⟩ := so2.own _ b c e2
          have hv' : σ[i']? = some (some v) := rv
          rw [hv'] at h1; cases h1
          obtain ⟨o, ho⟩ := h3.there
          refine ⟨F2, q, vs, c, ds, d, c', rfl, so2.sub, h2, h3, r, e3, fun u H3 F3 n ow ru => ?_⟩
          have hilt : i' < ρ1.length := (List.getElem?_eq_some_iff.mp e2).1
          have f3 : F3 q = none := by
            cases z : F3 q with
            | none => rfl
            | some y =>
              rcases n.fresh q y z with y' | y'
              · rw [h2] at y'; cases y'
              · rw [ho] at y'; cases y'
          have so3 : SO X.prog X.w X.K (ρ1.set i' (.own b c')) σ H3 F3 := by
            refine ⟨n.subH, by rw [List.length_set]; exact so2.len, fun a d e => ?_, fun a b' d e => ?_, fun a a' b1 b2 d e' z h h' => ?_⟩
            · by_cases ha : i' = a
              · subst ha; cases setEq e
              · obtain ⟨y, y1, y2⟩ := so2.val a d (setNe e ha)
                exact ⟨y, y1, y2.sub n.subF⟩
            · by_cases ha : i' = a
              · subst ha
                cases setEq e
                exact ⟨q, hv', f3, ow⟩
              · obtain ⟨y, y1, y2, y3⟩ := so2.own a b' d (setNe e ha)
                have hy : y ≠ q := fun zz => ha (so2.inj i' a b b' c d q e2 (setNe e ha) hv' (by rw [← zz]; exact y1))
                obtain ⟨oy, hoy⟩ := y3.there
                refine ⟨y, y1, ?_, y3.mono ((n.keep y oy hoy hy).trans hoy.symm) n.subF⟩
                cases z : F3 y with
                | none => rfl
                | some y' =>
                  rcases n.fresh y y' z with y'' | y''
                  · rw [y2] at y''; cases y''
                  · rw [hoy] at y''; cases y''
            · have back : ∀ {a : Nat} {b1 : Bool} {d : Dat}, (ρ1.set i' (.own b c'))[a]? = some (.own b1 d) → ∃ b2 d2, ρ1[a]? = some (.own b2 d2) := fun {a b1 d} h => by
                by_cases ha : i' = a
                · subst ha; exact ⟨b, c, e2⟩
                · exact ⟨b1, d, setNe h ha⟩
              obtain ⟨_, _, g1⟩ := back h
              obtain ⟨_, _, g2⟩ := back h'
              exact so2.inj a a' _ _ _ _ z g1 g2
          have st3 : Step ρ1 σ H2 F2 (ρ1.set i' (.own b c')) σ H3 F3 := by
            refine ⟨n.subF, fun a o h => (n.fresh a o h).imp id .inl, fun a o h hn => n.keep a o h fun z => hn (by subst z; exact ⟨i', b, c, e2, hv'⟩), fun a h => ?_, fun a o h => ?_, fun a d h => ⟨?_, rfl⟩⟩
            · obtain ⟨a', b', d', h1, h2'⟩ := h
              by_cases ha : i' = a'
              · subst ha; exact .inl ⟨i', b, c, e2, h2'⟩
              · exact .inl ⟨a', b', d', setNe h1 ha, h2'⟩
            · by_cases ha : a = q
              · subst ha; exact ow.there
              · exact ⟨o, n.keep a o h ha⟩
            · by_cases ha : i' = a
              · subst ha
                rw [e2] at h; cases h
                exact ⟨c', List.getElem?_set_self hilt⟩
              · exact ⟨d, by rw [List.getElem?_set_ne ha]; exact h⟩
          exact k u H3 F3 so3 ((st1.trans st2).trans st3) ru
        · cases e
      · cases e
    · cases e
  · cases e
end
end Dl

set_option Elab.async false
set_option linter.all false
set_option maxRecDepth 100000
set_option maxHeartbeats 4000000
/-! DK: operators by data. -/
namespace Dl
open PySem PySem.Spec PyProof.Rows L2

mutual
def toPy : Dat → PyData
  | .non => .none
  | .bl b => .bool b
  | .int i => .int i
  | .str s => .str s
  | .tup xs => .tuple (toPys xs)
  | .lst xs => .list (toPys xs)
  | .dic _ _ => .dict []
  | .scr _ => .dict []
  | .wtp _ => .dict []
  | .dil _ => .dict []
def toPys : List Dat → List PyData
  | [] => []
  | x :: xs => toPy x :: toPys xs
end
mutual
/-- data of depth n at most, without dicts: these may be compared -/
def okD : Nat → Dat → Bool
  | _, .non => true
  | _, .bl _ => true
  | _, .int _ => true
  | _, .str s => PyData.strOk s
  | 0, .tup _ => false
  | n + 1, .tup xs => okDs n xs
  | 0, .lst _ => false
  | n + 1, .lst xs => okDs n xs
  | _, .dic _ _ => false
  | _, .scr _ => false
  | _, .wtp _ => false
  | _, .dil _ => false
def okDs : Nat → List Dat → Bool
  | _, [] => true
  | n, x :: xs => okD n x && okDs n xs
end
mutual
theorem okD_py : ∀ (n : Nat) (d : Dat), okD n d = true → (toPy d).canLay0 = true ∧ (toPy d).depth ≤ n
  | n, .non, _ => by simp [toPy, PyData.canLay0, PyData.depth]
  | n, .bl _, _ => by simp [toPy, PyData.canLay0, PyData.depth]
  | n, .int _, _ => by simp [toPy, PyData.canLay0, PyData.depth]
  | n, .str s, h => by
    simp only [okD] at h
    simp [toPy, PyData.canLay0, PyData.depth, h]
  | 0, .tup _, h => by simp [okD] at h
  | n + 1, .tup xs, h => by
    simp only [okD] at h
    have := okDs_py n xs h
    simp only [toPy, PyData.canLay0, PyData.depth]
    exact ⟨this.1, by omega⟩
  | 0, .lst _, h => by simp [okD] at h
  | n + 1, .lst xs, h => by
    simp only [okD] at h
    have := okDs_py n xs h
    simp only [toPy, PyData.canLay0, PyData.depth]
    exact ⟨this.1, by omega⟩
  | n, .dic _ _, h => by simp [okD] at h
  | n, .scr _, h => by simp [okD] at h
  | n, .wtp _, h => by simp [okD] at h
  | n, .dil _, h => by simp [okD] at h
theorem okDs_py : ∀ (n : Nat) (xs : List Dat), okDs n xs = true → PyData.canLayAll0 (toPys xs) = true ∧ PyData.depthAll (toPys xs) ≤ n
  | n, [], _ => by simp [toPys, PyData.canLayAll0, PyData.depthAll]
  | n, x :: xs, h => by
    simp only [okDs, Bool.and_eq_true] at h
    have h1 := okD_py n x h.1
    have h2 := okDs_py n xs h.2
    simp only [toPys, PyData.canLayAll0, PyData.depthAll, Bool.and_eq_true]
    exact ⟨⟨h1.1, h2.1⟩, by omega⟩
end
section
variable {P : Program} {w : World} {K : PySem.W.Frag} {H F : Hp}
mutual
theorem Rp.dp : ∀ {n : Nat} {v : V} {d : Dat}, Rp P w K F v d → okD n d = true → Dp K F v (toPy d)
  | _, _, _, .non, _ => .non
  | _, _, _, .bl b, _ => .bl b
  | _, _, _, .int i, _ => .int i
  | _, _, _, .str i, _ => .str i
  | 0, _, _, .tup s r, h => by simp [okD] at h
  | n + 1, _, _, .tup s r, h => .tup s.sq (RpAll.dp r (by simpa only [okD] using h))
  | 0, _, _, .lst s r, h => by simp [okD] at h
  | n + 1, _, _, .lst s r, h => .lst (.of s) (RpAll.dp r (by simpa only [okD] using h))
  | _, _, _, .dic _ _, h => by simp [okD] at h
  | _, _, _, .dik _ _, h => by simp [okD] at h
  | _, _, _, .scr _, h => by simp [okD] at h
  | _, _, _, .wtp _ _, h => by simp [okD] at h
  | _, _, _, .dil _ _, h => by simp [okD] at h
theorem RpAll.dp : ∀ {n : Nat} {v : List V} {d : List Dat}, RpAll P w K F v d → okDs n d = true → DpAll K F v (toPys d)
  | _, _, _, .nil, _ => .nil
  | n, _, _, .cons r t, h => by
    simp only [okDs, Bool.and_eq_true] at h
    exact .cons (Rp.dp r h.1) (RpAll.dp t h.2)
end
mutual
theorem Dp.sub (s : Sub F H) : ∀ {v : V} {d : PyData}, Dp K F v d → Dp K H v d
  | _, _, .non => .non
  | _, _, .bl b => .bl b
  | _, _, .int b => .int b
  | _, _, .str b => .str b
  | _, _, .lst q r => .lst (s.ext.sqL q) (DpAll.sub s r)
  | _, _, .tup q r => .tup (s.ext.sqT q) (DpAll.sub s r)
theorem DpAll.sub (s : Sub F H) : ∀ {v : List V} {d : List PyData}, DpAll K F v d → DpAll K H v d
  | _, _, .nil => .nil
  | _, _, .cons r t => .cons (Dp.sub s r) (DpAll.sub s t)
end
theorem View.dp {n : Nat} {v : V} {d : Dat} (s : Sub F H) (h : View P w K H F v d) (o : okD n d = true) : Dp K H v (toPy d) := by
  rcases h with h | ⟨a, rfl, h⟩
  · exact Dp.sub s (h.dp o)
  · cases h with
    | lst e r =>
      cases n with
      | zero => simp [okD] at o
      | succ n => exact .lst (.of e) (DpAll.sub s (r.dp (by simpa only [okD] using o)))
    | dic e r => simp [okD] at o
    | dik e r => simp [okD] at o
theorem View.int {v : V} {i : Int} (h : View P w K H F v (.int i)) : v = .int i := by
  rcases h with h | ⟨a, rfl, h⟩
  · cases h; rfl
  · cases h
theorem View.str {v : V} {i : Str} (h : View P w K H F v (.str i)) : v = .str i := by
  rcases h with h | ⟨a, rfl, h⟩
  · cases h; rfl
  · cases h
theorem View.bl {v : V} {i : Bool} (h : View P w K H F v (.bl i)) : v = .bl i := by
  rcases h with h | ⟨a, rfl, h⟩
  · cases h; rfl
  · cases h
theorem View.non {v : V} (h : View P w K H F v .non) : v = .non := by
  rcases h with h | ⟨a, rfl, h⟩
  · cases h; rfl
  · cases h
theorem View.tup {v : V} {ds : List Dat} (s : Sub F H) (h : View P w K H F v (.tup ds)) : ∃ a xs, v = .ref a ∧ SqT K H a xs ∧ RpAll P w K F xs ds ∧ Rp P w K F v (.tup ds) := by
  rcases h with h | ⟨a, rfl, h⟩
  · cases h with
    | tup q r => exact ⟨_, _, rfl, s.ext.sqT q.sq, r, .tup q r⟩
  · cases h
theorem View.lst {v : V} {ds : List Dat} (s : Sub F H) (h : View P w K H F v (.lst ds)) : ∃ a xs, v = .ref a ∧ H a = some (.lst xs) ∧ RpAll P w K F xs ds := by
  rcases h with h | ⟨a, rfl, h⟩
  · cases h with
    | lst q r => exact ⟨_, _, rfl, s _ _ q, r⟩
  · cases h with
    | lst q r => exact ⟨_, _, rfl, q, r⟩
end

theorem opImp {X : Cx} {f : Value → Value → Sem Value} {r r' : R2} (h : OpR X f r) (i : ∀ x y H Q, r' x y H Q → r x y H Q) : OpR X f r' := fun pins s σ H x y v u Q I rx ry q => h pins s σ H x y v u Q I rx ry (i x y H Q q)
/-- an operator: for each pair of data one of its rules -/
theorem dop_of {X : Cx} {f : Value → Value → Sem Value} {g : Dat → Dat → Option Dat}
    (h : ∀ (d e z : Dat), g d e = some z → ∃ r : R2, OpR X f r ∧ ∀ x y H F Q, Sub F H → View X.prog X.w X.K H F x d → View X.prog X.w X.K H F y e → (∀ v H' F', New H F H' F' → Rp X.prog X.w X.K F' v z → Q v H') → r x y H Q) : DOp X f g :=
  fun pins s σ H x y v u Q I rx ry q => by
    obtain ⟨F, d, e, z, sb, vx, vy, hg, k⟩ := q
    obtain ⟨r, hr, hi⟩ := h d e z hg
    exact hr pins s σ H x y v u Q I rx ry (hi x y H F Q sb vx vy k)
section
variable {X : Cx}
def gSub : Dat → Dat → Option Dat
  | .int i, .int j => some (.int (i - j))
  | _, _ => none
theorem do_sub : DOp X (binaryOp .Sub) gSub := dop_of fun d e z hg => by
  unfold gSub at hg
  split at hg
  · cases hg
    exact ⟨_, op_sub, fun x y H F Q sb vx vy k => ⟨_, _, vx.int, vy.int, k _ H F (New.refl sb) (.int _)⟩⟩
  · cases hg
def gMul : Dat → Dat → Option Dat
  | .int i, .int j => if i.natAbs.log2 + j.natAbs.log2 < 1000000 then some (.int (i * j)) else none
  | _, _ => none
theorem do_mul : DOp X (binaryOp .Mult) gMul := dop_of fun d e z hg => by
  unfold gMul at hg
  split at hg
  · split at hg
    · rename_i hc
      cases hg
      exact ⟨_, op_mulW, fun x y H F Q sb vx vy k => ⟨_, _, vx.int, vy.int, hc, k _ H F (New.refl sb) (.int _)⟩⟩
    · cases hg
  · cases hg
/-- a product one of whose factors is small, however great the other one is -/
def gMulS : Dat → Dat → Option Dat
  | .int i, .int j => if -(2 ^ 64) < j ∧ j < 2 ^ 64 then some (.int (i * j)) else none
  | _, _ => none
theorem do_mulS : DOp X (binaryOp .Mult) gMulS := dop_of fun d e z hg => by
  unfold gMulS at hg
  split at hg
  · split at hg
    · rename_i hc
      cases hg
      exact ⟨_, op_mul, fun x y H F Q sb vx vy k => ⟨_, _, vx.int, vy.int, .inr hc, k _ H F (New.refl sb) (.int _)⟩⟩
    · cases hg
  · cases hg
def CFd (_ j : Int) : Prop := j ≠ 0 ∧ j.natAbs.log2 < 9000
theorem op_fdv : OpR X (binaryOp .FloorDiv) (rI CFd fun i j => .int (i.fdiv j)) := opI fun i j _ _ _ _ _ hc q =>
  floordiv_int hc.1 q (.inl (PyProof.noPylong_of_log2 hc.2))
def gFdiv : Dat → Dat → Option Dat
  | .int i, .int j => if j ≠ 0 ∧ j.natAbs.log2 < 9000 then some (.int (i.fdiv j)) else none
  | _, _ => none
theorem do_fdiv : DOp X (binaryOp .FloorDiv) gFdiv := dop_of fun d e z hg => by
  unfold gFdiv at hg
  split at hg
  · split at hg
    · rename_i hc
      cases hg
      exact ⟨_, op_fdv, fun x y H F Q sb vx vy k => ⟨_, _, vx.int, vy.int, hc, k _ H F (New.refl sb) (.int _)⟩⟩
    · cases hg
  · cases hg
def gMod : Dat → Dat → Option Dat
  | .int i, .int j => if j ≠ 0 then some (.int (i.fmod j)) else none
  | _, _ => none
theorem do_mod : DOp X (binaryOp .Mod) gMod := dop_of fun d e z hg => by
  unfold gMod at hg
  split at hg
  · split at hg
    · rename_i hc
      cases hg
      exact ⟨_, op_modN, fun x y H F Q sb vx vy k => ⟨_, _, vx.int, vy.int, hc, k _ H F (New.refl sb) (.int _)⟩⟩
    · cases hg
  · cases hg
def gPow : Dat → Dat → Option Dat
  | .int i, .int j => if 0 ≤ j ∧ j ≤ 1000 ∧ i.natAbs < 1000 then some (.int (i ^ j.toNat)) else none
  | _, _ => none
theorem do_pow : DOp X (binaryOp .Pow) gPow := dop_of fun d e z hg => by
  unfold gPow at hg
  split at hg
  · split at hg
    · rename_i hc
      cases hg
      exact ⟨_, op_pow, fun x y H F Q sb vx vy k => ⟨_, _, vx.int, vy.int, ⟨hc.1, by omega, by have := hc.2.2; omega⟩, k _ H F (New.refl sb) (.int _)⟩⟩
    · cases hg
  · cases hg
theorem rel_new {P : Program} {w : World} {K : PySem.W.Frag} {H F : Hp} {p : Addr} {o : Obj} (sb : Sub F H) (hp : H p = none) (ho : o.dict = none) {xs : List V} {ds : List Dat} (r : RpAll P w K F xs ds) :
    New H F (upd H p (.frz o (.tup xs))) (upd F p (.frz o (.tup xs))) ∧ Rp P w K (upd F p (.frz o (.tup xs))) (.ref p) (.tup ds) := by
  have n := New.one (o := .frz o (.tup xs)) sb hp
  exact ⟨n, .tup (.inl ⟨o, upd_same, ho⟩) (r.sub n.subF)⟩
theorem rel_newL {P : Program} {w : World} {K : PySem.W.Frag} {H F : Hp} {p : Addr} (sb : Sub F H) (hp : H p = none) {xs : List V} {ds : List Dat} (r : RpAll P w K F xs ds) :
    New H F (upd H p (.lst xs)) (upd F p (.lst xs)) ∧ Rp P w K (upd F p (.lst xs)) (.ref p) (.lst ds) := by
  have n := New.one (o := .lst xs) sb hp
  exact ⟨n, .lst upd_same (r.sub n.subF)⟩
def gAdd : Dat → Dat → Option Dat
  | .int i, .int j => some (.int (i + j))
  | .str a, .str b => if a.length + b.length < 1000000 then some (.str (a ++ b)) else none
  | .tup xs, .tup ys => if xs.length + ys.length < 1000000 then some (.tup (xs ++ ys)) else none
  | .lst xs, .lst ys => if xs.length + ys.length < 1000000 then some (.lst (xs ++ ys)) else none
  | _, _ => none
theorem fitsM {n : Nat} (h : n < 1000000) : n ≤ sizeLine := Nat.le_of_lt (Nat.lt_of_lt_of_le h (by decide))
theorem do_add : DOp X (binaryOp .Add) gAdd := dop_of fun d e z hg => by
  unfold gAdd at hg
  split at hg
  · cases hg
    exact ⟨_, op_add, fun x y H F Q sb vx vy k => ⟨_, _, vx.int, vy.int, k _ H F (New.refl sb) (.int _)⟩⟩
  · split at hg
    · rename_i hc
      cases hg
      exact ⟨_, op_add_str, fun x y H F Q sb vx vy k => ⟨_, _, vx.str, vy.str, fitsM hc, k _ H F (New.refl sb) (.str _)⟩⟩
    · cases hg
  · rename_i xs ys
    split at hg
    · rename_i hc
      cases hg
      refine ⟨_, op_catF, fun x y H F Q sb vx vy k => ?_⟩
      obtain ⟨a, us, rfl, ha, ra, pa⟩ := vx.tup sb
      obtain ⟨b, ws, rfl, hb, rb, pb⟩ := vy.tup sb
      refine ⟨a, b, us, ws, rfl, rfl, ha, hb, by rw [ra.length, rb.length]; exact fitsM hc, ?_⟩
      refine ⟨fun e => ?_, fun e => ?_, fun p o hp ho => ?_⟩
      · subst e
        cases ra
        exact k _ H F (New.refl sb) pb
      · subst e
        cases rb
        rw [List.append_nil] at k
        exact k _ H F (New.refl sb) pa
      · obtain ⟨n, r⟩ := rel_new sb hp ho (ra.append rb)
        exact k _ _ _ n r
    · cases hg
  · rename_i xs ys
    split at hg
    · rename_i hc
      cases hg
      refine ⟨_, op_cat, fun x y H F Q sb vx vy k => ?_⟩
      obtain ⟨a, us, rfl, ha, ra⟩ := vx.lst sb
      obtain ⟨b, ws, rfl, hb, rb⟩ := vy.lst sb
      refine ⟨a, b, us, ws, rfl, rfl, ha, hb, by rw [ra.length, rb.length]; exact fitsM hc, fun p hp => ?_⟩
      obtain ⟨n, r⟩ := rel_newL sb hp (ra.append rb)
      exact k _ _ _ n r
    · cases hg
  · cases hg
/-! ### comparisons -/
def gCmp (p : Int → Int → Bool) : Dat → Dat → Option Dat
  | .int i, .int j => some (.bl (p i j))
  | _, _ => none
theorem do_cmp {op : CmpOp} {p : Int → Int → Bool} (h : OpR X (compareOp op) (rI0 fun i j => .bl (p i j))) : DOp X (compareOp op) (gCmp p) := dop_of fun d e z hg => by
  unfold gCmp at hg
  split at hg
  · cases hg
    exact ⟨_, h, fun x y H F Q sb vx vy k => ⟨_, _, vx.int, vy.int, k _ H F (New.refl sb) (.bl _)⟩⟩
  · cases hg
abbrev gLe := gCmp fun i j => decide (i ≤ j)
abbrev gGt := gCmp fun i j => decide (j < i)
abbrev gGe := gCmp fun i j => decide (j ≤ i)
theorem do_le : DOp X (compareOp .LtE) gLe := do_cmp op_le
theorem do_gt : DOp X (compareOp .Gt) gGt := do_cmp op_gt
theorem do_ge : DOp X (compareOp .GtE) gGe := do_cmp op_ge
/-- a < b of data place by place alike -/
def rLtD (K : PySem.W.Frag) : R2 := fun x y H Q => ∃ d e, Dp K H x d ∧ Dp K H y e ∧ PySem.W.alike d e = true ∧ d ≠ .none ∧ d.depth ≤ 64 ∧ Q (.bl (PySem.W.dataLt d e)) H
theorem op_ltD (hu : X.A.units + 64 < cLine) : OpR X (compareOp .Lt) (rLtD X.K) := by
  intro pins s σ H x y v u Q I rx ry h
  obtain ⟨d, e, hd, he, ha, hn, hz, q⟩ := h
  obtain ⟨as, r1⟩ := Dp.reads I d x v hd rx
  obtain ⟨bs, r2⟩ := Dp.reads I e y u he ry
  exact PySem.W.rcLt_alike d e X.A s v u as bs r1 r2 ha hn (by have : min d.depth e.depth ≤ d.depth := Nat.min_le_left _ _; omega) _ _ _ _ ⟨.bl _, H, I, rfl, q⟩
def ltD (d e : Dat) : Bool := PySem.W.dataLt (toPy d) (toPy e)
def likeD (d e : Dat) : Bool := PySem.W.alike (toPy d) (toPy e)
def gLt : Dat → Dat → Option Dat
  | .int i, .int j => some (.bl (decide (i < j)))
  | .tup xs, .tup ys => if okDs 60 xs = true ∧ okDs 60 ys = true ∧ likeD (.tup xs) (.tup ys) = true then some (.bl (ltD (.tup xs) (.tup ys))) else none
  | .str xs, .str ys => if okD 60 (.str xs) = true ∧ okD 60 (.str ys) = true then some (.bl (ltD (.str xs) (.str ys))) else none
  | _, _ => none
theorem do_lt (hu : X.A.units + 64 < cLine) : DOp X (compareOp .Lt) gLt := dop_of fun d e z hg => by
  unfold gLt at hg
  split at hg
  · cases hg
    exact ⟨_, op_lt, fun x y H F Q sb vx vy k => ⟨_, _, vx.int, vy.int, k _ H F (New.refl sb) (.bl _)⟩⟩
  · rename_i xs ys
    split at hg
    · rename_i hc
      cases hg
      obtain ⟨h1, h2, h3⟩ := hc
      have o1 : okD 61 (.tup xs) = true := by simpa only [okD] using h1
      have o2 : okD 61 (.tup ys) = true := by simpa only [okD] using h2
      exact ⟨_, op_ltD hu, fun x y H F Q sb vx vy k => ⟨_, _, vx.dp sb o1, vy.dp sb o2, h3, by simp [toPy], by have := (okD_py _ _ o1).2; omega, k _ H F (New.refl sb) (.bl _)⟩⟩
    · cases hg
  · rename_i xs ys
    split at hg
    · rename_i hc
      cases hg
      exact ⟨_, op_ltD hu, fun x y H F Q sb vx vy k => ⟨_, _, vx.dp sb hc.1, vy.dp sb hc.2, by simp [toPy, PySem.W.alike], by simp [toPy], by simp [toPy, PyData.depth], k _ H F (New.refl sb) (.bl _)⟩⟩
    · cases hg
  · cases hg
def eqD (d e : Dat) : Bool := PyData.eqv (toPy d) (toPy e)
end
end Dl
namespace Dl
open PySem PySem.Spec PyProof.Rows L2 PySem.SeqAt
section
variable {prog : Program} {w : World}
theorem meets_list_ne_len (l b : Addr) (items items2 : Array Value) (n n2 : Nat) (dd dd2 : Option Addr) (sl sl2 : Array (Option Value)) (hsz : (items.size != items2.size) = true) :
    MeetsIn prog w (Builtin.«list.__ne__» ⟨[.ref l, .ref b], []⟩)
      (fun A R s => s.heap.get? l = some { cls := .type "list", dict := dd, data := .seq items n, slots := sl } ∧ s.heap.get? b = some { cls := .type "list", dict := dd2, data := .seq items2 n2, slots := sl2 } ∧
        R (.ok (.ret (.bool true))) s) := by
  intro A R s h
  obtain ⟨hp, g, d, tk, os⟩ := s; obtain ⟨hl, hb, h⟩ := h
  have f3 := AutoSeq1.sub_list_list
  wp_walk using wpAny_loadPart' hl, wpAny_loadPart' hb
  exact h
theorem ne_lists_len {A : Around} {s : Shared} {l b : Addr} {items items2 : Array Value} (hl : s.heap.IsList l items) (hb : s.heap.IsList b items2) (hsz : (items.size != items2.size) = true) (hu : A.units < cLine)
    (E Q : Value → Shared → Prop) (h : Q (.bool true) s) : wpAny (model prog w) A (richCompare .NotEq (.ref l) (.ref b)) Q E s := by
  obtain ⟨⟨cls, dd, data, sl⟩, ho, hc, n, hd⟩ := id hl
  obtain ⟨⟨cls2, dd2, data2, sl2⟩, ho2, hc2, n2, hd2⟩ := id hb
  simp only at hc hd hc2 hd2
  subst hc hd hc2 hd2
  have ta : s.TypeIs (.ref l) "list" := ⟨_, ho, rfl⟩
  have tb : s.TypeIs (.ref b) "list" := ⟨_, ho2, rfl⟩
  exact wpAny_richCompare_same_room (op := .NotEq) ta tb F.slot_list_ne (call_meetsIn F.slot_list_ne ta F.entry_list_ne (F.args_list_ne_2 _ _) (meets_list_ne_len l b items items2 n n2 dd dd2 sl sl2 hsz)
    ⟨ho, ho2, show Value.bool true ≠ Value.notImplemented ∧ Q (.bool true) s from ⟨(fun x => nomatch x), h⟩⟩) hu
theorem meets_list_eq_len (l b : Addr) (items items2 : Array Value) (n n2 : Nat) (dd dd2 : Option Addr) (sl sl2 : Array (Option Value)) (hsz : (items.size != items2.size) = true) :
    MeetsIn prog w (Builtin.«list.__eq__» ⟨[.ref l, .ref b], []⟩)
      (fun A R s => s.heap.get? l = some { cls := .type "list", dict := dd, data := .seq items n, slots := sl } ∧ s.heap.get? b = some { cls := .type "list", dict := dd2, data := .seq items2 n2, slots := sl2 } ∧
        R (.ok (.ret (.bool false))) s) := by
  intro A R s h
  obtain ⟨hp, g, d, tk, os⟩ := s; obtain ⟨hl, hb, h⟩ := h
  have f3 := AutoSeq1.sub_list_list
  wp_walk using wpAny_loadPart' hl, wpAny_loadPart' hb
  exact h
theorem eq_lists_len {A : Around} {s : Shared} {l b : Addr} {items items2 : Array Value} (hl : s.heap.IsList l items) (hb : s.heap.IsList b items2) (hsz : (items.size != items2.size) = true) (hu : A.units < cLine)
    (E Q : Value → Shared → Prop) (h : Q (.bool false) s) : wpAny (model prog w) A (richCompare .Eq (.ref l) (.ref b)) Q E s := by
  obtain ⟨⟨cls, dd, data, sl⟩, ho, hc, n, hd⟩ := id hl
  obtain ⟨⟨cls2, dd2, data2, sl2⟩, ho2, hc2, n2, hd2⟩ := id hb
  simp only at hc hd hc2 hd2
  subst hc hd hc2 hd2
  have ta : s.TypeIs (.ref l) "list" := ⟨_, ho, rfl⟩
  have tb : s.TypeIs (.ref b) "list" := ⟨_, ho2, rfl⟩
  exact wpAny_richCompare_same_room (op := .Eq) ta tb F.slot_list_eq (call_meetsIn F.slot_list_eq ta F.entry_list_eq (F.args_list_eq_2 _ _) (meets_list_eq_len l b items items2 n n2 dd dd2 sl sl2 hsz)
    ⟨ho, ho2, show Value.bool false ≠ Value.notImplemented ∧ Q (.bool false) s from ⟨(fun x => nomatch x), h⟩⟩) hu
end
section
variable {X : Cx}
def rNeLen : R2 := fun x y H Q => ∃ a b xs ys, x = .ref a ∧ y = .ref b ∧ H a = some (.lst xs) ∧ H b = some (.lst ys) ∧ xs.length ≠ ys.length ∧ Q (.bl true) H
theorem op_neLen (hu : X.A.units + 64 < cLine) : OpR X (compareOp .NotEq) rNeLen := by
  intro pins s σ H x y v u Q I rx ry h
  obtain ⟨a, b, xs, ys, rfl, rfl, ha, hb, hn, q⟩ := h
  cases rx
  cases ry
  obtain ⟨its, r1, p1, _⟩ := I.list (.of ha)
  obtain ⟨jts, r2, p2, _⟩ := I.list (.of hb)
  show wpAny _ _ (richCompare .NotEq (.ref a) (.ref b)) _ _ _
  refine ne_lists_len p1.isList p2.isList ?_ (by omega) _ _ ⟨.bl true, H, I, rfl, q⟩
  simp only [List.size_toArray, bne_iff_ne, ne_eq]
  rw [← r1.length, ← r2.length]
  exact hn
def rEqLen : R2 := fun x y H Q => ∃ a b xs ys, x = .ref a ∧ y = .ref b ∧ H a = some (.lst xs) ∧ H b = some (.lst ys) ∧ xs.length ≠ ys.length ∧ Q (.bl false) H
theorem op_eqLen (hu : X.A.units + 64 < cLine) : OpR X (compareOp .Eq) rEqLen := by
  intro pins s σ H x y v u Q I rx ry h
  obtain ⟨a, b, xs, ys, rfl, rfl, ha, hb, hn, q⟩ := h
  cases rx
  cases ry
  obtain ⟨its, r1, p1, _⟩ := I.list (.of ha)
  obtain ⟨jts, r2, p2, _⟩ := I.list (.of hb)
  show wpAny _ _ (richCompare .Eq (.ref a) (.ref b)) _ _ _
  refine eq_lists_len p1.isList p2.isList ?_ (by omega) _ _ ⟨.bl false, H, I, rfl, q⟩
  simp only [List.size_toArray, bne_iff_ne, ne_eq]
  rw [← r1.length, ← r2.length]
  exact hn
end
end Dl
namespace Dl
open PySem PySem.Spec PyProof.Rows L2
section
variable {X : Cx}
/-- two lists of different length -/
def lenNe : Dat → Dat → Bool
  | .lst xs, .lst ys => xs.length != ys.length
  | _, _ => false
theorem lenNe_of {d e : Dat} (h : lenNe d e = true) : ∃ xs ys, d = .lst xs ∧ e = .lst ys ∧ xs.length ≠ ys.length := by
  unfold lenNe at h
  split at h
  · exact ⟨_, _, rfl, rfl, by simpa using h⟩
  · cases h
def gEq (d e : Dat) : Option Dat := if lenNe d e = true then some (.bl false) else if okD 60 d = true ∧ okD 60 e = true then some (.bl (eqD d e)) else none
def gNe (d e : Dat) : Option Dat := if lenNe d e = true then some (.bl true) else if okD 60 d = true ∧ okD 60 e = true then some (.bl (!eqD d e)) else none
theorem okD_shaped {d : Dat} (h : okD 60 d = true) : SeqAt.shaped (toPy d) = true := by
  have := okD_py _ _ h
  unfold SeqAt.shaped
  rw [this.1]
  simp only [Bool.true_and, decide_eq_true_eq]
  omega
theorem do_eq (hu : X.A.units + 64 < cLine) : DOp X (compareOp .Eq) gEq := dop_of fun d e z hg => by
  unfold gEq at hg
  split at hg
  · rename_i hl
    cases hg
    obtain ⟨ds, es, rfl, rfl, hn⟩ := lenNe_of hl
    refine ⟨_, op_eqLen hu, fun x y H F Q sb vx vy k => ?_⟩
    obtain ⟨a, us, rfl, ha, ra⟩ := vx.lst sb
    obtain ⟨b, ws, rfl, hb, rb⟩ := vy.lst sb
    exact ⟨a, b, us, ws, rfl, rfl, ha, hb, by rw [ra.length, rb.length]; exact hn, k _ H F (New.refl sb) (.bl _)⟩
  split at hg
  · rename_i hc
    cases hg
    exact ⟨_, op_eqD hu, fun x y H F Q sb vx vy k => ⟨_, _, vx.dp sb hc.1, vy.dp sb hc.2, okD_shaped hc.1, okD_shaped hc.2, k _ H F (New.refl sb) (.bl _)⟩⟩
  · cases hg
theorem do_ne (hu : X.A.units + 64 < cLine) : DOp X (compareOp .NotEq) gNe := dop_of fun d e z hg => by
  unfold gNe at hg
  split at hg
  · rename_i hl
    cases hg
    obtain ⟨ds, es, rfl, rfl, hn⟩ := lenNe_of hl
    refine ⟨_, op_neLen hu, fun x y H F Q sb vx vy k => ?_⟩
    obtain ⟨a, us, rfl, ha, ra⟩ := vx.lst sb
    obtain ⟨b, ws, rfl, hb, rb⟩ := vy.lst sb
    exact ⟨a, b, us, ws, rfl, rfl, ha, hb, by rw [ra.length, rb.length]; exact hn, k _ H F (New.refl sb) (.bl _)⟩
  split at hg
  · rename_i hc
    cases hg
    exact ⟨_, op_neD hu, fun x y H F Q sb vx vy k => ⟨_, _, vx.dp sb hc.1, vy.dp sb hc.2, okD_shaped hc.1, okD_shaped hc.2, k _ H F (New.refl sb) (.bl _)⟩⟩
  · cases hg
def isNon : Dat → Bool
  | .non => true
  | _ => false
theorem View.isNon {P : Program} {w : World} {K : PySem.W.Frag} {H F : Hp} {v : V} {d : Dat} (h : View P w K H F v d) : decide (v = .non) = Dl.isNon d := by
  rcases h with h | ⟨a, rfl, h⟩
  · cases h <;> simp [Dl.isNon]
  · cases h <;> simp [Dl.isNon]
def gIsN : Dat → Dat → Option Dat
  | d, .non => some (.bl (isNon d))
  | _, _ => none
def gNotN : Dat → Dat → Option Dat
  | d, .non => some (.bl (!isNon d))
  | _, _ => none
def isBl (b : Bool) : Dat → Bool
  | .bl c => decide (c = b)
  | _ => false
/-- is: of None; of truths -/
def gIs : Dat → Dat → Option Dat
  | d, .non => some (.bl (isNon d))
  | .bl a, .bl b => some (.bl (decide (a = b)))
  | _, _ => none
def gIsNot : Dat → Dat → Option Dat
  | d, .non => some (.bl (!isNon d))
  | .bl a, .bl b => some (.bl (!decide (a = b)))
  | _, _ => none
theorem do_is : DOp X (compareOp .Is) gIs := dop_of fun d e z hg => by
  unfold gIs at hg
  split at hg
  · cases hg
    exact ⟨_, op_isN, fun x y H F Q sb vx vy k => ⟨vy.non, by rw [vx.isNon]; exact k _ H F (New.refl sb) (.bl _)⟩⟩
  · cases hg
    exact ⟨_, op_isBl, fun x y H F Q sb vx vy k => ⟨_, _, vx.bl, vy.bl, k _ H F (New.refl sb) (.bl _)⟩⟩
  · cases hg
theorem do_isnot : DOp X (compareOp .IsNot) gIsNot := dop_of fun d e z hg => by
  unfold gIsNot at hg
  split at hg
  · cases hg
    exact ⟨_, op_notN, fun x y H F Q sb vx vy k => ⟨vy.non, by rw [vx.isNon]; exact k _ H F (New.refl sb) (.bl _)⟩⟩
  · cases hg
    exact ⟨_, op_notBl, fun x y H F Q sb vx vy k => ⟨_, _, vx.bl, vy.bl, k _ H F (New.refl sb) (.bl _)⟩⟩
  · cases hg
/-! ### - x -/
theorem unImp {f : Value → Sem Value} {r r' : V → Hp → VK → Prop} (h : UnR X f r) (i : ∀ x H Q, r' x H Q → r x H Q) : UnR X f r' := fun pins s σ H x v Q I rx q => h pins s σ H x v Q I rx (i x H Q q)
def gNeg : Dat → Option Dat
  | .int i => some (.int (-i))
  | _ => none
theorem du_neg : DUn X (unaryOp .USub) gNeg := unImp un_neg fun x H Q q => by
  obtain ⟨F, d, z, sb, v, hg, k⟩ := q
  unfold gNeg at hg
  split at hg
  · cases hg
    exact ⟨_, v.int, k _ H F (New.refl sb) (.int _)⟩
  · cases hg
/-! ### a[i] -/
theorem RpAll.atI {P : Program} {w : World} {K : PySem.W.Frag} {F : Hp} {vs : List V} {ds : List Dat} {i : Int} {d : Dat} (r : RpAll P w K F vs ds) (h : L2.atI ds i = some d) : ∃ v, L2.atI vs i = some v ∧ Rp P w K F v d := by
  unfold L2.atI at h ⊢
  simp only [Option.bind_eq_some_iff] at h
  obtain ⟨j, h1, h2⟩ := h
  obtain ⟨v, h3, h4⟩ := r.get h2
  exact ⟨v, by rw [r.length, h1]; exact h3, h4⟩
def gIx : Dat → Dat → Option Dat
  | .tup xs, .int i => atI xs i
  | .lst xs, .int i => atI xs i
  | .str z, .int i => if z.length < 1000000 then (atI z.cps.toList i).map fun c => .str ⟨#[c]⟩ else none
  | _, _ => none
theorem dx_ix : IxR X (rD2 X.prog X.w X.K gIx) := by
  intro value slice pins s σ H x y v u Q I rx ry q hs
  obtain ⟨F, d, e, z, sb, vx, vy, hg, k⟩ := q
  refine ix_seq value slice pins s σ H x y v u Q I rx ry ?_ hs
  unfold gIx at hg
  split at hg
  · obtain ⟨a, us, rfl, ha, ra, _⟩ := vx.tup sb
    obtain ⟨w, hw, rw'⟩ := ra.atI hg
    exact .inr (.inl ⟨a, us, _, w, rfl, vy.int, ha, hw, k _ H F (New.refl sb) rw'⟩)
  · obtain ⟨a, us, rfl, ha, ra⟩ := vx.lst sb
    obtain ⟨w, hw, rw'⟩ := ra.atI hg
    exact .inl ⟨a, us, _, w, rfl, vy.int, .of ha, hw, k _ H F (New.refl sb) rw'⟩
  · split at hg
    · rename_i hz
      simp only [Option.map_eq_some_iff] at hg
      obtain ⟨c, h1, rfl⟩ := hg
      exact .inr (.inr ⟨_, _, c, vx.str, vy.int, fitsM hz, h1, k _ H F (New.refl sb) (.str _)⟩)
    · cases hg
  · cases hg
end
end Dl

set_option Elab.async false
set_option linter.all false
set_option maxRecDepth 100000
set_option maxHeartbeats 4000000
/-! DL: in, slices, built-in calls. -/
namespace Dl
open PySem PySem.Spec PyProof.Rows L2
theorem toPys_map : ∀ xs : List Dat, toPys xs = xs.map toPy
  | [] => rfl
  | x :: xs => by rw [toPys, toPys_map xs]; rfl
section
variable {X : Cx}
/-! ### in -/
def rInQ (K : PySem.W.Frag) (neg : Bool) : R2 := fun x y H Q => ∃ d ds e, (e = PyData.list ds ∨ e = PyData.tuple ds) ∧ Dp K H x d ∧ Dp K H y e ∧ d.canLay0 = true ∧ PyData.canLayAll0 ds = true ∧ d.depth ≤ 64 ∧
  Q (.bl (if neg then !(ds.any fun z => PyData.eqv z d) else ds.any fun z => PyData.eqv z d)) H
theorem room65 {A : Around} {a b : Nat} (hu : A.units + 200 < cLine) (hb : b ≤ 64) : A.units + 1 + min a b < cLine := by
  have : min a b ≤ b := Nat.min_le_right _ _
  omega
theorem op_inQ (hu : X.A.units + 200 < cLine) : OpR X (compareOp .In) (rInQ X.K false) := by
  intro pins s σ H x y v u Q I rx ry h
  obtain ⟨d, ds, e, he, hd, hy, c1, c2, hz, q⟩ := h
  obtain ⟨as, r1⟩ := Dp.reads I d x v hd rx
  obtain ⟨bs, r2⟩ := Dp.reads I e y u hy ry
  rcases he with rfl | rfl
  · exact SeqAt.in_list_reads r2 r1 c2 c1 (room65 hu hz) ⟨.bl _, H, I, rfl, q⟩
  · exact SeqAt.in_tuple_reads r2 r1 c2 c1 (room65 hu hz) ⟨.bl _, H, I, rfl, q⟩
theorem op_notInQ (hu : X.A.units + 200 < cLine) : OpR X (compareOp .NotIn) (rInQ X.K true) := by
  intro pins s σ H x y v u Q I rx ry h
  obtain ⟨d, ds, e, he, hd, hy, c1, c2, hz, q⟩ := h
  obtain ⟨as, r1⟩ := Dp.reads I d x v hd rx
  obtain ⟨bs, r2⟩ := Dp.reads I e y u hy ry
  rcases he with rfl | rfl
  · exact SeqAt.notIn_list_reads r2 r1 c2 c1 (room65 hu hz) ⟨.bl _, H, I, rfl, q⟩
  · exact SeqAt.notIn_tuple_reads r2 r1 c2 c1 (room65 hu hz) ⟨.bl _, H, I, rfl, q⟩
/-- one of the list's is equal -/
def inDs (d : Dat) (ds : List Dat) : Bool := ds.any fun z => eqD z d
theorem inDs_py (d : Dat) (ds : List Dat) : (toPys ds).any (fun z => PyData.eqv z (toPy d)) = inDs d ds := by
  rw [toPys_map, List.any_map]; rfl
/-- in: a sign of a text, an item of a list or a tuple -/
def gIn (neg : Bool) : Dat → Dat → Option Dat
  | d, .lst ds => if okD 60 d = true ∧ okDs 60 ds = true then some (.bl (if neg then !inDs d ds else inDs d ds)) else none
  | d, .tup ds => if okD 60 d = true ∧ okDs 60 ds = true then some (.bl (if neg then !inDs d ds else inDs d ds)) else none
  | .str a, .str z => match a.cps.toList with
    | [c] => some (.bl (if neg then !decide (c ∈ z.cps.toList) else decide (c ∈ z.cps.toList)))
    | _ => none
  | _, _ => none
theorem one_sign {a : Str} {c : Nat} (h : a.cps.toList = [c]) : a = ⟨#[c]⟩ := by
  cases a with
  | mk cps =>
    simp only at h
    congr 1
    exact Array.toList_inj.mp h
theorem do_in_any {neg : Bool} {op : CmpOp} (hq : OpR X (compareOp op) (rInQ X.K neg))
    (hs : OpR X (compareOp op) (fun x y H Q => ∃ (c : Nat) (z : Str), x = .str ⟨#[c]⟩ ∧ y = .str z ∧ Q (.bl (if neg then !decide (c ∈ z.cps.toList) else decide (c ∈ z.cps.toList))) H)) : DOp X (compareOp op) (gIn neg) := dop_of fun d e z hg => by
  unfold gIn at hg
  split at hg
  · rename_i ds
    split at hg
    · rename_i hc
      cases hg
      refine ⟨_, hq, fun x y H F Q sb vx vy k => ⟨toPy d, toPys ds, _, .inl rfl, vx.dp sb hc.1, ?_, (okD_py _ _ hc.1).1, (okDs_py _ _ hc.2).1, by have := (okD_py _ _ hc.1).2; omega, ?_⟩⟩
      · exact vy.dp (n := 61) sb (by simpa only [okD] using hc.2)
      · rw [inDs_py]; exact k _ H F (New.refl sb) (.bl _)
    · cases hg
  · rename_i ds
    split at hg
    · rename_i hc
      cases hg
      refine ⟨_, hq, fun x y H F Q sb vx vy k => ⟨toPy d, toPys ds, _, .inr rfl, vx.dp sb hc.1, ?_, (okD_py _ _ hc.1).1, (okDs_py _ _ hc.2).1, by have := (okD_py _ _ hc.1).2; omega, ?_⟩⟩
      · exact vy.dp (n := 61) sb (by simpa only [okD] using hc.2)
      · rw [inDs_py]; exact k _ H F (New.refl sb) (.bl _)
    · cases hg
  · split at hg
    · rename_i a zz c hc
      cases hg
      refine ⟨_, hs, fun x y H F Q sb vx vy k => ⟨c, _, ?_, vy.str, k _ H F (New.refl sb) (.bl _)⟩⟩
      rw [vx.str, one_sign hc]
    · cases hg
  · cases hg
theorem do_in (hu : X.A.units + 200 < cLine) : DOp X (compareOp .In) (gIn false) := do_in_any (op_inQ hu) (by simpa using op_in_sign)
theorem do_notin (hu : X.A.units + 200 < cLine) : DOp X (compareOp .NotIn) (gIn true) := do_in_any (op_notInQ hu) (by simpa using op_notIn_sign)

/-! ### slices -/
abbrev FO := Rho → Option (Option Int × Rho)
def tOd (P : Program) (w : World) (K : PySem.W.Frag) (f : FO) : TO := fun σ H Q => ∃ ρ F o ρ', SO P w K ρ σ H F ∧ f ρ = some (o, ρ') ∧
  ∀ H' F', SO P w K ρ' σ H' F' → Step ρ σ H F ρ' σ H' F' → Q o H'
abbrev DO (X : Cx) (e : Option Expr) (f : FO) : Prop := PO X e (tOd X.prog X.w X.K f)
theorem poImp {e : Option Expr} {t t' : TO} (h : PO X e t) (i : ∀ σ H Q, t' σ H Q → t σ H Q) : PO X e t' := ⟨fun pins s σ H Q I q => h.run pins s σ H Q I (i σ H Q q)⟩
def oNone : FO := fun ρ => some (none, ρ)
def oSome (f : FE) : FO := fun ρ => match f ρ with
  | some (.dat (.int i), ρ1) => some (some i, ρ1)
  | _ => none
theorem do_none : DO X none oNone := poImp po_none fun σ H Q q => by
  obtain ⟨ρ, F, h, ρ', so, e, k⟩ := q
  cases e
  exact k H F so Step.refl
theorem do_some {e : Expr} {f : FE} (h : DE X e f) : DO X (some e) (oSome f) := poImp (po_some h) fun σ H Q q => by
  obtain ⟨ρ, F, h, ρ', so, e, k⟩ := q
  unfold oSome at e
  split at e
  · rename_i i ρ1 e1
    cases e
    refine ⟨ρ, F, _, _, so, e1, fun v H1 F1 so1 st1 r => ?_⟩
    cases (show Rp _ _ _ F1 v (.int i) from r)
    exact ⟨i, rfl, k H1 F1 so1 st1⟩
  · cases e
def cutL {α : Type} (xs : List α) (lo hi : Option Int) : List α := (xs.drop (HT.sIx xs.length 0 lo)).take (HT.sIx xs.length xs.length hi - HT.sIx xs.length 0 lo)
theorem RpAll.cut {P : Program} {w : World} {K : PySem.W.Frag} {F : Hp} {vs : List V} {ds : List Dat} (r : RpAll P w K F vs ds) (lo hi : Option Int) : RpAll P w K F (cutV vs lo hi) (cutL ds lo hi) := by
  unfold cutV cutL
  rw [r.length]
  exact (r.drop _).take _
theorem RpAll.ints {P : Program} {w : World} {K : PySem.W.Frag} {F : Hp} : ∀ ns : List Int, RpAll P w K F (ns.map V.int) (ns.map Dat.int)
  | [] => .nil
  | n :: ns => .cons (.int n) (RpAll.ints ns)
def gSl (d : Dat) (lo hi : Option Int) : Option Hd := match d with
  | .tup xs => some (.dat (.tup (cutL xs lo hi)))
  | .lst xs => some (.new (.lst (cutL xs lo hi)))
  | .scr ns => some (.new (.lst (cutL (ns.map Dat.int) lo hi)))
  | _ => none
def cSl (f : FE) (lo hi : FO) : FE := fun ρ => (f ρ).bind fun p => (lo p.2).bind fun q => (hi q.2).bind fun r => (rv r.2 p.1).bind fun d => (gSl d q.1 r.1).bind fun h => some (h, r.2)
theorem cutL_whole {α : Type} {xs : List α} {lo hi : Option Int} (h : HT.sIx xs.length 0 lo = 0 ∧ HT.sIx xs.length xs.length hi = xs.length) : cutL xs lo hi = xs := by
  unfold cutL
  rw [h.1, h.2]
  simp
theorem newOwnL {P w K} {ρ : Rho} {σ : Sg} {H0 H F : Hp} {p : Addr} (so : SO P w K ρ σ H F) (hp : H p = none) (h0 : ∀ a o, H0 a = some o → ∃ o', H a = some o') {xs : List V} {ds : List Dat} (r : RpAll P w K F xs ds) :
    SO P w K ρ σ (upd H p (.lst xs)) F ∧ New H F (upd H p (.lst xs)) F ∧ HdOk P w K ρ σ H0 (upd H p (.lst xs)) F (.ref p) (.new (.lst ds)) := by
  have hf : F p = none := by
    cases q : F p with
    | none => rfl
    | some u => rw [so.sub _ _ q] at hp; cases hp
  have n : New H F (upd H p (.lst xs)) F := ⟨Sub.refl, fun _ _ z => .inl z, sub_upd hp, so.sub.trans (sub_upd hp)⟩
  refine ⟨so.new n, n, p, rfl, .lst upd_same r, hf, fun z => ?_, ?_⟩
  · obtain ⟨o, ho⟩ := so.ownThere z
    rw [hp] at ho; cases ho
  · cases q : H0 p with
    | none => rfl
    | some u =>
      obtain ⟨u', z⟩ := h0 p u q
      rw [hp] at z; cases z
theorem de_slice {e : Expr} {lo hi : Option Expr} {f : FE} {fl fh : FO} {p2 pos : Pos} (he : DE X e f) (hl : DO X lo fl) (hh : DO X hi fh) : DE X (.Subscript e (.Slice lo hi none p2) pos) (cSl f fl fh) :=
  peImp (pe_slice (sl_list.or sl_tupF) he hl hh) fun σ H Q q => by
    obtain ⟨ρ, F, h, ρ', so, e, k⟩ := q
    simp only [cSl, Option.bind_eq_some_iff] at e
    obtain ⟨⟨h1, ρ1⟩, e1, ⟨l, ρ2⟩, e2, ⟨u, ρ3⟩, e3, d, e4, hd, e5, e6⟩ := e
    cases e6
    refine ⟨ρ, F, h1, ρ1, so, e1, fun v H1 F1 so1 st1 k1 => ⟨ρ1, F1, l, ρ2, so1, e2, fun H2 F2 so2 st2 => ⟨ρ2, F2, u, ρ3, so2, e3, fun H3 F3 so3 st3 => ?_⟩⟩⟩
    have vw := so3.view ((k1.step st2).step st3) e4
    have st := (st1.trans st2).trans st3
    unfold gSl at e5
    split at e5
    · rename_i xs
      cases e5
      obtain ⟨a, us, rfl, ha, ra, pa⟩ := vw.tup so3.sub
      refine .inr ⟨a, us, rfl, ha, fun z => ?_, fun p o hp ho => ?_⟩
      · refine k _ H3 F3 so3 st ?_
        show Rp _ _ _ F3 (.ref a) (.tup (cutL xs l u))
        rw [ra.length] at z
        rw [cutL_whole z]
        exact pa
      · obtain ⟨n, r⟩ := rel_new so3.sub hp ho (ra.cut l u)
        exact k _ _ _ (so3.new n) (st.trans n.step) r
    · rename_i xs
      cases e5
      obtain ⟨a, us, rfl, ha, ra⟩ := vw.lst so3.sub
      refine .inl ⟨a, us, rfl, .of ha, fun p hp => ?_⟩
      obtain ⟨a1, a2, a3⟩ := newOwnL (H0 := H) so3 hp st.stay (ra.cut l u)
      exact k _ _ _ a1 (st.trans a2.step) a3
    · rename_i ns
      cases e5
      rcases vw with vw | ⟨a, rfl, ow⟩
      · cases vw with
        | scr s =>
          refine .inl ⟨_, _, rfl, so3.sub.ext.sqL s, fun p hp => ?_⟩
          obtain ⟨a1, a2, a3⟩ := newOwnL (H0 := H) so3 hp st.stay ((RpAll.ints ns).cut l u)
          exact k _ _ _ a1 (st.trans a2.step) a3
      · cases ow
    · cases e5
end
end Dl

set_option Elab.async false
set_option linter.all false
set_option maxRecDepth 100000
set_option maxHeartbeats 4000000
/-! DM: built-in calls. -/
namespace Dl
open PySem PySem.Spec PyProof.Rows L2
abbrev DC1 (X : Cx) (f : Value) (g : Dat → Option Dat) : Prop := CallR X f fun vs H Q => ∃ x, vs = [x] ∧ rD1 X.prog X.w X.K g x H Q
abbrev DC2 (X : Cx) (f : Value) (g : Dat → Dat → Option Dat) : Prop := CallR X f fun vs H Q => ∃ x y, vs = [x, y] ∧ rD2 X.prog X.w X.K g x y H Q
/-- .. whose answer is a new list -/
def rN1 (P : Program) (w : World) (K : PySem.W.Frag) (g : Dat → Option (List Dat)) : V → Hp → VK → Prop := fun x H Q => ∃ F d ds, Sub F H ∧ View P w K H F x d ∧ g d = some ds ∧
  ∀ p vs F', H p = none → New H F H F' → RpAll P w K F' vs ds → Q (.ref p) (upd H p (.lst vs))
abbrev DCN (X : Cx) (f : Value) (g : Dat → Option (List Dat)) : Prop := CallR X f fun vs H Q => ∃ x, vs = [x] ∧ rN1 X.prog X.w X.K g x H Q
theorem callImp {X : Cx} {f : Value} {r r' : List V → Hp → VK → Prop} (h : CallR X f r) (i : ∀ vs H Q, r' vs H Q → r vs H Q) : CallR X f r' := fun pins s σ H vs us Q I rv q => h pins s σ H vs us Q I rv (i vs H Q q)
def c1n (g : Dat → Option (List Dat)) (fa : FE) : FE := fun ρ => (fa ρ).bind fun p => (rv p.2 p.1).bind fun d => (g d).bind fun z => some (.new (.lst z), p.2)
section
variable {X : Cx} {x : Str} {p pos : Pos} {a b : Expr} {fa fb : FE} {id T : String}
theorem c1_args {P w K} {g : Dat → Option Dat} {σ : Sg} {H : Hp} {Q : VK} (q : tD P w K (c1 g fa) σ H Q) : tCB (fun vs H Q => ∃ x, vs = [x] ∧ rD1 P w K g x H Q) (tCons (tD P w K fa) tNil) σ H Q := by
  obtain ⟨ρ, F, h, ρ', so, e, k⟩ := q
  simp only [c1, Option.bind_eq_some_iff] at e
  obtain ⟨⟨h1, ρ1⟩, e1, d, e3, z, e5, e6⟩ := e
  cases e6
  exact ⟨ρ, F, h1, ρ1, so, e1, fun x H1 F1 so1 st1 k1 => ⟨x, rfl, F1, d, z, so1.sub, so1.view k1 e3, e5, fun v H' F' n r => k v H' F' (so1.new n) (st1.trans n.step) r⟩⟩
theorem c2_args {P w K} {g : Dat → Dat → Option Dat} {σ : Sg} {H : Hp} {Q : VK} (q : tD P w K (c2 g fa fb) σ H Q) : tCB (fun vs H Q => ∃ x y, vs = [x, y] ∧ rD2 P w K g x y H Q) (tCons (tD P w K fa) (tCons (tD P w K fb) tNil)) σ H Q := by
  obtain ⟨ρ, F, h, ρ', so, e, k⟩ := q
  simp only [c2, Option.bind_eq_some_iff] at e
  obtain ⟨⟨h1, ρ1⟩, e1, ⟨h2, ρ2⟩, e2, d, e3, d', e4, z, e5, e6⟩ := e
  cases e6
  refine ⟨ρ, F, h1, ρ1, so, e1, fun x H1 F1 so1 st1 k1 => ⟨ρ1, F1, h2, ρ2, so1, e2, fun y H2 F2 so2 st2 k2 => ⟨x, y, rfl, ?_⟩⟩⟩
  exact ⟨F2, d, d', z, so2.sub, so2.view (k1.step st2) e3, so2.view k2 e4, e5, fun v H' F' n r => k v H' F' (so2.new n) ((st1.trans st2).trans n.step) r⟩
theorem c1n_args {P w K} {g : Dat → Option (List Dat)} {σ : Sg} {H : Hp} {Q : VK} (q : tD P w K (c1n g fa) σ H Q) : tCB (fun vs H Q => ∃ x, vs = [x] ∧ rN1 P w K g x H Q) (tCons (tD P w K fa) tNil) σ H Q := by
  obtain ⟨ρ, F, h, ρ', so, e, k⟩ := q
  simp only [c1n, Option.bind_eq_some_iff] at e
  obtain ⟨⟨h1, ρ1⟩, e1, d, e3, z, e5, e6⟩ := e
  cases e6
  refine ⟨ρ, F, h1, ρ1, so, e1, fun x H1 F1 so1 st1 k1 => ⟨x, rfl, F1, d, z, so1.sub, so1.view k1 e3, e5, fun p vs F' hp n r => ?_⟩⟩
  have st2 := st1.trans n.step
  obtain ⟨a1, a2, a3⟩ := newOwnL (H0 := H) (so1.new n) hp st2.stay r
  exact k _ _ _ a1 (st2.trans a2.step) a3
theorem de_cb1 {g : Dat → Option Dat} (h : DC1 X (.builtin id) g) (hg : Gl X x) (hm : X.mg x = none) (hv : bootBuiltins x = some (.builtin id)) (ha : DE X a fa) (hs : starEach [a] X.env = (false, eval a X.env) :: starEach [] X.env := by rfl)
    (hn : x ≠ "__name__" := by decide) (hdb : (x == ("__debug__" : Str)) = false := by decide) (hpl : (backTo pos (starEach [] X.env)).any (·.1) = false := by rfl) : DE X (.Call (.Name x p) [a] [] pos) (c1 g fa) :=
  peImp (pe_callB h hg hm hv (pa_cons ha pa_nil hs) hn hdb hs hpl) fun _ _ _ => c1_args
theorem de_ct1 {g : Dat → Option Dat} (h : DC1 X (.type T) g) (hg : Gl X x) (hm : X.mg x = none) (hv : bootBuiltins x = some (.type T)) (ha : DE X a fa) (hs : starEach [a] X.env = (false, eval a X.env) :: starEach [] X.env := by rfl)
    (hn : x ≠ "__name__" := by decide) (hdb : (x == ("__debug__" : Str)) = false := by decide) (hpl : (backTo pos (starEach [] X.env)).any (·.1) = false := by rfl) : DE X (.Call (.Name x p) [a] [] pos) (c1 g fa) :=
  peImp (pe_callTy h hg hm hv (pa_cons ha pa_nil hs) hn hdb hs hpl) fun _ _ _ => c1_args
theorem de_ctn {g : Dat → Option (List Dat)} (h : DCN X (.type T) g) (hg : Gl X x) (hm : X.mg x = none) (hv : bootBuiltins x = some (.type T)) (ha : DE X a fa) (hs : starEach [a] X.env = (false, eval a X.env) :: starEach [] X.env := by rfl)
    (hn : x ≠ "__name__" := by decide) (hdb : (x == ("__debug__" : Str)) = false := by decide) (hpl : (backTo pos (starEach [] X.env)).any (·.1) = false := by rfl) : DE X (.Call (.Name x p) [a] [] pos) (c1n g fa) :=
  peImp (pe_callTy h hg hm hv (pa_cons ha pa_nil hs) hn hdb hs hpl) fun _ _ _ => c1n_args
theorem de_cbn {g : Dat → Option (List Dat)} (h : DCN X (.builtin id) g) (hg : Gl X x) (hm : X.mg x = none) (hv : bootBuiltins x = some (.builtin id)) (ha : DE X a fa) (hs : starEach [a] X.env = (false, eval a X.env) :: starEach [] X.env := by rfl)
    (hn : x ≠ "__name__" := by decide) (hdb : (x == ("__debug__" : Str)) = false := by decide) (hpl : (backTo pos (starEach [] X.env)).any (·.1) = false := by rfl) : DE X (.Call (.Name x p) [a] [] pos) (c1n g fa) :=
  peImp (pe_callB h hg hm hv (pa_cons ha pa_nil hs) hn hdb hs hpl) fun _ _ _ => c1n_args
theorem de_cb2 {g : Dat → Dat → Option Dat} (h : DC2 X (.builtin id) g) (hg : Gl X x) (hm : X.mg x = none) (hv : bootBuiltins x = some (.builtin id)) (ha : DE X a fa) (hb : DE X b fb)
    (hs : starEach [a, b] X.env = (false, eval a X.env) :: starEach [b] X.env := by rfl) (hs2 : starEach [b] X.env = (false, eval b X.env) :: starEach [] X.env := by rfl)
    (hn : x ≠ "__name__" := by decide) (hdb : (x == ("__debug__" : Str)) = false := by decide) (hpl : (backTo pos (starEach [b] X.env)).any (·.1) = false := by rfl) : DE X (.Call (.Name x p) [a, b] [] pos) (c2 g fa fb) :=
  peImp (pe_callB h hg hm hv (pa_cons ha (pa_cons hb pa_nil hs2) hs) hn hdb hs hpl) fun _ _ _ => c2_args

/-! ### abs, max, int, len -/
def gAbs : Dat → Option Dat
  | .int i => some (.int (if i < 0 then -i else i))
  | _ => none
theorem dc_abs : DC1 X (.builtin "abs") gAbs := callImp call_abs fun vs H Q q => by
  obtain ⟨x, rfl, F, d, z, sb, v, hg, k⟩ := q
  unfold gAbs at hg
  split at hg
  · cases hg
    exact ⟨_, by rw [v.int], k _ H F (New.refl sb) (.int _)⟩
  · cases hg
def gMax : Dat → Dat → Option Dat
  | .int i, .int j => some (.int (if j > i then j else i))
  | _, _ => none
theorem dc_max (hc : X.calm = true) : DC2 X (.builtin "max") gMax := callImp (call_max2 hc) fun vs H Q q => by
  obtain ⟨x, y, rfl, F, d, e, z, sb, v, v', hg, k⟩ := q
  unfold gMax at hg
  split at hg
  · cases hg
    exact ⟨_, _, by rw [v.int, v'.int], k _ H F (New.refl sb) (.int _)⟩
  · cases hg
def gInt : Dat → Option Dat
  | .int i => some (.int i)
  | .bl b => some (.int (if b then 1 else 0))
  | _ => none
theorem dc_int : DC1 X (.type "int") gInt := callImp call_int1 fun vs H Q q => by
  obtain ⟨x, rfl, F, d, z, sb, v, hg, k⟩ := q
  unfold gInt at hg
  split at hg
  · cases hg
    exact .inl ⟨_, by rw [v.int], k _ H F (New.refl sb) (.int _)⟩
  · cases hg
    exact .inr ⟨_, by rw [v.bl], k _ H F (New.refl sb) (.int _)⟩
  · cases hg
def gLen : Dat → Option Dat
  | .tup xs => some (.int xs.length)
  | .lst xs => some (.int xs.length)
  | .scr ns => some (.int ns.length)
  | .str z => if z.length < 1000000 then some (.int z.length) else none
  | _ => none
theorem dc_len : DC1 X (.builtin "len") gLen := callImp call_len fun vs H Q q => by
  obtain ⟨x, rfl, F, d, z, sb, v, hg, k⟩ := q
  unfold gLen at hg
  split at hg
  · rename_i xs
    cases hg
    obtain ⟨a, us, rfl, ha, ra, _⟩ := v.tup sb
    exact ⟨_, xs.length, rfl, .inr ⟨us, ha, ra.length.symm⟩, k _ H F (New.refl sb) (.int _)⟩
  · rename_i xs
    cases hg
    obtain ⟨a, us, rfl, ha, ra⟩ := v.lst sb
    exact ⟨_, xs.length, rfl, .inl ⟨us, .of ha, ra.length.symm⟩, k _ H F (New.refl sb) (.int _)⟩
  · rename_i ns
    cases hg
    rcases v with v | ⟨a, rfl, ow⟩
    · cases v with
      | scr s => exact ⟨_, ns.length, rfl, .inl ⟨_, sb.ext.sqL s, by rw [List.length_map]⟩, k _ H F (New.refl sb) (.int _)⟩
    · cases ow
  · split at hg
    · rename_i zz hz
      cases hg
      exact ⟨_, zz.length, rfl, by rw [v.str]; exact ⟨fitsM hz, rfl⟩, k _ H F (New.refl sb) (.int _)⟩
    · cases hg
  · cases hg
/-! ### tuple, list, all -/
def gTuple : Dat → Option Dat
  | .tup xs => some (.tup xs)
  | .lst xs => some (.tup xs)
  | _ => none
theorem dc_tuple : DC1 X (.type "tuple") gTuple := callImp call_tupleF fun vs H Q q => by
  obtain ⟨x, rfl, F, d, z, sb, v, hg, k⟩ := q
  unfold gTuple at hg
  split at hg
  · cases hg
    obtain ⟨a, us, rfl, ha, ra, pa⟩ := v.tup sb
    exact ⟨a, us, rfl, .inr ⟨ha, k _ H F (New.refl sb) pa⟩⟩
  · cases hg
    obtain ⟨a, us, rfl, ha, ra⟩ := v.lst sb
    refine ⟨a, us, rfl, .inl ⟨.of ha, fun l o hl ho => ?_⟩⟩
    obtain ⟨n, r⟩ := rel_new sb hl ho ra
    exact k _ _ _ n r
  · cases hg
def gList : Dat → Option (List Dat)
  | .tup xs => some xs
  | .lst xs => some xs
  | _ => none
theorem dc_list : DCN X (.type "list") gList := callImp call_list_of fun vs H Q q => by
  obtain ⟨x, rfl, F, d, ds, sb, v, hg, k⟩ := q
  unfold gList at hg
  split at hg
  · cases hg
    obtain ⟨a, us, rfl, ha, ra, pa⟩ := v.tup sb
    exact ⟨a, us, rfl, .inr ha, fun l hl => k l us F hl (New.refl sb) ra⟩
  · cases hg
    obtain ⟨a, us, rfl, ha, ra⟩ := v.lst sb
    exact ⟨a, us, rfl, .inl (.of ha), fun l hl => k l us F hl (New.refl sb) ra⟩
  · cases hg
def blsOf : List Dat → Option (List Bool)
  | [] => some []
  | .bl b :: ds => (blsOf ds).map (b :: ·)
  | _ :: _ => none
theorem RpAll.bls {P w K} {F : Hp} : ∀ {vs : List V} {ds : List Dat} {bs : List Bool}, RpAll P w K F vs ds → blsOf ds = some bs → vs = bs.map V.bl
  | _, [], _, .nil, h => by cases h; rfl
  | _, .bl b :: ds, bs, .cons r t, h => by
    simp only [blsOf, Option.map_eq_some_iff] at h
    obtain ⟨bs', h1, rfl⟩ := h
    cases r
    rw [RpAll.bls t h1]
    rfl
  | _, .non :: _, _, _, h => by cases h
  | _, .int _ :: _, _, _, h => by cases h
  | _, .str _ :: _, _, _, h => by cases h
  | _, .tup _ :: _, _, _, h => by cases h
  | _, .lst _ :: _, _, _, h => by cases h
  | _, .dic _ _ :: _, _, _, h => by cases h
  | _, .scr _ :: _, _, _, h => by cases h
  | _, .wtp _ :: _, _, _, h => by cases h
  | _, .dil _ :: _, _, _, h => by cases h
def gAll : Dat → Option Dat
  | .lst xs => (blsOf xs).map fun bs => .bl (bs.all _root_.id)
  | _ => none
theorem dc_all (hc : X.calm = true) : DC1 X (.builtin "all") gAll := callImp (cr_all hc) fun vs H Q q => by
  obtain ⟨x, rfl, F, d, z, sb, v, hg, k⟩ := q
  unfold gAll at hg
  split at hg
  · simp only [Option.map_eq_some_iff] at hg
    obtain ⟨bs, h1, rfl⟩ := hg
    obtain ⟨a, us, rfl, ha, ra⟩ := v.lst sb
    exact ⟨a, bs, rfl, by rw [← ra.bls h1]; exact .of ha, k _ H F (New.refl sb) (.bl _)⟩
  · cases hg
end
end Dl

set_option Elab.async false
set_option linter.all false
set_option maxRecDepth 100000
set_option maxHeartbeats 4000000
/-! DN: isinstance, zip, lists of one's own changed. -/
namespace Dl
open PySem PySem.Spec PyProof.Rows L2
def tyD : Dat → String
  | .non => "NoneType"
  | .bl _ => "bool"
  | .int _ => "int"
  | .str _ => "str"
  | .tup _ => "tuple"
  | .lst _ => "list"
  | .scr _ => "list"
  | .wtp _ => "tuple"
  | .dil _ => "dict"
  | .dic _ _ => "dict"
def isT (T : String) (d : Dat) : Bool := (kitB (tyD d) T).getD false
theorem isT_int (d : Dat) : isT "int" d = match d with | .int _ => true | .bl _ => true | _ => false := by cases d <;> (dsimp only [isT, tyD]; decide +kernel)
theorem isT_bool (d : Dat) : isT "bool" d = match d with | .bl _ => true | _ => false := by cases d <;> (dsimp only [isT, tyD]; decide +kernel)
theorem isT_str (d : Dat) : isT "str" d = match d with | .str _ => true | _ => false := by cases d <;> (dsimp only [isT, tyD]; decide +kernel)
theorem isT_tuple (d : Dat) : isT "tuple" d = match d with | .tup _ => true | .wtp _ => true | _ => false := by cases d <;> (dsimp only [isT, tyD]; decide +kernel)
theorem isT_list (d : Dat) : isT "list" d = match d with | .lst _ => true | .scr _ => true | _ => false := by cases d <;> (dsimp only [isT, tyD]; decide +kernel)
theorem isT_dict (d : Dat) : isT "dict" d = match d with | .dic _ _ => true | .dil _ => true | _ => false := by cases d <;> (dsimp only [isT, tyD]; decide +kernel)
def tyOk (T : String) : Bool := (["NoneType", "bool", "int", "str", "tuple", "list", "dict"] : List String).all fun t => (kitB t T).isSome
theorem isT_kit {T : String} (h : tyOk T = true) (d : Dat) : kitB (tyD d) T = some (isT T d) := by
  have q : (kitB (tyD d) T).isSome = true := by
    unfold tyOk at h
    rw [List.all_eq_true] at h
    cases d <;> exact h _ (by simp [tyD])
  unfold isT
  cases e : kitB (tyD d) T with
  | none => rw [e] at q; cases q
  | some b => rfl
section
variable {X : Cx}
/-- what the library's isinstance rules ask of a looked-at value -/
theorem kit_view {pins : List (Addr × Obj)} {σ : Sg} {H F : Hp} {s : Shared} {x : V} {u : Value} {d : Dat} (I : Inv X pins σ H s) (rx : RelV x u) (sb : Sub F H) (vw : View X.prog X.w X.K H F x d) :
    ∃ P : Heap → Prop, PySem.W.KitX X.K u (.type (tyD d)) P ∧ P s.heap ∧ u ≠ .builtin "__main__.__loader__#opaque" := by
  have tupQ : ∀ {a : Addr} {xs : List V}, SqT X.K H a xs → x = .ref a → ∃ P : Heap → Prop, PySem.W.KitX X.K u (.type "tuple") P ∧ P s.heap ∧ u ≠ .builtin "__main__.__loader__#opaque" := fun {a xs} h e => by
    subst e
    cases rx
    obtain ⟨its, _, ⟨o, h1, h2, _⟩, _⟩ := I.tuple h
    exact ⟨_, PySem.W.kitx_tuple, ⟨o, h1, h2⟩, fun z => nomatch z⟩
  have lstQ : ∀ {a : Addr} {xs : List V}, SqL X.K H a xs → x = .ref a → ∃ P : Heap → Prop, PySem.W.KitX X.K u (.type "list") P ∧ P s.heap ∧ u ≠ .builtin "__main__.__loader__#opaque" := fun {a xs} h e => by
    subst e
    cases rx
    obtain ⟨its, _, ⟨o, n, h1, h2, _⟩, _⟩ := I.list h
    exact ⟨_, PySem.W.kitx_list, ⟨o, h1, h2⟩, fun z => nomatch z⟩
  have dicQ : ∀ {a : Addr} {L : List (NestedKey × Addr × V)}, Rd H a (hoN X.prog X.w a L) → x = .ref a → ∃ P : Heap → Prop, PySem.W.KitX X.K u (.type "dict") P ∧ P s.heap ∧ u ≠ .builtin "__main__.__loader__#opaque" := fun {a L} h e => by
    subst e
    cases rx
    obtain ⟨⟨_, _, xs, _, o, es, ep, h1, h2, _⟩, _⟩ := (show ObjOk X.prog X.w H s.heap a (hoN X.prog X.w a L) from h.ok I.hok)
    exact ⟨_, PySem.W.kitx_dict, ⟨o, h1, h2.1⟩, fun z => nomatch z⟩
  have dikQ : ∀ {a : Addr} {l : List (Key × V)}, Rd H a (.dK l) → x = .ref a → ∃ P : Heap → Prop, PySem.W.KitX X.K u (.type "dict") P ∧ P s.heap ∧ u ≠ .builtin "__main__.__loader__#opaque" := fun {a l} h e => by
    subst e
    cases rx
    obtain ⟨_, _, vs, _, o, es, ep, h1, h2, _⟩ := (show ObjOk X.prog X.w H s.heap a (.dK l) from h.ok I.hok)
    exact ⟨_, PySem.W.kitx_dict, ⟨o, h1, h2.1⟩, fun z => nomatch z⟩
  rcases vw with h | ⟨a, e, h⟩
  · cases h with
    | non => cases (show u = Value.none from rx); exact ⟨_, PySem.W.kitx_none, True.intro, fun z => nomatch z⟩
    | bl b => cases (show u = Value.bool b from rx); exact ⟨_, PySem.W.kitx_bool, True.intro, fun z => nomatch z⟩
    | int i => obtain ⟨t, q⟩ := (show ∃ t, u = Value.int i t from rx); cases q; exact ⟨_, PySem.W.kitx_int, True.intro, fun z => nomatch z⟩
    | str y => obtain ⟨t, q⟩ := (show ∃ t, u = Value.str y t from rx); cases q; exact ⟨_, PySem.W.kitx_str, True.intro, fun z => nomatch z⟩
    | tup q r => exact tupQ (sb.ext.sqT q.sq) rfl
    | wtp q r => exact tupQ (sb.ext.sqT q) rfl
    | scr q => exact lstQ (sb.ext.sqL q) rfl
    | lst q r => exact lstQ (.of (sb _ _ q)) rfl
    | dic q r => exact dicQ (sb.ext.1 _ _ q) rfl
    | dil q r => exact dicQ (sb.ext.1 _ _ (.inr ⟨_, q⟩)) rfl
    | dik q r => exact dikQ (sb.ext.1 _ _ q) rfl
  · cases h with
    | lst q r => exact lstQ (.of q) e
    | dic q r => exact dicQ (.inl q) e
    | dik q r => exact dikQ (.inl q) e
theorem call_isiD {T : String} (hT : tyOk T = true) : CallR X (.builtin "isinstance") (fun vs H Q => ∃ x F d, vs = [x, .ty T] ∧ Sub F H ∧ View X.prog X.w X.K H F x d ∧ Q (.bl (isT T d)) H) := by
  intro pins s σ H xs us Q I r h
  obtain ⟨x, F, d, rfl, sb, vw, q⟩ := h
  obtain ⟨u1, u2, rfl, r1, r2⟩ := vals2 r
  cases (show u2 = Value.type T from r2)
  obtain ⟨P, Z, p, hx⟩ := kit_view I r1 sb vw
  exact PySem.W.kia_one Z I.kIn p (kit_ty (isT_kit hT d)) hx fun tk => ⟨.bl _, H, I.tok tk, rfl, q⟩
def gIsi (T : String) (d : Dat) : Option Dat := some (.bl (isT T d))
theorem de_isi {T : String} {x : Expr} {f : FE} {p pT pos : Pos} {y : Str} (hT : tyOk T = true) (hg : Gl X "isinstance") (hm : X.mg "isinstance" = none) (he : DE X x f)
    (hgT : Gl X y) (hmT : X.mg y = none) (hvT : bootBuiltins y = some (.type T)) (hn : y ≠ "__name__" := by decide) (hdb : (y == ("__debug__" : Str)) = false := by decide)
    (hs : starEach [x, .Name y pT] X.env = (false, eval x X.env) :: starEach [.Name y pT] X.env := by rfl) (hs2 : starEach [.Name y pT] X.env = (false, eval (.Name y pT) X.env) :: starEach [] X.env := by rfl)
    (hpl : (backTo pos (starEach [.Name y pT] X.env)).any (·.1) = false := by rfl) : DE X (.Call (.Name "isinstance" p) [x, .Name y pT] [] pos) (c1 (gIsi T) f) :=
  peImp (pe_callB (call_isiD hT) hg hm (by decide +kernel) (pa_cons he (pa_cons (pe_bltn (v := .ty T) hgT hmT hvT rfl hn hdb) pa_nil hs2) hs) (by decide) (by decide) hs hpl) fun σ H Q q => by
    obtain ⟨ρ, F, h, ρ', so, e, k⟩ := q
    simp only [c1, Option.bind_eq_some_iff] at e
    obtain ⟨⟨h1, ρ1⟩, e1, d, e3, z, e5, e6⟩ := e
    cases e6
    cases e5
    exact ⟨ρ, F, h1, ρ1, so, e1, fun x H1 F1 so1 st1 k1 => ⟨x, F1, d, rfl, so1.sub, so1.view k1 e3, k _ H1 F1 so1 st1 (.bl _)⟩⟩

/-! ### zip -/
def zipD (xs ys : List Dat) : List Dat := List.zipWith (fun x y => .wtp [x, y]) xs ys
theorem zipD_get {xs ys : List Dat} {i : Nat} {d : Dat} (h : (zipD xs ys)[i]? = some d) : ∃ x y, xs[i]? = some x ∧ ys[i]? = some y ∧ d = .wtp [x, y] := by
  unfold zipD at h
  rw [List.getElem?_zipWith] at h
  cases hx : xs[i]? with
  | none => rw [hx] at h; simp at h
  | some x =>
    cases hy : ys[i]? with
    | none => rw [hx, hy] at h; simp at h
    | some y => rw [hx, hy] at h; simp at h; exact ⟨x, y, rfl, rfl, h.symm⟩
theorem pairNew {P w K} {H F : Hp} {T : Addr} {x y : V} {d e : Dat} (sb : Sub F H) (hT : H T = none) (rx : Rp P w K F x d) (ry : Rp P w K F y e) :
    ∃ F', New H F (upd H T (.tup [x, y])) F' ∧ Rp P w K F' (.ref T) (.wtp [d, e]) := by
  have n := New.one (o := .tup [x, y]) sb hT
  exact ⟨_, n, .wtp (SqT.of upd_same) ((RpAll.cons rx (.cons ry .nil)).sub n.subF)⟩
theorem walks_zipT {P w K} {F0 : Hp} {a b : Addr} {xs ys : List V} {ds es : List Dat} (ha : SqT K F0 a xs) (ra : RpAll P w K F0 xs ds) (hb : SqT K F0 b ys) (rb : RpAll P w K F0 ys es) : Walks P w K (RZ.ItzT K a b) (zipD ds es) F0 where
  go := fun i H F d e h1 h2 => by
    obtain ⟨x, y, e1, e2, rfl⟩ := zipD_get e
    obtain ⟨v, hv, rv⟩ := ra.get e1
    obtain ⟨u, hu, ru⟩ := rb.get e2
    have sa := (h1.trans h2).ext.sqT ha
    have sb := (h1.trans h2).ext.sqT hb
    refine ⟨⟨xs, ys, v, u, sa, sb, hv, hu⟩, fun z H' q => ?_⟩
    obtain ⟨T, x', y', rfl, hT, rfl, q1, q2⟩ := q
    have := q1 xs sa
    rw [hv] at this; cases this
    have := q2 ys sb
    rw [hu] at this; cases this
    exact pairNew h2 hT (rv.sub h1) (ru.sub h1)
  stop := fun i H F e h1 h2 => by
    refine ⟨xs, ys, (h1.trans h2).ext.sqT ha, (h1.trans h2).ext.sqT hb, ?_⟩
    simp only [zipD, List.length_zipWith] at e
    rw [ra.length, rb.length]
    omega
theorem walks_zipL {P w K} {F0 : Hp} {a b : Addr} {xs ys : List V} {ds es : List Dat} (ha : F0 a = some (.lst xs)) (ra : RpAll P w K F0 xs ds) (hb : F0 b = some (.lst ys)) (rb : RpAll P w K F0 ys es) : Walks P w K (Itz K a b) (zipD ds es) F0 where
  go := fun i H F d e h1 h2 => by
    obtain ⟨x, y, e1, e2, rfl⟩ := zipD_get e
    obtain ⟨v, hv, rv⟩ := ra.get e1
    obtain ⟨u, hu, ru⟩ := rb.get e2
    have sa : SqL K H a xs := .of ((h1.trans h2) _ _ ha)
    have sb : SqL K H b ys := .of ((h1.trans h2) _ _ hb)
    refine ⟨⟨xs, ys, v, u, sa, sb, hv, hu⟩, fun z H' q => ?_⟩
    obtain ⟨T, x', y', rfl, hT, rfl, q1, q2⟩ := q
    have := q1 xs sa
    rw [hv] at this; cases this
    have := q2 ys sb
    rw [hu] at this; cases this
    exact pairNew h2 hT (rv.sub h1) (ru.sub h1)
  stop := fun i H F e h1 h2 => by
    refine ⟨xs, ys, .of ((h1.trans h2) _ _ ha), .of ((h1.trans h2) _ _ hb), ?_⟩
    simp only [zipD, List.length_zipWith] at e
    rw [ra.length, rb.length]
    omega
/-- zip(a, b): two tuples or two lists -/
def iZip (f : FA) : FI := fun ρ => match f ρ with
  | some ([.tup xs, .tup ys], ρ1) => some (zipD xs ys, ρ1)
  | some ([.lst xs, .lst ys], ρ1) => some (zipD xs ys, ρ1)
  | _ => none
theorem di_zip {e e2 : Expr} {f : FA} {p pos tpos : Pos} {elts : List Expr} {kk : Nat} (hg : Gl X "zip") (hm : X.mg "zip" = none) (ha : DA X [e, e2] f)
    (hs : starEach [e, e2] X.env = (false, eval e X.env) :: starEach [e2] X.env := by rfl) (hpl : (backTo pos (starEach [e2] X.env)).any (·.1) = false := by rfl) :
    DI X (.Tuple elts kk tpos) (.Call (.Name "zip" p) [e, e2] [] pos) (iZip f) := piImp (RZ.pi_zipA hg hm ha hs hpl) fun σ H R q => by
  obtain ⟨ρ, F, ds, ρ', so, e, k⟩ := q
  unfold iZip at e
  split at e
  · rename_i xs ys ρ1 e1
    cases e
    refine ⟨ρ, F, _, _, so, e1, fun vs H1 F1 so1 st1 r => ?_⟩
    cases r with
    | cons r1 r2 =>
      cases r2 with
      | cons r2 r3 =>
        cases r3
        cases r1 with
        | tup s1 q1 =>
          cases r2 with
          | tup s2 q2 => exact ⟨_, _, _, _, rfl, .inr ⟨so1.sub.ext.sqT s1.sq, so1.sub.ext.sqT s2.sq, k _ H1 F1 so1 st1 (walks_zipT s1.sq q1 s2.sq q2)⟩⟩
  · rename_i xs ys ρ1 e1
    cases e
    refine ⟨ρ, F, _, _, so, e1, fun vs H1 F1 so1 st1 r => ?_⟩
    cases r with
    | cons r1 r2 =>
      cases r2 with
      | cons r2 r3 =>
        cases r3
        cases r1 with
        | lst s1 q1 =>
          cases r2 with
          | lst s2 q2 => exact ⟨_, _, _, _, rfl, .inl ⟨.of (so1.sub _ _ s1), .of (so1.sub _ _ s2), k _ H1 F1 so1 st1 (walks_zipL s1 q1 s2 q2)⟩⟩
  · cases e
end
end Dl

set_option Elab.async false
set_option linter.all false
set_option maxRecDepth 100000
set_option maxHeartbeats 4000000
/-! DP: lists of one's own changed. -/
namespace Dl
open PySem PySem.Spec PyProof.Rows L2
/-- the object in slot i is changed -/
theorem SO.updB {P : Program} {w : World} {K : PySem.W.Frag} {ρ : Rho} {σ : Sg} {H F H' F' : Hp} {i : Nat} {b : Bool} {c c' : Dat} {q : Addr} (so : SO P w K ρ σ H F) (e2 : ρ[i]? = some (.own b c)) (hv : σ[i]? = some (some (.ref q)))
    (n : NewB q H F H' F') (ow : Own P w K H' F' q c') : SO P w K (ρ.set i (.own b c')) σ H' F' ∧ Step ρ σ H F (ρ.set i (.own b c')) σ H' F' := by
  obtain ⟨q', h1, h2, h3⟩ := so.own i b c e2
  rw [hv] at h1; cases h1
  obtain ⟨o, ho⟩ := h3.there
  have hlt : i < ρ.length := (List.getElem?_eq_some_iff.mp e2).1
  have stay : ∀ y oy, F y = none → H y = some oy → F' y = none := fun y oy y1 y2 => by
    cases z : F' y with
    | none => rfl
    | some u =>
      rcases n.fresh y u z with t | t
      · rw [y1] at t; cases t
      · rw [y2] at t; cases t
  have back : ∀ {a : Nat} {b1 : Bool} {d : Dat}, (ρ.set i (.own b c'))[a]? = some (.own b1 d) → ∃ b2 d2, ρ[a]? = some (.own b2 d2) := fun {a b1 d} h => by
    by_cases ha : i = a
    · subst ha; exact ⟨b, c, e2⟩
    · exact ⟨b1, d, setNe h ha⟩
  refine ⟨⟨n.subH, by rw [List.length_set]; exact so.len, fun a d e => ?_, fun a b' d e => ?_, fun a a' b1 b2 d e' z h h' => ?_⟩,
    ⟨n.subF, fun a o h => (n.fresh a o h).imp id .inl, fun a o h hn => n.keep a o h fun z => hn (by subst z; exact ⟨i, b, c, e2, hv⟩), fun a h => ?_, fun a o h => ?_, fun a d h => ⟨?_, rfl⟩⟩⟩
  · by_cases ha : i = a
    · subst ha; cases setEq e
    · obtain ⟨y, y1, y2⟩ := so.val a d (setNe e ha)
      exact ⟨y, y1, y2.sub n.subF⟩
  · by_cases ha : i = a
    · subst ha
      cases setEq e
      exact ⟨q, hv, stay q o h2 ho, ow⟩
    · obtain ⟨y, y1, y2, y3⟩ := so.own a b' d (setNe e ha)
      have hy : y ≠ q := fun zz => ha (so.inj i a b b' c d q e2 (setNe e ha) hv (by rw [← zz]; exact y1))
      obtain ⟨oy, hoy⟩ := y3.there
      exact ⟨y, y1, stay y oy y2 hoy, y3.mono ((n.keep y oy hoy hy).trans hoy.symm) n.subF⟩
  · obtain ⟨_, _, g1⟩ := back h
    obtain ⟨_, _, g2⟩ := back h'
    exact so.inj a a' _ _ _ _ z g1 g2
  · obtain ⟨a', b', d', h1, h2'⟩ := h
    by_cases ha : i = a'
    · subst ha; exact .inl ⟨i, b, c, e2, h2'⟩
    · exact .inl ⟨a', b', d', setNe h1 ha, h2'⟩
  · by_cases ha : a = q
    · subst ha; exact ow.there
    · exact ⟨o, n.keep a o h ha⟩
  · by_cases ha : i = a
    · subst ha
      rw [e2] at h; cases h
      exact ⟨c', List.getElem?_set_self hlt⟩
    · exact ⟨d, by rw [List.getElem?_set_ne ha]; exact h⟩
theorem NewB.upd {q : Addr} {o o' : HO} {H F : Hp} (sb : Sub F H) (hq : H q = some o) (hf : F q = none) : NewB q H F (upd H q o') F :=
  ⟨Sub.refl, fun _ _ h => .inl h, fun a u h hn => by rw [upd_ne hn]; exact h, fun a u h => by rw [upd_ne (ne_of_none h hf)]; exact sb a u h⟩
/-- a list in slot i, its items -/
theorem SO.lstAt {P : Program} {w : World} {K : PySem.W.Frag} {ρ : Rho} {σ : Sg} {H F : Hp} {i : Nat} {b : Bool} {xs : List Dat} {v : V} (so : SO P w K ρ σ H F) (e : ρ[i]? = some (.own b (.lst xs))) (hv : σ[i]? = some (some v)) :
    ∃ q vs, v = .ref q ∧ F q = none ∧ H q = some (.lst vs) ∧ RpAll P w K F vs xs := by
  obtain ⟨q, h1, h2, h3⟩ := so.own i b _ e
  rw [hv] at h1; cases h1
  cases h3 with
  | lst h r => exact ⟨q, _, rfl, h2, h, r⟩
theorem SO.updL {P : Program} {w : World} {K : PySem.W.Frag} {ρ : Rho} {σ : Sg} {H F : Hp} {i : Nat} {b : Bool} {xs ys : List Dat} {q : Addr} {vs us : List V} (so : SO P w K ρ σ H F) (e : ρ[i]? = some (.own b (.lst xs))) (hv : σ[i]? = some (some (.ref q)))
    (hf : F q = none) (hq : H q = some (.lst vs)) (r : RpAll P w K F us ys) : SO P w K (ρ.set i (.own b (.lst ys))) σ (upd H q (.lst us)) F ∧ Step ρ σ H F (ρ.set i (.own b (.lst ys))) σ (upd H q (.lst us)) F :=
  so.updB e hv (NewB.upd so.sub hq hf) (.lst upd_same r)
def isL (ρ : Rho) (i : Nat) : Bool := match ρ[i]? with
  | some (.own _ (.lst _)) => true
  | _ => false
theorem isL_of {ρ : Rho} {i : Nat} (h : isL ρ i = true) : ∃ b xs, ρ[i]? = some (.own b (.lst xs)) := by
  unfold isL at h
  split at h
  · exact ⟨_, _, by assumption⟩
  · cases h
/-- x[k] = e, x a list of one's own in slot i -/
def sSetL (f : FE) (i : Nat) (fi : FE) : FS := fun ρ => match cFz f ρ with
  | some (.dat d, ρ1) => if isL ρ1 i = true then match fi ρ1 with
    | some (.dat (.int k), ρ2) => match ρ2[i]? with
      | some (.own b (.lst xs)) => match ixN xs.length k with
        | some j => some (ρ2.set i (.own b (.lst (xs.set j d))), .nx)
        | none => none
      | _ => none
    | _ => none
    else none
  | _ => none
def cApp (i : Nat) (f : FE) : FE := fun ρ => if isL ρ i = true then match cFz f ρ with
  | some (.dat d, ρ1) => match ρ1[i]? with
    | some (.own b (.lst xs)) => if xs.length < 1000000 then some (.dat .non, ρ1.set i (.own b (.lst (xs ++ [d])))) else none
    | _ => none
  | _ => none
  else none
def cExt (i : Nat) (f : FE) : FE := fun ρ => if isL ρ i = true then (f ρ).bind fun p => (rv p.2 p.1).bind fun d => match d, p.2[i]? with
  | .lst ys, some (.own b (.lst xs)) => if xs.length + ys.length < 1000000 then some (.dat .non, p.2.set i (.own b (.lst (xs ++ ys)))) else none
  | _, _ => none
  else none
section
variable {X : Cx} {pos : Pos}
theorem ds_setL {o ix e : Expr} {f fi : FE} {i : Nat} {tpos : Pos} (ho : PE X o (tVar i)) (hi : DE X ix fi) (he : DE X e f)
    (ha : ∀ v, assign (.Subscript o ix tpos) X.env v = (do
      let ov ← holding [v] (eval o X.env)
      let iv ← holding [v, ov] (eval ix X.env)
      standAt tpos
      holding [v, ov, iv] (setItem ov iv v)
      release [v, ov, iv] []) := by intro _; rfl)
    (hs : swapsWithSole [.Subscript o ix tpos] e pos.line X.env = pure false := by rfl) (hw : swappedStores [.Subscript o ix tpos] e X.env = pure none := by rfl)
    (h1 : (assignEach [.Subscript o ix tpos] X.env).map (·.2) = [assign (.Subscript o ix tpos) X.env] := by rfl) : DS X (.Assign [.Subscript o ix tpos] e pos) (sSetL f i fi) :=
  psImp (ps_asg (de_fz he) (pg_sub ho hi set_list ha) hs hw h1) fun D σ H q => by
    obtain ⟨ρ, F, ρ', c, so, e, k⟩ := q
    unfold sSetL at e
    split at e
    · rename_i d ρ1 e1
      split at e
      · rename_i hL
        split at e
        · rename_i kk ρ2 e2
          split at e
          · rename_i b xs e3
            split at e
            · rename_i j e4
              cases e
              refine ⟨ρ, F, _, _, so, e1, fun v H1 F1 so1 st1 r1 => ?_⟩
              obtain ⟨b0, xs0, e0⟩ := isL_of hL
              obtain ⟨q0, g1, _, _⟩ := so1.own i b0 _ e0
              refine ⟨.ref q0, g1, ρ1, F1, _, _, so1, e2, fun u H2 F2 so2 st2 r2 => ?_⟩
              cases (show Rp _ _ _ F2 u (.int kk) from r2)
              obtain ⟨q, vs, e5, hf, hq, ra⟩ := so2.lstAt e3 g1
              cases e5
              refine ⟨q0, vs, kk, j, rfl, rfl, hq, by rw [ra.length]; exact e4, ?_⟩
              obtain ⟨a1, a2⟩ := so2.updL e3 g1 hf hq (RpAll.set (Rp.sub (show Rp _ _ _ F1 v d from r1) st2.subF) j ra)
              exact k σ _ _ a1 ((st1.trans st2).trans a2)
            · cases e
          · cases e
        · cases e
      · cases e
    · cases e
theorem de_app {o e : Expr} {f : FE} {i : Nat} {apos : Pos} (ho : PE X o (tVar i)) (he : DE X e f)
    (h : ∀ {to : TE} {t : TA}, PE X o to → PA X [e] t → PE X (.Call (.Attribute o "append" apos) [e] [] pos) (tBM X.K "list" rAppend to t)) (hs : starEach [e] X.env = (false, eval e X.env) :: starEach [] X.env := by rfl) :
    DE X (.Call (.Attribute o "append" apos) [e] [] pos) (cApp i f) := peImp (h ho (pa_cons (de_fz he) pa_nil hs)) fun σ H Q q => by
  obtain ⟨ρ, F, hh, ρ', so, e, k⟩ := q
  unfold cApp at e
  split at e
  · rename_i hL
    split at e
    · rename_i d ρ1 e1
      split at e
      · rename_i b xs e3
        split at e
        · rename_i hz
          cases e
          obtain ⟨b0, xs0, e0⟩ := isL_of hL
          obtain ⟨q0, g1, _, _⟩ := so.own i b0 _ e0
          obtain ⟨q, vs0, e5, hf0, hq0, _⟩ := so.lstAt e0 g1
          cases e5
          refine ⟨.ref q0, g1, .inl ⟨rfl, _, .of hq0⟩, ρ, F, _, _, so, e1, fun v H1 F1 so1 st1 r1 => ?_⟩
          obtain ⟨q, vs, e5, hf, hq, ra⟩ := so1.lstAt e3 g1
          cases e5
          refine ⟨q0, vs, v, rfl, rfl, hq, by rw [ra.length]; exact Nat.lt_of_lt_of_le hz (by decide), ?_⟩
          obtain ⟨a1, a2⟩ := so1.updL e3 g1 hf hq (ra.append (.cons (show Rp _ _ _ F1 v d from r1) .nil))
          exact k .non _ _ a1 (st1.trans a2) .non
        · cases e
      · cases e
    · cases e
  · cases e
theorem de_ext {o e : Expr} {f : FE} {i : Nat} {apos : Pos} (ho : PE X o (tVar i)) (he : DE X e f)
    (h : ∀ {to : TE} {t : TA}, PE X o to → PA X [e] t → PE X (.Call (.Attribute o "extend" apos) [e] [] pos) (tBM X.K "list" rExtend to t)) (hs : starEach [e] X.env = (false, eval e X.env) :: starEach [] X.env := by rfl) :
    DE X (.Call (.Attribute o "extend" apos) [e] [] pos) (cExt i f) := peImp (h ho (pa_cons he pa_nil hs)) fun σ H Q q => by
  obtain ⟨ρ, F, hh, ρ', so, e, k⟩ := q
  unfold cExt at e
  split at e
  · rename_i hL
    simp only [Option.bind_eq_some_iff] at e
    obtain ⟨⟨h1, ρ1⟩, e1, d, e2, e⟩ := e
    split at e
    · rename_i ys b xs e3
      split at e
      · rename_i hz
        cases e
        obtain ⟨b0, xs0, e0⟩ := isL_of hL
        obtain ⟨q0, g1, _, _⟩ := so.own i b0 _ e0
        obtain ⟨q, vs0, e5, hf0, hq0, _⟩ := so.lstAt e0 g1
        cases e5
        refine ⟨.ref q0, g1, .inl ⟨rfl, _, .of hq0⟩, ρ, F, _, _, so, e1, fun v H1 F1 so1 st1 r1 => ?_⟩
        obtain ⟨q, vs, e5, hf, hq, ra⟩ := so1.lstAt e3 g1
        cases e5
        obtain ⟨p, us, rfl, hp, rb⟩ := (so1.view r1 e2).lst so1.sub
        refine ⟨q0, p, vs, us, rfl, rfl, hq, hp, by rw [ra.length, rb.length]; exact fitsM hz, ?_⟩
        obtain ⟨a1, a2⟩ := so1.updL e3 g1 hf hq (ra.append rb)
        exact k .non _ _ a1 (st1.trans a2) .non
      · cases e
    · cases e
  · cases e
end
end Dl

set_option Elab.async false
set_option linter.all false
set_option maxRecDepth 100000
set_option maxHeartbeats 4000000
/-! DQ: dicts whose keys are tuples. -/
namespace Dl
open PySem PySem.Spec PyProof.Rows L2

def lookD (kvs : List (NestedKey × Dat)) (k : NestedKey) : Option Dat := (kvs.find? fun p => decide (p.1 = k)).map (·.2)
def putD (kvs : List (NestedKey × Dat)) (k : NestedKey) (d : Dat) : List (NestedKey × Dat) :=
  if (lookD kvs k).isSome then kvs.map (fun p => if p.1 = k then (p.1, d) else p) else kvs ++ [(k, d)]
/-- a datum that is a key of a dict of tuples -/
def tkey : Dat → Option NestedKey
  | .tup xs => match keyOf (.tup xs) with
    | some k => if k.depth ≤ 8 then some k else none
    | none => none
  | _ => none
theorem tkey_of {d : Dat} {k : NestedKey} (h : tkey d = some k) : d = kd k ∧ k.depth ≤ 8 ∧ ∃ xs, d = .tup xs := by
  unfold tkey at h
  split at h
  · rename_i xs
    split at h
    · rename_i k' e
      split at h
      · rename_i hz
        cases h
        exact ⟨(keyOf_kd _ _ e).symm, hz, xs, rfl⟩
      · cases h
    · cases h
  · cases h
section
variable {X : Cx} {pins : List (Addr × Obj)} {σ : Sg} {H F : Hp} {s : Shared}
mutual
theorem nestedIs (I : Inv X pins σ H s) (sb : Sub F H) : ∀ (k : NestedKey) {v : V} {u : Value}, Rp X.prog X.w X.K F v (kd k) → RelV v u → NestedIs s.heap k u
  | .none, _, _, h, r => by
    rw [kd] at h
    cases h
    cases r
    exact .none
  | .num i, _, _, h, r => by
    rw [kd] at h
    cases h
    obtain ⟨t, rfl⟩ := r
    exact .int i t
  | .text x, _, _, h, r => by
    rw [kd] at h
    cases h
    obtain ⟨t, rfl⟩ := r
    exact .text x t
  | .tup ks, _, _, h, r => by
    rw [kd] at h
    cases h with
    | tup hs ha =>
      cases r
      obtain ⟨its, rv, ⟨o, ho, hc, n, hd⟩, _⟩ := I.tuple (sb.ext.sqT hs.sq)
      exact .tup ho hc hd (nestedAll I sb ks ha rv)
theorem nestedAll (I : Inv X pins σ H s) (sb : Sub F H) : ∀ (ks : List NestedKey) {vs : List V} {us : List Value}, RpAll X.prog X.w X.K F vs (kds ks) → Vals vs us → NestedAll s.heap ks us
  | [], _, _, h, r => by
    rw [kds] at h
    cases h
    cases r
    exact .nil
  | k :: ks, _, _, h, r => by
    rw [kds] at h
    cases h with
    | cons h1 h2 =>
      cases r with
      | cons r1 r2 => exact .cons (nestedIs I sb k h1 r1) (nestedAll I sb ks h2 r2)
end
abbrev KN (L : List (NestedKey × Addr × V)) (xs : List (NestedKey × Addr × Value)) : Prop :=
  Paired (fun (p : NestedKey × Addr × V) (q : NestedKey × Addr × Value) => p.1 = q.1 ∧ p.2.1 = q.2.1 ∧ RelV p.2.2 q.2.2) L xs
theorem KN.length {L : List (NestedKey × Addr × V)} {xs : List (NestedKey × Addr × Value)} (h : KN L xs) : L.length = xs.length := by
  induction h with
  | nil => rfl
  | cons _ _ ih => rw [List.length_cons, List.length_cons, ih]
theorem RpN.length {P w K} {F : Hp} : ∀ {L : List (NestedKey × Addr × V)} {kvs : List (NestedKey × Dat)}, RpN P w K F L kvs → L.length = kvs.length
  | _, _, .nil => rfl
  | _, _, .cons _ _ _ t => by rw [List.length_cons, List.length_cons, RpN.length t]
theorem kn_keys (I : Inv X pins σ H s) (sb : Sub F H) : ∀ {L : List (NestedKey × Addr × V)} {xs : List (NestedKey × Addr × Value)} {kvs : List (NestedKey × Dat)}, KN L xs → RpN X.prog X.w X.K F L kvs →
    ∀ x ∈ xs, (nestedKind X.prog X.w).is s.heap x.1 x.2.1
  | _, _, _, .nil, _, x, hx => by cases hx
  | _, _, _, .cons h t, .cons a z _ c, x, hx => by
    rcases List.mem_cons.mp hx with e | hx
    · subst e
      obtain ⟨e1, e2, _⟩ := h
      simp only at e1 e2
      rw [← e1, ← e2]
      exact ⟨nestedIs I sb _ a rfl, z⟩
    · exact kn_keys I sb t c x hx
/-- .. one that is known -/
theorem hoAt (I : Inv X pins σ H s) (sb : Sub F H) {a : Addr} {L : List (NestedKey × Addr × V)} {kvs : List (NestedKey × Dat)} (hr : Rd H a (hoN X.prog X.w a L)) (rn : RpN X.prog X.w X.K F L kvs) :
    ∃ xs, (a == sysModules) = false ∧ L.length ≤ sizeLine ∧ KN L xs ∧ s.heap.DictOfH (nestedKind X.prog X.w) a xs := by
  have ok : ObjOk X.prog X.w H s.heap a (.ext (RawN X.prog X.w a L)) := hr.ok I.hok
  obtain ⟨⟨h1, h2, xs, h3, o, es, ep, h4, h5, h6, h7, h8⟩, _⟩ := ok
  exact ⟨xs, h1, h2, h3, o, es, ep, h4, h5, h6, h7, kn_keys I sb h3 rn, h8⟩
/-- the entries of a dict of tuples -/
def entN : Dat → Option (List (NestedKey × Dat))
  | .dic true kvs => some kvs
  | .dil kvs => some kvs
  | _ => none
theorem rdAt {P w K} {H F : Hp} (sb : Sub F H) {v : V} {d : Dat} {kvs : List (NestedKey × Dat)} (h : View P w K H F v d) (e : entN d = some kvs) : ∃ a L, v = .ref a ∧ Rd H a (hoN P w a L) ∧ RpN P w K F L kvs := by
  unfold entN at e
  split at e
  · cases e
    rcases h with h | ⟨a, rfl, h⟩
    · cases h with
      | dic hr rn => exact ⟨_, _, rfl, sb.ext.1 _ _ hr, rn⟩
    · cases h with
      | dic hr rn => exact ⟨_, _, rfl, .inl hr, rn⟩
  · cases e
    rcases h with h | ⟨a, rfl, h⟩
    · cases h with
      | dil hr rn => exact ⟨_, _, rfl, .inr ⟨_, sb _ _ hr⟩, rn⟩
    · cases h
  · cases e
/-- the dict that a value is -/
theorem dicAt (I : Inv X pins σ H s) (sb : Sub F H) {v : V} {d : Dat} {kvs : List (NestedKey × Dat)} (h : View X.prog X.w X.K H F v d) (e : entN d = some kvs) :
    ∃ a L xs, v = .ref a ∧ (a == sysModules) = false ∧ L.length ≤ sizeLine ∧ KN L xs ∧ RpN X.prog X.w X.K F L kvs ∧ s.heap.DictOfH (nestedKind X.prog X.w) a xs := by
  obtain ⟨a, L, rfl, hr, rn⟩ := rdAt sb h e
  obtain ⟨xs, h1, h2, h3, h4⟩ := hoAt I sb hr rn
  exact ⟨a, L, xs, rfl, h1, h2, h3, rn, h4⟩
theorem look_at {P w K} {F : Hp} (k : NestedKey) : ∀ {L : List (NestedKey × Addr × V)} {xs : List (NestedKey × Addr × Value)} {kvs : List (NestedKey × Dat)}, KN L xs → RpN P w K F L kvs →
    (lookD kvs k = none → atKey xs k = none) ∧ ∀ d, lookD kvs k = some d → ∃ p v, atKey xs k = some p ∧ RelV v p.2 ∧ Rp P w K F v d
  | _, _, _, .nil, .nil => ⟨fun _ => rfl, fun d h => by simp [lookD] at h⟩
  | (k0, b0, v0) :: L, (q1, q2, q3) :: xs, (_, d0) :: kvs, .cons h t, .cons a z b c => by
    obtain ⟨e1, e2, e3⟩ := h
    simp only at e1 e2 e3
    subst e1 e2
    obtain ⟨i1, i2⟩ := look_at (P := P) (w := w) (K := K) (F := F) k t c
    by_cases hk : k0 = k
    · subst hk
      refine ⟨fun h => by simp [lookD] at h, fun d h => ?_⟩
      simp only [lookD, List.find?_cons, decide_true, Option.map_some] at h
      cases h
      exact ⟨(b0, q3), v0, by simp [atKey], e3, b⟩
    · have e4 : ∀ (rest : List (NestedKey × Dat)), lookD ((k0, d0) :: rest) k = lookD rest k := fun rest => by simp [lookD, List.find?_cons, hk]
      have e5 : ∀ (rest : List (NestedKey × Addr × Value)), atKey ((k0, b0, q3) :: rest) k = atKey rest k := fun rest => by simp [atKey, List.find?_cons, hk]
      rw [e4, e5]
      exact ⟨i1, i2⟩
theorem relTrue {P w K} {F : Hp} : Rp P w K F (.bl true) (.bl true) := .bl true

/-! ### d[k], k in d -/
def gIxN (d k : Dat) : Option Dat := match entN d, tkey k with
  | some kvs, some k' => lookD kvs k'
  | _, _ => none
theorem dx_ixN (hu : X.A.units + 100 < cLine) : IxR X (rD2 X.prog X.w X.K gIxN) := by
  intro value slice pins s σ H x y v u Q I rx ry q hs
  obtain ⟨F, d, e, z, sb, vx, vy, hg, k⟩ := q
  unfold gIxN at hg
  split at hg
  · rename_i kvs k' e0 e1
    obtain ⟨a, L, xs, rfl, h1, h2, h3, h4, h5⟩ := dicAt I sb vx e0
    obtain ⟨t1, t2, ys, t3⟩ := tkey_of e1
    rw [t3] at vy
    obtain ⟨b, us, rfl, _, _, rb⟩ := vy.tup sb
    rw [← t3, t1] at rb
    cases rx
    cases ry
    obtain ⟨p, v', p1, p2, p3⟩ := (look_at k' h3 h4).2 _ hg
    refine tail_any h5.typeIs PySem.F.slot_dict_getitem.lookup (wpAny_getItem_heap (knd := nestedKind X.prog X.w) (k := k') ?_ ⟨nestedIs I sb k' rb rfl, t2⟩ h5 p1 ?_) hs
    · show X.A.units + 1 + 8 < cLine
      omega
    · exact ⟨v', H, I.tok _, p2, k _ H F (New.refl sb) p3⟩
  · cases hg

theorem isSome_at {P w K} {F : Hp} {L : List (NestedKey × Addr × V)} {xs : List (NestedKey × Addr × Value)} {kvs : List (NestedKey × Dat)} (k : NestedKey) (h : KN L xs) (r : RpN P w K F L kvs) : (atKey xs k).isSome = (lookD kvs k).isSome := by
  obtain ⟨a1, a2⟩ := look_at k h r
  cases e : lookD kvs k with
  | none => rw [a1 e]; rfl
  | some d =>
    obtain ⟨p, v, h1, _⟩ := a2 d e
    rw [h1]; rfl
def gInN : Dat → Dat → Option Dat
  | k, .dic true kvs => match tkey k with
    | some k' => some (.bl (lookD kvs k').isSome)
    | none => none
  | _, _ => none
theorem do_inN (hu : X.A.units + 100 < cLine) : DOp X (compareOp .In) gInN := by
  intro pins s σ H y x u v Q I ry rx q
  obtain ⟨F, e, d, z, sb, vy, vx, hg, k⟩ := q
  unfold gInN at hg
  split at hg
  · rename_i kvs
    split at hg
    · rename_i k' e1
      cases hg
      obtain ⟨a, L, xs, rfl, h1, h2, h3, h4, h5⟩ := dicAt I sb vx rfl
      obtain ⟨t1, t2, ys, t3⟩ := tkey_of e1
      rw [t3] at vy
      obtain ⟨b, us, rfl, _, _, rb⟩ := vy.tup sb
      rw [← t3, t1] at rb
      cases rx
      cases ry
      refine wpAny_in_heap (knd := nestedKind X.prog X.w) (k := k') ?_ ⟨nestedIs I sb k' rb rfl, t2⟩ h1 h5 ?_
      · show X.A.units + 1 + 8 < cLine
        omega
      · rw [isSome_at k' h3 h4]
        exact ⟨.bl _, H, I.tok _, rfl, k _ H F (New.refl sb) (.bl _)⟩
    · cases hg
  · cases hg

/-! ### d.get(k, x) -/
def isN : Option Dat → Bool
  | some (.dic true _) => true
  | _ => false
theorem isN_of {d : Option Dat} (h : isN d = true) : ∃ kvs, d = some (.dic true kvs) := by
  unfold isN at h
  split at h
  · exact ⟨_, rfl⟩
  · cases h
def cGet (fo fe ff : FE) : FE := fun ρ => (fo ρ).bind fun p => if isN (rv p.2 p.1) = true then (fe p.2).bind fun q => match cFz ff q.2 with
  | some (.dat z, ρ3) => (rv ρ3 p.1).bind fun d => (rv ρ3 q.1).bind fun y => match d, tkey y with
    | .dic true kvs, some k => some (.dat ((lookD kvs k).getD z), ρ3)
    | _, _ => none
  | _ => none
  else none
def isDN (P : Program) (w : World) (H : Hp) (x : V) : Prop := ∃ a, x = .ref a ∧ ∃ L, Rd H a (hoN P w a L)
theorem isDN_of {P w K} {H F : Hp} {v : V} {kvs : List (NestedKey × Dat)} (sb : Sub F H) (h : View P w K H F v (.dic true kvs)) : isDN P w H v := by
  rcases h with h | ⟨a, rfl, h⟩
  · cases h with
    | dic hr rn => exact ⟨_, rfl, _, sb.ext.1 _ _ hr⟩
  · cases h with
    | dic hr rn => exact ⟨_, rfl, _, .inl hr⟩
theorem isDN_at (I : Inv X pins σ H s) {v : V} (h : isDN X.prog X.w H v) : ∃ a, v = .ref a ∧ s.TypeIs (.ref a) "dict" ∧ ∀ b, Value.ref a = .ref b → ∃ ob, s.heap.get? b = some ob ∧ ob.dict = none := by
  obtain ⟨a, rfl, L, hr⟩ := h
  have ok : ObjOk X.prog X.w H s.heap a (.ext (RawN X.prog X.w a L)) := hr.ok I.hok
  obtain ⟨⟨h1, h2, xs, h3, o, es, ep, h4, h5, h6, h7, h8⟩, _⟩ := ok
  refine ⟨a, rfl, ⟨o, h4, h5.1⟩, fun b e => ?_⟩
  cases e
  exact ⟨o, h4, h5.2.1⟩
def rGet (P : Program) (w : World) (K : PySem.W.Frag) : V → V → V → Hp → VK → Prop := fun x y z H Q => ∃ F kvs e k dz, Sub F H ∧ View P w K H F x (.dic true kvs) ∧ View P w K H F y e ∧ tkey e = some k ∧ Rp P w K F z dz ∧
  ∀ v, Rp P w K F v ((lookD kvs k).getD dz) → Q v H
def tGetN (P : Program) (w : World) (K : PySem.W.Frag) (to te tf : TE) : TE := fun σ H Q => to σ H fun x H1 => isDN P w H1 x ∧ te σ H1 fun y H2 => tf σ H2 fun z H3 => rGet P w K x y z H3 Q
theorem pe_getN {o e f : Expr} {to te tf : TE} {apos cpos : Pos} (hu : X.A.units + 100 < cLine) (ho : PE X o to) (he : PE X e te) (hf : PE X f tf) (m : M2 X o "get" apos e f cpos) : PE X (.Call (.Attribute o "get" apos) [e, f] [] cpos) (tGetN X.prog X.w X.K to te tf) := by
  refine ⟨fun pins s σ H Q I h => ?_⟩
  refine wpAny_Call_method m.base m.few m.line PySem.F.plainAttrs_dict PySem.F.slot_dict_get PySem.F.type_dict_get (thn (ho.run pins s σ H _ I h) fun u1 sA ⟨x, HA, IA, rx, dx, qA⟩ => ?_)
  obtain ⟨a, ea, t1, t2⟩ := isDN_at IA dx
  subst ea
  cases rx
  refine ⟨t1, t2, ?_⟩
  rw [m.trees]
  refine Calls.callWith_builtin rfl (Calls.evalArgs_plain (Calls.spliced_cons (thn (he.run pins sA σ HA _ IA qA) fun u2 sB ⟨y, HB, IB, ry, qB⟩ =>
    Calls.spliced_cons (thn (hf.run pins sB σ HB _ IB qB) fun u3 sC ⟨z, HC, IC, rz, qC⟩ => Calls.spliced_nil ?_))))
  obtain ⟨F, kvs, ey, k, dz, sb, vx, vy, tk, vz, kk⟩ := qC
  obtain ⟨_, L, xs, e0, h1, h2, h3, h4, h5⟩ := dicAt IC sb vx rfl
  cases e0
  obtain ⟨k1, k2, ys, k3⟩ := tkey_of tk
  rw [k3] at vy
  obtain ⟨b, us, rfl, _, _, rb⟩ := vy.tup sb
  rw [← k3, k1] at rb
  cases ry
  refine call_meetsIn PySem.F.slot_dict_get h5.typeIs PySem.F.entry_dict_get (PySem.F.args_dict_get_3 _ _ _) (meetsH_dict_get_default (nestedKind X.prog X.w) a b h1 u3) ⟨?_, k, xs, ⟨nestedIs IC sb k rb rfl, k2⟩, h5, ?_⟩
  · show X.A.units + 1 + 8 < cLine
    omega
  · obtain ⟨a1, a2⟩ := look_at k h3 h4
    cases el : lookD kvs k with
    | none =>
      rw [a1 el]
      rw [el] at kk
      exact ⟨z, HC, IC.tok _, rz, kk z vz⟩
    | some d =>
      obtain ⟨p, v, p1, p2, p3⟩ := a2 d el
      rw [p1]
      rw [el] at kk
      exact ⟨v, HC, IC.tok _, p2, kk v p3⟩
theorem de_get {o e f : Expr} {fo fe ff : FE} {apos cpos : Pos} (hu : X.A.units + 100 < cLine) (ho : DE X o fo) (he : DE X e fe) (hf : DE X f ff) (m : M2 X o "get" apos e f cpos) : DE X (.Call (.Attribute o "get" apos) [e, f] [] cpos) (cGet fo fe ff) :=
  peImp (pe_getN hu ho he (de_fz hf) m) fun σ H Q q => by
    obtain ⟨ρ, F, h, ρ', so, e, k⟩ := q
    simp only [cGet, Option.bind_eq_some_iff] at e
    obtain ⟨⟨h1, ρ1⟩, e1, e⟩ := e
    split at e
    case isFalse => cases e
    rename_i hN
    obtain ⟨kvs0, eN⟩ := isN_of hN
    simp only [Option.bind_eq_some_iff] at e
    obtain ⟨⟨h2, ρ2⟩, e2, e⟩ := e
    split at e
    · rename_i z ρ3 e3
      simp only [Option.bind_eq_some_iff] at e
      obtain ⟨d, e4, y, e5, e⟩ := e
      split at e
      · rename_i kvs kk e6
        cases e
        refine ⟨ρ, F, h1, ρ1, so, e1, fun x HA FA soA stA kA => ⟨?_, ρ1, FA, h2, ρ2, soA, e2, fun y HB FB soB stB kB => ⟨ρ2, FB, _, _, soB, e3, fun z HC FC soC stC kC => ?_⟩⟩⟩
        · exact isDN_of soA.sub (soA.view kA eN)
        · refine ⟨FC, kvs, _, kk, _, soC.sub, soC.view ((kA.step stB).step stC) e4, soC.view (kB.step stC) e5, e6, kC, fun v r => k v HC FC soC ((stA.trans stB).trans stC) r⟩
      · cases e
    · cases e
end
end Dl

set_option Elab.async false
set_option linter.all false
set_option maxRecDepth 100000
set_option maxHeartbeats 4000000
/-! DR: dicts laid and changed. -/
namespace Dl
open PySem PySem.Spec PyProof.Rows L2

def hasL (L : List (NestedKey × Addr × V)) (k : NestedKey) : Bool := L.any fun p => decide (p.1 = k)
def putL (L : List (NestedKey × Addr × V)) (k : NestedKey) (b : Addr) (v : V) : List (NestedKey × Addr × V) :=
  if hasL L k = true then L.map (fun p => if p.1 = k then (p.1, p.2.1, v) else p) else L ++ [(k, b, v)]
theorem KN.has : ∀ {L : List (NestedKey × Addr × V)} {xs : List (NestedKey × Addr × Value)} (k : NestedKey), KN L xs → (atKey xs k).isSome = hasL L k
  | _, _, k, .nil => rfl
  | (k0, b0, v0) :: L, (q1, q2, q3) :: xs, k, .cons h t => by
    obtain ⟨e1, e2, e3⟩ := h
    simp only at e1 e2
    subst e1 e2
    have ih := KN.has k t
    by_cases hk : k0 = k
    · simp [atKey, hasL, hk]
    · have e5 : atKey ((k0, b0, q3) :: xs) k = atKey xs k := by simp [atKey, List.find?_cons, hk]
      rw [e5, ih]
      simp [hasL, hk]
theorem KN.repl {k : NestedKey} {v : V} {u : Value} (r : RelV v u) : ∀ {L : List (NestedKey × Addr × V)} {xs : List (NestedKey × Addr × Value)}, KN L xs → KN (L.map fun p => if p.1 = k then (p.1, p.2.1, v) else p) (xs.map (putAt k u))
  | _, _, .nil => .nil
  | (k0, b0, v0) :: L, (q1, q2, q3) :: xs, .cons h t => by
    obtain ⟨e1, e2, e3⟩ := h
    simp only at e1 e2
    subst e1 e2
    rw [List.map_cons, List.map_cons]
    refine .cons ?_ (KN.repl r t)
    by_cases hk : k0 = k
    · simp [putAt, hk]; exact r
    · simp [putAt, hk]; exact e3
theorem KN.put {L : List (NestedKey × Addr × V)} {xs : List (NestedKey × Addr × Value)} (h : KN L xs) (k : NestedKey) (b : Addr) {v : V} {u : Value} (r : RelV v u) : KN (putL L k b v) (storedH xs k b u) := by
  unfold putL storedH
  rw [h.has k]
  split
  · exact h.repl r
  · exact Paired.snoc h ⟨rfl, rfl, r⟩
section
variable {P : Program} {w : World} {K : PySem.W.Frag} {F H : Hp}
theorem RpN.has : ∀ {L : List (NestedKey × Addr × V)} {kvs : List (NestedKey × Dat)} (k : NestedKey), RpN P w K F L kvs → (lookD kvs k).isSome = hasL L k
  | _, _, k, .nil => rfl
  | (k0, b0, v0) :: L, (_, d0) :: kvs, k, .cons a z b c => by
    have ih := RpN.has k c
    by_cases hk : k0 = k
    · simp [lookD, hasL, hk]
    · have e5 : lookD ((k0, d0) :: kvs) k = lookD kvs k := by simp [lookD, List.find?_cons, hk]
      rw [e5, ih]
      simp [hasL, hk]
theorem RpN.repl {k : NestedKey} {v : V} {d : Dat} (r : Rp P w K F v d) : ∀ {L : List (NestedKey × Addr × V)} {kvs : List (NestedKey × Dat)}, RpN P w K F L kvs → RpN P w K F (L.map fun p => if p.1 = k then (p.1, p.2.1, v) else p) (kvs.map fun p => if p.1 = k then (p.1, d) else p)
  | _, _, .nil => .nil
  | (k0, b0, v0) :: L, (_, d0) :: kvs, .cons a z b c => by
    rw [List.map_cons, List.map_cons]
    by_cases hk : k0 = k
    · simp only [hk, if_true]; exact .cons (hk ▸ a) (hk ▸ z) r (RpN.repl r c)
    · simp only [hk, if_false]; exact .cons a z b (RpN.repl r c)
theorem RpN.snoc {k : NestedKey} {b : Addr} {v : V} {d : Dat} (a : Rp P w K F (.ref b) (kd k)) (z : k.depth ≤ 8) (r : Rp P w K F v d) : ∀ {L : List (NestedKey × Addr × V)} {kvs : List (NestedKey × Dat)}, RpN P w K F L kvs → RpN P w K F (L ++ [(k, b, v)]) (kvs ++ [(k, d)])
  | _, _, .nil => .cons a z r .nil
  | _, _, .cons a' z' b' c => .cons a' z' b' (RpN.snoc a z r c)
theorem RpN.put {L : List (NestedKey × Addr × V)} {kvs : List (NestedKey × Dat)} {k : NestedKey} {b : Addr} {v : V} {d : Dat} (h : RpN P w K F L kvs) (a : Rp P w K F (.ref b) (kd k)) (z : k.depth ≤ 8) (r : Rp P w K F v d) : RpN P w K F (putL L k b v) (putD kvs k d) := by
  unfold putL putD
  rw [h.has k]
  split
  · exact h.repl r
  · exact h.snoc a z r
theorem putL_length (L : List (NestedKey × Addr × V)) (k : NestedKey) (b : Addr) (v : V) : (putL L k b v).length ≤ L.length + 1 := by
  unfold putL
  split <;> simp
theorem putD_length (L : List (NestedKey × Dat)) (k : NestedKey) (v : Dat) : (putD L k v).length ≤ L.length + 1 := by
  unfold putD
  split <;> simp
theorem RpK.has : ∀ {L : List (Key × V)} {kvs : List (NestedKey × Dat)} (k : Key), RpK P w K F L kvs → (lookD kvs (nk k)).isSome = L.any fun p => decide (p.1 = k)
  | _, _, k, .nil => rfl
  | (k0, v0) :: L, (_, d0) :: kvs, k, .cons b c => by
    have ih := RpK.has k c
    by_cases hk : k0 = k
    · simp [lookD, hk]
    · have hk' : ¬ nk k0 = nk k := fun e => hk (by cases k0 <;> cases k <;> simp_all [nk])
      have e5 : lookD ((nk k0, d0) :: kvs) (nk k) = lookD kvs (nk k) := by simp [lookD, List.find?_cons, hk']
      rw [e5, ih]
      simp [hk]
theorem RpK.repl {k : Key} {v : V} {d : Dat} (r : Rp P w K F v d) : ∀ {L : List (Key × V)} {kvs : List (NestedKey × Dat)}, RpK P w K F L kvs → RpK P w K F (L.map fun p => if p.1 = k then (p.1, v) else p) (kvs.map fun p => if p.1 = nk k then (p.1, d) else p)
  | _, _, .nil => .nil
  | (k0, v0) :: L, (_, d0) :: kvs, .cons b c => by
    rw [List.map_cons, List.map_cons]
    by_cases hk : k0 = k
    · simp only [hk, if_true]; exact .cons r (RpK.repl r c)
    · have hk' : ¬ nk k0 = nk k := fun e => hk (by cases k0 <;> cases k <;> simp_all [nk])
      simp only [hk, hk', if_false]; exact .cons b (RpK.repl r c)
theorem RpK.snoc {k : Key} {v : V} {d : Dat} (r : Rp P w K F v d) : ∀ {L : List (Key × V)} {kvs : List (NestedKey × Dat)}, RpK P w K F L kvs → RpK P w K F (L ++ [(k, v)]) (kvs ++ [(nk k, d)])
  | _, _, .nil => .cons r .nil
  | _, _, .cons b' c => .cons b' (RpK.snoc r c)
theorem RpK.put {L : List (Key × V)} {kvs : List (NestedKey × Dat)} {k : Key} {v : V} {d : Dat} (h : RpK P w K F L kvs) (r : Rp P w K F v d) : RpK P w K F (L2.putK L k v) (putD kvs (nk k) d) := by
  unfold L2.putK putD
  rw [h.has k]
  split
  · exact h.repl r
  · exact h.snoc r
theorem RpK.length : ∀ {L : List (Key × V)} {kvs : List (NestedKey × Dat)}, RpK P w K F L kvs → L.length = kvs.length
  | _, _, .nil => rfl
  | _, _, .cons _ t => by rw [List.length_cons, List.length_cons, RpK.length t]
/-- an object of one's own is laid -/
theorem newOwn {ρ : Rho} {σ : Sg} {H0 : Hp} {p : Addr} {o : HO} {d : Dat} (so : SO P w K ρ σ H F) (hp : H p = none) (h0 : ∀ a o, H0 a = some o → ∃ o', H a = some o') (ow : Own P w K (upd H p o) F p d) :
    SO P w K ρ σ (upd H p o) F ∧ New H F (upd H p o) F ∧ HdOk P w K ρ σ H0 (upd H p o) F (.ref p) (.new d) := by
  have hf : F p = none := by
    cases q : F p with
    | none => rfl
    | some u => rw [so.sub _ _ q] at hp; cases hp
  have n : New H F (upd H p o) F := ⟨Sub.refl, fun _ _ z => .inl z, sub_upd hp, so.sub.trans (sub_upd hp)⟩
  refine ⟨so.new n, n, p, rfl, ow, hf, fun z => ?_, ?_⟩
  · obtain ⟨o, ho⟩ := so.ownThere z
    rw [hp] at ho; cases ho
  · cases q : H0 p with
    | none => rfl
    | some u =>
      obtain ⟨u', z⟩ := h0 p u q
      rw [hp] at z; cases z
theorem hoN_ok {H' : Hp} {h : Heap} {a : Addr} {L : List (NestedKey × Addr × V)} {xs : List (NestedKey × Addr × Value)} (hd : h.DictOfH (nestedKind P w) a xs) (kn : KN L xs) (hl : L.length ≤ sizeLine) (hs : (a == sysModules) = false) : ObjOk P w H' h a (hoN P w a L) := by
  obtain ⟨o, es, ep, h4, h5, h6, h7, _, h8⟩ := hd
  exact ⟨⟨hs, hl, xs, kn, o, es, ep, h4, h5, h6, h7, h8⟩, ⟨o, h4⟩, fun h1 h2 q k => by
    obtain ⟨g1, g2, ys, g3, o', es', ep', g4, g5⟩ := q
    exact ⟨g1, g2, ys, g3, o', es', ep', k _ g4, g5⟩⟩
end

/-! ### {} -/
def cNew (b : Bool) : FE := fun ρ => some (.new (.dic b []), ρ)
section
variable {X : Cx} {pos : Pos}
theorem pe_newN : PE X (.Dict [] [] pos) (fun _ H Q => ∀ p, H p = none → Q (.ref p) (upd H p (hoN X.prog X.w p []))) := ⟨fun pins s σ H Q I h =>
  wpAny_Dict_empty ⟨.ref s.heap.objs.size, _, I.laid (a := s.heap.objs.size) (o := hoN X.prog X.w s.heap.objs.size []) (t' := s.toks) (fun _ _ q => Heap.get?_push_of_some _ q) (Nat.le_refl _)
    (hoN_ok (Heap.DictOfH.new _) .nil (Nat.zero_le _) (beq_eq_false_iff_ne.mpr (Ne.symm (Nat.ne_of_lt I.big)))), rfl, h _ (I.hok.fresh (Nat.le_refl _))⟩⟩
theorem de_newN : DE X (.Dict [] [] pos) (cNew true) := peImp pe_newN fun σ H Q q => by
  obtain ⟨ρ, F, h, ρ', so, e, k⟩ := q
  cases e
  intro p hp
  obtain ⟨a1, a2, a3⟩ := newOwn (H0 := H) (o := hoN X.prog X.w p []) (d := .dic true []) so hp (fun a o h => ⟨o, h⟩) (.dic upd_same .nil)
  exact k _ _ _ a1 a2.step a3
theorem de_newK : DE X (.Dict [] [] pos) (cNew false) := peImp pe_dnewK fun σ H Q q => by
  obtain ⟨ρ, F, h, ρ', so, e, k⟩ := q
  cases e
  intro p hp
  obtain ⟨a1, a2, a3⟩ := newOwn (H0 := H) (o := .dK []) (d := .dic false []) so hp (fun a o h => ⟨o, h⟩) (.dik upd_same .nil)
  exact k _ _ _ a1 a2.step a3

/-! ### d[k] = v -/
def rSetN (P : Program) (w : World) (K : PySem.W.Frag) : TSet := fun o i v H Q => (∃ F p L kvs k b, o = .ref p ∧ i = .ref b ∧ Sub F H ∧ H p = some (hoN P w p L) ∧ RpN P w K F L kvs ∧ Rp P w K F (.ref b) (kd k) ∧ k.depth ≤ 8 ∧ (∃ ks, k = .tup ks) ∧ L.length < sizeLine ∧
    Q (upd H p (hoN P w p (putL L k b v)))) ∨ ∃ p H', o = .ref p ∧ DPut H p i v H' ∧ Q H'
theorem set_dic (hu : X.A.units + 100 < cLine) : PSet X (rSetN X.prog X.w X.K) := by
  intro pins s σ H o i v ov iv u Q I ro ri rv h
  rcases h with ⟨F, p, L, kvs, k, b, rfl, rfl, sb, hp, rn, rk, hz, ⟨ks, ek⟩, hl, q⟩ | ⟨p, H', rfl, g, q⟩
  · cases ro
    cases ri
    obtain ⟨xs, h1, h2, h3, h5⟩ := hoAt I sb (.inl hp) rn
    have hx : xs.length ≤ sizeLine := by rw [← h3.length]; exact h2
    refine wpAny_setItem_heap (knd := nestedKind X.prog X.w) (k := k) (hsz := hx) ?_ ⟨nestedIs I sb k rk rfl, hz⟩ h5 fun h' hd' hs => ?_
    · show X.A.units + 1 + 8 < cLine
      omega
    · have he : ∃ q, h'.get? p = some q := let ⟨q, _, _, hq, _⟩ := hd'; ⟨q, hq⟩
      refine ⟨_, d_write I (by rw [hp]; exact True.intro) hs he (hoN_ok hd' (h3.put k b rv) ?_ h1), q⟩
      have := putL_length L k b v
      omega
  · cases ro
    exact d_setItem (by omega) I g ri rv fun s' I' => ⟨H', I', q⟩

/-- a dict of either flavour with one more entry -/
def putAny (nst : Bool) (kvs : List (NestedKey × Dat)) (y d : Dat) : Option (List (NestedKey × Dat)) :=
  if kvs.length < 1000000 then (match nst, y with
    | true, y => (tkey y).map fun k => putD kvs k d
    | false, .str s => some (putD kvs (.text s) d)
    | false, .int i => some (putD kvs (.num i) d)
    | false, _ => none) else none
def isDc (ρ : Rho) (i : Nat) : Bool := match ρ[i]? with
  | some (.own _ (.dic _ _)) => true
  | _ => false
theorem isDc_of {ρ : Rho} {i : Nat} (h : isDc ρ i = true) : ∃ b n xs, ρ[i]? = some (.own b (.dic n xs)) := by
  unfold isDc at h
  split at h
  · exact ⟨_, _, _, by assumption⟩
  · cases h
/-- x[k] = e, x a dict of one's own in slot i -/
def sSetD (f : FE) (i : Nat) (fi : FE) : FS := fun ρ => match cFz f ρ with
  | some (.dat d, ρ1) => if isDc ρ1 i = true then match cFz fi ρ1 with
    | some (.dat y, ρ2) => match ρ2[i]? with
      | some (.own b (.dic n kvs)) => match putAny n kvs y d with
        | some kvs' => some (ρ2.set i (.own b (.dic n kvs')), .nx)
        | none => none
      | _ => none
    | _ => none
    else none
  | _ => none
theorem ds_setD {o ix e : Expr} {f fi : FE} {i : Nat} {tpos : Pos} (hu : X.A.units + 100 < cLine) (ho : PE X o (tVar i)) (hi : DE X ix fi) (he : DE X e f)
    (ha : ∀ v, assign (.Subscript o ix tpos) X.env v = (do
      let ov ← holding [v] (eval o X.env)
      let iv ← holding [v, ov] (eval ix X.env)
      standAt tpos
      holding [v, ov, iv] (setItem ov iv v)
      release [v, ov, iv] []) := by intro _; rfl)
    (hs : swapsWithSole [.Subscript o ix tpos] e pos.line X.env = pure false := by rfl) (hw : swappedStores [.Subscript o ix tpos] e X.env = pure none := by rfl)
    (h1 : (assignEach [.Subscript o ix tpos] X.env).map (·.2) = [assign (.Subscript o ix tpos) X.env] := by rfl) : DS X (.Assign [.Subscript o ix tpos] e pos) (sSetD f i fi) :=
  psImp (ps_asg (de_fz he) (pg_sub ho (de_fz hi) (set_dic hu) ha) hs hw h1) fun D σ H q => by
    obtain ⟨ρ, F, ρ', c, so, e, k⟩ := q
    unfold sSetD at e
    split at e
    · rename_i d ρ1 e1
      split at e
      · rename_i hL
        split at e
        · rename_i y ρ2 e2
          split at e
          · rename_i b n kvs e3
            split at e
            · rename_i kvs' e4
              cases e
              refine ⟨ρ, F, _, _, so, e1, fun v H1 F1 so1 st1 r1 => ?_⟩
              obtain ⟨b0, n0, xs0, e0⟩ := isDc_of hL
              obtain ⟨q0, g1, _, _⟩ := so1.own i b0 _ e0
              refine ⟨.ref q0, g1, ρ1, F1, _, _, so1, e2, fun u H2 F2 so2 st2 r2 => ?_⟩
              have r1' : Rp _ _ _ F2 v d := Rp.sub (show Rp _ _ _ F1 v d from r1) st2.subF
              have r2' : Rp _ _ _ F2 u y := r2
              obtain ⟨q, g2, hf, ow⟩ := so2.own i b _ e3
              rw [g1] at g2; cases g2
              unfold putAny at e4
              split at e4
              · rename_i hlen
                cases ow with
                | @dic L _ hp rn =>
                  simp only [Option.map_eq_some_iff] at e4
                  obtain ⟨k', e5, rfl⟩ := e4
                  obtain ⟨t1, t2, ys, t3⟩ := tkey_of e5
                  rw [t3] at r2'
                  cases r2' with
                  | @tup b' us _ hs' ra =>
                    have rk : Rp X.prog X.w X.K F2 (.ref b') (kd k') := by rw [← t1, t3]; exact .tup hs' ra
                    refine .inl ⟨F2, q0, L, kvs, k', b', rfl, rfl, so2.sub, hp, rn, rk, t2, ?_, ?_, ?_⟩
                    · rw [t1] at t3
                      cases k' with
                      | tup ks => exact ⟨ks, rfl⟩
                      | none => simp [kd] at t3
                      | num i => simp [kd] at t3
                      | text i => simp [kd] at t3
                    · rw [rn.length]
                      exact Nat.lt_of_lt_of_le hlen (by decide)
                    · obtain ⟨a1, a2⟩ := so2.updB e3 g1 (NewB.upd (o' := hoN X.prog X.w q0 (putL L k' b' v)) so2.sub hp hf) (.dic upd_same (rn.put rk t2 r1'))
                      exact k σ _ _ a1 ((st1.trans st2).trans a2)
                | @dik l _ hp rk =>
                  have hz : l.length < sizeLine := by
                    rw [rk.length]
                    exact Nat.lt_of_lt_of_le hlen (by decide)
                  have fin : ∀ kk : Key, Rp X.prog X.w X.K F2 (kV kk) y → u = kV kk → kvs' = putD kvs (nk kk) d → rSetN X.prog X.w X.K (.ref q0) u v H2 fun H3 => D.nx σ H3 := fun kk hy hu' he' => by
                    subst hu' he'
                    refine .inr ⟨q0, _, rfl, DPut.k (v := v) hp hz, ?_⟩
                    obtain ⟨a1, a2⟩ := so2.updB e3 g1 (NewB.upd (o' := .dK (L2.putK l kk v)) so2.sub hp hf) (.dik upd_same (rk.put r1'))
                    exact k σ _ _ a1 ((st1.trans st2).trans a2)
                  split at e4
                  · rename_i hh; cases hh
                  · cases e4
                    cases r2'
                    exact fin (.inr _) (.str _) rfl rfl
                  · cases e4
                    cases r2'
                    exact fin (.inl _) (.int _) rfl rfl
                  · cases e4
              · cases e4
            · cases e
          · cases e
        · cases e
      · cases e
    · cases e
end
end Dl

set_option Elab.async false
set_option linter.all false
set_option maxRecDepth 100000
set_option maxHeartbeats 4000000
/-! DU: dict(pairs). -/
namespace Dl
open PySem PySem.Spec PyProof.Rows L2

def pairsOf : List Dat → Option (List (NestedKey × Dat))
  | [] => some []
  | .tup [k, v] :: r => match tkey k, pairsOf r with
    | some k', some ps => some ((k', v) :: ps)
    | _, _ => none
  | _ => none
def mergeD (kvs ps : List (NestedKey × Dat)) : List (NestedKey × Dat) := ps.foldl (fun acc p => putD acc p.1 p.2) kvs
def mergeL (L ps : List (NestedKey × Addr × V)) : List (NestedKey × Addr × V) := ps.foldl (fun acc p => putL acc p.1 p.2.1 p.2.2) L
theorem mergeL_length (ps : List (NestedKey × Addr × V)) : ∀ L, (mergeL L ps).length ≤ L.length + ps.length := by
  induction ps with
  | nil => intro L; simp [mergeL]
  | cons p ps ih =>
    intro L
    have h1 := ih (putL L p.1 p.2.1 p.2.2)
    have h2 := putL_length L p.1 p.2.1 p.2.2
    simp only [mergeL, List.foldl_cons, List.length_cons] at *
    omega
theorem KN.merge : ∀ {L : List (NestedKey × Addr × V)} {xs : List (NestedKey × Addr × Value)}, KN L xs → ∀ {L0 : List (NestedKey × Addr × V)} {ys : List (NestedKey × Addr × Value)}, KN L0 ys → KN (mergeL L0 L) (storedAllH ys xs)
  | _, _, .nil, _, _, h0 => h0
  | (k0, b0, v0) :: L, (q1, q2, q3) :: xs, .cons h t, L0, ys, h0 => by
    obtain ⟨e1, e2, e3⟩ := h
    simp only at e1 e2
    subst e1 e2
    exact KN.merge t (h0.put k0 b0 e3)
theorem RpN.merge {P w K} {F : Hp} : ∀ {L : List (NestedKey × Addr × V)} {kvs : List (NestedKey × Dat)}, RpN P w K F L kvs → ∀ {L0 : List (NestedKey × Addr × V)} {k0 : List (NestedKey × Dat)}, RpN P w K F L0 k0 → RpN P w K F (mergeL L0 L) (mergeD k0 kvs)
  | _, _, .nil, _, _, h0 => h0
  | _, _, .cons a z b c, _, _, h0 => RpN.merge c (h0.put a z b)
section
variable {X : Cx} {pins : List (Addr × Obj)} {σ : Sg} {H F : Hp} {s : Shared}
theorem pairsAt (I : Inv X pins σ H s) (sb : Sub F H) : ∀ (xs : List Dat) {us : List V} {ws : List Value} {kvs : List (NestedKey × Dat)}, RpAll X.prog X.w X.K F us xs → Vals us ws → pairsOf xs = some kvs →
    ∃ (ts : List Addr) (L : List (NestedKey × Addr × V)) (ph : List (NestedKey × Addr × Value)), ws = ts.map Value.ref ∧ ts.length = ph.length ∧ KN L ph ∧ RpN X.prog X.w X.K F L kvs ∧
      ∀ (j : Nat) (q : NestedKey × Addr × Value), ph[j]? = some q → ∃ t, ts[j]? = some t ∧ IsTup s.heap t #[.ref q.2.1, q.2.2]
  | [], us, ws, kvs, r, rv, h => by
    cases r
    cases rv
    simp only [pairsOf] at h
    cases h
    exact ⟨[], [], [], rfl, rfl, .nil, .nil, fun j q e => by simp at e⟩
  | x :: xs, us, ws, kvs, r, rv, h => by
    unfold pairsOf at h
    split at h
    · rename_i e; cases e
    · rename_i k v rest e
      cases e
      split at h
      · rename_i k' ps e1 e2
        cases h
        cases r with
        | @cons vp us' _ _ rp ra =>
          cases rv with
          | cons rw1 rw2 =>
            obtain ⟨ts, L, ph, g1, g2, g3, g4, g5⟩ := pairsAt I sb _ ra rw2 e2
            cases rp with
            | @tup t pv _ hs hp =>
              cases rw1
              obtain ⟨its, rits, ht, _⟩ := I.tuple (sb.ext.sqT hs.sq)
              obtain ⟨t1, t2, ys, t3⟩ := tkey_of e1
              cases hp with
              | @cons vk _ _ _ r1 r2 =>
                cases r2 with
                | @cons vv _ _ _ r2 r3 =>
                  cases r3
                  rw [t3] at r1
                  cases r1 with
                  | @tup b bx _ hs' rb =>
                    obtain ⟨u1, u2, ei, ru1, ru2⟩ := vals2 rits
                    subst ei
                    cases ru1
                    have rk : Rp X.prog X.w X.K F (.ref b) (kd k') := by rw [← t1, t3]; exact .tup hs' rb
                    refine ⟨t :: ts, (k', b, vv) :: L, (k', b, u2) :: ph, by rw [List.map_cons, ← g1], by simp [g2], .cons ⟨rfl, rfl, ru2⟩ g3, .cons rk t2 r2 g4, fun j q e => ?_⟩
                    cases j with
                    | zero =>
                      simp only [List.getElem?_cons_zero, Option.some.injEq] at e
                      subst e
                      exact ⟨t, rfl, ht⟩
                    | succ j => exact g5 j q (by simpa using e)
      · cases h
    · cases h
def gDict : Dat → Option (List (NestedKey × Dat))
  | .lst xs => if xs.length < 1000000 then (pairsOf xs).map (mergeD []) else none
  | .tup xs => if xs.length < 1000000 then (pairsOf xs).map (mergeD []) else none
  | _ => none
def rDict (P : Program) (w : World) (K : PySem.W.Frag) : V → Hp → VK → Prop := fun x H Q => ∃ F d kvs, Sub F H ∧ View P w K H F x d ∧ gDict d = some kvs ∧
  ∀ p L, H p = none → RpN P w K F L kvs → Q (.ref p) (upd H p (hoN P w p L))
theorem call_dictN (hc : X.calm = true) (hu : X.A.units + 100 < cLine) : CallR X (.type "dict") fun vs H Q => ∃ x, vs = [x] ∧ rDict X.prog X.w X.K x H Q := by
  intro pins s σ H xs us Q I r q
  obtain ⟨x, rfl, F, d, kvs, sb, vx, hg, k⟩ := q
  obtain ⟨u, rfl, rx⟩ := vals1 r
  have fin : ∀ {a : Addr} {vs : List V} {ds : List Dat} {ws : List Value} {T : String}, x = .ref a → T = "list" ∨ T = "tuple" → PlainSeq T s.heap a ws.toArray → Vals vs ws → RpAll X.prog X.w X.K F vs ds → ds.length < 1000000 → (pairsOf ds).map (mergeD []) = some kvs →
      wpAny (model X.prog X.w) X.A (call (.type "dict") [u]) (EP X pins σ Q) X.xe s := fun {a vs ds ws T} ex hT pl rv ra hlen hm => by
    subst ex
    cases rx
    simp only [Option.map_eq_some_iff] at hm
    obtain ⟨kp, e1, rfl⟩ := hm
    obtain ⟨ts, L, ph, g1, g2, g3, g4, g5⟩ := pairsAt I sb ds ra rv e1
    subst g1
    have hn : ph.length = ds.length := by
      have h1 : (ts.map Value.ref).length = vs.length := rv.length.symm
      rw [List.length_map] at h1
      rw [← g2, h1, ra.length]
    have items : PairItems s.heap (ts.map Value.ref).toArray (fun j => ts.getD j 0) (ph.map fun q => (Value.ref q.2.1, q.2.2)) := by
      refine ⟨by simp [g2], fun j kk vv e => ?_⟩
      rw [List.getElem?_map, Option.map_eq_some_iff] at e
      obtain ⟨q, e3, e4⟩ := e
      cases e4
      obtain ⟨t, e5, e6⟩ := g5 j q e3
      refine ⟨by simp [e5], .inl ?_⟩
      have e7 : ts.getD j 0 = t := by rw [List.getD_eq_getElem?_getD, e5]; rfl
      show s.heap.IsTuple (ts.getD j 0) _
      rw [e7]
      exact e6
    have go : ∀ {fp : List Addr} {OK : Heap → Prop} (P : PairArg X.prog X.w T a fp [] (ph.map fun q => (Value.ref q.2.1, q.2.2)).length (PairRel (ph.map fun q => (Value.ref q.2.1, q.2.2))) OK) (ok : OK s.heap),
        wpAny (model X.prog X.w) X.A (call (.type "dict") [.ref a]) (EP X pins σ Q) X.xe s := fun {fp OK} P ok => by
      refine call_dict_pairsH (knd := nestedKind X.prog X.w) (ps := ph) P (I.ok.hd hc) ?_ ok ⟨by simp, fun i key v e => ?_⟩ (fun h' hk y hy => ?_) ?_ fun h' tk hd' hk => ?_
      · show X.A.units + 2 + 8 < cLine
        omega
      · have e' : (ph.map fun q => (Value.ref q.2.1, q.2.2))[i]? = some (key, v) := e
        rw [List.getElem?_map, Option.map_eq_some_iff] at e'
        obtain ⟨q, e3, e4⟩ := e'
        cases e4
        exact ⟨q.1, q.2.1, e3, rfl⟩
      · have h0 := kn_keys I sb g3 g4 y hy
        exact (nestedKind_stays (prog := X.prog) (w := X.w)).stays (fun b o vs n e1 e2 => hk b o (Nat.ne_of_lt (Heap.lt_size e1)) (fun z => nomatch z) e1) h0
      · rw [List.length_map, hn]
        exact fitsM hlen
      · have hsys : (s.heap.objs.size == sysModules) = false := beq_eq_false_iff_ne.mpr (Nat.ne_of_gt I.big)
        have hl : (mergeL [] L).length ≤ sizeLine := by
          have h1 := mergeL_length L []
          have h2 : L.length = ph.length := g3.length
          have h3 : ds.length ≤ sizeLine := fitsM hlen
          simp only [List.length_nil, Nat.zero_add] at h1
          omega
        exact ⟨.ref s.heap.objs.size, upd H s.heap.objs.size (hoN X.prog X.w s.heap.objs.size (mergeL [] L)), I.laid (t' := tk) (fun b o e => hk b o (fun z => nomatch z) e) (Nat.le_refl _) (hoN_ok hd' (g3.merge .nil) hl hsys), rfl, k _ _ (I.hok.fresh (Nat.le_refl _)) (g4.merge .nil)⟩
    rcases hT with e | e
    · subst e
      exact go (PairArg.list a _ _ _) ⟨pl, items⟩
    · subst e
      exact go (PairArg.tuple a _ _ _) ⟨pl, items⟩
  unfold gDict at hg
  split at hg
  · split at hg
    · rename_i xs' hlen
      obtain ⟨a, vs, e, hl, ra⟩ := vx.lst sb
      obtain ⟨its, rv, pl, _⟩ := I.list (.of hl)
      refine fin e (.inl rfl) ?_ rv ra hlen hg
      obtain ⟨o, n, g1, g2, g3, g4⟩ := pl
      exact ⟨o, n, g1, g2, g3, g4⟩
    · cases hg
  · split at hg
    · rename_i xs' hlen
      obtain ⟨_, _, _, _, _, pa⟩ := vx.tup sb
      cases pa with
      | tup ht ra =>
        obtain ⟨its, rv, pl, _⟩ := inv_plain I (ht.sub sb)
        exact fin rfl (.inr rfl) pl rv ra hlen hg
    · cases hg
  · cases hg

def c1d (g : Dat → Option (List (NestedKey × Dat))) (fa : FE) : FE := fun ρ => (fa ρ).bind fun p => (rv p.2 p.1).bind fun d => (g d).bind fun z => some (.new (.dic true z), p.2)
theorem de_dict {x : Str} {p pos : Pos} {a : Expr} {fa : FE} (hc : X.calm = true) (hu : X.A.units + 100 < cLine) (hg : Gl X x) (hm : X.mg x = none) (hv : bootBuiltins x = some (.type "dict")) (ha : DE X a fa) (hs : starEach [a] X.env = (false, eval a X.env) :: starEach [] X.env := by rfl)
    (hn : x ≠ "__name__" := by decide) (hdb : (x == ("__debug__" : Str)) = false := by decide) (hpl : (backTo pos (starEach [] X.env)).any (·.1) = false := by rfl) : DE X (.Call (.Name x p) [a] [] pos) (c1d gDict fa) :=
  peImp (pe_callTy (call_dictN hc hu) hg hm hv (pa_cons ha pa_nil hs) hn hdb hs hpl) fun σ H Q q => by
    obtain ⟨ρ, F, h, ρ', so, e, k⟩ := q
    simp only [c1d, Option.bind_eq_some_iff] at e
    obtain ⟨⟨h1, ρ1⟩, e1, d, e3, z, e5, e6⟩ := e
    cases e6
    refine ⟨ρ, F, h1, ρ1, so, e1, fun x H1 F1 so1 st1 k1 => ⟨x, rfl, F1, d, z, so1.sub, so1.view k1 e3, e5, fun p L hp rn => ?_⟩⟩
    obtain ⟨a1, a2, a3⟩ := newOwn (H0 := H) (o := hoN X.prog X.w p L) (d := .dic true z) so1 hp st1.stay (.dic upd_same rn)
    exact k _ _ _ a1 (st1.trans a2.step) a3
end
end Dl

set_option Elab.async false
set_option linter.all false
set_option maxRecDepth 100000
set_option maxHeartbeats 4000000
/-! DV: dict comprehensions whose keys are tuples. -/
namespace Dl
open PySem PySem.Spec PyProof.Rows L2

/-- one more entry of the new dict at D -/
def addAt (P : Program) (w : World) (K : PySem.W.Frag) (D : Addr) (y z : V) (nx : Hp → Prop) (H : Hp) : Prop := ∃ F L kvs k b, y = .ref b ∧ Sub F H ∧ H D = some (hoN P w D L) ∧ RpN P w K F L kvs ∧ Rp P w K F (.ref b) (kd k) ∧ k.depth ≤ 8 ∧ L.length < sizeLine ∧
  nx (upd H D (hoN P w D (putL L k b z)))
theorem dn_dictSet {X : Cx} {pins : List (Addr × Obj)} {σ : L2.St} {H : Hp} {s : Shared} {E : Value → Shared → Prop} {D : Addr} {y z : V} {u r : Value} {nx : Hp → Prop} {Q : Unit → Shared → Prop} (hu : X.A.units + 100 < cLine) (I : Inv X pins σ H s) (h : addAt X.prog X.w X.K D y z nx H)
    (ry : RelV y u) (rz : RelV z r) (k : ∀ {H' : Hp} (s' : Shared), nx H' → Inv X pins σ H' s' → Q () s') : wpAny (model X.prog X.w) X.A (dictSet D u r) Q E s := by
  obtain ⟨F, L, kvs, kk, b, rfl, sb, hD, rn, rk, hz, hl, q⟩ := h
  cases ry
  obtain ⟨xs, h1, h2, h3, h5⟩ := hoAt I sb (.inl hD) rn
  have hx : xs.length ≤ sizeLine := by rw [← h3.length]; exact h2
  refine wpAny_dictSet_heap (knd := nestedKind X.prog X.w) (k := kk) (hsz := hx) ?_ ⟨nestedIs I sb kk rk rfl, hz⟩ h5 fun h' hd' hs => ?_
  · show X.A.units + 8 < cLine
    omega
  · have he : ∃ q, h'.get? D = some q := let ⟨q, _, _, hq, _⟩ := hd'; ⟨q, hq⟩
    refine k _ q (d_write I (by rw [hD]; exact True.intro) hs he (hoN_ok hd' (h3.put kk b rz) ?_ h1))
    have := putL_length L kk b z
    omega
/-- {k: v for target in iter if ..} -/
def tDcN (P : Program) (w : World) (K : PySem.W.Frag) (wi : TI) (g : TG) (tt : TT) (tk tv : TE) (vs : List Nat) : TE := fun σ H Q => wi σ H fun J H1 => ∀ D, H1 D = none → ∃ W : Nat → Nat → Hp → Prop, (∃ m, W 0 m (upd H1 D (hoN P w D []))) ∧ ∀ i m H, W i m H →
  (J.stop i H ∧ Q (.ref D) H) ∨ (J.go i H ∧ ∃ Then : Hp → Prop, (∀ H', Then H' → ∃ m', m' < m ∧ W (i + 1) m' H') ∧ ∀ x H', J.yld i H x H' → g x (L2.wipe σ vs) H' fun σ2 H2 => L2.wipe σ2 vs = L2.wipe σ vs ∧ tt σ2 H2 fun b H3 =>
    if b = true then tk σ2 H3 fun y H4 => tv σ2 H4 fun z H5 => addAt P w K D y z Then H5 else Then H3)
section
variable {X : Cx}
theorem dcN_core {pins : List (Addr × Obj)} {s : Shared} {σ : L2.St} {H : Hp} {Q : VK} {kx vx tg iter : Expr} {ifs : List Expr} {scope : Scope} {own : List (Str × Nat)} {pos pos' : Pos} {wi : TI} {g : TG} {tt : TT} {tk tv : TE} {use : Option (Value → Sem Unit)} {Qf : Value → Shared → Prop}
    (hc : X.calm = true) (hu : X.A.units + 100 < cLine) (hN : X.N.Nodup) (v0 : Inv X pins σ H s) (hi : PI X tg iter wi) (ok : BlkOk X.N X.env.scope scope own)
    (hg : ∀ (s : Shared) (H : Hp) (C : Addr) (cl : List (Str × Addr)) (rec : List Addr), PG (X.blk s H scope (compEnvC scope cl C X.env) rec) tg g) (ht : ∀ (s : Shared) (H : Hp) (C : Addr) (cl : List (Str × Addr)) (rec : List Addr), PTs (X.blk s H scope (compEnvC scope cl C X.env) rec) ifs tt)
    (hk : ∀ (s : Shared) (H : Hp) (C : Addr) (cl : List (Str × Addr)) (rec : List Addr), PE (X.blk s H scope (compEnvC scope cl C X.env) rec) kx tk)
    (he : ∀ (s : Shared) (H : Hp) (C : Addr) (cl : List (Str × Addr)) (rec : List Addr), PE (X.blk s H scope (compEnvC scope cl C X.env) rec) vx tv) (hs : ∀ x, foldedSetIterable iter X.env x = pure x)
    (h : tDcN X.prog X.w X.K wi g tt tk tv (own.map (·.2)) σ H Q)
    (hEnd : ∀ D C s' m H', Inv X pins σ H' s' → Q (.ref D) H' → s'.heap.Ns C m → FpOk X pins H' C → compPost (model X.prog X.w) X.A X.xe use Qf (.ref D) C (.ok .next) s') :
    wpAny (model X.prog X.w) X.A (comprehension (.DictComp kx vx [⟨tg, iter, ifs, 0⟩] scope pos) scope X.env pos' newDict false (eval iter X.env) use) Qf X.xe s := by
  have hfree : ∀ y ∈ scope.names, y.2 = .free → ∃ c, X.env.cells.lookup y.1 = some c := fun y hy eq0 => by
    rcases ok.free y hy eq0 with k | k
    · exact v0.ok.has _ (.inl k)
    · exact v0.ok.has _ (.inr k)
  refine wpAny_comprehension_free (use := use) rfl hs (closure_ok hfree) ok.kind (fun y hy eq0 => by rw [ok.uniq y hy, eq0])
    (thn (hi.run pins s σ H _ v0 h) fun xv tA hx => thn hx fun itv tB h2 => ?_)
  obtain ⟨itr, rec, tst, Jt, GB, eq0, vB, Tn, tnB, okB, rest⟩ := h2
  subst eq0
  refine wpAny_newObj_type (newEnv_comp ?_)
  generalize eqD : tB.heap.objs.size = D
  have newD : GB D = none := vB.hok.fresh (Nat.le_of_eq eqD)
  obtain ⟨W, ⟨n0, wBeg⟩, runs⟩ := rest D newD
  -- the new list
  generalize eqC : ({ tB with heap := tB.heap.push { cls := .type "dict", data := .dict #[] } } : Shared) = tC
  have vC : Inv X pins σ (upd GB D (hoN X.prog X.w D [])) tC := by
    rw [← eqC]
    refine vB.laid (t' := tB.toks) (fun b o eq0 => Heap.get?_push_of_some _ eq0) (Nat.le_of_eq eqD) ?_
    rw [← eqD]
    exact hoN_ok (Heap.DictOfH.new tB.heap) .nil (Nat.zero_le _) (beq_eq_false_iff_ne.mpr (Ne.symm (Nat.ne_of_lt vB.big)))
  have heC : tC.heap = tB.heap.push { cls := .type "dict", data := .dict #[] } := by rw [← eqC]
  have low : ∀ b ∈ rec, b < tB.heap.objs.size := fun b hb => by
    obtain ⟨o, eq0, _⟩ := Tn.obj _ _ tnB b hb
    exact Heap.lt_size eq0
  have okC : ∀ b ∈ rec, FpOk X pins (upd GB D (hoN X.prog X.w D [])) b ∧ b < tC.heap.objs.size := fun b hb => by
    have hlt := low b hb
    refine ⟨⟨?_, (okB b hb).2⟩, by rw [heC, Heap.size_push]; exact Nat.lt_succ_of_lt hlt⟩
    rw [upd_ne (by rw [← eqD]; exact Nat.ne_of_lt hlt)]
    exact (okB b hb).1
  have tnC : tst 0 tC.heap := Tn.keep _ _ _ tnB fun b _ o eq0 => by rw [heC]; exact Heap.get?_push_of_some _ eq0
  have vD := block_start vC ok hN okC
  have jg := hg tC (upd GB D (hoN X.prog X.w D [])) tC.heap.objs.size (cellsFrom (tC.heap.objs.size + 1) scope.names (cloFrom X.env.cells scope.names [])) rec
  have jt := ht tC (upd GB D (hoN X.prog X.w D [])) tC.heap.objs.size (cellsFrom (tC.heap.objs.size + 1) scope.names (cloFrom X.env.cells scope.names [])) rec
  have jk := hk tC (upd GB D (hoN X.prog X.w D [])) tC.heap.objs.size (cellsFrom (tC.heap.objs.size + 1) scope.names (cloFrom X.env.cells scope.names [])) rec
  have pe := he tC (upd GB D (hoN X.prog X.w D [])) tC.heap.objs.size (cellsFrom (tC.heap.objs.size + 1) scope.names (cloFrom X.env.cells scope.names [])) rec
  show codeAny _ _ (.compStart (.DictComp kx vx [⟨tg, iter, ifs, 0⟩] scope pos) 0 (.ref itr) (.ref D) (compEnvC scope (cellsFrom (tC.heap.objs.size + 1) scope.names (cloFrom X.env.cells scope.names [])) tC.heap.objs.size X.env)) (compPost (model X.prog X.w) X.A X.xe use Qf (.ref D) tC.heap.objs.size) { tC with heap := pushCells (tC.heap.push { cls := .type "dict", data := .dict #[] }) scope.names }
  have offC : ∀ b ∈ rec, (upd GB D (hoN X.prog X.w D [])) b = none := fun b hb => (okC b hb).1.1
  generalize eqV : compEnvC scope (cellsFrom (tC.heap.objs.size + 1) scope.names (cloFrom X.env.cells scope.names [])) tC.heap.objs.size X.env = env2 at vD jg jt jk pe ⊢
  have envL : env2.locals = tC.heap.objs.size := by subst eqV; rfl
  generalize eqG : upd GB D (hoN X.prog X.w D []) = GC at vC vD jg jt jk pe wBeg offC okC
  generalize eqE : ({ tC with heap := pushCells (tC.heap.push { cls := .type "dict", data := .dict #[] }) scope.names } : Shared) = tD4 at vD ⊢
  have tnD : tst 0 tD4.heap := Tn.keep _ _ _ tnC fun b _ o eq0 => by rw [← eqE]; exact pushCells_keeps _ _ _ _ (Heap.get?_push_of_some _ eq0)
  have stand : ∀ {σ' : L2.St} {H' : Hp} {s' : Shared}, Inv (X.blk tC GC scope env2 rec) [] σ' H' s' → (∀ b ∈ rec, H' b = none) → ∀ b ∈ rec, FpOk (X.blk tC GC scope env2 rec) [] H' b := fun {σ' H' s'} I' hn b hb =>
    ⟨hn b hb, (I'.ok.exf b hb).1, I'.ok.exfs b hb, .inl hb, fun x c eq0 => (I'.ok.exf b hb).2 x c eq0, fun p hp => absurd (show p ∈ ([] : List (Addr × Obj)) ++ [] from hp) (by simp)⟩
  have whole : codeAny (model X.prog X.w) X.A (.compLoop (.DictComp kx vx [⟨tg, iter, ifs, 0⟩] scope pos) 0 (.ref itr) (.ref D) env2) (compPost (model X.prog X.w) X.A X.xe use Qf (.ref D) tC.heap.objs.size) tD4 := by
    refine compLoop_anyD (fun n s' => ∃ i H', Inv (X.blk tC GC scope env2 rec) [] (wipe σ (own.map (·.2))) H' s' ∧ tst i s'.heap ∧ (∀ b ∈ rec, H' b = none) ∧ W i n H') ?_ n0 ⟨0, GC, vD, tnD, offC, wBeg⟩
    rintro n tE ⟨i, GE, vE, tnE, offE, wNow⟩
    rcases runs i n GE wNow with ⟨halt, done⟩ | ⟨more, Then, hStep, each⟩
    · have gone := Tn.done (X.blk tC GC scope env2 rec) rfl rfl rfl hc i [] tE _ GE (fun _ _ => False) vE (stand vE offE) tnE halt
      refine thnF gone fun r tF ⟨hr, vF⟩ => ?_
      subst hr
      -- back in the def's context
      have vG : Inv X pins σ GE tF := vC.call' (ch := rec) vF.os vF.base vF.hok vF.bare fun b hb => ⟨(okC b hb).1.2.2.2.1, (okC b hb).1.2.1, (okC b hb).1.2.2.2.2.1, (okC b hb).1.2.2.2.2.2⟩
      have nC : GE tC.heap.objs.size = none := by
        have z : GE env2.locals = none := vF.free
        rw [envL] at z
        exact z
      obtain ⟨m, hn, _⟩ := vF.loc
      have hn : tF.heap.Ns env2.locals m := hn
      rw [envL] at hn
      exact hEnd D tC.heap.objs.size tF m GE vG done hn (vC.fpOk (Nat.le_refl _) nC)
    · have item := Tn.item (X.blk tC GC scope env2 rec) rfl rfl rfl hc i [] tE _ GE (fun _ _ => False) vE (stand vE offE) tnE more
      refine thnF item fun r tF ⟨u, hr, h6⟩ => ?_
      subst hr
      refine thnF h6 fun _ tG ⟨x, GG, vG, r7, y7, tnG, offG⟩ => ?_
      have vG' := vG.pinned (stand vG offG) (Tn.obj _ _ tnG)
      refine thnF (jg.run _ tG _ GG x u _ vG' r7 (each x GG y7)) fun _ tH ⟨σ8, GH, vH, hw8, q8⟩ => ?_
      refine thnF (jt.run _ tH σ8 GH _ vH q8) fun b tI ⟨GI, vI, q9⟩ => ?_
      -- the turn's end
      have fin : ∀ {s' : Shared} {H' : Hp}, Inv (X.blk tC GC scope env2 rec) ([] ++ pinsAt rec tG.heap) σ8 H' s' → Then H' → ∃ m, m < n ∧ ∃ i H', Inv (X.blk tC GC scope env2 rec) [] (wipe σ (own.map (·.2))) H' s' ∧ tst i s'.heap ∧ (∀ b ∈ rec, H' b = none) ∧ W i m H' := fun {s' H'} I' nx => by
        obtain ⟨m', hm, w'⟩ := hStep H' nx
        have pin' : ∀ b ∈ rec, ∀ o, tG.heap.get? b = some o → s'.heap.get? b = some o ∧ H' b = none := fun b hb o eq0 =>
          let z := I'.pin (b, o) (List.mem_append_right _ (List.mem_append_right _ (mem_pinsAt hb eq0)))
          ⟨z.1, z.2.1⟩
        have hl : (wipe σ (own.map (·.2))).length = σ8.length := by rw [← hw8, wipe_length]
        refine ⟨m', hm, i + 1, H', (I'.unpinned (pins := [])).weak hl (fun j v eq0 => ?_), Tn.keep _ _ _ tnG fun b hb o eq0 => (pin' b hb o eq0).1, fun b hb => ?_, w'⟩
        · rw [← hw8] at eq0
          exact (wipe_some eq0).1
        · obtain ⟨o, eq0, _⟩ := Tn.obj _ _ tnG b hb
          exact (pin' b hb o eq0).2
      cases b with
      | false =>
        simp only [Bool.false_eq_true, if_false] at q9 ⊢
        exact fin vI q9
      | true =>
        simp only [if_true] at q9 ⊢
        refine thnF (jk.run _ tI σ8 GI _ vI q9) fun z tJ ⟨yk, GJ, vJ, r10, q10⟩ => ?_
        refine thnF (pe.run _ tJ σ8 GJ _ vJ q10) fun z2 tK ⟨yv, GK, vK, r11, at11⟩ => ?_
        exact dn_dictSet (X := X.blk tC GC scope env2 rec) hu vK at11 r10 r11 fun tL nx vL => fin vL nx
  exact codeAny_compStart_dict whole (Tn.self X.A 0 _ _ _ tnD whole)
theorem pe_dcN {kx vx tg iter : Expr} {ifs : List Expr} {scope : Scope} {own : List (Str × Nat)} {pos : Pos} {wi : TI} {g : TG} {tt : TT} {tk tv : TE} (hc : X.calm = true) (hu : X.A.units + 100 < cLine) (hN : X.N.Nodup) (hi : PI X tg iter wi) (ok : BlkOk X.N X.env.scope scope own)
    (hg : ∀ (s : Shared) (H : Hp) (C : Addr) (cl : List (Str × Addr)) (rec : List Addr), PG (X.blk s H scope (compEnvC scope cl C X.env) rec) tg g) (ht : ∀ (s : Shared) (H : Hp) (C : Addr) (cl : List (Str × Addr)) (rec : List Addr), PTs (X.blk s H scope (compEnvC scope cl C X.env) rec) ifs tt)
    (hk : ∀ (s : Shared) (H : Hp) (C : Addr) (cl : List (Str × Addr)) (rec : List Addr), PE (X.blk s H scope (compEnvC scope cl C X.env) rec) kx tk)
    (he : ∀ (s : Shared) (H : Hp) (C : Addr) (cl : List (Str × Addr)) (rec : List Addr), PE (X.blk s H scope (compEnvC scope cl C X.env) rec) vx tv) (hs : ∀ x, foldedSetIterable iter X.env x = pure x := by intro _; rfl) :
    PE X (.DictComp kx vx [⟨tg, iter, ifs, 0⟩] scope pos) (tDcN X.prog X.w X.K wi g tt tk tv (own.map (·.2))) := by
  refine ⟨fun pins s σ H Q v0 h => ?_⟩
  rw [arm_eval_DictComp]
  refine dcN_core hc hu hN v0 hi ok hg ht hk he hs h fun D C s' m H' I' rest hn f => ⟨m, hn, fun h'' sb => ?_⟩
  obtain ⟨f0, f1, okB, okC, f4, f5⟩ := f
  exact ⟨.ref D, H', I'.turned (t' := s'.toks) (fun b o hb eq0 => (sb.2 b hb).trans eq0) f0 f1 okC f4 f5, rfl, rest⟩
end

def lcpD (g : FG) (t : FT) (fk fv : FE) (vs : List Nat) : List Dat → Rho → List (NestedKey × Dat) → Option (List (NestedKey × Dat) × Rho)
  | [], ρ, acc => some (acc, ρ)
  | d :: ds, ρ, acc => match g d ρ with
    | none => none
    | some ρ1 => match t ρ1 with
      | none => none
      | some (false, ρ2) => lcpD g t fk fv vs ds (wipeR ρ2 vs) acc
      | some (true, ρ2) => match cFz fk ρ2 with
        | some (.dat y, ρ3) => match cFz fv ρ3 with
          | some (.dat z, ρ4) => match tkey y with
            | some k => if acc.length < 100000 then lcpD g t fk fv vs ds (wipeR ρ4 vs) (putD acc k z) else none
            | none => none
          | _ => none
        | _ => none
def cDc (it : FI) (g : FG) (t : FT) (fk fv : FE) (vs : List Nat) : FE := fun ρ => match it ρ with
  | some (ds, ρ1) => match lcpD g t fk fv vs ds (wipeR ρ1 vs) [] with
    | some (acc, ρ2) => some (.new (.dic true acc), back ρ1 ρ2 vs)
    | none => none
  | none => none
theorem rp_ref {P w K} {F : Hp} {v : V} {xs : List Dat} (h : Rp P w K F v (.tup xs)) : ∃ b, v = .ref b := by
  cases h
  exact ⟨_, rfl⟩
theorem tDc_imp {P w K} {it : FI} {g : FG} {t : FT} {fk fv : FE} {vs us : List Nat} {σ : Sg} {H : Hp} {Q : VK} (hu : ∀ j ∈ us, j ∈ vs) (q : tD P w K (cDc it g t fk fv vs) σ H Q) :
    tDcN P w K (tId P w K it) (tGd P w K us g) (tT P w K t) (tD P w K (cFz fk)) (tD P w K (cFz fv)) vs σ H Q := by
  obtain ⟨ρ, F, h, ρ', so, e, k⟩ := q
  unfold cDc at e
  split at e
  · rename_i ds ρ1 e1
    split at e
    · rename_i acc ρ2 e2
      cases e
      refine ⟨ρ, F, ds, ρ1, so, e1, fun J H1 F1 so1 st1 wk D hD => ?_⟩
      have nD : ¬ IsOwn ρ1 σ D := fun z => by
        obtain ⟨o, ho⟩ := so1.ownThere z
        rw [hD] at ho; cases ho
      have fD : F1 D = none := by
        cases q : F1 D with
        | none => rfl
        | some u => rw [so1.sub _ _ q] at hD; cases hD
      refine ⟨fun i m H2 => m = ds.length - i ∧ ∃ ρi Fi ac L, SO P w K ρi (L2.wipe σ vs) H2 Fi ∧ Step (wipeR ρ1 vs) (L2.wipe σ vs) H1 F1 ρi (L2.wipe σ vs) H2 Fi ∧
          H2 D = some (hoN P w D L) ∧ Fi D = none ∧ ¬ IsOwn ρi (L2.wipe σ vs) D ∧ RpN P w K Fi L ac ∧ (∀ j ∈ vs, ∀ d, ρi[j]? ≠ some (.own true d)) ∧ lcpD g t fk fv vs (ds.drop i) ρi ac = some (acc, ρ2),
        ⟨_, rfl, wipeR ρ1 vs, F1, [], [], (so1.wipe vs).updOut fD (fun z => nD z.wiped.1), Step.refl.updOut hD, upd_same, fD, fun z => nD z.wiped.1, .nil, fun j hj d z => ?_, e2⟩, ?_⟩
      · have hl : j < ρ1.length := by
          have := (List.getElem?_eq_some_iff.mp z).1
          rwa [wipeR_length] at this
        rw [wipeR_in hj hl] at z; cases z
      rintro i m H2 ⟨rfl, ρi, Fi, ac, L, so2, st2, d2, f2, n2, r2, w2, e3⟩
      by_cases hl : i < ds.length
      · have hd : ds[i]? = some ds[i] := List.getElem?_eq_getElem hl
        rw [List.drop_eq_getElem_cons hl] at e3
        obtain ⟨go, yl⟩ := wk.go i H2 Fi _ hd st2.subF so2.sub
        refine .inr ⟨go, fun H3 => ∃ ρi Fi ac L, SO P w K ρi (L2.wipe σ vs) H3 Fi ∧ Step (wipeR ρ1 vs) (L2.wipe σ vs) H1 F1 ρi (L2.wipe σ vs) H3 Fi ∧
          H3 D = some (hoN P w D L) ∧ Fi D = none ∧ ¬ IsOwn ρi (L2.wipe σ vs) D ∧ RpN P w K Fi L ac ∧ (∀ j ∈ vs, ∀ d, ρi[j]? ≠ some (.own true d)) ∧ lcpD g t fk fv vs (ds.drop (i + 1)) ρi ac = some (acc, ρ2),
          fun H3 z => ⟨ds.length - (i + 1), by omega, rfl, z⟩, fun x H3 y => ?_⟩
        obtain ⟨F3, nw, rp⟩ := yl x H3 y
        simp only [lcpD] at e3
        split at e3
        · cases e3
        · rename_i ρ4 e4
          refine ⟨ρi, F3, _, _, so2.new nw, rp, e4, fun σ4 so4 st4 q4 => ?_⟩
          have hw : L2.wipe σ4 vs = L2.wipe σ vs := wipe_eq (by rw [q4.1, L2.wipe_length]) fun j hj => q4.2 j fun z => hj (hu j z)
          have st34 := nw.step.trans st4
          refine ⟨hw, ?_⟩
          have wout : ∀ (ρx : Rho), ∀ j ∈ vs, ∀ d, (wipeR ρx vs)[j]? ≠ some (.own true d) := fun ρx j hj d z => (wipeR_some z (fun z => by cases z)).1 hj
          have fin : ∀ (ρx : Rho) (Hx Fx : Hp), SO P w K ρx σ4 Hx Fx → Step ρi (L2.wipe σ vs) H2 Fi ρx σ4 Hx Fx →
              SO P w K (wipeR ρx vs) (L2.wipe σ vs) Hx Fx ∧ Step (wipeR ρ1 vs) (L2.wipe σ vs) H1 F1 (wipeR ρx vs) (L2.wipe σ vs) Hx Fx ∧ Hx D = some (hoN P w D L) ∧ Fx D = none ∧ ¬ IsOwn (wipeR ρx vs) (L2.wipe σ vs) D := fun ρx Hx Fx sx tx => by
            have a1 := sx.wipe vs
            have a2 := tx.wipeEnd w2
            rw [hw] at a1 a2
            refine ⟨a1, st2.trans a2, (a2.keep D _ d2 n2), ?_, fun z => ?_⟩
            · cases q : Fx D with
              | none => rfl
              | some u =>
                rcases a2.fresh D u q with z | z | z
                · rw [f2] at z; cases z
                · rw [d2] at z; cases z
                · exact (n2 z).elim
            · rcases a2.own D z with z | z
              · exact n2 z
              · rw [d2] at z; cases z
          split at e3
          · cases e3
          · rename_i ρ5 e5
            refine ⟨ρ4, F3, _, _, so4, e5, fun H5 F5 so5 st5 => ?_⟩
            obtain ⟨b1, b2, b3, b4, b5⟩ := fin ρ5 H5 F5 so5 (st34.trans st5)
            refine iteF ?_
            exact ⟨wipeR ρ5 vs, F5, ac, L, b1, b2, b3, b4, b5, r2.sub (st34.trans st5).subF, wout _, e3⟩
          · rename_i ρ5 e5
            split at e3
            · rename_i yd ρ6 e6
              split at e3
              · rename_i zd ρ7 e7
                split at e3
                · rename_i kk ek
                  split at e3
                  · rename_i hz
                    refine ⟨ρ4, F3, _, _, so4, e5, fun H5 F5 so5 st5 => ?_⟩
                    refine iteT ?_
                    refine ⟨ρ5, F5, _, _, so5, e6, fun vy H6 F6 so6 st6 ry => ⟨ρ6, F6, _, _, so6, e7, fun vz H7 F7 so7 st7 rz => ?_⟩⟩
                    have stx := ((st34.trans st5).trans st6).trans st7
                    obtain ⟨b1, b2, b3, b4, b5⟩ := fin ρ7 H7 F7 so7 stx
                    have r7 : RpN P w K F7 L ac := r2.sub stx.subF
                    obtain ⟨t1, t2, ys, t3⟩ := tkey_of ek
                    have ry7 : Rp P w K F7 vy yd := Rp.sub (show Rp P w K F6 vy yd from ry) st7.subF
                    obtain ⟨b, rfl⟩ := rp_ref (t3 ▸ ry7)
                    rw [t1] at ry7
                    refine ⟨F7, L, ac, kk, b, rfl, b1.sub, b3, r7, ry7, t2, ?_, ?_⟩
                    · rw [r7.length]
                      exact Nat.lt_trans hz (by decide)
                    · exact ⟨wipeR ρ7 vs, F7, putD ac kk zd, putL L kk b vz, b1.updOut b4 b5, b2.updOut hD, upd_same, b4, b5, r7.put ry7 t2 rz, wout _, e3⟩
                  · cases e3
                · cases e3
              · cases e3
            · cases e3
      · rw [List.drop_eq_nil_of_le (by omega)] at e3
        simp only [lcpD] at e3
        cases e3
        obtain ⟨so5, st5⟩ := so1.back so2 st2
        refine .inl ⟨wk.stop i H2 Fi (by omega) st2.subF so2.sub, k _ H2 Fi so5 (st1.trans st5) ⟨D, rfl, .dic d2 r2, f2, fun z => ?_, ?_⟩⟩
        · obtain ⟨j, b, d, z1, z2⟩ := z
          rcases back_get z1 (fun z => by cases z) with ⟨hj, y⟩ | ⟨hj, y⟩
          · exact nD ⟨j, b, d, y, z2⟩
          · exact n2 ⟨j, b, d, y, by rw [wipe_outside hj]; exact z2⟩
        · cases q : H D with
          | none => rfl
          | some u =>
            obtain ⟨u', z⟩ := st1.stay D u q
            rw [hD] at z; cases z
    · cases e
  · cases e
section
variable {X : Cx} {kx vx tg iter : Expr} {ifs : List Expr} {scope : Scope} {own : List (Str × Nat)} {pos : Pos} {it : FI} {g : FG} {us : List Nat} {t : FT} {fk fv : FE}
theorem de_dc (hc : X.calm = true) (hr : X.A.units + 100 < cLine) (hN : X.N.Nodup) (hi : DI X tg iter it) (ok : BlkOk X.N X.env.scope scope own) (hu : ∀ j ∈ us, j ∈ own.map (·.2))
    (hg : ∀ (s : Shared) (H : Hp) (C : Addr) (cl : List (Str × Addr)) (fp : List Addr), DG (X.blk s H scope (compEnvC scope cl C X.env) fp) tg us g)
    (ht : ∀ (s : Shared) (H : Hp) (C : Addr) (cl : List (Str × Addr)) (fp : List Addr), DTs (X.blk s H scope (compEnvC scope cl C X.env) fp) ifs t)
    (hk : ∀ (s : Shared) (H : Hp) (C : Addr) (cl : List (Str × Addr)) (fp : List Addr), DE (X.blk s H scope (compEnvC scope cl C X.env) fp) kx fk)
    (hv : ∀ (s : Shared) (H : Hp) (C : Addr) (cl : List (Str × Addr)) (fp : List Addr), DE (X.blk s H scope (compEnvC scope cl C X.env) fp) vx fv)
    (hs : ∀ x, foldedSetIterable iter X.env x = pure x := by intro _; rfl) : DE X (.DictComp kx vx [⟨tg, iter, ifs, 0⟩] scope pos) (cDc it g t fk fv (own.map (·.2))) :=
  peImp (pe_dcN hc hr hN hi ok hg ht (fun s H C cl fp => de_fz (hk s H C cl fp)) (fun s H C cl fp => de_fz (hv s H C cl fp)) hs) fun _ _ _ => tDc_imp hu
end
end Dl

set_option Elab.async false
set_option linter.all false
set_option maxRecDepth 100000
set_option maxHeartbeats 4000000
/-! DW: dicts for good as they are: walked. Subscripts and 'in' of whatever data. -/
namespace Dl
open PySem PySem.Spec PyProof.Rows L2

theorem pe_last {X : Cx} {e : Expr} {t : TE} (h : PE X e t) : PE X e (fun σ H Q => t σ H fun x H' => ∃ a u, H' a = some u ∧ Mut (some u) ∧ ∀ od, Q x (upd H' a (.frz od u))) := ⟨fun pins s σ H Q I q =>
  thn (h.run pins s σ H _ I q) fun v s1 ⟨x, H1, I1, r1, a, u, ha, mu, q1⟩ => by
    obtain ⟨od, I2⟩ := I1.lock ha mu
    exact ⟨x, _, I2, r1, q1 od⟩⟩
/-- a new dict of tuples that never changes from here on -/
def cLk (f : FE) : FE := fun ρ => match f ρ with
  | some (.new (.dic true kvs), ρ1) => some (.dat (.dil kvs), ρ1)
  | _ => none
theorem de_lk {X : Cx} {a : Expr} {fa : FE} (h : DE X a fa) : DE X a (cLk fa) := peImp (pe_last h) fun σ H Q q => by
  obtain ⟨ρ, F, h, ρ', so, e, k⟩ := q
  unfold cLk at e
  split at e
  · rename_i kvs ρ1 e1
    cases e
    refine ⟨ρ, F, _, _, so, e1, fun v H' F' so' st hk => ?_⟩
    obtain ⟨p, rfl, ow, hf, hn, h0⟩ := hk
    cases ow with
    | @dic L _ hp rn =>
      refine ⟨p, _, hp, True.intro, fun od => ?_⟩
      have so2 := (so'.updOut (o := .frz od (hoN X.prog X.w p L)) hf hn).fz upd_same hf hn
      have st2 := (st.updOut (o := .frz od (hoN X.prog X.w p L)) h0).fz (o := .frz od (hoN X.prog X.w p L)) hf h0
      exact k _ _ _ so2 st2 (.dil upd_same (rn.sub (sub_upd hf)))
  · cases e

/-! ### d[k], k in d, of all kinds -/
section
variable {X : Cx} {P : Program} {w : World} {K : PySem.W.Frag} {F H : Hp}
theorem lookK_at (z : Str) : ∀ {l : List (Key × V)} {kvs : List (NestedKey × Dat)} {d : Dat}, RpK P w K F l kvs → lookD kvs (.text z) = some d → ∃ v, valV l (.inr z) = some v ∧ Rp P w K F v d
  | _, _, _, .nil, h => by simp [lookD] at h
  | (k0, v0) :: l, (_, d0) :: kvs, d, .cons b c, h => by
    by_cases hk : k0 = .inr z
    · subst hk
      simp [lookD, nk] at h
      subst h
      exact ⟨v0, by simp [valV], b⟩
    · have hk' : ¬ nk k0 = .text z := fun e => hk (by cases k0 <;> simp_all [nk])
      have e5 : lookD ((nk k0, d0) :: kvs) (.text z) = lookD kvs (.text z) := by simp [lookD, List.find?_cons, hk']
      rw [e5] at h
      obtain ⟨v, h1, h2⟩ := lookK_at z c h
      exact ⟨v, by simp [valV, List.find?_cons, hk] at h1 ⊢; exact h1, h2⟩
def gIxK : Dat → Dat → Option Dat
  | .dic false kvs, .str z => lookD kvs (.text z)
  | _, _ => none
theorem dx_ixK (hu : X.A.units + 100 < cLine) : IxR X (rD2 X.prog X.w X.K gIxK) := by
  intro value slice pins s σ H x y v u Q I rx ry q hs
  obtain ⟨F, d, e, z, sb, vx, vy, hg, k⟩ := q
  unfold gIxK at hg
  split at hg
  · rename_i kvs zz
    have go : ∀ {a : Addr} {l : List (Key × V)}, x = .ref a → Rd H a (.dK l) → RpK X.prog X.w X.K F l kvs → wpAny (model X.prog X.w) X.A (subscriptTail value slice v u) (EP X pins σ Q) X.xe s := fun {a l} ex hr rk => by
      subst ex
      cases rx
      obtain ⟨v', h1, h2⟩ := lookK_at zz rk hg
      obtain ⟨_, _, vs, _, dd⟩ := dk_rd I.hok hr
      refine tail_any dd.typeIs PySem.F.slot_dict_getitem.lookup (d_getItem (v := v') (by omega) I (.inl ⟨l, .inr zz, hr, vy.str, h1.symm⟩) ry fun w' s' I' rw' => ?_) hs
      exact ⟨v', H, I', rw', k _ H F (New.refl sb) h2⟩
    rcases vx with vx | ⟨a, ex, ow⟩
    · cases vx with
      | dik hr rk => exact go rfl (sb.ext.1 _ _ hr) rk
    · cases ow with
      | dik hp rk => exact go ex (.inl hp) rk
  · cases hg
def gIxA (d k : Dat) : Option Dat := match d with
  | .dic false _ => gIxK d k
  | .dic true _ => gIxN d k
  | .dil _ => gIxN d k
  | _ => gIx d k
theorem dx_ixA (hu : X.A.units + 100 < cLine) : IxR X (rD2 X.prog X.w X.K gIxA) := by
  intro value slice pins s σ H x y v u Q I rx ry q hs
  obtain ⟨F, d, e, z, sb, vx, vy, hg, k⟩ := q
  unfold gIxA at hg
  split at hg
  · exact dx_ixK hu value slice pins s σ H x y v u Q I rx ry ⟨F, _, e, z, sb, vx, vy, hg, k⟩ hs
  · exact dx_ixN hu value slice pins s σ H x y v u Q I rx ry ⟨F, _, e, z, sb, vx, vy, hg, k⟩ hs
  · exact dx_ixN hu value slice pins s σ H x y v u Q I rx ry ⟨F, _, e, z, sb, vx, vy, hg, k⟩ hs
  · exact dx_ix value slice pins s σ H x y v u Q I rx ry ⟨F, _, e, z, sb, vx, vy, hg, k⟩ hs
def gInA (d k : Dat) : Option Dat := match k with
  | .dic _ _ => gInN d k
  | _ => gIn false d k
theorem do_inA (hu : X.A.units + 200 < cLine) : DOp X (compareOp .In) gInA := by
  intro pins s σ H x y v u Q I rx ry q
  obtain ⟨F, d, e, z, sb, vx, vy, hg, k⟩ := q
  unfold gInA at hg
  split at hg
  · exact do_inN (by omega) pins s σ H x y v u Q I rx ry ⟨F, d, _, z, sb, vx, vy, hg, k⟩
  · exact do_in hu pins s σ H x y v u Q I rx ry ⟨F, d, _, z, sb, vx, vy, hg, k⟩
end

/-! ### for k in d -/
def Itd (P : Program) (w : World) (a : Addr) (o : Obj) (L : List (NestedKey × Addr × V)) : It :=
  ⟨fun i H => H a = some (.frz o (hoN P w a L)) ∧ i < L.length, fun i H x H' => H' = H ∧ ∃ p, L[i]? = some p ∧ x = .ref p.2.1, fun i H => H a = some (.frz o (hoN P w a L)) ∧ L.length ≤ i⟩
theorem KN.at {L : List (NestedKey × Addr × V)} {xs : List (NestedKey × Addr × Value)} (h : KN L xs) : ∀ {i : Nat} {p : NestedKey × Addr × V}, L[i]? = some p → ∃ q, xs[i]? = some q ∧ p.2.1 = q.2.1 := by
  induction h with
  | nil => intro i p e; simp at e
  | cons r t ih =>
    intro i p e
    cases i with
    | zero => simp at e; subst e; exact ⟨_, rfl, r.2.1⟩
    | succ i => exact ih (by simpa using e)
/-- what the frozen dict at a is -/
theorem frzAt {X : Cx} {pins : List (Addr × Obj)} {σ : L2.St} {H : Hp} {s : Shared} (I : Inv X pins σ H s) {a : Addr} {o : Obj} {L : List (NestedKey × Addr × V)} (h : H a = some (.frz o (hoN X.prog X.w a L))) :
    ∃ es ep, o.data = .dict es ep ∧ s.heap.DictRaw a es ep ∧ (a == sysModules) = false ∧ es.size = L.length ∧ ∀ i p, L[i]? = some p → ∃ hi : i < es.size, es[i].key = .ref p.2.1 := by
  obtain ⟨e, ok⟩ : s.heap.get? a = some o ∧ ObjOk X.prog X.w H s.heap a (hoN X.prog X.w a L) := I.hok a _ h
  obtain ⟨⟨h1, h2, xs, h3, o', es, ep, h4, h5, h6, h7, h8⟩, _⟩ := ok
  rw [e] at h4; cases h4
  have hs : es.size = xs.length := size_of_entries h7
  refine ⟨es, ep, h6, ⟨o, e, h5, h6⟩, h1, by rw [hs, KN.length h3], fun i p hp => ?_⟩
  obtain ⟨q, hq, eq⟩ := KN.at h3 hp
  have hx : i < xs.length := (List.getElem?_eq_some_iff.mp hq).1
  refine ⟨by rw [hs]; exact hx, ?_⟩
  have z := entry_at h7 i
  rw [Array.getElem?_eq_getElem (by rw [hs]; exact hx), hq, Option.map_some] at z
  have z' := Option.some.inj z
  rw [z', eq]
  rfl
theorem turn_dil {P : Program} {w : World} {K : PySem.W.Frag} {tg : Expr} {a it : Addr} {o : Obj} {L : List (NestedKey × Addr × V)} {n ep : Nat} {es : Array DictEntry} (hd : o.data = .dict es ep) (hn : n = es.size) :
    Turn P w K tg (Itd P w a o L) [it] it (fun i h => h.IsKeyIter it a i n ep) where
  mem := by simp
  obj := fun i h st b hb => by
    obtain rfl : b = it := by simpa using hb
    obtain ⟨ob, e, c, d⟩ := st
    exact ⟨ob, e, fun v z => by rw [d] at z; cases z⟩
  keep := fun i h h' st k => st.at fun ob e => k it (by simp) ob e
  item := by
    intro X hP hw hK hc i pins s σ H E I hf st hg
    subst hP hw hK
    obtain ⟨hH, hi⟩ := hg
    obtain ⟨es', ep', e1, raw, hs, hz, hk⟩ := frzAt I hH
    rw [hd] at e1
    injection e1 with e1 e2
    subst e1 e2 hn
    obtain ⟨f0, f1, f2, f3, f4, f5⟩ := hf it (by simp)
    have hp : L[i]? = some L[i] := List.getElem?_eq_getElem hi
    obtain ⟨hie, ek⟩ := hk i _ hp
    refine wpAny_pyNext_keys_item_raw st raw hie fun h' st' sb => ?_
    have I1 : Inv X pins σ H { s with heap := h' } := I.turned (t' := s.toks) (fun b ob hb e => (sb.2 b hb).trans e) f0 f1 f3 f4 f5
    obtain ⟨ob, e, c, d⟩ := id st'
    refine ⟨_, rfl, go_of (s := { s with heap := h' }) e c d (by decide) ⟨.ref L[i].2.1, H, I1, ?_, ⟨rfl, L[i], hp, rfl⟩, st', fun b hb => (hf b hb).1⟩⟩
    rw [ek]
    rfl
  done := by
    intro X hP hw hK hc i pins s σ H E I hf st hg
    subst hP hw hK
    obtain ⟨hH, hi⟩ := hg
    obtain ⟨es', ep', e1, raw, hs, hz, hk⟩ := frzAt I hH
    rw [hd] at e1
    injection e1 with e1 e2
    subst e1 e2 hn
    obtain ⟨f0, f1, f2, f3, f4, f5⟩ := hf it (by simp)
    exact wpAny_pyNext_keys_end_raw (I.ok.hd hc) st raw (by rw [hz]; exact hi) fun h' eb => ⟨rfl, I.turned (t' := s.toks) (fun b ob hb e => eb b ob hb e) f0 f1 f3 f4 f5⟩
  self := fun _ _ _ _ _ st h => wpAny_pyIter_keyiter st h
theorem RpN.key {P w K} {F : Hp} : ∀ {L : List (NestedKey × Addr × V)} {kvs : List (NestedKey × Dat)}, RpN P w K F L kvs → RpAll P w K F (L.map fun p => V.ref p.2.1) (kvs.map fun p => kd p.1)
  | _, _, .nil => .nil
  | _, _, .cons a _ _ c => .cons a (RpN.key c)
theorem walks_dil {P w K} {F0 : Hp} {a : Addr} {o : Obj} {L : List (NestedKey × Addr × V)} {kvs : List (NestedKey × Dat)} (h : F0 a = some (.frz o (hoN P w a L))) (rn : RpN P w K F0 L kvs) : Walks P w K (Itd P w a o L) (kvs.map fun p => kd p.1) F0 where
  go := fun i H F d e h1 h2 => by
    obtain ⟨v, hv, rv⟩ := rn.key.get e
    rw [List.getElem?_map, Option.map_eq_some_iff] at hv
    obtain ⟨p, hp, rfl⟩ := hv
    refine ⟨⟨h2 _ _ (h1 _ _ h), (List.getElem?_eq_some_iff.mp hp).1⟩, fun x H' y => ?_⟩
    obtain ⟨rfl, p', hp', rfl⟩ := y
    rw [hp] at hp'; cases hp'
    exact ⟨F, New.refl h2, rv.sub h1⟩
  stop := fun i H F e h1 h2 => ⟨h2 _ _ (h1 _ _ h), by rw [List.length_map] at e; rw [rn.length]; exact e⟩
def iDil (f : FE) : FI := fun ρ => match cFz f ρ with
  | some (.dat (.dil kvs), ρ1) => some (kvs.map (fun p => kd p.1), ρ1)
  | _ => none
theorem di_dil {X : Cx} {tg e : Expr} {f : FE} (h : DE X e f) : DI X tg e (iDil f) := ⟨fun pins s σ H R I q => by
  obtain ⟨ρ, F, ds, ρ', so, e, k⟩ := q
  unfold iDil at e
  split at e
  · rename_i kvs ρ1 e1
    cases e
    refine thn ((de_fz h).run pins s σ H (fun v H' => ∃ a o L, v = .ref a ∧ H' a = some (.frz o (hoN X.prog X.w a L)) ∧ R (Itd X.prog X.w a o L) H') I ⟨ρ, F, _, _, so, e1, fun v H1 F1 so1 st1 r => ?_⟩) fun v s1 hv => ?_
    · cases (show Rp _ _ _ F1 v (.dil kvs) from r) with
      | dil hf rn => exact ⟨_, _, _, rfl, so1.sub _ _ hf, k _ H1 F1 so1 st1 (walks_dil hf rn)⟩
    · obtain ⟨x, H1, I1, r1, a, o, L, rfl, hH, hR⟩ := hv
      cases r1
      obtain ⟨es, ep, e1, raw, hs, hz, hk⟩ := frzAt I1 hH
      refine wpAny_pyIter_dict_raw hs raw ?_
      have nn := I1.hok.fresh (Nat.le_refl s1.heap.objs.size)
      refine ⟨s1.heap.objs.size, [s1.heap.objs.size], _, _, H1, rfl, I1.kept (t' := s1.toks) fun b u e => Heap.get?_push_of_some _ e, turn_dil (n := es.size) e1 rfl, ?_, fun b hb => ?_, hR⟩
      · exact ⟨_, Heap.get?_push_size _ rfl, rfl, rfl⟩
      · obtain rfl : b = s1.heap.objs.size := by simpa using hb
        exact I1.fpOk (Nat.le_refl _) nn
  · cases e⟩
end Dl

set_option Elab.async false
set_option linter.all false
set_option maxRecDepth 100000
set_option maxHeartbeats 4000000
/-! DX: sorted. -/
namespace Dl
open PySem PySem.Spec PyProof.Rows L2

def leD (a b : Dat) : Bool := PySem.W.dataLe false toPy a b
def tupNe : Dat → Bool
  | .tup (_ :: _) => true
  | _ => false
def notTN : Dat → Bool
  | .tup _ => false
  | .non => false
  | _ => true
def sortD (ds : List Dat) : Option (List Dat) :=
  if ds.length < 1000000 ∧ okDs 60 ds = true ∧ (ds.all fun a => ds.all fun b => likeD a b) = true ∧ (ds.all tupNe = true ∨ ds.all notTN = true) then some (ds.mergeSort leD) else none
def gSort : Dat → Option (List Dat)
  | .lst xs => sortD xs
  | .dic _ kvs => sortD (kvs.map fun p => kd p.1)
  | .dil kvs => sortD (kvs.map fun p => kd p.1)
  | _ => none
theorem okDs_all {n : Nat} : ∀ {ds : List Dat}, okDs n ds = true → ∀ d ∈ ds, okD n d = true
  | _ :: _, h, d, hd => by
    simp only [okDs, Bool.and_eq_true] at h
    rcases List.mem_cons.mp hd with e | hd
    · subst e; exact h.1
    · exact okDs_all h.2 d hd
theorem sortD_of {ds zs : List Dat} (h : sortD ds = some zs) : ds.length < 1000000 ∧ (∀ d ∈ ds, okD 60 d = true) ∧ PySem.W.AllAlike (ds.map toPy) ∧ PySem.W.Sortable (ds.map toPy) ∧ zs = ds.mergeSort leD := by
  unfold sortD at h
  split at h
  · rename_i hc
    cases h
    obtain ⟨h1, h2, h3, h4⟩ := hc
    refine ⟨h1, okDs_all h2, fun d hd d' hd' => ?_, ?_, rfl⟩
    · obtain ⟨a, ha, rfl⟩ := List.mem_map.mp hd
      obtain ⟨b, hb, rfl⟩ := List.mem_map.mp hd'
      rw [List.all_eq_true] at h3
      have q := h3 a ha
      rw [List.all_eq_true] at q
      exact q b hb
    · rcases h4 with h4 | h4
      · refine .inl fun d hd => ?_
        obtain ⟨a, ha, rfl⟩ := List.mem_map.mp hd
        rw [List.all_eq_true] at h4
        have q := h4 a ha
        unfold tupNe at q
        split at q
        · exact ⟨_, _, by simp only [toPy, toPys]; rfl⟩
        · cases q
      · refine .inr fun d hd => ?_
        obtain ⟨a, ha, rfl⟩ := List.mem_map.mp hd
        rw [List.all_eq_true] at h4
        have q := h4 a ha
        cases a <;> simp [notTN] at q <;> simp [toPy]
  · cases h
section
variable {P : Program} {w : World} {K : PySem.W.Frag} {F : Hp}
/-- a value, what it is worth -/
abbrev Both (P : Program) (w : World) (K : PySem.W.Frag) (F : Hp) (u : Value) (b : V × Dat) : Prop := RelV b.1 u ∧ Rp P w K F b.1 b.2
theorem both_of : ∀ {vs : List V} {ds : List Dat} {us : List Value}, RpAll P w K F vs ds → Vals vs us → ∃ bs : List (V × Dat), bs.map (·.2) = ds ∧ PySem.W.EachIs (Both P w K F) us bs
  | _, _, _, .nil, .nil => ⟨[], rfl, .nil⟩
  | _, _, _, .cons r t, .cons r' t' => by
    obtain ⟨bs, h1, h2⟩ := both_of t t'
    exact ⟨(_, _) :: bs, by rw [List.map_cons, h1], .cons ⟨r', r⟩ h2⟩
theorem of_both : ∀ {us : List Value} {bs : List (V × Dat)}, PySem.W.EachIs (Both P w K F) us bs → RpAll P w K F (bs.map (·.1)) (bs.map (·.2)) ∧ Vals (bs.map (·.1)) us
  | _, _, .nil => ⟨.nil, .nil⟩
  | _, _, .cons h t => by
    obtain ⟨h1, h2⟩ := of_both t
    exact ⟨.cons h.2 h1, .cons h.1 h2⟩
theorem sort_map (bs : List (V × Dat)) : (bs.mergeSort (PySem.W.dataLe false fun b => toPy b.2)).map (·.2) = (bs.map (·.2)).mergeSort leD :=
  List.map_mergeSort fun _ _ _ _ => rfl
mutual
theorem reads_lt {h : Heap} : ∀ {v : Value} {d : PyData} {as : List Addr}, Reads h v d as → ∀ a ∈ as, a < h.objs.size
  | _, _, _, .none => fun _ z => nomatch z
  | _, _, _, .bool _ => fun _ z => nomatch z
  | _, _, _, .int _ _ => fun _ z => nomatch z
  | _, _, _, .str _ _ => fun _ z => nomatch z
  | _, _, _, .list h1 _ _ r => fun a z => by
    rcases List.mem_cons.mp z with e | z
    · subst e; exact Heap.lt_size h1
    · exact readsAll_lt r a z
  | _, _, _, .tuple _ _ _ r => readsAll_lt r
  | _, _, _, .dict h1 _ _ r r' => fun a z => by
    rcases List.mem_cons.mp z with e | z
    · subst e; exact Heap.lt_size h1
    · rcases List.mem_append.mp z with z | z
      · exact readsAll_lt r a z
      · exact readsAll_lt r' a z
theorem readsAll_lt {h : Heap} : ∀ {v : List Value} {d : List PyData} {as : List Addr}, ReadsAll h v d as → ∀ a ∈ as, a < h.objs.size
  | _, _, _, .nil => fun _ z => nomatch z
  | _, _, _, .cons r r' => fun a z => by
    rcases List.mem_append.mp z with z | z
    · exact reads_lt r a z
    · exact readsAll_lt r' a z
end
theorem vals_kn : ∀ {L : List (NestedKey × Addr × V)} {xs : List (NestedKey × Addr × Value)}, KN L xs → Vals (L.map fun p => V.ref p.2.1) ((xs.map (entryOfKey (nestedKind P w))).map (·.key))
  | _, _, .nil => .nil
  | (k0, b0, v0) :: _, (q1, q2, q3) :: _, .cons h t => .cons (by
      obtain ⟨_, h2, _⟩ := h
      simp only at h2
      subst h2
      rfl) (vals_kn t)
theorem vals_kv : ∀ {l : List (Key × V)} {vs : List (Key × Value)} {es : List DictEntry}, KV l vs → Pairs (mixKind P w) es vs → Vals (l.map fun p => kV p.1) (es.map (·.key))
  | _, _, _, .nil, .nil => .nil
  | (k0, v0) :: _, (q1, q2) :: _, e :: _, .cons h t, .cons h1 h2 h3 => .cons (by
      obtain ⟨h4, _⟩ := h
      simp only at h4
      subst h4
      show RelV (kV k0) e.key
      rcases keyIs_shape (k := k0) (v := e.key) h1 with ⟨i, u, e1, e2⟩ | ⟨x, u, e1, e2⟩
      · rw [e1, e2]; exact ⟨u, rfl⟩
      · rw [e1, e2]; exact ⟨u, rfl⟩) (vals_kv t h3)
theorem RpK.key : ∀ {l : List (Key × V)} {kvs : List (NestedKey × Dat)}, RpK P w K F l kvs → RpAll P w K F (l.map fun p => kV p.1) (kvs.map fun p => kd p.1)
  | _, _, .nil => .nil
  | _, _, .cons (k := .inl i) _ c => .cons (.int i) (RpK.key c)
  | _, _, .cons (k := .inr x) _ c => .cons (.str x) (RpK.key c)
end
def rSort1 (P : Program) (w : World) (K : PySem.W.Frag) : V → Hp → VK → Prop := fun x H Q => ∃ F d ds, Sub F H ∧ View P w K H F x d ∧ gSort d = some ds ∧
  ∀ p vs, H p = none → RpAll P w K F vs ds → Q (.ref p) (upd H p (.lst vs))
section
variable {X : Cx} {pins : List (Addr × Obj)} {σ : L2.St} {H F : Hp} {s : Shared}
theorem readsBoth (I : Inv X pins σ H s) (sb : Sub F H) : ∀ {us : List Value} {bs : List (V × Dat)}, PySem.W.EachIs (Both X.prog X.w X.K F) us bs → (∀ d ∈ bs.map (·.2), okD 60 d = true) → PySem.W.EachIs (fun v b => ∃ as, Reads s.heap v (toPy b.2) as) us bs
  | _, _, .nil, _ => .nil
  | _, _, .cons h t, ho => .cons (Dp.reads I _ _ _ (Dp.sub sb (h.2.dp (ho _ (List.mem_cons_self)))) h.1) (readsBoth I sb t fun d hd => ho d (List.mem_cons_of_mem _ hd))
theorem size_lt {H' : Hp} {a : Addr} {h : Heap} {o : HO} (k : HOk X.prog X.w H' h) (e : H' a = some o) : a < h.objs.size := HOk.lt k e
/-- the new list, sorted -/
theorem sortEnd (I : Inv X pins σ H s) {zs : List (V × Dat)} {out : List Value} {Q : VK} {h' : Heap} {p : Addr} {c tk : Nat} (e : PySem.W.EachIs (Both X.prog X.w X.K F) out zs) (hl : zs.length ≤ sizeLine) (hp : s.heap.objs.size ≤ p)
    (k : ∀ b o, s.heap.get? b = some o → h'.get? b = some o) (hg : h'.get? p = some (seqObj "list" out.toArray c)) (q : ∀ p vs, H p = none → RpAll X.prog X.w X.K F vs (zs.map (·.2)) → Q (.ref p) (upd H p (.lst vs))) :
    EP X pins σ Q (.ref p) { s with heap := h', toks := tk } := by
  obtain ⟨r1, r2⟩ := of_both e
  exact ⟨.ref p, _, I.laid (t' := tk) (o := .lst (zs.map (·.1))) k hp ⟨by rw [List.length_map]; exact hl, out, c, r2, hg⟩, rfl, q p _ (I.hok.fresh hp) r1⟩
theorem cr_sorted (hc : X.calm = true) (hu : X.A.units + 200 < cLine) : CallR X (.builtin "sorted") fun vs H Q => ∃ x, vs = [x] ∧ rSort1 X.prog X.w X.K x H Q := by
  intro pins s σ H xs us Q I r q
  obtain ⟨x, rfl, F, d, ds, sb, vx, hg, k⟩ := q
  obtain ⟨u, rfl, rx⟩ := vals1 r
  have overD : ∀ {a : Addr} {es : Array DictEntry} {ep : Nat} {ks : List V} {kds : List Dat}, x = .ref a → (a == sysModules) = false → s.heap.DictRaw a es ep → Vals ks (es.toList.map (·.key)) → RpAll X.prog X.w X.K F ks kds → sortD kds = some ds →
      wpAny (model X.prog X.w) X.A (call (.builtin "sorted") [u]) (EP X pins σ Q) X.xe s := fun {a es ep ks kds} ex hs raw rv ra hm => by
    subst ex
    cases rx
    obtain ⟨h1, h2, h3, h4, rfl⟩ := sortD_of hm
    have hn : es.size = kds.length := by
      have h := rv.length
      simp only [List.length_map, Array.length_toList] at h
      rw [← ra.length, h]
    refine Calls.call_function_entry kind_sorted plain_sorted entry_sorted (args_sorted1 _) ?_
    unfold Builtin.«sorted»
    refine wpAny_bind (m := checkCount "sorted" 1 1 _) (wpAny_pure ?_)
    refine wpAny_bind (PySem.W.kdu_collect (A := X.A.in1) (KdlSrc.rawDict (es := es) (ep := ep) hs) (I.ok.hd hc) raw (by rw [hn]; exact fitsM h1) fun h' tk acc hk hacc => ?_)
    have hacc2 : acc.toList = es.toList.map (·.key) := by
      apply List.ext_getElem?
      intro i
      rw [List.getElem?_map]
      cases e : acc[i]? with
      | none =>
        have hi : acc.size ≤ i := by simpa using e
        rw [List.getElem?_eq_none (by rw [Array.length_toList]; exact hi), List.getElem?_eq_none (by rw [Array.length_toList, ← hacc.1]; exact hi)]
        rfl
      | some v =>
        obtain ⟨hi, ev⟩ := hacc.2 i v e
        rw [Array.getElem?_toList, e, Array.getElem?_toList, Array.getElem?_eq_getElem hi, ev]
        rfl
    rw [hacc2]
    refine wpAny_bind (wpAny_newList ?_ (by rw [List.length_map, Array.length_toList, hn]; exact fitsM h1))
    have I1 : Inv X pins σ H { s with heap := h', toks := tk } := I.kept hk
    obtain ⟨bs, b1, b2⟩ := both_of ra rv
    subst b1
    have er := readsBoth I sb b2 h2
    have ob : (h'.push { cls := .type "list", data := .seq (es.toList.map (·.key)).toArray }).get? h'.objs.size = some (seqObj "list" (es.toList.map (·.key)).toArray 0) := Heap.get?_push_size _ rfl
    refine wpAny_bind (wpAny_holding (wpAny_mono (PySem.W.list_sort_data (R := Both X.prog X.w X.K F) (enc := fun b => toPy b.2) (Q := fun _ s' => EP X pins σ Q (.ref h'.objs.size) s') ob b2 ?_ ?_ ?_ ?_ ?_ fun out ho eo => ?_) (fun _ s' x => wpAny_pure ⟨_, rfl, x⟩) fun _ _ e => e))
    · exact er.mono fun v b ⟨as, r⟩ => ⟨as, PyProof.Rows.Reads.keeps (fun b o e => Heap.get?_push_of_some _ (hk b o e)) r, fun z => absurd (reads_lt (PyProof.Rows.Reads.keeps hk r) _ z) (Nat.lt_irrefl _)⟩
    · simpa [List.map_map, Function.comp_def] using h3
    · simpa [List.map_map, Function.comp_def] using h4
    · have : bs.length = (bs.map (·.2)).length := by rw [List.length_map]
      rw [this]; exact fitsM h1
    · intro b hb
      have := (okD_py _ _ (h2 b.2 (List.mem_map.mpr ⟨b, hb, rfl⟩))).2
      show X.A.units + 1 + 1 + (toPy b.2).depth < cLine
      omega
    · obtain ⟨c, hcc⟩ := sortedHeap_at (vs := es.toList.map (·.key)) (out := out.toArray) ob
      refine sortEnd (tk := tk) I1 (c := c) (zs := bs.mergeSort (PySem.W.dataLe false fun b => toPy b.2)) eo ?_ (Nat.le_refl _) (fun b o e => ?_) hcc ?_
      · rw [List.length_mergeSort]
        have : bs.length = (bs.map (·.2)).length := by rw [List.length_map]
        rw [this]; exact fitsM h1
      · have hb : b < h'.objs.size := Heap.lt_size (show h'.get? b = some o from e)
        rw [sortedHeap_old (Nat.ne_of_lt hb) (Nat.lt_of_lt_of_le hb (by rw [size_push']; exact Nat.le_succ _))]
        exact Heap.get?_push_of_some _ e
      · rw [sort_map]; exact fun p vs hp hr => k p vs hp hr
  unfold gSort at hg
  split at hg
  · rename_i xs'
    obtain ⟨h1, h2, h3, h4, rfl⟩ := sortD_of hg
    obtain ⟨a, vs, rfl, hl, ra⟩ := vx.lst sb
    cases rx
    obtain ⟨its, rv, pl, _⟩ := I.list (.of hl)
    obtain ⟨bs, b1, b2⟩ := both_of ra rv
    subst b1
    have hb : bs.length = (bs.map (·.2)).length := by rw [List.length_map]
    refine PySem.W.sorted_data (R := Both X.prog X.w X.K F) (enc := fun b => toPy b.2) pl.isList b2 (readsBoth I sb b2 h2) (by simpa [List.map_map, Function.comp_def] using h3) (by simpa [List.map_map, Function.comp_def] using h4) (by rw [hb]; exact fitsM h1) (fun b hb' => ?_) fun out ho eo => ?_
    · have := (okD_py _ _ (h2 b.2 (List.mem_map.mpr ⟨b, hb', rfl⟩))).2
      show X.A.units + 2 + (toPy b.2).depth < cLine
      omega
    · obtain ⟨c, hcc⟩ := sortedAll_at s.heap its out.toArray
      refine sortEnd (tk := s.toks) I (c := c) (zs := bs.mergeSort (PySem.W.dataLe false fun b => toPy b.2)) eo ?_ (Nat.le_succ _) (fun b o e => sortedAll_old e) hcc ?_
      · rw [List.length_mergeSort, hb]; exact fitsM h1
      · rw [sort_map]; exact fun p vs hp hr => k p vs hp hr
  · rename_i nst kvs
    cases nst with
    | true =>
      obtain ⟨a, L, xs', rfl, h1, h2, h3, h4, h5⟩ := dicAt I sb vx rfl
      obtain ⟨o, es, ep, g1, g2, g3, g4, _, _⟩ := h5
      exact overD rfl h1 ⟨o, g1, g2, g3⟩ (by rw [g4]; exact vals_kn h3) h4.key hg
    | false =>
      have go : ∀ {a : Addr} {l : List (Key × V)}, x = .ref a → Rd H a (.dK l) → RpK X.prog X.w X.K F l kvs → wpAny (model X.prog X.w) X.A (call (.builtin "sorted") [u]) (EP X pins σ Q) X.xe s := fun {a l} ex hr rk => by
        obtain ⟨_, h1, vs, kv, o, es, ep, g1, g2, g3, _, g4, _⟩ := dk_rd I.hok hr
        exact overD ex h1 ⟨o, g1, g2, g3⟩ (vals_kv kv g4) rk.key hg
      rcases vx with vx | ⟨a, ex, ow⟩
      · cases vx with
        | dik hr rk => exact go rfl (sb.ext.1 _ _ hr) rk
      · cases ow with
        | dik hp rk => exact go ex (.inl hp) rk
  · obtain ⟨a, L, xs', rfl, h1, h2, h3, h4, h5⟩ := dicAt I sb vx rfl
    obtain ⟨o, es, ep, g1, g2, g3, g4, _, _⟩ := h5
    exact overD rfl h1 ⟨o, g1, g2, g3⟩ (by rw [g4]; exact vals_kn h3) h4.key hg
  · cases hg
theorem dc_sorted (hc : X.calm = true) (hu : X.A.units + 200 < cLine) : DCN X (.builtin "sorted") gSort := callImp (cr_sorted hc hu) fun vs H Q q => by
  obtain ⟨x, rfl, F, d, ds, sb, v, hg, k⟩ := q
  exact ⟨x, rfl, F, d, ds, sb, v, hg, fun p vs hp ra => k p vs F hp (New.refl sb) ra⟩
end
end Dl

set_option Elab.async false
set_option linter.all false
set_option maxRecDepth 100000
set_option maxHeartbeats 4000000
/-! DY: t[::-1]; a, b = x, y. -/
namespace Dl
open PySem PySem.Spec PyProof.Rows L2

section
variable {prog : Program} {w : World} {A : Around} {E : Value → Shared → Prop} {s : Shared}
theorem adjustRev (n : Nat) : Builtin.Slice.sliceAdjust none none (-1) (n : Int) = ((n : Int) - 1, -1) := by
  unfold Builtin.Slice.sliceAdjust
  simp
theorem placesRev (n : Nat) : Builtin.Slice.slicePlaces ((n : Int) - 1) (-1) (-1) = n := by
  unfold Builtin.Slice.slicePlaces
  simp only [show ¬ ((-1 : Int) > 0) by omega, if_false]
  split
  · simp
  · omega
theorem pickRev (xs : Array Value) : ((List.range xs.size).filterMap fun (m : Nat) => xs[(((xs.size : Int) - 1) + (m : Int) * (-1)).toNat]?) = xs.toList.reverse := by
  have e : ∀ m ∈ List.range xs.size, xs[(((xs.size : Int) - 1) + (m : Int) * (-1)).toNat]? = some (xs.toList.reverse.getD m default) := fun m hm => by
    have hl : m < xs.size := List.mem_range.mp hm
    have h1 : (((xs.size : Int) - 1) + (m : Int) * (-1)).toNat = xs.size - 1 - m := by omega
    rw [h1, List.getD_eq_getElem?_getD, List.getElem?_reverse (by simpa using hl), Array.getElem?_eq_getElem (by omega)]
    simp only [Array.length_toList]
    rw [List.getElem?_eq_getElem (by simp; omega)]
    simp
  have e2 : ∀ (l : List Nat), (∀ m ∈ l, xs[(((xs.size : Int) - 1) + (m : Int) * (-1)).toNat]? = some (xs.toList.reverse.getD m default)) → l.filterMap (fun (m : Nat) => xs[(((xs.size : Int) - 1) + (m : Int) * (-1)).toNat]?) = l.map fun m => xs.toList.reverse.getD m default := by
    intro l
    induction l with
    | nil => intro _; rfl
    | cons a l ih =>
      intro h
      rw [List.filterMap_cons, h a List.mem_cons_self, List.map_cons, ih fun m hm => h m (List.mem_cons_of_mem _ hm)]
  rw [e2 _ e]
  apply List.ext_getElem?
  intro i
  rw [List.getElem?_map]
  by_cases hi : i < xs.size
  · rw [List.getElem?_range hi, Option.map_some, List.getD_eq_getElem?_getD]
    rw [List.getElem?_eq_getElem (by simpa using hi)]
    rfl
  · rw [List.getElem?_eq_none (by simpa using hi), List.getElem?_eq_none (by simpa using hi)]
    rfl
theorem getItem_tuple_rev {t sl : Addr} {items : Array Value} {u : Tok} {vl vu : Value} {Q : Value → Shared → Prop} (ht : IsTup s.heap t items) (hs : s.heap.IsSliceOf sl vl vu (.int (-1) u)) (pl : IsPart vl none) (pu : IsPart vu none)
    (h : Q (.ref s.heap.objs.size) { s with heap := s.heap.push { cls := .type "tuple", data := .seq items.toList.reverse.toArray } }) (hsz : items.size ≤ sizeLine) : wpAny (model prog w) A (getItem (.ref t) (.ref sl)) Q E s := by
  have hok : sizeOk (.seq items.toList.reverse.toArray) := by
    show items.toList.reverse.toArray.size ≤ sizeLine
    rw [List.size_toArray, List.length_reverse, Array.length_toList]
    exact hsz
  obtain ⟨o, ho, hc, hd⟩ := id hs
  have hT : s.TypeIs (.ref sl) "slice" := ⟨o, ho, hc⟩
  unfold getItem
  try with_reducible refine wpAny_holding ?_
  refine wpAny_bind (wpAny_sequenceKey ht.typeIs (by decide) ?_)
  refine wpAny_bind (wpAny_callSpecial?_slot (name := Str.ofString "__getitem__") ht.typeIs PyProof.Rows.slot_tuple_getitem (wpAny_call_entry PyProof.Rows.slot_tuple_getitem ht.typeIs entry_tuple_getitem ?_ (args_tuple_getitem _ _)))
  show wpAny _ _ (Builtin.Tuple.tupleItemsOf (.ref t) >>= _) _ _ s
  refine wpAny_bind (tupleItemsOf_ ht ?_)
  refine wpAny_bind (wpAny_typeOf hT ?_)
  rw [if_pos (by decide)]
  have step : ∀ {R : Int × Int × Nat → Shared → Prop} {E' : Value → Shared → Prop} {B : Around}, R ((items.size : Int) - 1, -1, items.size) s → wpAny (model prog w) B (Builtin.Slice.sliceApplied (.ref sl) (pure (items.size : Int))) R E' s := fun {R E' B} hR => by
    unfold Builtin.Slice.sliceApplied Builtin.Slice.sliceFields
    refine wpAny_bind (wpAny_bind (wpAny_field ho hd (x := vl) rfl (wpAny_bind (wpAny_field ho hd (x := vu) rfl (wpAny_bind (wpAny_field ho hd (x := .int (-1) u) rfl (wpAny_pure ?_)))))))
    refine wpAny_bind (HT.slicePart_ (.int (-1) u) ?_)
    show wpAny _ _ (if ((-1 : Int) == 0) = true then _ else _) _ _ s
    rw [if_neg (by decide)]
    refine wpAny_bind (HT.slicePart_ pl (wpAny_bind (HT.slicePart_ pu (wpAny_bind (wpAny_pure ?_)))))
    show wpAny _ _ (match Builtin.Slice.sliceAdjust none none (-1) (items.size : Int) with | (lo, hi) => pure (lo, (-1 : Int), Builtin.Slice.slicePlaces lo hi (-1))) _ _ s
    rw [adjustRev]
    show wpAny _ _ (pure ((items.size : Int) - 1, (-1 : Int), Builtin.Slice.slicePlaces ((items.size : Int) - 1) (-1) (-1))) _ _ s
    rw [placesRev]
    exact wpAny_pure hR
  refine wpAny_bind (step ?_)
  show wpAny _ _ (if (((items.size : Int) - 1) == 0 && (-1 : Int) == 1 && items.size == items.size) = true then _ else _) _ _ s
  rw [if_neg (by simp), pickRev]
  first
    | exact wpAny_bind (m := Builtin.Tuple.tupleExact _) (wpAny_newObj_type (wpAny_pure ⟨_, rfl, wpAny_pure h⟩) hok)
    | exact wpAny_bind (m := Builtin.Tuple.tupleExact _) (wpAny_newObj_type (wpAny_bind (wpAny_pure (wpAny_pure ⟨_, rfl, wpAny_pure h⟩))) hok)
    | exact wpAny_bind (wpAny_bind (m := Builtin.Tuple.tupleExact _) (wpAny_newObj_type (wpAny_pure (wpAny_pure ⟨_, rfl, wpAny_pure h⟩)) hok))
    | exact wpAny_bind (wpAny_bind (m := Builtin.Tuple.tupleExact _) (wpAny_newObj_type (wpAny_pure ⟨_, rfl, wpAny_pure h⟩) hok))
end
def tRevT (K : PySem.W.Frag) (te : TE) : TE := fun σ H Q => te σ H fun x H1 => ∃ a xs, x = .ref a ∧ SqT K H1 a xs ∧ NewT H1 Q xs.reverse
section
variable {X : Cx} {pos : Pos}
theorem pe_revT {e : Expr} {te : TE} {k : Nat} {p1 p2 p3 : Pos} (he : PE X e te) : PE X (.Subscript e (.Slice none none (some (.UnaryOp .USub (.Constant (.int 1) k p1) p2)) p3) pos) (tRevT X.K te) := ⟨fun pins s σ H Q I h =>
  Subscript_ (thn (he.run pins s σ H _ I h) fun v sA ⟨x, HA, IA, rA, qA⟩ => by
    obtain ⟨a, xs, rfl, hx, q⟩ := qA
    cases rA
    have minus : PO X (some (.UnaryOp .USub (.Constant (.int 1) k p1) p2)) (tPart (tUn (rU fun i => .int (-i)) (tC (.int 1)))) := po_some (pe_un un_neg pe_int)
    refine wpAny_Slice (thn (po_none.run pins sA σ HA (fun o HB => o = none ∧ HB = HA) IA ⟨rfl, rfl⟩) fun vl sB ⟨l, HB, IB, pl, el, eB⟩ => ?_)
    subst el eB
    refine thn (po_none.run pins sB σ HB (fun o HC => o = none ∧ HC = HB) IB ⟨rfl, rfl⟩) fun vu sC ⟨l2, HC, IC, pu, el2, eC⟩ => ?_
    subst el2 eC
    refine thn (minus.run pins sC σ HC (fun o HD => o = some (-1) ∧ HD = HC) IC ⟨1, rfl, -1, rfl, rfl, rfl⟩) fun vs sD ⟨o, HD, ID, ps, eo, eD⟩ => ?_
    subst eo eD
    cases ps with
    | int _ tk =>
      have IE : Inv X pins σ HD { sD with heap := sD.heap.push { cls := .type "slice", data := .fields #[vl, vu, .int (-1) tk] } } := ID.kept (t' := sD.toks) fun b ob q => Heap.get?_push_of_some _ q
      obtain ⟨its, r, ht, hz⟩ := IE.tuple hx
      have hlen : its.toArray.size = xs.length := by rw [List.size_toArray]; exact r.length.symm
      show wpAny (model X.prog X.w) X.A (subscriptTail e (.Slice none none (some (.UnaryOp .USub (.Constant (.int 1) k p1) p2)) p3) (.ref a) (.ref sD.heap.objs.size)) (EP X pins σ Q) X.xe { sD with heap := sD.heap.push { cls := .type "slice", data := .fields #[vl, vu, .int (-1) tk] } }
      refine tail_any (ops := [.ref a, .ref sD.heap.objs.size]) ht.typeIs PyProof.Rows.slot_tuple_getitem.lookup ?_ (by with_unfolding_all rfl)
      exact getItem_tuple_rev ht (Heap.IsSliceOf.new _ vl vu _) pl pu (layT IE r.reverse (by rw [List.length_reverse]; exact hz) q) (by rw [hlen]; exact hz))⟩
def gRev : Dat → Option Dat
  | .tup xs => some (.tup xs.reverse)
  | _ => none
theorem de_revT {e : Expr} {f : FE} {k : Nat} {p1 p2 p3 : Pos} (he : DE X e f) : DE X (.Subscript e (.Slice none none (some (.UnaryOp .USub (.Constant (.int 1) k p1) p2)) p3) pos) (c1 gRev f) :=
  peImp (pe_revT he) fun σ H Q q => by
    obtain ⟨ρ, F, h, ρ', so, e, kk⟩ := q
    simp only [c1, Option.bind_eq_some_iff] at e
    obtain ⟨⟨h1, ρ1⟩, e1, d, e3, z, e5, e6⟩ := e
    cases e6
    refine ⟨ρ, F, h1, ρ1, so, e1, fun x H1 F1 so1 st1 k1 => ?_⟩
    unfold gRev at e5
    split at e5
    · cases e5
      obtain ⟨a, us, rfl, ha, ra, _⟩ := (so1.view k1 e3).tup so1.sub
      refine ⟨a, us, rfl, ha, fun p o hp ho => ?_⟩
      obtain ⟨n, r⟩ := rel_new so1.sub hp ho ra.reverse
      exact kk _ _ _ (so1.new n) (st1.trans n.step) r
    · cases e5

/-! ### a, b = x, y -/
def putH (i : Nat) (h : Hd) (ρ : Rho) : Option Rho := if free ρ i = true then (match h with
  | .dat d => some (ρ.set i (.val d))
  | .new d => some (ρ.set i (.own false d))
  | .slot _ => none) else none
theorem Step.setOwn' {ρ0 ρ : Rho} {σ0 σ : Sg} {H0 F0 H F : Hp} {i : Nat} {d : Dat} {a : Addr} (st : Step ρ0 σ0 H0 F0 ρ σ H F) (h0 : H0 a = none) (hf : free ρ i = true) :
    Step ρ0 σ0 H0 F0 (ρ.set i (.own false d)) (σ.set i (some (.ref a))) H F := by
  refine ⟨st.subF, st.fresh, st.keep, fun b h => ?_, st.stay, fun j e h => ?_⟩
  · obtain ⟨j, c, e, h1, h2⟩ := h
    by_cases hj : i = j
    · subst hj
      have := setEq h2
      cases this
      exact .inr h0
    · exact st.own b ⟨j, c, e, setNe h1 hj, setNe h2 hj⟩
  · obtain ⟨⟨e', h1⟩, h2⟩ := st.par j e h
    exact ⟨⟨e', by rw [List.getElem?_set_ne (free_ne hf h1)]; exact h1⟩, by rw [List.getElem?_set_ne (free_ne hf h1)]; exact h2⟩
theorem storeH {P w K} {ρ0 ρ ρ' : Rho} {σ0 σ : Sg} {H0 F0 H F : Hp} {i : Nat} {h : Hd} {v : V} (so : SO P w K ρ σ H F) (st : Step ρ0 σ0 H0 F0 ρ σ H F) (r : HdOk P w K ρ σ H0 H F v h) (e : putH i h ρ = some ρ') :
    SO P w K ρ' (σ.set i (some v)) H F ∧ Step ρ0 σ0 H0 F0 ρ' (σ.set i (some v)) H F ∧ ∀ a, IsOwn ρ' (σ.set i (some v)) a → IsOwn ρ σ a ∨ (v = .ref a ∧ ∃ d, h = .new d) := by
  unfold putH at e
  split at e
  · rename_i hf
    split at e
    · cases e
      exact ⟨so.setVal r (free_lt hf), st.trans (Step.setVal hf), fun a z => .inl z.ofSetVal⟩
    · rename_i d
      cases e
      obtain ⟨p, rfl, h1, h2, h3, h4⟩ := r
      refine ⟨so.setOwn h1 h2 h3 (free_lt hf), st.setOwn' h4 hf, fun a z => ?_⟩
      obtain ⟨j, b, d', z1, z2⟩ := z
      by_cases hj : i = j
      · subst hj
        have q := setEq z2
        cases q
        exact .inr ⟨rfl, _, rfl⟩
      · exact .inl ⟨j, b, d', setNe z1 hj, setNe z2 hj⟩
    · cases e
  · cases e
theorem HdOk.move {P w K} {ρ ρ' : Rho} {σ σ' : Sg} {H0 H F : Hp} {v : V} {h : Hd} (r : HdOk P w K ρ σ H0 H F v h) (hs : ∀ i, h ≠ .slot i) (ho : ∀ a d, h = .new d → v = .ref a → ¬ IsOwn ρ' σ' a) : HdOk P w K ρ' σ' H0 H F v h := by
  cases h with
  | dat d => exact r
  | slot i => exact (hs i rfl).elim
  | new d =>
    obtain ⟨a, rfl, h1, h2, h3, h4⟩ := r
    exact ⟨a, rfl, h1, h2, ho a d rfl rfl, h4⟩
def sPar2 (i j : Nat) (fa fb : FE) : FS := fun ρ => (fa ρ).bind fun p => (fb p.2).bind fun q => (putH i p.1 q.2).bind fun ρ3 => (putH j q.1 ρ3).bind fun ρ4 => some (ρ4, .nx)
theorem not_slot {j : Nat} {h : Hd} {ρ ρ' : Rho} (e : putH j h ρ = some ρ') : ∀ i, h ≠ .slot i := by
  rintro i rfl
  unfold putH at e
  split at e
  · cases e
  · cases e
theorem ds_par2 {i j : Nat} {x y : Str} {a b : Expr} {fa fb : FE} {px py pt : Pos} {kt k2 pt2} (hc : X.calm = true) (hN : X.N.Nodup) (hi : X.N[i]? = some x) (hj : X.N[j]? = some y) (hij : i ≠ j)
    (hx : X.env.scope.names.lookup x = some .local) (hy : X.env.scope.names.lookup y = some .local) (ha : DE X a fa) (hb : DE X b fb)
    (hw : swappedStores [.Tuple [.Name x px, .Name y py] kt pt] (.Tuple [a, b] k2 pt2) X.env = pure (some [x, y]))
    (hs : swapsWithSole [.Tuple [.Name x px, .Name y py] kt pt] (.Tuple [a, b] k2 pt2) pos.line X.env = pure false := by rfl)
    (hsa : starEach [a, b] X.env = (false, eval a X.env) :: starEach [b] X.env := by rfl) (hsb : starEach [b] X.env = (false, eval b X.env) :: starEach [] X.env := by rfl) :
    DS X (.Assign [.Tuple [.Name x px, .Name y py] kt pt] (.Tuple [a, b] k2 pt2) pos) (sPar2 i j fa fb) :=
  psImp (ps_par hc hN hi hj hij hx hy (pa_cons ha (pa_cons hb pa_nil hsb) hsa) hw hs) fun D σ H q => by
    obtain ⟨ρ, F, ρ', c, so, e, k⟩ := q
    simp only [sPar2, Option.bind_eq_some_iff] at e
    obtain ⟨⟨h1, ρ1⟩, e1, ⟨h2, ρ2⟩, e2, ρ3, e3, ρ4, e4, e5⟩ := e
    cases e5
    refine ⟨ρ, F, h1, ρ1, so, e1, fun u HA FA soA stA kA => ⟨ρ1, FA, h2, ρ2, soA, e2, fun v HB FB soB stB kB => ⟨u, v, rfl, ?_⟩⟩⟩
    obtain ⟨a1, a2, a3⟩ := storeH soB (stA.trans stB) (kA.step stB) e3
    have kB' : HdOk X.prog X.w X.K ρ3 (σ.set i (some u)) H HB FB v h2 := (kB.from stA.stay).move (not_slot e4) fun p d eh ev z => by
      subst eh ev
      obtain ⟨p', ep, _, _, n1, n2⟩ := kB
      cases ep
      rcases a3 p z with z | ⟨eu, d', ed⟩
      · exact n1 z
      · subst eu ed
        obtain ⟨p', ep, ow, _, _, _⟩ := kA
        cases ep
        obtain ⟨o, ho⟩ := ow.there
        rw [n2] at ho; cases ho
    obtain ⟨b1, b2, _⟩ := storeH a1 a2 kB' e4
    exact k _ HB FB b1 b2
end
end Dl

set_option Elab.async false
set_option linter.all false
set_option maxRecDepth 100000
set_option maxHeartbeats 4000000
/-! DZ: dict displays. -/
namespace Dl
open PySem PySem.Spec PyProof.Rows L2

abbrev FPr := List (FE × FE)
def cPrs : FPr → Rho → Option (List (Dat × Dat) × Rho)
  | [], ρ => some ([], ρ)
  | (fk, fv) :: r, ρ => match cFz fk ρ with
    | some (.dat y, ρ1) => match cFz fv ρ1 with
      | some (.dat z, ρ2) => (cPrs r ρ2).bind fun p => some ((y, z) :: p.1, p.2)
      | _ => none
    | _ => none
inductive RpPs (P : Program) (w : World) (K : PySem.W.Frag) (F : Hp) : List (V × V) → List (Dat × Dat) → Prop
  | nil : RpPs P w K F [] []
  | cons {x y d e vs ds} : Rp P w K F x d → Rp P w K F y e → RpPs P w K F vs ds → RpPs P w K F ((x, y) :: vs) ((d, e) :: ds)
theorem rpPs_length {P w K} {F : Hp} {vs : List (V × V)} {ds : List (Dat × Dat)} (h : RpPs P w K F vs ds) : vs.length = ds.length := by
  induction h with
  | nil => rfl
  | cons _ _ _ ih => rw [List.length_cons, List.length_cons, ih]
abbrev trsOf (P : Program) (w : World) (K : PySem.W.Frag) (l : FPr) : List (TE × TE) := l.map fun p => (tD P w K (cFz p.1), tD P w K (cFz p.2))
theorem tPairs_of {P w K} : ∀ (l : FPr) {ρ ρ' : Rho} {σ : Sg} {H F : Hp} {ps : List (Dat × Dat)} {Q : List (V × V) → Hp → Prop}, SO P w K ρ σ H F → cPrs l ρ = some (ps, ρ') →
    (∀ vs H' F', SO P w K ρ' σ H' F' → Step ρ σ H F ρ' σ H' F' → RpPs P w K F' vs ps → Q vs H') → tPairs (trsOf P w K l) σ H Q
  | [], ρ, ρ', σ, H, F, ps, Q, so, e, k => by
    cases e
    exact k [] H F so Step.refl .nil
  | (fk, fv) :: r, ρ, ρ', σ, H, F, ps, Q, so, e, k => by
    unfold cPrs at e
    split at e
    · rename_i y ρ1 e1
      split at e
      · rename_i z ρ2 e2
        simp only [Option.bind_eq_some_iff] at e
        obtain ⟨⟨ps', ρ3⟩, e3, e4⟩ := e
        cases e4
        refine ⟨ρ, F, _, _, so, e1, fun vy H1 F1 so1 st1 r1 => ⟨ρ1, F1, _, _, so1, e2, fun vz H2 F2 so2 st2 r2 => ?_⟩⟩
        refine tPairs_of r so2 e3 fun vs H3 F3 so3 st3 r3 => ?_
        exact k _ H3 F3 so3 ((st1.trans st2).trans st3) (.cons (Rp.sub (Rp.sub (show Rp _ _ _ F1 vy y from r1) st2.subF) st3.subF) (Rp.sub (show Rp _ _ _ F2 vz z from r2) st3.subF) r3)
      · cases e
    · cases e
def txtOf : List (Dat × Dat) → Option (List (NestedKey × Dat))
  | [] => some []
  | (.str z, d) :: r => (txtOf r).map fun q => (.text z, d) :: q
  | _ => none
theorem txt_rp {P w K} {F : Hp} : ∀ {ds : List (Dat × Dat)} {vs : List (V × V)} {kvs : List (NestedKey × Dat)}, RpPs P w K F vs ds → txtOf ds = some kvs → ∃ l : List (Key × V), vs = l.map (fun kv => (kV kv.1, kv.2)) ∧ RpK P w K F l kvs
  | [], _, _, .nil, h => by
    cases h
    exact ⟨[], rfl, .nil⟩
  | (.str z, d) :: r, _, kvs, .cons rx ry t, h => by
    simp only [txtOf, Option.map_eq_some_iff] at h
    obtain ⟨q, h1, rfl⟩ := h
    obtain ⟨l, e, rk⟩ := txt_rp t h1
    cases rx
    exact ⟨(.inr z, _) :: l, by rw [e]; rfl, .cons (k := .inr z) ry rk⟩
  | (.non, _) :: _, _, _, _, h => by cases h
  | (.bl _, _) :: _, _, _, _, h => by cases h
  | (.int _, _) :: _, _, _, _, h => by cases h
  | (.tup _, _) :: _, _, _, _, h => by cases h
  | (.lst _, _) :: _, _, _, _, h => by cases h
  | (.dic _ _, _) :: _, _, _, _, h => by cases h
  | (.scr _, _) :: _, _, _, _, h => by cases h
  | (.wtp _, _) :: _, _, _, _, h => by cases h
  | (.dil _, _) :: _, _, _, _, h => by cases h
theorem RpK.merge {P w K} {F : Hp} : ∀ {l : List (Key × V)} {kvs : List (NestedKey × Dat)}, RpK P w K F l kvs → ∀ {l0 : List (Key × V)} {k0 : List (NestedKey × Dat)}, RpK P w K F l0 k0 → RpK P w K F (L2.mergeK l0 l) (mergeD k0 kvs)
  | _, _, .nil, _, _, h0 => h0
  | _, _, .cons b c, _, _, h0 => RpK.merge c (h0.put b)
def cDisK (l : FPr) : FE := fun ρ => match cPrs l ρ with
  | some (ps, ρ1) => if ps.length ≤ 15 then (match txtOf ps with
    | some kvs => some (.new (.dic false (mergeD [] kvs)), ρ1)
    | none => none) else none
  | none => none
def nstOf : List (Dat × Dat) → Option (List (NestedKey × Dat))
  | [] => some []
  | (y, d) :: r => match tkey y, nstOf r with
    | some k, some q => some ((k, d) :: q)
    | _, _ => none
theorem nst_rp {P w K} {F : Hp} : ∀ {ds : List (Dat × Dat)} {vs : List (V × V)} {kvs : List (NestedKey × Dat)}, RpPs P w K F vs ds → nstOf ds = some kvs → ∃ L : List (NestedKey × Addr × V), vs = L.map (fun q => (V.ref q.2.1, q.2.2)) ∧ RpN P w K F L kvs
  | [], _, _, .nil, h => by
    cases h
    exact ⟨[], rfl, .nil⟩
  | (y, d) :: r, _, kvs, .cons rx ry t, h => by
    unfold nstOf at h
    split at h
    · rename_i k q e1 e2
      cases h
      obtain ⟨L, e, rn⟩ := nst_rp t e2
      obtain ⟨t1, t2, ys, t3⟩ := tkey_of e1
      obtain ⟨b, rfl⟩ := rp_ref (t3 ▸ rx)
      rw [t1] at rx
      exact ⟨(k, b, _) :: L, by rw [e]; rfl, .cons rx t2 ry rn⟩
    · cases h
def cDisN (l : FPr) : FE := fun ρ => match cPrs l ρ with
  | some (ps, ρ1) => if ps.length ≤ 15 then (match nstOf ps with
    | some kvs => some (.new (.dic true (mergeD [] kvs)), ρ1)
    | none => none) else none
  | none => none
def tDispN (P : Program) (w : World) (K : PySem.W.Frag) (trs : List (TE × TE)) : TE := fun σ H Q => ∀ p, H p = none → tPairs trs σ (upd H p (hoN P w p [])) fun ps H2 => H2 p = some (hoN P w p []) ∧ ∃ F L kvs, Sub F H2 ∧ RpN P w K F L kvs ∧ ps = L.map (fun q => (V.ref q.2.1, q.2.2)) ∧ L.length ≤ 15 ∧
  Q (.ref p) (upd H2 p (hoN P w p (mergeL [] L)))
section
variable {X : Cx} {pos : Pos} {keys : List (Option Expr)} {values : List Expr}
theorem dp_nil : PPs X pos [] [] (trsOf X.prog X.w X.K []) := pps_nil
theorem dp_cons {k v : Expr} {ks : List (Option Expr)} {vs : List Expr} {fk fv : FE} {l : FPr} (hk : DE X k fk) (hv : DE X v fv) (hr : PPs X pos ks vs (trsOf X.prog X.w X.K l)) : PPs X pos (some k :: ks) (v :: vs) (trsOf X.prog X.w X.K ((fk, fv) :: l)) :=
  pps_cons (de_fz hk) (de_fz hv) hr
theorem carryN {pins : List (Addr × Obj)} {σ : L2.St} {H F : Hp} {s : Shared} (I : Inv X pins σ H s) (sb : Sub F H) : ∀ {L : List (NestedKey × Addr × V)} {kvs : List (NestedKey × Dat)} {ws : List (Value × Value)}, RpN X.prog X.w X.K F L kvs → VV (L.map fun q => (V.ref q.2.1, q.2.2)) ws →
    ∃ xs, CarriesH (nestedKind X.prog X.w) s.heap ws xs ∧ KN L xs
  | [], _, [], .nil, r => ⟨[], True.intro, .nil⟩
  | (k, b, v) :: L, _, (w1, w2) :: ws, .cons a z b' c, .cons h t => by
    obtain ⟨xs, h1, h2⟩ := carryN I sb c t
    obtain ⟨r1, r2⟩ := h
    cases r1
    exact ⟨(k, b, w2) :: xs, ⟨rfl, rfl, ⟨nestedIs I sb k a rfl, z⟩, h1⟩, .cons ⟨rfl, rfl, r2⟩ h2⟩
theorem pe_dispN {trs : List (TE × TE)} (hu : X.A.units + 100 < cLine) (h : PPs X pos keys values trs) (hall : keys.all (·.isSome) = true) (hl : keys.length = values.length) (h0 : keys ≠ []) (h15 : keys.length ≤ 15) :
    PE X (.Dict keys values pos) (tDispN X.prog X.w X.K trs) := by
  refine ⟨fun pins s σ H Q I q => ?_⟩
  have fresh := I.hok.fresh (Nat.le_refl s.heap.objs.size)
  have hsys : (s.heap.objs.size == sysModules) = false := beq_eq_false_iff_ne.mpr (Ne.symm (Nat.ne_of_lt I.big))
  have I1 := I.laid (a := s.heap.objs.size) (o := hoN X.prog X.w s.heap.objs.size []) (h' := s.heap.push { cls := .type "dict", data := .dict #[] }) (t' := s.toks) (fun _ _ q => Heap.get?_push_of_some _ q) (Nat.le_refl _) (hoN_ok (Heap.DictOfH.new _) .nil (Nat.zero_le _) hsys)
  have hn := pairTrees_length keys values X.env pos hall hl
  have ne : pairTrees keys values X.env pos ≠ [] := fun e => by
    rw [e] at hn
    exact h0 (List.length_eq_zero_iff.mp hn.symm)
  rw [arm_eval_Dict, zip_pairTrees keys values X.env pos hall hl, dictDisplay_pairs _ ne (by omega)]
  refine wpAny_bind (wpAny_standAt (wpAny_bind (wpAny_subDictH (knd := nestedKind X.prog X.w) (Q := fun d s' => wpAny (model X.prog X.w) X.A (pure (Value.ref d)) (EP X pins σ Q) X.xe s') (by show X.A.units + 8 < cLine; omega) (by omega)
    (thn (h.run pins _ σ _ _ I1 (q _ fresh)) fun ws s2 ⟨ps, H2, I2, rel, e, F, L, kvs, sb, rn, ep, lk, q2⟩ => ?_))))
  subst ep
  obtain ⟨xs, cr, kn⟩ := carryN I2 sb rn rel
  obtain ⟨ys, _, _, k0, d0⟩ := hoAt (kvs := []) (F := F) I2 sb (.inl e) .nil
  cases k0
  refine ⟨xs, cr, d0, fun h' tk hd' hs => wpAny_pure ?_⟩
  have he : ∃ q, h'.get? s.heap.objs.size = some q := let ⟨q, _, _, hq, _⟩ := hd'; ⟨q, hq⟩
  refine ⟨.ref s.heap.objs.size, _, d_write I2 (by rw [e]; exact True.intro) hs he (hoN_ok hd' (kn.merge .nil) ?_ hsys), rfl, q2⟩
  have := mergeL_length L []
  rw [sizeLine_eq]
  simp only [List.length_nil] at this
  omega
theorem de_disN {l : FPr} (hu : X.A.units + 100 < cLine) (h : PPs X pos keys values (trsOf X.prog X.w X.K l)) (hall : keys.all (·.isSome) = true := by rfl) (hl : keys.length = values.length := by rfl) (h0 : keys ≠ [] := by exact fun e => nomatch e) (h15 : keys.length ≤ 15 := by decide) :
    DE X (.Dict keys values pos) (cDisN l) := peImp (pe_dispN hu h hall hl h0 h15) fun σ H Q q => by
  obtain ⟨ρ, F, hh, ρ', so, e, k⟩ := q
  unfold cDisN at e
  split at e
  · rename_i ps ρ1 e1
    split at e
    · rename_i hz
      split at e
      · rename_i kvs e2
        cases e
        intro p hp
        have hF : F p = none := by
          cases z : F p with
          | none => rfl
          | some u => rw [so.sub _ _ z] at hp; cases hp
        have hn : ¬ IsOwn ρ σ p := fun z => by
          obtain ⟨o, ho⟩ := so.ownThere z
          rw [hp] at ho; cases ho
        refine tPairs_of l (so.updOut (o := hoN X.prog X.w p []) hF hn) e1 fun vs H' F' so' st' rp => ?_
        have hp' : H' p = some (hoN X.prog X.w p []) := st'.keep p _ upd_same hn
        have hf' : F' p = none := by
          cases z : F' p with
          | none => rfl
          | some u =>
            rcases st'.fresh p u z with z | z | z
            · rw [hF] at z; cases z
            · rw [upd_same] at z; cases z
            · exact (hn z).elim
        have hn' : ¬ IsOwn ρ' σ p := fun z => by
          rcases st'.own p z with z | z
          · exact hn z
          · rw [upd_same] at z; cases z
        obtain ⟨L, ev, rn⟩ := nst_rp rp e2
        refine ⟨hp', F', L, kvs, so'.sub, rn, ev, ?_, ?_⟩
        · have h1 : vs.length = L.length := by rw [ev, List.length_map]
          have h2 := rpPs_length rp
          omega
        · have st0 : Step ρ σ H F ρ σ (upd H p (hoN X.prog X.w p [])) F := Step.refl.updOut hp
          exact k _ _ _ (so'.updOut hf' hn') ((st0.trans st').updOut hp) ⟨p, rfl, .dic upd_same (rn.merge .nil), hf', hn', hp⟩
      · cases e
    · cases e
  · cases e
theorem de_disK {l : FPr} (h : PPs X pos keys values (trsOf X.prog X.w X.K l)) (hall : keys.all (·.isSome) = true := by rfl) (hl : keys.length = values.length := by rfl) (h0 : keys ≠ [] := by exact fun e => nomatch e) (h15 : keys.length ≤ 15 := by decide) :
    DE X (.Dict keys values pos) (cDisK l) := peImp (pe_disp h hall hl h0 h15) fun σ H Q q => by
  obtain ⟨ρ, F, hh, ρ', so, e, k⟩ := q
  unfold cDisK at e
  split at e
  · rename_i ps ρ1 e1
    split at e
    · rename_i hz
      split at e
      · rename_i kvs e2
        cases e
        intro p hp
        have hF : F p = none := by
          cases z : F p with
          | none => rfl
          | some u => rw [so.sub _ _ z] at hp; cases hp
        have hn : ¬ IsOwn ρ σ p := fun z => by
          obtain ⟨o, ho⟩ := so.ownThere z
          rw [hp] at ho; cases ho
        refine tPairs_of l (so.updOut (o := .dK []) hF hn) e1 fun vs H' F' so' st' rp => ?_
        have hp' : H' p = some (.dK []) := st'.keep p _ upd_same hn
        have hf' : F' p = none := by
          cases z : F' p with
          | none => rfl
          | some u =>
            rcases st'.fresh p u z with z | z | z
            · rw [hF] at z; cases z
            · rw [upd_same] at z; cases z
            · exact (hn z).elim
        have hn' : ¬ IsOwn ρ' σ p := fun z => by
          rcases st'.own p z with z | z
          · exact hn z
          · rw [upd_same] at z; cases z
        obtain ⟨lk, ev, rk⟩ := txt_rp rp e2
        refine ⟨hp', lk, ev, ?_, ?_⟩
        · have h1 : vs.length = lk.length := by rw [ev, List.length_map]
          have h2 := rpPs_length rp
          omega
        · have st0 : Step ρ σ H F ρ σ (upd H p (.dK [])) F := Step.refl.updOut hp
          exact k _ _ _ (so'.updOut hf' hn') ((st0.trans st').updOut hp) ⟨p, rfl, .dik upd_same (rk.merge .nil), hf', hn', hp⟩
      · cases e
    · cases e
  · cases e
end
end Dl

set_option Elab.async false
set_option linter.all false
set_option maxRecDepth 100000
set_option maxHeartbeats 4000000
/-! EA: a def of the module as a function of data; comprehension blocks; the module's constants. -/
namespace Dl
open PySem PySem.Spec PyProof.Rows L2

def mA (n N : Nat) (f : FS) : List Dat → Option Dat := fun ds => if ds.length = n then runA N f ds else none
def mN (n N : Nat) (f : FS) : List Dat → Option Dat := fun ds => if ds.length = n then runN N f ds else none
def mP (n N : Nat) (f : FS) : Dat → List Dat → Option (Dat × Dat) := fun c ds => if ds.length + 1 = n then runP N f c ds else none
abbrev FnP (K : PySem.W.Frag) (x : Str) (st : Stmt) (f : Addr) (fd : FuncData) : Prop := FunD K x x (defArgs st) (defBody st) (defScope st) [] [] f fd
/-- the module's name x is the def of the statement st -/
def Has (K : PySem.W.Frag) (mg : Str → Option Value) (x : Str) (st : Stmt) : Prop := ∃ f fd, FnP K x st f fd ∧ mg x = some (.ref f)
section
variable {P : Program} {w : World} {K : PySem.W.Frag} {mg : Str → Option Value} {base : Heap} {x : Str} {st : Stmt} {N ps : List Str} {k : Nat} {f : FS}
theorem ok_with {sp : Sp} (h : Has K mg x st) (S : FnScope N ps (defScope st)) (hn : ps.length ≤ N.length)
    (hb : ∀ (f : Addr) (fd : FuncData), FnP K x st f fd → Binds K fd ps []) (len : ∀ vs H Q E, sp vs H Q E → vs.length = ps.length)
    (sd : ∀ vs H Q E, sp vs H Q E → tSd P w K f { nx := fun _ H' => Q .non H', rt := Q } (L2.start N vs) H)
    (body : ∀ (a : Addr) (cdv : Value) (A : Around) (outer : List Env) (s : Shared) (H : Hp) (E : XK), Room k (A.deeper (envOfC x (defScope st) s.heap.objs.size a cdv)) →
      DSs (cxOf CX0 P w K mg base N x (defScope st) a cdv A outer s H E).nox (defBody st) f) : Cal P w K mg base x (k + 1) sp := by
  obtain ⟨a, fd, F, hm⟩ := h
  refine ⟨a, fd, ps, ?_, hm, F.kp, hb a fd F⟩
  exact F.ok S len fun cdv A outer s H vs Q E hr q => ⟨_, PSs.nox (body a cdv A outer s H E hr), sd vs H Q E q⟩
theorem mkA (h : Has K mg x st) (S : FnScope N ps (defScope st)) (hn : ps.length ≤ N.length) (hb : ∀ (f : Addr) (fd : FuncData), FnP K x st f fd → Binds K fd ps [])
    (body : ∀ (a : Addr) (cdv : Value) (A : Around) (outer : List Env) (s : Shared) (H : Hp) (E : XK), Room k (A.deeper (envOfC x (defScope st) s.heap.objs.size a cdv)) →
      DSs (cxOf CX0 P w K mg base N x (defScope st) a cdv A outer s H E).nox (defBody st) f) : Cal P w K mg base x (k + 1) (spA P w K (mA ps.length N.length f)) :=
  ok_with h S hn hb (fun vs H Q E q => by
    obtain ⟨F, ds, d, _, r, e, _⟩ := q
    unfold mA at e
    split at e
    · rename_i hl; rw [r.length, hl]
    · cases e) (fun vs H Q E q => by
    obtain ⟨F, ds, d, sb, r, e, kk⟩ := q
    unfold mA at e
    split at e
    · rename_i hl
      exact tS_A (E := E) (by rw [r.length, hl]; exact hn) ⟨F, ds, d, sb, r, e, kk⟩
    · cases e) body
theorem mkN (h : Has K mg x st) (S : FnScope N ps (defScope st)) (hn : ps.length ≤ N.length) (hb : ∀ (f : Addr) (fd : FuncData), FnP K x st f fd → Binds K fd ps [])
    (body : ∀ (a : Addr) (cdv : Value) (A : Around) (outer : List Env) (s : Shared) (H : Hp) (E : XK), Room k (A.deeper (envOfC x (defScope st) s.heap.objs.size a cdv)) →
      DSs (cxOf CX0 P w K mg base N x (defScope st) a cdv A outer s H E).nox (defBody st) f) : Cal P w K mg base x (k + 1) (spN P w K (mN ps.length N.length f)) :=
  ok_with h S hn hb (fun vs H Q E q => by
    obtain ⟨F, ds, d, _, r, e, _⟩ := q
    unfold mN at e
    split at e
    · rename_i hl; rw [r.length, hl]
    · cases e) (fun vs H Q E q => by
    obtain ⟨F, ds, d, sb, r, e, kk⟩ := q
    unfold mN at e
    split at e
    · rename_i hl
      exact tS_N (E := E) (by rw [r.length, hl]; exact hn) ⟨F, ds, d, sb, r, e, kk⟩
    · cases e) body
theorem mkP (h : Has K mg x st) (S : FnScope N ps (defScope st)) (hn : ps.length ≤ N.length) (hb : ∀ (f : Addr) (fd : FuncData), FnP K x st f fd → Binds K fd ps [])
    (body : ∀ (a : Addr) (cdv : Value) (A : Around) (outer : List Env) (s : Shared) (H : Hp) (E : XK), Room k (A.deeper (envOfC x (defScope st) s.heap.objs.size a cdv)) →
      DSs (cxOf CX0 P w K mg base N x (defScope st) a cdv A outer s H E).nox (defBody st) f) : Cal P w K mg base x (k + 1) (spP P w K (mP ps.length N.length f)) :=
  ok_with h S hn hb (fun vs H Q E q => by
    obtain ⟨F, p, us, c, ds, d, c', rfl, _, _, _, r, e, _⟩ := q
    unfold mP at e
    split at e
    · rename_i hl; rw [List.length_cons, r.length, hl]
    · cases e) (fun vs H Q E q => by
    obtain ⟨F, p, us, c, ds, d, c', rfl, sb, hF, ow, r, e, kk⟩ := q
    unfold mP at e
    split at e
    · rename_i hl
      exact tS_P (E := E) (by rw [List.length_cons, r.length, hl]; exact hn) ⟨F, p, us, c, ds, d, c', rfl, sb, hF, ow, r, e, kk⟩
    · cases e) body
/-- what no data asks of -/
theorem mkA0 (h : Has K mg x st) (S : FnScope N ps (defScope st)) (hn : ps.length ≤ N.length) (hb : ∀ (f : Addr) (fd : FuncData), FnP K x st f fd → Binds K fd ps []) : Cal P w K mg base x (k + 1) (spA P w K fun _ => none) :=
  ok_with (f := sNo) h S hn hb (fun vs H Q E q => by
    obtain ⟨F, ds, d, _, r, e, _⟩ := q
    cases e) (fun vs H Q E q => by
    obtain ⟨F, ds, d, sb, r, e, kk⟩ := q
    cases e) (fun _ _ _ _ _ _ _ _ => dss_no)
theorem Cal.up {sp : Sp} {j : Nat} (c : Cal P w K mg base x j sp) (h : j ≤ k) : Cal P w K mg base x k sp := by
  obtain ⟨a, fd, ps, F, h1, h2, h3⟩ := c.ex
  exact ⟨a, fd, ps, F.mono h, h1, h2, h3⟩
theorem hu200 {A : Around} (r : Room k A) : A.units + 200 < cLine := by have := r.un; omega
theorem hu100 {A : Around} (r : Room k A) : A.units + 100 < cLine := by have := r.un; omega
end
/-! ### blocks -/
def blkB (N : List Str) (sc scope : Scope) (own : List (Str × Nat)) : Bool := decide (scope.kind = .function) && (scope.names.all (fun y => decide (scope.names.lookup y.1 = some y.2)) && (own.all (fun p => decide (N[p.2]? = some p.1)) &&
  (scope.names.all (fun y => !decide (y.2 = .free) || (decide (sc.names.lookup y.1 = some .cell) || decide (sc.names.lookup y.1 = some .free))) &&
  scope.names.all (fun y => !(decide (y.2 = .local) || decide (y.2 = .cell)) || (decide (y.1 ∈ own.map (·.1)) || !decide (y.1 ∈ N))))))
theorem blk_ok {N : List Str} {sc scope : Scope} {own : List (Str × Nat)} (h : blkB N sc scope own = true) : BlkOk N sc scope own := by
  unfold blkB at h
  simp only [Bool.and_eq_true, List.all_eq_true, decide_eq_true_eq, Bool.or_eq_true, Bool.not_eq_true', decide_eq_false_iff_not] at h
  obtain ⟨h1, h2, h3, h4, h5⟩ := h
  refine ⟨h1, fun y hy => h2 y hy, fun p hp => h3 p hp, fun y hy e => ?_, fun y hy e => ?_⟩
  · rcases h4 y hy with z | z
    · exact (z e).elim
    · exact z
  · rcases h5 y hy with z | z
    · simp only [Bool.or_eq_false_iff, decide_eq_false_iff_not] at z
      rcases e with e | e
      · exact (z.1 e).elim
      · exact (z.2 e).elim
    · exact z
/-! ### the module's tuples -/
def plB (K : PySem.W.Frag) (x : Str) (vs : List V) : Bool := match K.lookup (He.ga K x) with
  | some ⟨.type c, none, .seq its _, _⟩ => decide (c = "tuple") && (decide (its.size ≤ sizeLine) && He.relAll vs its.toList)
  | _ => false
theorem pl_ok {K : PySem.W.Frag} {x : Str} {vs : List V} (h : plB K x vs = true) (F : Hp) : PlT K F (He.ga K x) vs := by
  unfold plB at h
  split at h
  · rename_i c its n sl e
    simp only [Bool.and_eq_true, decide_eq_true_eq] at h
    obtain ⟨rfl, h2, h3⟩ := h
    exact .inr ⟨_, its, n, e, rfl, rfl, rfl, h2, He.relAll_ok h3⟩
  · cases h
theorem de_glo {X : Cx} {x : Str} {pos : Pos} {v : V} {u : Value} {d : Dat} (hg : Gl X x) (hm : X.mg x = some u) (r : RelV v u) (rp : ∀ F, Rp X.prog X.w X.K F v d) (hd : (x == ("__debug__" : Str)) = false := by decide) : DE X (.Name x pos) (cK d) :=
  de_const (pe_glob hg hm r hd) rp
end Dl
namespace Dl
open PySem PySem.Spec PyProof.Rows L2
/-! ### names, in short -/
section
variable {X : Cx} {x : Str} {pos : Pos}
theorem nv (i : Nat) (hN : X.N[i]? = some x := by rfl) (hv : Vis X.env.scope x := by first | exact Or.inl rfl | exact Or.inr (Or.inl rfl) | exact Or.inr (Or.inr rfl)) (hd : (x == ("__debug__" : Str)) = false := by decide)
    (hcd : (x == ("__classdict__" : Str)) = false := by decide) : DE X (.Name x pos) (cVar i) := de_var (pe_var hN hv hd hcd)
theorem gv (i : Nat) (nd : X.N.Nodup) (hi : X.N[i]? = some x := by rfl) (hx : Loc X.env.scope x := by first | exact Or.inl rfl | exact Or.inr rfl) (hf : X.fn x = true ∨ X.env.scope.names.lookup x = some .local := by first | exact .inl rfl | exact .inr rfl | assumption) :
    DG X (.Name x pos) [i] (gN i) := dg_n (pg_name nd hi hx hf)
theorem dset {e : Expr} {f : FE} {pos' : Pos} (i : Nat) (nd : X.N.Nodup) (he : DE X e f) (hi : X.N[i]? = some x := by rfl) (hx : Loc X.env.scope x := by first | exact Or.inl rfl | exact Or.inr rfl)
    (hs : swapsWith e (some (.Name x pos')) pos.line X.env = pure false := by rfl) (hf : X.fn x = true ∨ X.env.scope.names.lookup x = some .local := by first | exact .inl rfl | exact .inr rfl | assumption) :
    DS X (.Assign [.Name x pos'] e pos) (sAsg f (gN i)) := ds_set (ps_set nd hi hx he hs hf)
theorem down {e : Expr} {f : FE} {pos' : Pos} (i : Nat) (nd : X.N.Nodup) (he : DE X e f) (hi : X.N[i]? = some x := by rfl) (hx : Loc X.env.scope x := by first | exact Or.inl rfl | exact Or.inr rfl)
    (hs : swapsWith e (some (.Name x pos')) pos.line X.env = pure false := by rfl) (hf : X.fn x = true ∨ X.env.scope.names.lookup x = some .local := by first | exact .inl rfl | exact .inr rfl | assumption) :
    DS X (.Assign [.Name x pos'] e pos) (sOwn i f) := ds_own (ps_set nd hi hx he hs hf)
theorem dapp {x : Str} {e : Expr} {f : FE} {p apos : Pos} (i : Nat) (he : DE X e f) (hN : X.N[i]? = some x := by rfl) (hv : Vis X.env.scope x := by first | exact Or.inl rfl | exact Or.inr (Or.inl rfl) | exact Or.inr (Or.inr rfl)) (hd : (x == ("__debug__" : Str)) = false := by decide) (hcd : (x == ("__classdict__" : Str)) = false := by decide)
    (h : ∀ {to : TE} {t : TA}, PE X (.Name x p) to → PA X [e] t → PE X (.Call (.Attribute (.Name x p) "append" apos) [e] [] pos) (tBM X.K "list" rAppend to t) := by intro to t ho ha; exact pe_bm PySem.F.plainAttrs_list PySem.F.slot_list_append PySem.F.type_list_append mt_append ho ha)
    (hs : starEach [e] X.env = (false, eval e X.env) :: starEach [] X.env := by rfl) : DE X (.Call (.Attribute (.Name x p) "append" apos) [e] [] pos) (cApp i f) := de_app (pe_var hN hv hd hcd) he h hs
theorem dext {x : Str} {e : Expr} {f : FE} {p apos : Pos} (i : Nat) (he : DE X e f) (hN : X.N[i]? = some x := by rfl) (hv : Vis X.env.scope x := by first | exact Or.inl rfl | exact Or.inr (Or.inl rfl) | exact Or.inr (Or.inr rfl)) (hd : (x == ("__debug__" : Str)) = false := by decide) (hcd : (x == ("__classdict__" : Str)) = false := by decide)
    (h : ∀ {to : TE} {t : TA}, PE X (.Name x p) to → PA X [e] t → PE X (.Call (.Attribute (.Name x p) "extend" apos) [e] [] pos) (tBM X.K "list" rExtend to t) := by intro to t ho ha; exact pe_bm PySem.F.plainAttrs_list PySem.F.slot_list_extend PySem.F.type_list_extend mt_extend ho ha)
    (hs : starEach [e] X.env = (false, eval e X.env) :: starEach [] X.env := by rfl) : DE X (.Call (.Attribute (.Name x p) "extend" apos) [e] [] pos) (cExt i f) := de_ext (pe_var hN hv hd hcd) he h hs
end
def muI (i : Nat) : Rho → Nat := fun ρ => match ρ[i]? with
  | some (.val (.int n)) => n.natAbs + 2
  | _ => 0
end Dl
namespace Dl
open PySem PySem.Spec PyProof.Rows L2
theorem walks_str {P w K} {F0 : Hp} (x : Str) : Walks P w K (Its x) (x.cps.toList.map fun c => Dat.str ⟨#[c]⟩) F0 where
  go := fun i H F d e h1 h2 => by
    rw [List.getElem?_map, Option.map_eq_some_iff] at e
    obtain ⟨c, e1, rfl⟩ := e
    have e2 : x.cps[i]? = some c := by rw [← Array.getElem?_toList]; exact e1
    refine ⟨(Array.getElem?_eq_some_iff.mp e2).1, fun v H' y => ?_⟩
    obtain ⟨rfl, c', e3, rfl⟩ := y
    rw [e2] at e3; cases e3
    exact ⟨F, New.refl h2, .str _⟩
  stop := fun i H F e h1 h2 => show x.cps.size ≤ i by simpa using e
def iStrD (f : FE) : FI := fun ρ => match cFz f ρ with
  | some (.dat (.str x), ρ1) => some (x.cps.toList.map fun c => Dat.str ⟨#[c]⟩, ρ1)
  | _ => none
theorem di_str {X : Cx} {tg e : Expr} {f : FE} (h : DE X e f) : DI X tg e (iStrD f) := piImp (pi_str (de_fz h)) fun σ H R q => by
  obtain ⟨ρ, F, ds, ρ', so, e, k⟩ := q
  unfold iStrD at e
  split at e
  · rename_i x ρ1 e1
    cases e
    refine ⟨ρ, F, _, _, so, e1, fun v H1 F1 so1 st1 r => ?_⟩
    cases (show Rp _ _ _ F1 v (.str x) from r)
    exact ⟨x, rfl, k _ H1 F1 so1 st1 (walks_str x)⟩
  · cases e
end Dl

set_option Elab.async false
set_option linter.all false
set_option maxRecDepth 100000
set_option maxHeartbeats 4000000
/-! the defs of the package as functions of data (printed by gen.py) -/
namespace Dl
open PySem PySem.Spec PyProof.Rows L2
abbrev fuel : Nat := 10
def b_is_whole : FS :=
  (sRet (cAndV (c1 (gIsi "int") (cVar 0)) (cNotV (c1 (gIsi "bool") (cVar 0)))))
def m_is_whole : List Dat → Option Dat := mA 1 1 b_is_whole
def b_divisor_of : FS :=
  (sSeq (sWh (muI 1) (cB (c2 gNe (cVar 1) (cK (.int 0)))) (sPar2 0 1 (cFz (cVar 1)) (cFz (c2 gMod (cVar 0) (cVar 1))))) (sRet (c1 gAbs (cVar 0))))
def m_divisor_of : List Dat → Option Dat := mA 2 2 b_divisor_of
def b_is_number : FS :=
  (sSeq (sIf (cOr (cNot (cB (c1 (gIsi "tuple") (cVar 0)))) (cOr (cB (c2 gNe (c1 gLen (cVar 0)) (cK (.int 2)))) (cNot (cB (c1 gAll (cLc (iSeq (cVar 0)) (gN 1) tAll (cCall m_is_whole (aCons (cVar 1) aNil)) [1])))))) (sRet (cK (.bl false))) sNil) (sSeq (sAsg (cVar 0) (gT 2 (gCons' (gN 2) (gCons' (gN 3) gNil')))) (sRet (cAndV (c2 gGe (cVar 3) (cK (.int 1))) (c2 gEq (cCall m_divisor_of (aCons (cVar 2) (aCons (cVar 3) aNil))) (cK (.int 1)))))))
def m_is_number : List Dat → Option Dat := mA 1 4 b_is_number
def b_lowest : FS :=
  (sSeq (sAsg (cIf (cB (c2 gGt (cVar 1) (cK (.int 0)))) (cCall m_divisor_of (aCons (cVar 0) (aCons (cVar 1) aNil))) (c1 gNeg (cCall m_divisor_of (aCons (cVar 0) (aCons (cVar 1) aNil))))) (gN 2)) (sRet (cTup (aCons (c2 gFdiv (cVar 0) (cVar 2)) (aCons (c2 gFdiv (cVar 1) (cVar 2)) aNil)))))
def m_lowest : List Dat → Option Dat := mA 2 3 b_lowest
def b_plus : FS :=
  (sRet (cCall m_lowest (aCons (c2 gAdd (c2 gMul (c2 gIxA (cVar 0) (cK (.int 0))) (c2 gIxA (cVar 1) (cK (.int 1)))) (c2 gMul (c2 gIxA (cVar 1) (cK (.int 0))) (c2 gIxA (cVar 0) (cK (.int 1))))) (aCons (c2 gMul (c2 gIxA (cVar 0) (cK (.int 1))) (c2 gIxA (cVar 1) (cK (.int 1)))) aNil))))
def m_plus : List Dat → Option Dat := mA 2 2 b_plus
def b_times : FS :=
  (sRet (cCall m_lowest (aCons (c2 gMul (c2 gIxA (cVar 0) (cK (.int 0))) (c2 gIxA (cVar 1) (cK (.int 0)))) (aCons (c2 gMul (c2 gIxA (cVar 0) (cK (.int 1))) (c2 gIxA (cVar 1) (cK (.int 1)))) aNil))))
def m_times : List Dat → Option Dat := mA 2 2 b_times
def b_is_name : FS :=
  (sRet (cAndV (c1 (gIsi "str") (cVar 0)) (cAndV (cCh gLe gLe (cK (.int 1)) (c1 gLen (cVar 0)) (cK (.int 6))) (c1 gAll (cLc (iStrD (cVar 0)) (gN 1) tAll (c2 gInA (cVar 1) (cK (.str "abcdefghijklmnopqrstuvwxyz"))) [1])))))
def m_is_name : List Dat → Option Dat := mA 1 2 b_is_name
def b_is_grain : FS :=
  (sSeq (sIf (cOr (cNot (cB (c1 (gIsi "tuple") (cVar 0)))) (cOr (cB (c2 gNe (c1 gLen (cVar 0)) (cK (.int 2)))) (cNot (cB (cCall m_is_name (aCons (c2 gIxA (cVar 0) (cK (.int 0))) aNil)))))) (sRet (cK (.bl false))) sNil) (sSeq (sIf (cOr (cNot (cB (c1 (gIsi "tuple") (c2 gIxA (cVar 0) (cK (.int 1)))))) (cB (c2 gGt (c1 gLen (c2 gIxA (cVar 0) (cK (.int 1)))) (cK (.int (3)))))) (sRet (cK (.bl false))) sNil) (sRet (c1 gAll (cLc (iSeq (c2 gIxA (cVar 0) (cK (.int 1)))) (gN 1) tAll (cAndV (cCall m_is_whole (aCons (cVar 1) aNil)) (c2 gGe (cVar 1) (cK (.int 0)))) [1])))))
def m_is_grain : List Dat → Option Dat := mA 1 2 b_is_grain
def b_is_part : FS :=
  (sSeq (sIf (cOr (cNot (cB (c1 (gIsi "tuple") (cVar 0)))) (cOr (cB (c2 gNe (c1 gLen (cVar 0)) (cK (.int 2)))) (cNot (cB (cCall m_is_grain (aCons (c2 gIxA (cVar 0) (cK (.int 0))) aNil)))))) (sRet (cK (.bl false))) sNil) (sRet (cAndV (cCall m_is_number (aCons (c2 gIxA (cVar 0) (cK (.int 1))) aNil)) (c2 gNe (c2 gIxA (cVar 0) (cK (.int 1))) (cK (.tup [(.int (0)), (.int (1))]))))))
def m_is_part : List Dat → Option Dat := mA 1 1 b_is_part
def b_is_line : FS :=
  (sSeq (sIf (cOr (cNot (cB (c1 (gIsi "tuple") (cVar 0)))) (cNot (cB (c1 gAll (cLc (iSeq (cVar 0)) (gN 1) tAll (cCall m_is_part (aCons (cVar 1) aNil)) [1]))))) (sRet (cK (.bl false))) sNil) (sRet (c1 gAll (cLc (iZip (aCons (cVar 0) (aCons (cSl (cVar 0) (oSome (cK (.int 1))) oNone) aNil))) (gT 2 (gCons' (gN 2) (gCons' (gN 3) gNil'))) tAll (c2 gLt (c2 gIxA (cVar 2) (cK (.int 0))) (c2 gIxA (cVar 3) (cK (.int 0)))) [2, 3]))))
def m_is_line : List Dat → Option Dat := mA 1 4 b_is_line
def b_is_form : FS :=
  (sRet (cAndV (c1 (gIsi "tuple") (cVar 0)) (cAndV (c2 gEq (c1 gLen (cVar 0)) (cK (.int 2))) (cAndV (cCall m_is_number (aCons (c2 gIxA (cVar 0) (cK (.int 0))) aNil)) (cCall m_is_line (aCons (c2 gIxA (cVar 0) (cK (.int 1))) aNil))))))
def m_is_form : List Dat → Option Dat := mA 1 1 b_is_form
def b_as_dict : FS :=
  (sRet (cDc (iSeq (cVar 0)) (gT 2 (gCons' (gN 1) (gCons' (gN 2) gNil'))) tAll (cVar 1) (cVar 2) [1, 2]))
def m_as_dict : List Dat → Option Dat := mN 1 3 b_as_dict
def b_as_line : FS :=
  (sRet (c1 gTuple (cLc (iSeq (c1n gSort (cVar 0))) (gN 1) (cB (c2 gNe (c2 gIxA (cVar 0) (cVar 1)) (cK (.tup [(.int (0)), (.int (1))])))) (cTup (aCons (cVar 1) (aCons (c2 gIxA (cVar 0) (cVar 1)) aNil))) [1])))
def m_as_line : List Dat → Option Dat := mA 1 2 b_as_line
def b_line_plus : FS :=
  (sSeq (sOwn 2 (cCallN m_as_dict (aCons (cVar 0) aNil))) (sSeq (sFor (iSeq (cVar 1)) (gT 2 (gCons' (gN 3) (gCons' (gN 4) gNil'))) (sSetD (cCall m_plus (aCons (cGet (cVar 2) (cVar 3) (cK (.tup [(.int (0)), (.int (1))]))) (aCons (cVar 4) aNil))) 2 (cVar 3))) (sFz 2 (sRet (cCall m_as_line (aCons (cVar 2) aNil))))))
def m_line_plus : List Dat → Option Dat := mA 2 5 b_line_plus
def b_line_times : FS :=
  (sRet (c1 gTuple (cLc (iSeq (cVar 0)) (gT 2 (gCons' (gN 2) (gCons' (gN 3) gNil'))) (cB (c2 gNe (cVar 1) (cK (.tup [(.int (0)), (.int (1))])))) (cTup (aCons (cVar 2) (aCons (cCall m_times (aCons (cVar 3) (aCons (cVar 1) aNil))) aNil))) [2, 3])))
def m_line_times : List Dat → Option Dat := mA 2 4 b_line_times
def b_cut : FS :=
  (sSeq (sAsg (cDc (iSeq (cVar 1)) (gN 3) tAll (cVar 3) (cK (.bl true)) [3]) (gN 2)) (sRet (c1 gTuple (cLc (iSeq (cVar 0)) (gT 2 (gCons' (gN 3) (gCons' (gN 4) gNil'))) (cB (c2 gInA (cVar 3) (cVar 2))) (cTup (aCons (cVar 3) (aCons (cVar 4) aNil))) [3, 4]))))
def m_cut : List Dat → Option Dat := mA 2 5 b_cut
def b_weight_in : FS :=
  (sRet (cGet (cCallN m_as_dict (aCons (cVar 0) aNil)) (cVar 1) (cK (.tup [(.int (0)), (.int (1))]))))
def m_weight_in : List Dat → Option Dat := mA 2 2 b_weight_in
def b_paired : FS :=
  (sSeq (sAsg (cCallN m_as_dict (aCons (cVar 1) aNil)) (gN 2)) (sSeq (sAsg (cK (.tup [(.int (0)), (.int (1))])) (gN 3)) (sSeq (sFor (iSeq (cVar 0)) (gT 2 (gCons' (gN 4) (gCons' (gN 5) gNil'))) (sIf (cB (c2 gInA (cVar 4) (cVar 2))) (sAsg (cCall m_plus (aCons (cVar 3) (aCons (cCall m_times (aCons (cVar 5) (aCons (c2 gIxA (cVar 2) (cVar 4)) aNil))) aNil))) (gN 3)) sNil)) (sRet (cVar 3)))))
def m_paired : List Dat → Option Dat := mA 2 6 b_paired
def b_form_plus : FS :=
  (sRet (cTup (aCons (cCall m_plus (aCons (c2 gIxA (cVar 0) (cK (.int 0))) (aCons (c2 gIxA (cVar 1) (cK (.int 0))) aNil))) (aCons (cCall m_line_plus (aCons (c2 gIxA (cVar 0) (cK (.int 1))) (aCons (c2 gIxA (cVar 1) (cK (.int 1))) aNil))) aNil))))
def m_form_plus : List Dat → Option Dat := mA 2 2 b_form_plus
def b_form_times : FS :=
  (sRet (cTup (aCons (cCall m_times (aCons (c2 gIxA (cVar 0) (cK (.int 0))) (aCons (cVar 1) aNil))) (aCons (cCall m_line_times (aCons (c2 gIxA (cVar 0) (cK (.int 1))) (aCons (cVar 1) aNil))) aNil))))
def m_form_times : List Dat → Option Dat := mA 2 2 b_form_times
def b_form_minus : FS :=
  (sRet (cCall m_form_plus (aCons (cVar 0) (aCons (cCall m_form_times (aCons (cVar 1) (aCons (cK (.tup [(.int (-1)), (.int (1))])) aNil))) aNil))))
def m_form_minus : List Dat → Option Dat := mA 2 2 b_form_minus
def b_worth_of_form : FS :=
  (sSeq (sAsg (c2 gIxA (cVar 0) (cK (.int 0))) (gN 2)) (sSeq (sFor (iSeq (c2 gIxA (cVar 0) (cK (.int 1)))) (gT 2 (gCons' (gT 2 (gCons' (gN 4) (gCons' (gN 5) gNil'))) (gCons' (gN 3) gNil'))) (sAsg (cCall m_plus (aCons (cVar 2) (aCons (cCall m_times (aCons (cVar 3) (aCons (c2 gIxA (c2 gIxA (cVar 1) (cVar 4)) (cVar 5)) aNil))) aNil))) (gN 2))) (sRet (cVar 2))))
def m_worth_of_form : List Dat → Option Dat := mA 2 6 b_worth_of_form
def b__law_pool : FS :=
  (sSeq (sAsg (c2 gIxA (c2 gAdd (cSl (cVar 0) (oSome (cVar 1)) (oSome (c2 gAdd (cVar 1) (cK (.int 1))))) (cLst (aCons (cK (.int 0)) aNil))) (cK (.int 0))) (gN 2)) (sSeq (sAsg (c2 gMax (cVar 2) (c2 gSub (c1 gNeg (cK (.int 1))) (cVar 2))) (gN 3)) (sSeq (sAsg (c2 gMod (c2 gMul (c2 gAdd (c2 gAdd (c2 gAdd (c2 gMod (cVar 3) (cK (.int 2147483629))) (c2 gMul (c2 gMul (cK (.int 7919)) (cVar 1)) (cVar 1))) (c2 gMul (cK (.int 47)) (cVar 1))) (cK (.int 19))) (cK (.int 48271))) (cK (.int 2147483647))) (gN 4)) (sRet (cLst (aCons (c2 gMulS (cVar 3) (c1 gInt (c2 gGe (cVar 3) (c2 gPow (cK (.int 10)) (cK (.int 18)))))) (aCons (c2 gMod (c2 gMul (cVar 4) (cVar 4)) (cK (.int 2147483629))) aNil)))))))
def m__law_pool : List Dat → Option Dat := mN 2 5 b__law_pool
def b__law_take : FS :=
  (sSeq (sIf (cB (c2 gGt (c2 gIxA (cVar 0) (cK (.int 0))) (cK (.int 0)))) (sSeq (sAsg (c2 gMod (c2 gIxA (cVar 0) (cK (.int 0))) (cVar 1)) (gN 2)) (sSeq (sSetL (c2 gFdiv (c2 gIxA (cVar 0) (cK (.int 0))) (cVar 1)) 0 (cK (.int 0))) (sRet (cVar 2)))) sNil) (sSeq (sSetL (c2 gMod (c2 gAdd (c2 gMul (c2 gIxA (cVar 0) (cK (.int 1))) (cK (.int 48271))) (cK (.int 11))) (cK (.int 2147483647))) 0 (cK (.int 1))) (sRet (c2 gMod (c2 gFdiv (c2 gMod (c2 gMul (c2 gIxA (cVar 0) (cK (.int 1))) (c2 gIxA (cVar 0) (cK (.int 1)))) (cK (.int 2147483629))) (cK (.int 16))) (cVar 1)))))
def m__law_take : Dat → List Dat → Option (Dat × Dat) := mP 2 3 b__law_take
def b__law_is_whole : FS :=
  (sRet (cAndV (c1 (gIsi "int") (cVar 0)) (cNotV (c1 (gIsi "bool") (cVar 0)))))
def m__law_is_whole : List Dat → Option Dat := mA 1 1 b__law_is_whole
def b__law_same (m : List Dat → Option Dat) : FS :=
  (sSeq (sIf (cB (c2 gIs (cVar 1) (cK .non))) (sRet (c2 gIs (cVar 0) (cK .non))) sNil) (sSeq (sIf (cB (c1 (gIsi "bool") (cVar 1))) (sRet (cIf (cB (cVar 1)) (c2 gIs (cVar 0) (cK (.bl true))) (c2 gIs (cVar 0) (cK (.bl false))))) sNil) (sSeq (sIf (cB (c1 (gIsi "int") (cVar 1))) (sRet (cAndV (cCall m__law_is_whole (aCons (cVar 0) aNil)) (c2 gEq (cVar 0) (cVar 1)))) sNil) (sSeq (sIf (cB (c1 (gIsi "str") (cVar 1))) (sRet (cAndV (c1 (gIsi "str") (cVar 0)) (c2 gEq (cVar 0) (cVar 1)))) sNil) (sSeq (sIf (cB (c1 (gIsi "dict") (cVar 1))) sNo sNil) (sSeq (sIf (cAnd (cNot (cB (c1 (gIsi "tuple") (cVar 1)))) (cNot (cB (c1 (gIsi "list") (cVar 1))))) (sRet (c2 gEq (cVar 0) (cVar 1))) sNil) (sSeq (sIf (cOr (cAnd (cB (c1 (gIsi "tuple") (cVar 1))) (cNot (cB (c1 (gIsi "tuple") (cVar 0))))) (cAnd (cB (c1 (gIsi "list") (cVar 1))) (cNot (cB (c1 (gIsi "list") (cVar 0)))))) (sRet (cK (.bl false))) sNil) (sSeq (sIf (cB (c2 gNe (c1 gLen (cVar 0)) (c1 gLen (cVar 1)))) (sRet (cK (.bl false))) sNil) (sSeq (sFor (iR1 (aCons (c1 gLen (cVar 1)) aNil)) (gN 3) (sIf (cNot (cB (cCall m (aCons (c2 gIxA (cVar 0) (cVar 3)) (aCons (c2 gIxA (cVar 1) (cVar 3)) aNil))))) (sRet (cK (.bl false))) sNil)) (sRet (cK (.bl true))))))))))))
def m__law_same : Nat → List Dat → Option Dat
  | 0 => fun _ => none
  | k + 1 => mA 2 4 (b__law_same (m__law_same k))
def b__law_shared_part : FS :=
  (sSeq (sPar2 0 1 (cFz (c1 gAbs (cVar 0))) (cFz (c1 gAbs (cVar 1)))) (sSeq (sWh (muI 1) (cB (c2 gGt (cVar 1) (cK (.int 0)))) (sPar2 0 1 (cFz (cVar 1)) (cFz (c2 gMod (c1 gInt (cVar 0)) (cVar 1))))) (sRet (cVar 0))))
def m__law_shared_part : List Dat → Option Dat := mA 2 2 b__law_shared_part
def b__law_is_number_of : FS :=
  (sSeq (sIf (cOr (cNot (cB (c1 (gIsi "tuple") (cVar 0)))) (cOr (cB (c2 gNe (c1 gLen (cVar 0)) (cK (.int 2)))) (cOr (cNot (cB (cCall m__law_is_whole (aCons (c2 gIxA (cVar 0) (cK (.int 0))) aNil)))) (cNot (cB (cCall m__law_is_whole (aCons (c2 gIxA (cVar 0) (cK (.int 1))) aNil))))))) (sRet (cK (.bl false))) sNil) (sRet (cAndV (c2 gGe (c2 gIxA (cVar 0) (cK (.int 1))) (cK (.int 1))) (c2 gEq (cCall m__law_shared_part (aCons (c2 gIxA (cVar 0) (cK (.int 0))) (aCons (c2 gIxA (cVar 0) (cK (.int 1))) aNil))) (cK (.int 1))))))
def m__law_is_number_of : List Dat → Option Dat := mA 1 1 b__law_is_number_of
def b__law_is_name_of : FS :=
  (sRet (cAndV (c1 (gIsi "str") (cVar 0)) (cAndV (cCh gLe gLe (cK (.int 1)) (c1 gLen (cVar 0)) (cK (.int 6))) (c2 gEq (cLc (iStrD (cVar 0)) (gN 1) (cB (c2 (gIn true) (cVar 1) (cK (.str "abcdefghijklmnopqrstuvwxyz")))) (cVar 1) [1]) (cLst aNil)))))
def m__law_is_name_of : List Dat → Option Dat := mA 1 2 b__law_is_name_of
def b__law_is_cell_form : FS :=
  (sRet (cAndV (c1 (gIsi "tuple") (cVar 0)) (cAndV (c2 gLe (c1 gLen (cVar 0)) (cK (.int 3))) (c2 gEq (cLc (iSeq (cVar 0)) (gN 1) (cOr (cNot (cB (cCall m__law_is_whole (aCons (cVar 1) aNil)))) (cB (c2 gLt (cVar 1) (cK (.int 0))))) (cVar 1) [1]) (cLst aNil)))))
def m__law_is_cell_form : List Dat → Option Dat := mA 1 2 b__law_is_cell_form
def b__law_is_grain_of : FS :=
  (sRet (cAndV (c1 (gIsi "tuple") (cVar 0)) (cAndV (c2 gEq (c1 gLen (cVar 0)) (cK (.int 2))) (cAndV (cCall m__law_is_name_of (aCons (c2 gIxA (cVar 0) (cK (.int 0))) aNil)) (cCall m__law_is_cell_form (aCons (c2 gIxA (cVar 0) (cK (.int 1))) aNil))))))
def m__law_is_grain_of : List Dat → Option Dat := mA 1 1 b__law_is_grain_of
def b__law_are_rising : FS :=
  (sRet (c2 gEq (cLc (iR2 (aCons (cK (.int 1)) (aCons (c1 gLen (cVar 0)) aNil))) (gN 1) (cNot (cB (c2 gLt (c2 gIxA (cVar 0) (c2 gSub (cVar 1) (cK (.int 1)))) (c2 gIxA (cVar 0) (cVar 1))))) (cVar 1) [1]) (cLst aNil)))
def m__law_are_rising : List Dat → Option Dat := mA 1 2 b__law_are_rising
def b__law_is_line_of : FS :=
  (sSeq (sIf (cOr (cNot (cB (c1 (gIsi "tuple") (cVar 0)))) (cB (c2 gNe (cLc (iSeq (cVar 0)) (gN 1) (cOr (cNot (cB (c1 (gIsi "tuple") (cVar 1)))) (cB (c2 gNe (c1 gLen (cVar 1)) (cK (.int 2))))) (cVar 1) [1]) (cLst aNil)))) (sRet (cK (.bl false))) sNil) (sSeq (sIf (cB (c2 gNe (cLc (iSeq (cVar 0)) (gT 2 (gCons' (gN 2) (gCons' (gN 3) gNil'))) (cOr (cNot (cB (cCall m__law_is_grain_of (aCons (cVar 2) aNil)))) (cOr (cNot (cB (cCall m__law_is_number_of (aCons (cVar 3) aNil)))) (cB (c2 gEq (c2 gIxA (cVar 3) (cK (.int 0))) (cK (.int 0)))))) (cK (.int 1)) [2, 3]) (cLst aNil))) (sRet (cK (.bl false))) sNil) (sRet (cCall m__law_are_rising (aCons (cLc (iSeq (cVar 0)) (gT 2 (gCons' (gN 2) (gCons' (gN 3) gNil'))) tAll (cVar 2) [2, 3]) aNil)))))
def m__law_is_line_of : List Dat → Option Dat := mA 1 4 b__law_is_line_of
def b__law_is_form_of : FS :=
  (sRet (cAndV (c1 (gIsi "tuple") (cVar 0)) (cAndV (c2 gEq (c1 gLen (cVar 0)) (cK (.int 2))) (cAndV (cCall m__law_is_number_of (aCons (c2 gIxA (cVar 0) (cK (.int 0))) aNil)) (cCall m__law_is_line_of (aCons (c2 gIxA (cVar 0) (cK (.int 1))) aNil))))))
def m__law_is_form_of : List Dat → Option Dat := mA 1 1 b__law_is_form_of
def b__law_nr : FS :=
  (sSeq (sPar2 2 3 (cFz (c1 gAbs (cVar 0))) (cFz (c1 gAbs (cVar 1)))) (sSeq (sWh (muI 3) (cB (c2 gGt (cVar 3) (cK (.int 0)))) (sPar2 2 3 (cFz (cVar 3)) (cFz (c2 gMod (c1 gInt (cVar 2)) (cVar 3))))) (sSeq (sAsg (cIf (cB (c2 gGt (cVar 1) (cK (.int 0)))) (cK (.int 1)) (c1 gNeg (cK (.int 1)))) (gN 4)) (sRet (cTup (aCons (c2 gFdiv (c2 gMul (cVar 4) (cVar 0)) (cVar 2)) (aCons (c2 gFdiv (c2 gMul (cVar 4) (cVar 1)) (cVar 2)) aNil)))))))
def m__law_nr : List Dat → Option Dat := mA 2 5 b__law_nr
def b__law_nr_plus : FS :=
  (sRet (cCall m__law_nr (aCons (c2 gAdd (c2 gMul (c2 gIxA (cVar 0) (cK (.int 0))) (c2 gIxA (cVar 1) (cK (.int 1)))) (c2 gMul (c2 gIxA (cVar 1) (cK (.int 0))) (c2 gIxA (cVar 0) (cK (.int 1))))) (aCons (c2 gMul (c2 gIxA (cVar 0) (cK (.int 1))) (c2 gIxA (cVar 1) (cK (.int 1)))) aNil))))
def m__law_nr_plus : List Dat → Option Dat := mA 2 2 b__law_nr_plus
def b__law_nr_times : FS :=
  (sRet (cCall m__law_nr (aCons (c2 gMul (c2 gIxA (cVar 0) (cK (.int 0))) (c2 gIxA (cVar 1) (cK (.int 0)))) (aCons (c2 gMul (c2 gIxA (cVar 0) (cK (.int 1))) (c2 gIxA (cVar 1) (cK (.int 1)))) aNil))))
def m__law_nr_times : List Dat → Option Dat := mA 2 2 b__law_nr_times
def b__law_line_from : FS :=
  (sRet (c1 gTuple (cLc (iSeq (c1n gSort (cVar 0))) (gN 1) (cB (c2 gNe (c2 gIxA (c2 gIxA (cVar 0) (cVar 1)) (cK (.int 0))) (cK (.int 0)))) (cTup (aCons (cVar 1) (aCons (c2 gIxA (cVar 0) (cVar 1)) aNil))) [1])))
def m__law_line_from : List Dat → Option Dat := mA 1 2 b__law_line_from
def b__law_line_plus : FS :=
  (sSeq (sOwn 2 (c1d gDict (cVar 0))) (sSeq (sFor (iSeq (cVar 1)) (gT 2 (gCons' (gN 3) (gCons' (gN 4) gNil'))) (sSetD (cCall m__law_nr_plus (aCons (cGet (cVar 2) (cVar 3) (cTup (aCons (cK (.int 0)) (aCons (cK (.int 1)) aNil)))) (aCons (cVar 4) aNil))) 2 (cVar 3))) (sFz 2 (sRet (cCall m__law_line_from (aCons (cVar 2) aNil))))))
def m__law_line_plus : List Dat → Option Dat := mA 2 5 b__law_line_plus
def b__law_line_times : FS :=
  (sRet (cCall m__law_line_from (aCons (c1d gDict (cLc (iSeq (cVar 0)) (gT 2 (gCons' (gN 2) (gCons' (gN 3) gNil'))) tAll (cTup (aCons (cVar 2) (aCons (cCall m__law_nr_times (aCons (cVar 3) (aCons (cVar 1) aNil))) aNil))) [2, 3])) aNil)))
def m__law_line_times : List Dat → Option Dat := mA 2 4 b__law_line_times
def b__law_line_cut : FS :=
  (sRet (c1 gTuple (cLc (iSeq (cVar 0)) (gN 2) (cB (c2 gInA (c2 gIxA (cVar 2) (cK (.int 0))) (cVar 1))) (cVar 2) [2])))
def m__law_line_cut : List Dat → Option Dat := mA 2 3 b__law_line_cut
def b__law_weight : FS :=
  (sRet (cGet (c1d gDict (cVar 0)) (cVar 1) (cTup (aCons (cK (.int 0)) (aCons (cK (.int 1)) aNil)))))
def m__law_weight : List Dat → Option Dat := mA 2 2 b__law_weight
def b__law_line_pair : FS :=
  (sSeq (sPar2 2 3 (cFz (c1d gDict (cVar 1))) (cFz (cTup (aCons (cK (.int 0)) (aCons (cK (.int 1)) aNil))))) (sSeq (sFor (iSeq (cVar 0)) (gT 2 (gCons' (gN 4) (gCons' (gN 5) gNil'))) (sAsg (cCall m__law_nr_plus (aCons (cVar 3) (aCons (cCall m__law_nr_times (aCons (cVar 5) (aCons (cGet (cVar 2) (cVar 4) (cTup (aCons (cK (.int 0)) (aCons (cK (.int 1)) aNil)))) aNil))) aNil))) (gN 3))) (sRet (cVar 3))))
def m__law_line_pair : List Dat → Option Dat := mA 2 6 b__law_line_pair
def b__law_fm_plus : FS :=
  (sRet (cTup (aCons (cCall m__law_nr_plus (aCons (c2 gIxA (cVar 0) (cK (.int 0))) (aCons (c2 gIxA (cVar 1) (cK (.int 0))) aNil))) (aCons (cCall m__law_line_plus (aCons (c2 gIxA (cVar 0) (cK (.int 1))) (aCons (c2 gIxA (cVar 1) (cK (.int 1))) aNil))) aNil))))
def m__law_fm_plus : List Dat → Option Dat := mA 2 2 b__law_fm_plus
def b__law_fm_times : FS :=
  (sRet (cTup (aCons (cCall m__law_nr_times (aCons (c2 gIxA (cVar 0) (cK (.int 0))) (aCons (cVar 1) aNil))) (aCons (cCall m__law_line_times (aCons (c2 gIxA (cVar 0) (cK (.int 1))) (aCons (cVar 1) aNil))) aNil))))
def m__law_fm_times : List Dat → Option Dat := mA 2 2 b__law_fm_times
def b__law_fm_less : FS :=
  (sRet (cCall m__law_fm_plus (aCons (cVar 0) (aCons (cCall m__law_fm_times (aCons (cVar 1) (aCons (cTup (aCons (c1 gNeg (cK (.int 1))) (aCons (cK (.int 1)) aNil))) aNil))) aNil))))
def m__law_fm_less : List Dat → Option Dat := mA 2 2 b__law_fm_less
def b__law_line_worth : FS :=
  (sSeq (sAsg (cTup (aCons (cK (.int 0)) (aCons (cK (.int 1)) aNil))) (gN 2)) (sSeq (sFor (iSeq (cVar 0)) (gT 2 (gCons' (gT 2 (gCons' (gN 4) (gCons' (gN 5) gNil'))) (gCons' (gN 3) gNil'))) (sAsg (cCall m__law_nr_plus (aCons (cVar 2) (aCons (cCall m__law_nr_times (aCons (cVar 3) (aCons (c2 gIxA (c2 gIxA (cVar 1) (cVar 4)) (cVar 5)) aNil))) aNil))) (gN 2))) (sRet (cVar 2))))
def m__law_line_worth : List Dat → Option Dat := mA 2 6 b__law_line_worth
def b__law_fm_worth : FS :=
  (sRet (cCall m__law_nr_plus (aCons (c2 gIxA (cVar 0) (cK (.int 0))) (aCons (cCall m__law_line_worth (aCons (c2 gIxA (cVar 0) (cK (.int 1))) (aCons (cVar 1) aNil))) aNil))))
def m__law_fm_worth : List Dat → Option Dat := mA 2 2 b__law_fm_worth
def b__law_chosen : FS :=
  (sRet (c2 gIxA (cVar 1) (cCallP 0 m__law_take (aCons (c1 gLen (cVar 1)) aNil))))
def m__law_chosen : Dat → List Dat → Option (Dat × Dat) := mP 2 2 b__law_chosen
def b__law_number_drawn : FS :=
  (sSeq (sAsg (cCallP 0 m__law_take (aCons (cK (.int 8)) aNil)) (gN 1)) (sSeq (sIf (cB (c2 gLt (cVar 1) (cK (.int 6)))) (sRet (cTup (aCons (c2 gSub (cCallP 0 m__law_take (aCons (cK (.int 19)) aNil)) (cK (.int 9))) (aCons (cK (.int 1)) aNil)))) sNil) (sRet (cIf (cB (c2 gEq (cVar 1) (cK (.int 6)))) (cCall m__law_nr (aCons (c2 gSub (cCallP 0 m__law_take (aCons (cK (.int 41)) aNil)) (cK (.int 20))) (aCons (c2 gAdd (cK (.int 1)) (cCallP 0 m__law_take (aCons (cK (.int 4)) aNil))) aNil))) (cTup (aCons (cCallP 0 m__law_take (aCons (c2 gPow (cK (.int 10)) (cK (.int 9))) aNil)) (aCons (cK (.int 1)) aNil)))))))
def m__law_number_drawn : Dat → List Dat → Option (Dat × Dat) := mP 1 2 b__law_number_drawn
def b__law_factor_drawn : FS :=
  (sRet (cCallP 0 m__law_chosen (aCons (cLst (aCons (cTup (aCons (cK (.int 1)) (aCons (cK (.int 1)) aNil))) (aCons (cTup (aCons (cK (.int 1)) (aCons (cK (.int 1)) aNil))) (aCons (cTup (aCons (cK (.int 2)) (aCons (cK (.int 1)) aNil))) (aCons (cTup (aCons (c1 gNeg (cK (.int 1))) (aCons (cK (.int 1)) aNil))) (aCons (cTup (aCons (cK (.int 1)) (aCons (cK (.int 2)) aNil))) (aCons (cTup (aCons (cK (.int 3)) (aCons (cK (.int 1)) aNil))) (aCons (cTup (aCons (c1 gNeg (cK (.int 2))) (aCons (cK (.int 3)) aNil))) aNil)))))))) aNil)))
def m__law_factor_drawn : Dat → List Dat → Option (Dat × Dat) := mP 1 1 b__law_factor_drawn
def b__law_any_number : FS :=
  (sSeq (sAsg (c2 gAdd (c2 gPow (cK (.int 10)) (cK (.int 29))) (cCallP 0 m__law_take (aCons (c2 gPow (cK (.int 10)) (cK (.int 9))) aNil))) (gN 1)) (sSeq (sAsg (cLst (aCons (cTup (aCons (cK (.int 0)) (aCons (cK (.int 1)) aNil))) (aCons (cTup (aCons (cK (.int 1)) (aCons (cK (.int 1)) aNil))) (aCons (cTup (aCons (c1 gNeg (cK (.int 1))) (aCons (cK (.int 1)) aNil))) (aCons (cCallP 0 m__law_number_drawn aNil) (aCons (cCallP 0 m__law_factor_drawn aNil) (aCons (cTup (aCons (cVar 1) (aCons (cK (.int 1)) aNil))) (aCons (cCall m__law_nr (aCons (c1 gNeg (cVar 1)) (aCons (cK (.int 3)) aNil))) aNil)))))))) (gN 2)) (sRet (cCallP 0 m__law_chosen (aCons (c2 gAdd (cVar 2) (cLst (aCons (cCall m__law_nr (aCons (c2 gAdd (cK (.int 1)) (cCallP 0 m__law_take (aCons (cK (.int 99)) aNil))) (aCons (c2 gAdd (c2 gPow (cK (.int 10)) (cK (.int 29))) (cK (.int 1))) aNil))) aNil))) aNil)))))
def m__law_any_number : Dat → List Dat → Option (Dat × Dat) := mP 1 3 b__law_any_number
def b__law_some_weight : FS :=
  (sSeq (sAsg (cCallP 0 m__law_any_number aNil) (gN 1)) (sRet (cIf (cB (c2 gNe (c2 gIxA (cVar 1) (cK (.int 0))) (cK (.int 0)))) (cVar 1) (cTup (aCons (cK (.int 7)) (aCons (cK (.int 2)) aNil))))))
def m__law_some_weight : Dat → List Dat → Option (Dat × Dat) := mP 1 2 b__law_some_weight
def b__law_grains_any : FS :=
  (sSeq (sPar2 1 2 (cFz (cLst (aCons (cK (.str "x")) (aCons (cK (.str "y")) (aCons (cK (.str "ab")) (aCons (cK (.str "zzzzzz")) (aCons (cK (.str "xa")) (aCons (cK (.str "a")) aNil)))))))) (cNew true)) (sSeq (sFor (iR1 (aCons (c2 gAdd (cK (.int 1)) (cCallP 0 m__law_take (aCons (cK (.int 8)) aNil))) aNil)) (gN 3) (sSeq (sAsg (c1 gTuple (cLc (iR1 (aCons (cCallP 0 m__law_take (aCons (cK (.int 4)) aNil)) aNil)) (gN 5) tAll (cCallP 0 m__law_chosen (aCons (cLst (aCons (cK (.int 0)) (aCons (cK (.int 1)) (aCons (cK (.int 2)) (aCons (cK (.int 11)) (aCons (c2 gPow (cK (.int 10)) (cK (.int 20))) aNil)))))) aNil)) [5])) (gN 4)) (sSetD (cK (.bl true)) 2 (cTup (aCons (cCallP 0 m__law_chosen (aCons (cVar 1) aNil)) (aCons (cVar 4) aNil)))))) (sFz 2 (sRet (c1n gSort (cVar 2))))))
def m__law_grains_any : Dat → List Dat → Option (Dat × Dat) := mP 1 6 b__law_grains_any
def b__law_line_of : FS :=
  (sRet (c1 gTuple (cLc (iSeq (cVar 1)) (gN 2) (cB (c2 gGt (cCallP 0 m__law_take (aCons (cK (.int 3)) aNil)) (cK (.int 0)))) (cTup (aCons (cVar 2) (aCons (cCallP 0 m__law_some_weight aNil) aNil))) [2])))
def m__law_line_of : Dat → List Dat → Option (Dat × Dat) := mP 2 3 b__law_line_of
def b__law_sums_right : FS :=
  (sSeq (sAsg (cTup (aCons (cCallP 0 m__law_line_of (aCons (cVar 1) aNil)) (aCons (cCallP 0 m__law_line_of (aCons (cVar 1) aNil)) (aCons (cCallP 0 m__law_any_number aNil) aNil)))) (gT 3 (gCons' (gN 2) (gCons' (gN 3) (gCons' (gN 4) gNil'))))) (sSeq (sAsg (c2 gAdd (cLc (iSeq (cVar 1)) (gN 6) (cB (c2 gEq (cCallP 0 m__law_take (aCons (cK (.int 2)) aNil)) (cK (.int 0)))) (cVar 6) [6]) (cLst (aCons (cTup (aCons (cK (.str "none")) (aCons (cTup (aCons (cK (.int 0)) aNil)) aNil))) aNil))) (gN 5)) (sSeq (sAsg (cIf (cB (c2 gEq (cCallP 0 m__law_take (aCons (cK (.int 2)) aNil)) (cK (.int 0)))) (cVar 5) (c1 gTuple (cVar 5))) (gN 5)) (sSeq (sAsg (cCall m__law_line_plus (aCons (cVar 2) (aCons (cVar 3) aNil))) (gN 7)) (sSeq (sAsg (cTup (aCons (cCall m_line_plus (aCons (cVar 2) (aCons (cVar 3) aNil))) (aCons (cCall m_line_plus (aCons (cVar 3) (aCons (cVar 2) aNil))) (aCons (cCall m_line_times (aCons (cVar 2) (aCons (cVar 4) aNil))) (aCons (cCall m_line_plus (aCons (cVar 2) (aCons (cCall m_line_times (aCons (cVar 2) (aCons (cTup (aCons (c1 gNeg (cK (.int 1))) (aCons (cK (.int 1)) aNil))) aNil))) aNil))) (aCons (cCall m_line_times (aCons (cVar 2) (aCons (cTup (aCons (cK (.int 0)) (aCons (cK (.int 1)) aNil))) aNil))) aNil)))))) (gN 8)) (sSeq (sIf (cNot (cB (cCall (m__law_same fuel) (aCons (cVar 8) (aCons (cTup (aCons (cVar 7) (aCons (cVar 7) (aCons (cCall m__law_line_times (aCons (cVar 2) (aCons (cVar 4) aNil))) (aCons (cTup aNil) (aCons (cTup aNil) aNil)))))) aNil))))) (sRet (cK (.bl false))) sNil) (sSeq (sAsg (cTup (aCons (cCall m_cut (aCons (cVar 2) (aCons (cVar 5) aNil))) (aCons (cCall m_cut (aCons (cVar 2) (aCons (cLst aNil) aNil))) (aCons (cCall m_paired (aCons (cVar 2) (aCons (cVar 3) aNil))) (aCons (cCall m_paired (aCons (cVar 3) (aCons (cVar 2) aNil))) (aCons (cCall m_paired (aCons (cVar 2) (aCons (cTup aNil) aNil))) aNil)))))) (gN 8)) (sSeq (sIf (cNot (cB (cCall (m__law_same fuel) (aCons (cVar 8) (aCons (cTup (aCons (cCall m__law_line_cut (aCons (cVar 2) (aCons (cVar 5) aNil))) (aCons (cTup aNil) (aCons (cCall m__law_line_pair (aCons (cVar 2) (aCons (cVar 3) aNil))) (aCons (cCall m__law_line_pair (aCons (cVar 2) (aCons (cVar 3) aNil))) (aCons (cTup (aCons (cK (.int 0)) (aCons (cK (.int 1)) aNil))) aNil)))))) aNil))))) (sRet (cK (.bl false))) sNil) (sSeq (sIf (cB (c2 gNe (cLc (iSeq (c2 gAdd (cVar 1) (cLst (aCons (cTup (aCons (cK (.str "none")) (aCons (cTup (aCons (cK (.int 0)) aNil)) aNil))) (aCons (cTup (aCons (cK (.str "x")) (aCons (cTup aNil) aNil))) aNil))))) (gN 6) (cNot (cB (cCall (m__law_same fuel) (aCons (cCall m_weight_in (aCons (cVar 2) (aCons (cVar 6) aNil))) (aCons (cCall m__law_weight (aCons (cVar 2) (aCons (cVar 6) aNil))) aNil))))) (cVar 6) [6]) (cLst aNil))) (sRet (cK (.bl false))) sNil) (sSeq (sPar2 9 10 (cFz (cCallP 0 m__law_any_number aNil)) (cFz (cCallP 0 m__law_any_number aNil))) (sSeq (sPar2 11 12 (cFz (cTup (aCons (cVar 9) (aCons (cVar 2) aNil)))) (cFz (cTup (aCons (cVar 10) (aCons (cVar 3) aNil))))) (sSeq (sAsg (cLst (aCons (cCall m_form_plus (aCons (cVar 11) (aCons (cVar 12) aNil))) (aCons (cCall m_form_minus (aCons (cVar 11) (aCons (cVar 12) aNil))) (aCons (cCall m_form_times (aCons (cVar 11) (aCons (cVar 4) aNil))) (aCons (cCall m_form_minus (aCons (cVar 11) (aCons (cVar 11) aNil))) (aCons (cCall m_form_minus (aCons (cVar 12) (aCons (cVar 11) aNil))) aNil)))))) (gN 8)) (sSeq (sAsg (cLst (aCons (cCall m__law_fm_plus (aCons (cVar 11) (aCons (cVar 12) aNil))) (aCons (cCall m__law_fm_less (aCons (cVar 11) (aCons (cVar 12) aNil))) (aCons (cCall m__law_fm_times (aCons (cVar 11) (aCons (cVar 4) aNil))) (aCons (cTup (aCons (cTup (aCons (cK (.int 0)) (aCons (cK (.int 1)) aNil))) (aCons (cTup aNil) aNil))) (aCons (cCall m__law_fm_less (aCons (cVar 12) (aCons (cVar 11) aNil))) aNil)))))) (gN 13)) (sRet (cCall (m__law_same fuel) (aCons (cVar 8) (aCons (cVar 13) aNil)))))))))))))))))
def m__law_sums_right : Dat → List Dat → Option (Dat × Dat) := mP 2 14 b__law_sums_right
def b__law_arrays_drawn : FS :=
  (sSeq (sOwn 1 (cNew false)) (sSeq (sFor (iSeq (cLst (aCons (cK (.str "x")) (aCons (cK (.str "y")) (aCons (cK (.str "ab")) (aCons (cK (.str "zzzzzz")) (aCons (cK (.str "more")) aNil))))))) (gN 2) (sSeq (sAsg (cLst (aCons (cTup aNil) aNil)) (gN 3)) (sSeq (sFor (iR1 (aCons (cCallP 0 m__law_take (aCons (cK (.int 4)) aNil)) aNil)) (gN 4) (sSeq (sPar2 6 7 (cFz (c2 gAdd (cK (.int 1)) (cCallP 0 m__law_take (aCons (cK (.int 3)) aNil)))) (cLst aNil)) (sSeq (sFor (iSeq (cVar 3)) (gN 5) (sEx (cExt 7 (cLc (iR1 (aCons (cVar 6) aNil)) (gN 8) tAll (c2 gAdd (cVar 5) (cTup (aCons (cVar 8) aNil))) [8])))) (sFz 7 (sAsg (c1n gList (cVar 7)) (gN 3)))))) (sSetD (cLk (c1d gDict (cLc (iSeq (cVar 3)) (gN 5) tAll (cTup (aCons (cVar 5) (aCons (cCallP 0 m__law_any_number aNil) aNil))) [5]))) 1 (cVar 2))))) (sRet (cVar 1))))
def m__law_arrays_drawn : Dat → List Dat → Option (Dat × Dat) := mP 1 9 b__law_arrays_drawn
def b__law_worths_right : FS :=
  (sSeq (sPar2 1 2 (cFz (cCallP 0 m__law_arrays_drawn aNil)) (cLst aNil)) (sSeq (sFor (iSeq (c1n gSort (cVar 1))) (gN 3) (sEx (cExt 2 (cLc (iDil (c2 gIxA (cVar 1) (cVar 3))) (gN 4) (cB (c2 gEq (cCallP 0 m__law_take (aCons (cK (.int 5)) aNil)) (cK (.int 0)))) (cTup (aCons (cVar 3) (aCons (cVar 4) aNil))) [4])))) (sFz 2 (sSeq (sPar2 5 6 (cFz (cCallP 0 m__law_line_of (aCons (c1n gSort (cVar 2)) aNil))) (cFz (cCallP 0 m__law_line_of (aCons (c1n gSort (cVar 2)) aNil)))) (sSeq (sPar2 7 8 (cFz (cTup (aCons (cCallP 0 m__law_any_number aNil) (aCons (cVar 5) aNil)))) (cFz (cTup (aCons (cCallP 0 m__law_any_number aNil) (aCons (cVar 6) aNil))))) (sSeq (sAsg (cLst (aCons (cCall m_worth_of_form (aCons (cVar 7) (aCons (cVar 1) aNil))) (aCons (cCall m_worth_of_form (aCons (cVar 8) (aCons (cVar 1) aNil))) (aCons (cCall m_worth_of_form (aCons (cCall m_form_plus (aCons (cVar 7) (aCons (cVar 8) aNil))) (aCons (cVar 1) aNil))) (aCons (cCall m_worth_of_form (aCons (cTup (aCons (cTup (aCons (cK (.int 3)) (aCons (cK (.int 4)) aNil))) (aCons (cTup aNil) aNil))) (aCons (cNew true) aNil))) aNil))))) (gN 9)) (sSeq (sAsg (cLst (aCons (cCall m__law_fm_worth (aCons (cVar 7) (aCons (cVar 1) aNil))) (aCons (cCall m__law_fm_worth (aCons (cVar 8) (aCons (cVar 1) aNil))) (aCons (cCall m__law_nr_plus (aCons (cCall m__law_fm_worth (aCons (cVar 7) (aCons (cVar 1) aNil))) (aCons (cCall m__law_fm_worth (aCons (cVar 8) (aCons (cVar 1) aNil))) aNil))) (aCons (cTup (aCons (cK (.int 3)) (aCons (cK (.int 4)) aNil))) aNil))))) (gN 10)) (sRet (cCall (m__law_same fuel) (aCons (cVar 9) (aCons (cVar 10) aNil)))))))))))
def m__law_worths_right : Dat → List Dat → Option (Dat × Dat) := mP 1 11 b__law_worths_right
def b__law_bent_grain : FS :=
  (sSeq (sAsg (cVar 1) (gT 2 (gCons' (gN 2) (gCons' (gN 3) gNil')))) (sSeq (sOwn 4 (cLst (aCons (cTup (aCons (cK (.str "")) (aCons (cVar 3) aNil))) (aCons (cTup (aCons (cK (.str "A")) (aCons (cVar 3) aNil))) (aCons (cTup (aCons (cK (.str "abcdefg")) (aCons (cVar 3) aNil))) (aCons (cTup (aCons (cK (.str "a1")) (aCons (cVar 3) aNil))) (aCons (cTup (aCons (cK (.str "a b")) (aCons (cVar 3) aNil))) (aCons (cTup (aCons (cK (.int 5)) (aCons (cVar 3) aNil))) (aCons (cTup (aCons (cK .non) (aCons (cVar 3) aNil))) (aCons (cTup (aCons (cVar 2) (aCons (c1n gList (cVar 3)) aNil))) (aCons (cTup (aCons (cVar 2) (aCons (cK (.int 0)) aNil))) (aCons (cTup (aCons (cVar 2) (aCons (cK .non) aNil))) aNil)))))))))))) (sSeq (sEx (cExt 4 (cLst (aCons (cTup (aCons (cVar 2) (aCons (c2 gAdd (cVar 3) (cTup (aCons (c1 gNeg (cK (.int 1))) aNil))) aNil))) (aCons (cTup (aCons (cVar 2) (aCons (c2 gAdd (cVar 3) (cTup (aCons (cK (.bl true)) aNil))) aNil))) (aCons (cTup (aCons (cVar 2) (aCons (cTup (aCons (cK (.int 0)) (aCons (cK (.int 0)) (aCons (cK (.int 0)) (aCons (cK (.int 0)) aNil))))) aNil))) (aCons (cTup (aCons (cVar 2) (aCons (c2 gAdd (cVar 3) (cTup (aCons (cK (.str "0")) aNil))) aNil))) (aCons (cTup (aCons (cVar 2) aNil)) (aCons (cTup (aCons (cVar 2) (aCons (cVar 3) (aCons (cK (.int 0)) aNil)))) (aCons (cLst (aCons (cVar 2) (aCons (cVar 3) aNil))) (aCons (cVar 2) (aCons (cVar 3) aNil)))))))))))) (sFz 4 (sRet (cCallP 0 m__law_chosen (aCons (c2 gAdd (cVar 4) (cLst (aCons (cTup (aCons (cVar 2) (aCons (cTup (aCons (cK .non) aNil)) aNil))) (aCons (cTup (aCons (cVar 3) (aCons (cVar 2) aNil))) (aCons (cTup (aCons (cVar 2) (aCons (c2 gAdd (cVar 3) (cTup (aCons (cTup (aCons (cK (.int 0)) aNil)) aNil))) aNil))) aNil))))) aNil)))))))
def m__law_bent_grain : Dat → List Dat → Option (Dat × Dat) := mP 2 5 b__law_bent_grain
def b__law_bent_weight : FS :=
  (sRet (cCallP 0 m__law_chosen (aCons (cLst (aCons (cTup (aCons (cK (.int 0)) (aCons (cK (.int 1)) aNil))) (aCons (cTup (aCons (cK (.int 0)) (aCons (cK (.int 2)) aNil))) (aCons (cTup (aCons (cK (.int 2)) (aCons (cK (.int 4)) aNil))) (aCons (cTup (aCons (cK (.int 1)) (aCons (cK (.int 0)) aNil))) (aCons (cTup (aCons (cK (.int 1)) (aCons (c1 gNeg (cK (.int 1))) aNil))) (aCons (cTup (aCons (c1 gNeg (cK (.int 2))) (aCons (c1 gNeg (cK (.int 4))) aNil))) (aCons (cTup (aCons (cK (.bl true)) (aCons (cK (.int 1)) aNil))) (aCons (cTup (aCons (cK (.int 1)) (aCons (cK (.bl true)) aNil))) (aCons (cK (.int 1)) (aCons (cK .non) (aCons (cK (.bl true)) (aCons (cK (.str "1")) (aCons (cLst (aCons (cK (.int 1)) (aCons (cK (.int 1)) aNil))) (aCons (cTup (aCons (cK (.int 1)) aNil)) (aCons (cTup (aCons (cK (.int 1)) (aCons (cK (.int 1)) (aCons (cK (.int 1)) aNil)))) (aCons (cTup (aCons (cK (.str "1")) (aCons (cK (.int 1)) aNil))) aNil))))))))))))))))) aNil)))
def m__law_bent_weight : Dat → List Dat → Option (Dat × Dat) := mP 1 1 b__law_bent_weight
def b__law_bent_line : FS :=
  (sSeq (sIf (cB (c2 gEq (cVar 1) (cTup aNil))) (sRet (cCallP 0 m__law_chosen (aCons (cLst (aCons (cK .non) (aCons (cLst aNil) (aCons (cK (.int 0)) (aCons (cTup (aCons (cTup aNil) aNil)) (aCons (cTup (aCons (cK .non) aNil)) (aCons (cK (.str "")) (aCons (cNew true) aNil)))))))) aNil))) sNil) (sSeq (sAsg (cCallP 0 m__law_take (aCons (c1 gLen (cVar 1)) aNil)) (gN 2)) (sSeq (sAsg (c2 gIxA (cVar 1) (cVar 2)) (gT 2 (gCons' (gN 3) (gCons' (gN 4) gNil')))) (sSeq (sAsg (cLst (aCons (cTup (aCons (cVar 3) (aCons (cCallP 0 m__law_bent_weight aNil) aNil))) (aCons (cTup (aCons (cCallP 0 m__law_bent_grain (aCons (cVar 3) aNil)) (aCons (cVar 4) aNil))) (aCons (cLst (aCons (cVar 3) (aCons (cVar 4) aNil))) (aCons (cTup (aCons (cVar 3) aNil)) (aCons (cTup (aCons (cVar 3) (aCons (cVar 4) (aCons (cVar 4) aNil)))) (aCons (cTup (aCons (cVar 4) (aCons (cVar 3) aNil))) (aCons (cVar 3) (aCons (cK .non) aNil))))))))) (gN 5)) (sSeq (sAsg (c2 gAdd (c2 gAdd (cSl (cVar 1) oNone (oSome (cVar 2))) (cTup (aCons (cCallP 0 m__law_chosen (aCons (cVar 5) aNil)) aNil))) (cSl (cVar 1) (oSome (c2 gAdd (cVar 2) (cK (.int 1)))) oNone)) (gN 6)) (sRet (cCallP 0 m__law_chosen (aCons (cLst (aCons (cVar 6) (aCons (cVar 6) (aCons (cVar 6) (aCons (c1 gRev (cVar 1)) (aCons (c2 gAdd (cVar 1) (cSl (cVar 1) (oSome (c1 gNeg (cK (.int 1)))) oNone)) (aCons (c2 gAdd (cSl (cVar 1) oNone (oSome (cK (.int 1)))) (cVar 1)) (aCons (c1n gList (cVar 1)) (aCons (c2 gAdd (cVar 1) (cTup (aCons (cK .non) aNil))) (aCons (c2 gAdd (cSl (cVar 1) (oSome (cK (.int 1))) oNone) (cSl (cVar 1) oNone (oSome (cK (.int 1))))) (aCons (c2 gIxA (cVar 1) (cVar 2)) aNil))))))))))) aNil))))))))
def m__law_bent_line : Dat → List Dat → Option (Dat × Dat) := mP 2 7 b__law_bent_line
def b__law_bent_form : FS :=
  (sSeq (sAsg (cVar 1) (gT 2 (gCons' (gN 2) (gCons' (gN 3) gNil')))) (sSeq (sAsg (cLst (aCons (cTup (aCons (cCallP 0 m__law_bent_weight aNil) (aCons (cVar 3) aNil))) (aCons (cTup (aCons (cVar 2) (aCons (cCallP 0 m__law_bent_line (aCons (cVar 3) aNil)) aNil))) (aCons (cTup (aCons (cVar 2) (aCons (cCallP 0 m__law_bent_line (aCons (cVar 3) aNil)) aNil))) (aCons (cLst (aCons (cVar 2) (aCons (cVar 3) aNil))) (aCons (cTup (aCons (cVar 2) aNil)) (aCons (cTup (aCons (cVar 2) (aCons (cVar 3) (aCons (cK (.int 0)) aNil)))) aNil))))))) (gN 4)) (sRet (cCallP 0 m__law_chosen (aCons (c2 gAdd (cVar 4) (cLst (aCons (cTup (aCons (cVar 3) (aCons (cVar 2) aNil))) (aCons (cVar 3) (aCons (cVar 2) (aCons (cK .non) (aCons (cTup (aCons (cVar 2) (aCons (c1n gList (cVar 3)) aNil))) aNil))))))) aNil)))))
def m__law_bent_form : Dat → List Dat → Option (Dat × Dat) := mP 2 5 b__law_bent_form
def b__law_judged_right : FS :=
  (sSeq (sAsg (cCallP 0 m__law_line_of (aCons (cVar 1) aNil)) (gN 2)) (sSeq (sPar2 3 4 (cFz (cTup (aCons (cCallP 0 m__law_any_number aNil) (aCons (cVar 2) aNil)))) (cLst (aCons (c2 gIxA (cVar 1) (cK (.int 0))) (aCons (cVar 2) (aCons (cTup (aCons (cTup (aCons (cK (.int 0)) (aCons (cK (.int 1)) aNil))) (aCons (cTup aNil) aNil))) (aCons (cTup aNil) (aCons (cK .non) (aCons (cK (.bl true)) (aCons (cK (.int 0)) (aCons (cK (.str "x")) (aCons (cNew true) aNil))))))))))) (sSeq (sEx (cApp 4 (cVar 3))) (sSeq (sFor (iR1 (aCons (cK (.int 8)) aNil)) (gN 5) (sEx (cExt 4 (cLst (aCons (cCallP 0 m__law_bent_grain (aCons (cCallP 0 m__law_chosen (aCons (cVar 1) aNil)) aNil)) (aCons (cCallP 0 m__law_bent_line (aCons (cVar 2) aNil)) (aCons (cCallP 0 m__law_bent_form (aCons (cVar 3) aNil)) aNil))))))) (sFz 4 (sSeq (sFor (iSeq (cVar 4)) (gN 6) (sSeq (sAsg (cTup (aCons (cCall m__law_is_grain_of (aCons (cVar 6) aNil)) (aCons (cCall m__law_is_line_of (aCons (cVar 6) aNil)) (aCons (cCall m__law_is_form_of (aCons (cVar 6) aNil)) aNil)))) (gN 7)) (sIf (cNot (cB (cCall (m__law_same fuel) (aCons (cTup (aCons (cCall m_is_grain (aCons (cVar 6) aNil)) (aCons (cCall m_is_line (aCons (cVar 6) aNil)) (aCons (cCall m_is_form (aCons (cVar 6) aNil)) aNil)))) (aCons (cVar 7) aNil))))) (sRet (cK (.bl false))) sNil))) (sRet (cK (.bl true)))))))))
def m__law_judged_right : Dat → List Dat → Option (Dat × Dat) := mP 2 8 b__law_judged_right
def b_law : FS :=
  (sSeq (sOwn 1 (cCallN m__law_pool (aCons (cVar 0) (aCons (cK (.int 0)) aNil)))) (sSeq (sFor (iR1 (aCons (cK (.int 3)) aNil)) (gN 2) (sSeq (sAsg (cCallP 1 m__law_grains_any aNil) (gN 3)) (sIf (cOr (cNot (cB (cCallP 1 m__law_sums_right (aCons (cVar 3) aNil)))) (cOr (cNot (cB (cCallP 1 m__law_worths_right aNil))) (cNot (cB (cCallP 1 m__law_judged_right (aCons (cVar 3) aNil)))))) (sRet (cK (.bl false))) sNil))) (sSeq (sAsg (cTup (aCons (cTup (aCons (cK (.str "x")) (aCons (cTup (aCons (cK (.int 0)) aNil)) aNil))) (aCons (cTup (aCons (cK (.str "x")) (aCons (cTup (aCons (cK (.int 1)) aNil)) aNil))) aNil))) (gT 2 (gCons' (gN 4) (gCons' (gN 5) gNil')))) (sSeq (sPar2 6 7 (cFz (cTup (aCons (cTup (aCons (cK (.int 0)) (aCons (cK (.int 1)) aNil))) (aCons (cTup (aCons (cTup (aCons (cVar 4) (aCons (cTup (aCons (cK (.int 2)) (aCons (cK (.int 1)) aNil))) aNil))) (aCons (cTup (aCons (cVar 5) (aCons (cTup (aCons (cK (.int 1)) (aCons (cK (.int 1)) aNil))) aNil))) aNil))) aNil)))) (cFz (cTup (aCons (cTup (aCons (cK (.int 0)) (aCons (cK (.int 1)) aNil))) (aCons (cTup (aCons (cTup (aCons (cVar 4) (aCons (cTup (aCons (cK (.int 1)) (aCons (cK (.int 1)) aNil))) aNil))) (aCons (cTup (aCons (cVar 5) (aCons (cTup (aCons (cK (.int 1)) (aCons (cK (.int 1)) aNil))) aNil))) aNil))) aNil))))) (sSeq (sAsg (cTup (aCons (cCall m_form_minus (aCons (cVar 6) (aCons (cVar 7) aNil))) (aCons (cCall m_worth_of_form (aCons (cVar 6) (aCons (cDisK [((cK (.str "x")), (cDisN [((cTup (aCons (cK (.int 0)) aNil)), (cTup (aCons (cK (.int 5)) (aCons (cK (.int 1)) aNil)))), ((cTup (aCons (cK (.int 1)) aNil)), (cTup (aCons (cK (.int 7)) (aCons (cK (.int 1)) aNil)))), ((cTup (aCons (cK (.int 2)) aNil)), (cTup (aCons (cK (.int 2)) (aCons (cK (.int 1)) aNil))))]))]) aNil))) (aCons (cCall m_paired (aCons (c2 gIxA (cVar 6) (cK (.int 1))) (aCons (c2 gIxA (cVar 7) (cK (.int 1))) aNil))) (aCons (cCall m_cut (aCons (c2 gIxA (cVar 6) (cK (.int 1))) (aCons (cTup (aCons (cVar 5) aNil)) aNil))) aNil))))) (gN 8)) (sRet (cCall (m__law_same fuel) (aCons (cVar 8) (aCons (cTup (aCons (cTup (aCons (cTup (aCons (cK (.int 0)) (aCons (cK (.int 1)) aNil))) (aCons (cTup (aCons (cTup (aCons (cVar 4) (aCons (cTup (aCons (cK (.int 1)) (aCons (cK (.int 1)) aNil))) aNil))) aNil)) aNil))) (aCons (cTup (aCons (cK (.int 17)) (aCons (cK (.int 1)) aNil))) (aCons (cTup (aCons (cK (.int 3)) (aCons (cK (.int 1)) aNil))) (aCons (cTup (aCons (cTup (aCons (cVar 5) (aCons (cTup (aCons (cK (.int 1)) (aCons (cK (.int 1)) aNil))) aNil))) aNil)) aNil))))) aNil)))))))))
def m_law : List Dat → Option Dat := mA 1 9 b_law
end Dl

set_option Elab.async false
set_option linter.all false
set_option maxRecDepth 100000
set_option maxHeartbeats 4000000
/-! the defs of the package as functions of data (printed by gen.py) -/
namespace Dl
open PySem PySem.Spec PyProof.Rows L2
def top (i : Nat) : Stmt := PySem.Challenge.pw_fewestsent_k02_lines_and_forms_reckoned.main.body.getD i (.Pass ⟨0, 0, 0, 0⟩)
abbrev s_is_whole : Stmt := top 1
abbrev s_divisor_of : Stmt := top 2
abbrev s_is_number : Stmt := top 3
abbrev s_lowest : Stmt := top 4
abbrev s_plus : Stmt := top 5
abbrev s_times : Stmt := top 6
abbrev s_is_name : Stmt := top 10
abbrev s_is_grain : Stmt := top 14
abbrev s_is_part : Stmt := top 15
abbrev s_is_line : Stmt := top 16
abbrev s_is_form : Stmt := top 17
abbrev s_as_dict : Stmt := top 18
abbrev s_as_line : Stmt := top 19
abbrev s_line_plus : Stmt := top 20
abbrev s_line_times : Stmt := top 21
abbrev s_cut : Stmt := top 22
abbrev s_weight_in : Stmt := top 23
abbrev s_paired : Stmt := top 24
abbrev s_form_plus : Stmt := top 25
abbrev s_form_times : Stmt := top 26
abbrev s_form_minus : Stmt := top 27
abbrev s_worth_of_form : Stmt := top 28
abbrev s__law_pool : Stmt := top 30
abbrev s__law_take : Stmt := top 31
abbrev s__law_is_whole : Stmt := top 32
abbrev s__law_same : Stmt := top 33
abbrev s__law_shared_part : Stmt := top 34
abbrev s__law_is_number_of : Stmt := top 35
abbrev s__law_is_name_of : Stmt := top 36
abbrev s__law_is_cell_form : Stmt := top 37
abbrev s__law_is_grain_of : Stmt := top 38
abbrev s__law_are_rising : Stmt := top 39
abbrev s__law_is_line_of : Stmt := top 40
abbrev s__law_is_form_of : Stmt := top 41
abbrev s__law_nr : Stmt := top 42
abbrev s__law_nr_plus : Stmt := top 43
abbrev s__law_nr_times : Stmt := top 44
abbrev s__law_line_from : Stmt := top 45
abbrev s__law_line_plus : Stmt := top 46
abbrev s__law_line_times : Stmt := top 47
abbrev s__law_line_cut : Stmt := top 48
abbrev s__law_weight : Stmt := top 49
abbrev s__law_line_pair : Stmt := top 50
abbrev s__law_fm_plus : Stmt := top 51
abbrev s__law_fm_times : Stmt := top 52
abbrev s__law_fm_less : Stmt := top 53
abbrev s__law_line_worth : Stmt := top 54
abbrev s__law_fm_worth : Stmt := top 55
abbrev s__law_chosen : Stmt := top 56
abbrev s__law_number_drawn : Stmt := top 57
abbrev s__law_factor_drawn : Stmt := top 58
abbrev s__law_any_number : Stmt := top 59
abbrev s__law_some_weight : Stmt := top 60
abbrev s__law_grains_any : Stmt := top 61
abbrev s__law_line_of : Stmt := top 62
abbrev s__law_sums_right : Stmt := top 63
abbrev s__law_arrays_drawn : Stmt := top 64
abbrev s__law_worths_right : Stmt := top 65
abbrev s__law_bent_grain : Stmt := top 66
abbrev s__law_bent_weight : Stmt := top 67
abbrev s__law_bent_line : Stmt := top 68
abbrev s__law_bent_form : Stmt := top 69
abbrev s__law_judged_right : Stmt := top 70
abbrev s_law : Stmt := top 71
structure Glo (K : PySem.W.Frag) (mg : Str → Option Value) : Prop where
  h_is_whole : Has K mg "is_whole" s_is_whole
  h_divisor_of : Has K mg "divisor_of" s_divisor_of
  h_is_number : Has K mg "is_number" s_is_number
  h_lowest : Has K mg "lowest" s_lowest
  h_plus : Has K mg "plus" s_plus
  h_times : Has K mg "times" s_times
  h_is_name : Has K mg "is_name" s_is_name
  h_is_grain : Has K mg "is_grain" s_is_grain
  h_is_part : Has K mg "is_part" s_is_part
  h_is_line : Has K mg "is_line" s_is_line
  h_is_form : Has K mg "is_form" s_is_form
  h_as_dict : Has K mg "as_dict" s_as_dict
  h_as_line : Has K mg "as_line" s_as_line
  h_line_plus : Has K mg "line_plus" s_line_plus
  h_line_times : Has K mg "line_times" s_line_times
  h_cut : Has K mg "cut" s_cut
  h_weight_in : Has K mg "weight_in" s_weight_in
  h_paired : Has K mg "paired" s_paired
  h_form_plus : Has K mg "form_plus" s_form_plus
  h_form_times : Has K mg "form_times" s_form_times
  h_form_minus : Has K mg "form_minus" s_form_minus
  h_worth_of_form : Has K mg "worth_of_form" s_worth_of_form
  h__law_pool : Has K mg "_law_pool" s__law_pool
  h__law_take : Has K mg "_law_take" s__law_take
  h__law_is_whole : Has K mg "_law_is_whole" s__law_is_whole
  h__law_same : Has K mg "_law_same" s__law_same
  h__law_shared_part : Has K mg "_law_shared_part" s__law_shared_part
  h__law_is_number_of : Has K mg "_law_is_number_of" s__law_is_number_of
  h__law_is_name_of : Has K mg "_law_is_name_of" s__law_is_name_of
  h__law_is_cell_form : Has K mg "_law_is_cell_form" s__law_is_cell_form
  h__law_is_grain_of : Has K mg "_law_is_grain_of" s__law_is_grain_of
  h__law_are_rising : Has K mg "_law_are_rising" s__law_are_rising
  h__law_is_line_of : Has K mg "_law_is_line_of" s__law_is_line_of
  h__law_is_form_of : Has K mg "_law_is_form_of" s__law_is_form_of
  h__law_nr : Has K mg "_law_nr" s__law_nr
  h__law_nr_plus : Has K mg "_law_nr_plus" s__law_nr_plus
  h__law_nr_times : Has K mg "_law_nr_times" s__law_nr_times
  h__law_line_from : Has K mg "_law_line_from" s__law_line_from
  h__law_line_plus : Has K mg "_law_line_plus" s__law_line_plus
  h__law_line_times : Has K mg "_law_line_times" s__law_line_times
  h__law_line_cut : Has K mg "_law_line_cut" s__law_line_cut
  h__law_weight : Has K mg "_law_weight" s__law_weight
  h__law_line_pair : Has K mg "_law_line_pair" s__law_line_pair
  h__law_fm_plus : Has K mg "_law_fm_plus" s__law_fm_plus
  h__law_fm_times : Has K mg "_law_fm_times" s__law_fm_times
  h__law_fm_less : Has K mg "_law_fm_less" s__law_fm_less
  h__law_line_worth : Has K mg "_law_line_worth" s__law_line_worth
  h__law_fm_worth : Has K mg "_law_fm_worth" s__law_fm_worth
  h__law_chosen : Has K mg "_law_chosen" s__law_chosen
  h__law_number_drawn : Has K mg "_law_number_drawn" s__law_number_drawn
  h__law_factor_drawn : Has K mg "_law_factor_drawn" s__law_factor_drawn
  h__law_any_number : Has K mg "_law_any_number" s__law_any_number
  h__law_some_weight : Has K mg "_law_some_weight" s__law_some_weight
  h__law_grains_any : Has K mg "_law_grains_any" s__law_grains_any
  h__law_line_of : Has K mg "_law_line_of" s__law_line_of
  h__law_sums_right : Has K mg "_law_sums_right" s__law_sums_right
  h__law_arrays_drawn : Has K mg "_law_arrays_drawn" s__law_arrays_drawn
  h__law_worths_right : Has K mg "_law_worths_right" s__law_worths_right
  h__law_bent_grain : Has K mg "_law_bent_grain" s__law_bent_grain
  h__law_bent_weight : Has K mg "_law_bent_weight" s__law_bent_weight
  h__law_bent_line : Has K mg "_law_bent_line" s__law_bent_line
  h__law_bent_form : Has K mg "_law_bent_form" s__law_bent_form
  h__law_judged_right : Has K mg "_law_judged_right" s__law_judged_right
  f_abs : mg "abs" = none
  f_all : mg "all" = none
  f_bool : mg "bool" = none
  f_dict : mg "dict" = none
  f_int : mg "int" = none
  f_isinstance : mg "isinstance" = none
  f_len : mg "len" = none
  f_list : mg "list" = none
  f_max : mg "max" = none
  f_range : mg "range" = none
  f_sorted : mg "sorted" = none
  f_str : mg "str" = none
  f_tuple : mg "tuple" = none
  f_zip : mg "zip" = none
  g_LETTERS : ∃ t, mg "LETTERS" = some (.str "abcdefghijklmnopqrstuvwxyz" t)
  g_MOST_RANK : ∃ t, mg "MOST_RANK" = some (.int 3 t)
  g_NOUGHT : mg "NOUGHT" = some (.ref (He.ga K "NOUGHT")) ∧ plB K "NOUGHT" [V.int (0), V.int (1)] = true
  g_LESS_ONE : mg "LESS_ONE" = some (.ref (He.ga K "LESS_ONE")) ∧ plB K "LESS_ONE" [V.int (-1), V.int (1)] = true
section
variable {P : Program} {w : World} {K : PySem.W.Frag} {mg : Str → Option Value} {base : Heap}
theorem S_is_whole : FnScope ["thing"] ["thing"] (defScope s_is_whole) := ⟨rfl, rfl, rfl, by decide +kernel, rfl, by decide +kernel, by decide +kernel⟩
theorem S_divisor_of : FnScope ["one", "other"] ["one", "other"] (defScope s_divisor_of) := ⟨rfl, rfl, rfl, by decide +kernel, rfl, by decide +kernel, by decide +kernel⟩
theorem S_is_number : FnScope ["thing", "one", "top", "bottom"] ["thing"] (defScope s_is_number) := ⟨rfl, rfl, rfl, by decide +kernel, rfl, by decide +kernel, by decide +kernel⟩
theorem S_lowest : FnScope ["top", "bottom", "by"] ["top", "bottom"] (defScope s_lowest) := ⟨rfl, rfl, rfl, by decide +kernel, rfl, by decide +kernel, by decide +kernel⟩
theorem S_plus : FnScope ["one", "other"] ["one", "other"] (defScope s_plus) := ⟨rfl, rfl, rfl, by decide +kernel, rfl, by decide +kernel, by decide +kernel⟩
theorem S_times : FnScope ["one", "other"] ["one", "other"] (defScope s_times) := ⟨rfl, rfl, rfl, by decide +kernel, rfl, by decide +kernel, by decide +kernel⟩
theorem S_is_name : FnScope ["thing", "sign"] ["thing"] (defScope s_is_name) := ⟨rfl, rfl, rfl, by decide +kernel, rfl, by decide +kernel, by decide +kernel⟩
theorem S_is_grain : FnScope ["thing", "one"] ["thing"] (defScope s_is_grain) := ⟨rfl, rfl, rfl, by decide +kernel, rfl, by decide +kernel, by decide +kernel⟩
theorem S_is_part : FnScope ["thing"] ["thing"] (defScope s_is_part) := ⟨rfl, rfl, rfl, by decide +kernel, rfl, by decide +kernel, by decide +kernel⟩
theorem S_is_line : FnScope ["thing", "part", "one", "other"] ["thing"] (defScope s_is_line) := ⟨rfl, rfl, rfl, by decide +kernel, rfl, by decide +kernel, by decide +kernel⟩
theorem S_is_form : FnScope ["thing"] ["thing"] (defScope s_is_form) := ⟨rfl, rfl, rfl, by decide +kernel, rfl, by decide +kernel, by decide +kernel⟩
theorem S_as_dict : FnScope ["line", "grain", "weight"] ["line"] (defScope s_as_dict) := ⟨rfl, rfl, rfl, by decide +kernel, rfl, by decide +kernel, by decide +kernel⟩
theorem S_as_line : FnScope ["table", "grain"] ["table"] (defScope s_as_line) := ⟨rfl, rfl, rfl, by decide +kernel, rfl, by decide +kernel, by decide +kernel⟩
theorem S_line_plus : FnScope ["one", "other", "found", "grain", "weight"] ["one", "other"] (defScope s_line_plus) := ⟨rfl, rfl, rfl, by decide +kernel, rfl, by decide +kernel, by decide +kernel⟩
theorem S_line_times : FnScope ["line", "number", "grain", "weight"] ["line", "number"] (defScope s_line_times) := ⟨rfl, rfl, rfl, by decide +kernel, rfl, by decide +kernel, by decide +kernel⟩
theorem S_cut : FnScope ["line", "grains", "kept", "grain", "weight"] ["line", "grains"] (defScope s_cut) := ⟨rfl, rfl, rfl, by decide +kernel, rfl, by decide +kernel, by decide +kernel⟩
theorem S_weight_in : FnScope ["line", "grain"] ["line", "grain"] (defScope s_weight_in) := ⟨rfl, rfl, rfl, by decide +kernel, rfl, by decide +kernel, by decide +kernel⟩
theorem S_paired : FnScope ["one", "other", "table", "found", "grain", "weight"] ["one", "other"] (defScope s_paired) := ⟨rfl, rfl, rfl, by decide +kernel, rfl, by decide +kernel, by decide +kernel⟩
theorem S_form_plus : FnScope ["one", "other"] ["one", "other"] (defScope s_form_plus) := ⟨rfl, rfl, rfl, by decide +kernel, rfl, by decide +kernel, by decide +kernel⟩
theorem S_form_times : FnScope ["form", "number"] ["form", "number"] (defScope s_form_times) := ⟨rfl, rfl, rfl, by decide +kernel, rfl, by decide +kernel, by decide +kernel⟩
theorem S_form_minus : FnScope ["one", "other"] ["one", "other"] (defScope s_form_minus) := ⟨rfl, rfl, rfl, by decide +kernel, rfl, by decide +kernel, by decide +kernel⟩
theorem S_worth_of_form : FnScope ["form", "inputs", "found", "weight", "name", "cell"] ["form", "inputs"] (defScope s_worth_of_form) := ⟨rfl, rfl, rfl, by decide +kernel, rfl, by decide +kernel, by decide +kernel⟩
theorem S__law_pool : FnScope ["script", "k", "cell", "great", "stirred"] ["script", "k"] (defScope s__law_pool) := ⟨rfl, rfl, rfl, by decide +kernel, rfl, by decide +kernel, by decide +kernel⟩
theorem S__law_take : FnScope ["pool", "many", "found"] ["pool", "many"] (defScope s__law_take) := ⟨rfl, rfl, rfl, by decide +kernel, rfl, by decide +kernel, by decide +kernel⟩
theorem S__law_is_whole : FnScope ["thing"] ["thing"] (defScope s__law_is_whole) := ⟨rfl, rfl, rfl, by decide +kernel, rfl, by decide +kernel, by decide +kernel⟩
theorem S__law_same : FnScope ["told", "owed", "key", "at"] ["told", "owed"] (defScope s__law_same) := ⟨rfl, rfl, rfl, by decide +kernel, rfl, by decide +kernel, by decide +kernel⟩
theorem S__law_shared_part : FnScope ["one", "two"] ["one", "two"] (defScope s__law_shared_part) := ⟨rfl, rfl, rfl, by decide +kernel, rfl, by decide +kernel, by decide +kernel⟩
theorem S__law_is_number_of : FnScope ["thing"] ["thing"] (defScope s__law_is_number_of) := ⟨rfl, rfl, rfl, by decide +kernel, rfl, by decide +kernel, by decide +kernel⟩
theorem S__law_is_name_of : FnScope ["thing", "sign"] ["thing"] (defScope s__law_is_name_of) := ⟨rfl, rfl, rfl, by decide +kernel, rfl, by decide +kernel, by decide +kernel⟩
theorem S__law_is_cell_form : FnScope ["thing", "one"] ["thing"] (defScope s__law_is_cell_form) := ⟨rfl, rfl, rfl, by decide +kernel, rfl, by decide +kernel, by decide +kernel⟩
theorem S__law_is_grain_of : FnScope ["thing"] ["thing"] (defScope s__law_is_grain_of) := ⟨rfl, rfl, rfl, by decide +kernel, rfl, by decide +kernel, by decide +kernel⟩
theorem S__law_are_rising : FnScope ["things", "at"] ["things"] (defScope s__law_are_rising) := ⟨rfl, rfl, rfl, by decide +kernel, rfl, by decide +kernel, by decide +kernel⟩
theorem S__law_is_line_of : FnScope ["thing", "one", "grain", "weight"] ["thing"] (defScope s__law_is_line_of) := ⟨rfl, rfl, rfl, by decide +kernel, rfl, by decide +kernel, by decide +kernel⟩
theorem S__law_is_form_of : FnScope ["thing"] ["thing"] (defScope s__law_is_form_of) := ⟨rfl, rfl, rfl, by decide +kernel, rfl, by decide +kernel, by decide +kernel⟩
theorem S__law_nr : FnScope ["top", "bottom", "one", "two", "sign"] ["top", "bottom"] (defScope s__law_nr) := ⟨rfl, rfl, rfl, by decide +kernel, rfl, by decide +kernel, by decide +kernel⟩
theorem S__law_nr_plus : FnScope ["one", "other"] ["one", "other"] (defScope s__law_nr_plus) := ⟨rfl, rfl, rfl, by decide +kernel, rfl, by decide +kernel, by decide +kernel⟩
theorem S__law_nr_times : FnScope ["one", "other"] ["one", "other"] (defScope s__law_nr_times) := ⟨rfl, rfl, rfl, by decide +kernel, rfl, by decide +kernel, by decide +kernel⟩
theorem S__law_line_from : FnScope ["weights", "grain"] ["weights"] (defScope s__law_line_from) := ⟨rfl, rfl, rfl, by decide +kernel, rfl, by decide +kernel, by decide +kernel⟩
theorem S__law_line_plus : FnScope ["one", "other", "weights", "grain", "weight"] ["one", "other"] (defScope s__law_line_plus) := ⟨rfl, rfl, rfl, by decide +kernel, rfl, by decide +kernel, by decide +kernel⟩
theorem S__law_line_times : FnScope ["line", "much", "grain", "weight"] ["line", "much"] (defScope s__law_line_times) := ⟨rfl, rfl, rfl, by decide +kernel, rfl, by decide +kernel, by decide +kernel⟩
theorem S__law_line_cut : FnScope ["line", "grains", "part"] ["line", "grains"] (defScope s__law_line_cut) := ⟨rfl, rfl, rfl, by decide +kernel, rfl, by decide +kernel, by decide +kernel⟩
theorem S__law_weight : FnScope ["line", "grain"] ["line", "grain"] (defScope s__law_weight) := ⟨rfl, rfl, rfl, by decide +kernel, rfl, by decide +kernel, by decide +kernel⟩
theorem S__law_line_pair : FnScope ["one", "other", "weights", "found", "grain", "weight"] ["one", "other"] (defScope s__law_line_pair) := ⟨rfl, rfl, rfl, by decide +kernel, rfl, by decide +kernel, by decide +kernel⟩
theorem S__law_fm_plus : FnScope ["one", "other"] ["one", "other"] (defScope s__law_fm_plus) := ⟨rfl, rfl, rfl, by decide +kernel, rfl, by decide +kernel, by decide +kernel⟩
theorem S__law_fm_times : FnScope ["form", "much"] ["form", "much"] (defScope s__law_fm_times) := ⟨rfl, rfl, rfl, by decide +kernel, rfl, by decide +kernel, by decide +kernel⟩
theorem S__law_fm_less : FnScope ["one", "other"] ["one", "other"] (defScope s__law_fm_less) := ⟨rfl, rfl, rfl, by decide +kernel, rfl, by decide +kernel, by decide +kernel⟩
theorem S__law_line_worth : FnScope ["line", "inputs", "found", "weight", "name", "cell"] ["line", "inputs"] (defScope s__law_line_worth) := ⟨rfl, rfl, rfl, by decide +kernel, rfl, by decide +kernel, by decide +kernel⟩
theorem S__law_fm_worth : FnScope ["form", "inputs"] ["form", "inputs"] (defScope s__law_fm_worth) := ⟨rfl, rfl, rfl, by decide +kernel, rfl, by decide +kernel, by decide +kernel⟩
theorem S__law_chosen : FnScope ["pool", "things"] ["pool", "things"] (defScope s__law_chosen) := ⟨rfl, rfl, rfl, by decide +kernel, rfl, by decide +kernel, by decide +kernel⟩
theorem S__law_number_drawn : FnScope ["pool", "form"] ["pool"] (defScope s__law_number_drawn) := ⟨rfl, rfl, rfl, by decide +kernel, rfl, by decide +kernel, by decide +kernel⟩
theorem S__law_factor_drawn : FnScope ["pool"] ["pool"] (defScope s__law_factor_drawn) := ⟨rfl, rfl, rfl, by decide +kernel, rfl, by decide +kernel, by decide +kernel⟩
theorem S__law_any_number : FnScope ["pool", "great", "some"] ["pool"] (defScope s__law_any_number) := ⟨rfl, rfl, rfl, by decide +kernel, rfl, by decide +kernel, by decide +kernel⟩
theorem S__law_some_weight : FnScope ["pool", "much"] ["pool"] (defScope s__law_some_weight) := ⟨rfl, rfl, rfl, by decide +kernel, rfl, by decide +kernel, by decide +kernel⟩
theorem S__law_grains_any : FnScope ["pool", "names", "found", "go", "cell", "axis"] ["pool"] (defScope s__law_grains_any) := ⟨rfl, rfl, rfl, by decide +kernel, rfl, by decide +kernel, by decide +kernel⟩
theorem S__law_line_of : FnScope ["pool", "grains", "grain"] ["pool", "grains"] (defScope s__law_line_of) := ⟨rfl, rfl, rfl, by decide +kernel, rfl, by decide +kernel, by decide +kernel⟩
theorem S__law_sums_right : FnScope ["pool", "grains", "one", "other", "much", "some", "grain", "both", "told", "const", "base", "first", "second", "owed"] ["pool", "grains"] (defScope s__law_sums_right) := ⟨rfl, rfl, rfl, by decide +kernel, rfl, by decide +kernel, by decide +kernel⟩
theorem S__law_arrays_drawn : FnScope ["pool", "found", "name", "cells", "axis", "cell", "size", "longer", "at"] ["pool"] (defScope s__law_arrays_drawn) := ⟨rfl, rfl, rfl, by decide +kernel, rfl, by decide +kernel, by decide +kernel⟩
theorem S__law_worths_right : FnScope ["pool", "inputs", "grains", "name", "cell", "one", "other", "first", "second", "told", "owed"] ["pool"] (defScope s__law_worths_right) := ⟨rfl, rfl, rfl, by decide +kernel, rfl, by decide +kernel, by decide +kernel⟩
theorem S__law_bent_grain : FnScope ["pool", "grain", "name", "cell", "some"] ["pool", "grain"] (defScope s__law_bent_grain) := ⟨rfl, rfl, rfl, by decide +kernel, rfl, by decide +kernel, by decide +kernel⟩
theorem S__law_bent_weight : FnScope ["pool"] ["pool"] (defScope s__law_bent_weight) := ⟨rfl, rfl, rfl, by decide +kernel, rfl, by decide +kernel, by decide +kernel⟩
theorem S__law_bent_line : FnScope ["pool", "line", "at", "grain", "much", "some", "turned"] ["pool", "line"] (defScope s__law_bent_line) := ⟨rfl, rfl, rfl, by decide +kernel, rfl, by decide +kernel, by decide +kernel⟩
theorem S__law_bent_form : FnScope ["pool", "form", "const", "line", "some"] ["pool", "form"] (defScope s__law_bent_form) := ⟨rfl, rfl, rfl, by decide +kernel, rfl, by decide +kernel, by decide +kernel⟩
theorem S__law_judged_right : FnScope ["pool", "grains", "line", "form", "some", "go", "thing", "owed"] ["pool", "grains"] (defScope s__law_judged_right) := ⟨rfl, rfl, rfl, by decide +kernel, rfl, by decide +kernel, by decide +kernel⟩
theorem S_law : FnScope ["script", "pool", "go", "grains", "x0", "x1", "q1", "s1", "told"] ["script"] (defScope s_law) := ⟨rfl, rfl, rfl, by decide +kernel, rfl, by decide +kernel, by decide +kernel⟩
theorem c_is_whole (G : Glo K mg) : Cal P w K mg base "is_whole" 1 (spA P w K m_is_whole) := by
  exact mkA (k := 0) (f := b_is_whole) G.h_is_whole S_is_whole (by decide) (fun f fd F => F.bindsN fun _ _ _ _ _ _ us hl => match us, hl with | [_], _ => rfl)
    (fun a cdv A outer s H E hr => (dss_one (ds_ret (de_and (de_isi (T := "int") (by decide +kernel) (by rfl) G.f_isinstance (nv 0) (by rfl) G.f_int (by decide +kernel)) (de_one (de_not (de_isi (T := "bool") (by decide +kernel) (by rfl) G.f_isinstance (nv 0) (by rfl) G.f_bool (by decide +kernel))))))))
theorem c_divisor_of (G : Glo K mg) : Cal P w K mg base "divisor_of" 1 (spA P w K m_divisor_of) := by
  exact mkA (k := 0) (f := b_divisor_of) G.h_divisor_of S_divisor_of (by decide) (fun f fd F => F.bindsN fun _ _ _ _ _ _ us hl => match us, hl with | [_, _], _ => rfl)
    (fun a cdv A outer s H E hr => (dss_cons (ds_while (muI 1) PassesOwn.never (dt_cmp (do_ne hr.units) (nv 1) de_int (by rfl)) (dss_one (ds_par2 rfl S_divisor_of.nd rfl rfl (by decide) rfl rfl (de_fz (nv 1)) (de_fz (de_op do_mod (nv 0) (nv 1))) (by rfl))))
    (dss_one (ds_ret (de_cb1 dc_abs (by rfl) G.f_abs (by decide +kernel) (nv 0))))))
theorem c_is_number (G : Glo K mg) : Cal P w K mg base "is_number" 2 (spA P w K m_is_number) := by
  have C_divisor_of : Cal P w K mg base "divisor_of" 1 (spA P w K m_divisor_of) := c_divisor_of G
  have C_is_whole : Cal P w K mg base "is_whole" 1 (spA P w K m_is_whole) := c_is_whole G
  exact mkA (k := 1) (f := b_is_number) G.h_is_number S_is_number (by decide) (fun f fd F => F.bindsN fun _ _ _ _ _ _ us hl => match us, hl with | [_], _ => rfl)
    (fun a cdv A outer s H E hr => (dss_cons (ds_if (dt_w (dw_or (dt_not (dt_val (de_isi (T := "tuple") (by decide +kernel) (by rfl) G.f_isinstance (nv 0) (by rfl) G.f_tuple (by decide +kernel)))) (dw_or (dt_cmp (do_ne hr.units) (de_cb1 dc_len (by rfl) G.f_len (by decide +kernel) (nv 0)) de_int (by rfl)) (dw_or1 (dt_not (dt_val (de_cb1 (dc_all (by rfl)) (by rfl) G.f_all (by decide +kernel) (de_lc rfl S_is_number.nd (di_seq (nv 0)) (blk_ok (own := [("one", 1)]) (by kernel_rfl)) (by decide) (fun _ _ _ _ _ => (gv 1 S_is_number.nd)) (fun _ _ _ _ _ => dts_nil) (fun _ _ _ _ _ => (de_call C_is_whole hr (by omega) (by rfl) (da_cons (nv 1) da_nil))))))))))) (dss_one (ds_ret de_bl)) dss_nil)
    (dss_cons (ds_asg (nv 0) (dg_t rfl (dgs_cons (gv 2 S_is_number.nd) (dgs_cons (gv 3 S_is_number.nd) dgs_nil))))
    (dss_one (ds_ret (de_and (de_cmp do_ge (nv 3) de_int (by rfl)) (de_one (de_cmp (do_eq hr.units) (de_call C_divisor_of hr (by omega) (by rfl) (da_cons (nv 2) (da_cons (nv 3) da_nil))) de_int (by rfl)))))))))
theorem c_lowest (G : Glo K mg) : Cal P w K mg base "lowest" 2 (spA P w K m_lowest) := by
  have C_divisor_of : Cal P w K mg base "divisor_of" 1 (spA P w K m_divisor_of) := c_divisor_of G
  exact mkA (k := 1) (f := b_lowest) G.h_lowest S_lowest (by decide) (fun f fd F => F.bindsN fun _ _ _ _ _ _ us hl => match us, hl with | [_, _], _ => rfl)
    (fun a cdv A outer s H E hr => (dss_cons (dset 2 S_lowest.nd (de_if (dt_cmp do_gt (nv 1) de_int (by rfl)) (de_call C_divisor_of hr (by omega) (by rfl) (da_cons (nv 0) (da_cons (nv 1) da_nil))) (de_un du_neg (de_call C_divisor_of hr (by omega) (by rfl) (da_cons (nv 0) (da_cons (nv 1) da_nil))))))
    (dss_one (ds_ret (de_tup (da_cons (de_op do_fdiv (nv 0) (nv 2)) (da_cons (de_op do_fdiv (nv 1) (nv 2)) da_nil)))))))
theorem c_plus (G : Glo K mg) : Cal P w K mg base "plus" 3 (spA P w K m_plus) := by
  have C_lowest : Cal P w K mg base "lowest" 2 (spA P w K m_lowest) := c_lowest G
  exact mkA (k := 2) (f := b_plus) G.h_plus S_plus (by decide) (fun f fd F => F.bindsN fun _ _ _ _ _ _ us hl => match us, hl with | [_, _], _ => rfl)
    (fun a cdv A outer s H E hr => (dss_one (ds_ret (de_call C_lowest hr (by omega) (by rfl) (da_cons (de_op do_add (de_op do_mul (de_ix (dx_ixA (hu100 hr)) (nv 0) de_int (by intro _ _; rfl)) (de_ix (dx_ixA (hu100 hr)) (nv 1) de_int (by intro _ _; rfl))) (de_op do_mul (de_ix (dx_ixA (hu100 hr)) (nv 1) de_int (by intro _ _; rfl)) (de_ix (dx_ixA (hu100 hr)) (nv 0) de_int (by intro _ _; rfl)))) (da_cons (de_op do_mul (de_ix (dx_ixA (hu100 hr)) (nv 0) de_int (by intro _ _; rfl)) (de_ix (dx_ixA (hu100 hr)) (nv 1) de_int (by intro _ _; rfl))) da_nil))))))
theorem c_times (G : Glo K mg) : Cal P w K mg base "times" 3 (spA P w K m_times) := by
  have C_lowest : Cal P w K mg base "lowest" 2 (spA P w K m_lowest) := c_lowest G
  exact mkA (k := 2) (f := b_times) G.h_times S_times (by decide) (fun f fd F => F.bindsN fun _ _ _ _ _ _ us hl => match us, hl with | [_, _], _ => rfl)
    (fun a cdv A outer s H E hr => (dss_one (ds_ret (de_call C_lowest hr (by omega) (by rfl) (da_cons (de_op do_mul (de_ix (dx_ixA (hu100 hr)) (nv 0) de_int (by intro _ _; rfl)) (de_ix (dx_ixA (hu100 hr)) (nv 1) de_int (by intro _ _; rfl))) (da_cons (de_op do_mul (de_ix (dx_ixA (hu100 hr)) (nv 0) de_int (by intro _ _; rfl)) (de_ix (dx_ixA (hu100 hr)) (nv 1) de_int (by intro _ _; rfl))) da_nil))))))
theorem c_is_name (G : Glo K mg) : Cal P w K mg base "is_name" 1 (spA P w K m_is_name) := by
  exact mkA (k := 0) (f := b_is_name) G.h_is_name S_is_name (by decide) (fun f fd F => F.bindsN fun _ _ _ _ _ _ us hl => match us, hl with | [_], _ => rfl)
    (fun a cdv A outer s H E hr => (dss_one (ds_ret (de_and (de_isi (T := "str") (by decide +kernel) (by rfl) G.f_isinstance (nv 0) (by rfl) G.f_str (by decide +kernel)) (de_and (de_chain do_le do_le de_int (de_cb1 dc_len (by rfl) G.f_len (by decide +kernel) (nv 0)) de_int) (de_one (de_cb1 (dc_all (by rfl)) (by rfl) G.f_all (by decide +kernel) (de_lc rfl S_is_name.nd (di_str (nv 0)) (blk_ok (own := [("sign", 1)]) (by kernel_rfl)) (by decide) (fun _ _ _ _ _ => (gv 1 S_is_name.nd)) (fun _ _ _ _ _ => dts_nil) (fun _ _ _ _ _ => (de_cmp (do_inA (hu200 hr)) (nv 1) (G.g_LETTERS.elim fun t ht => de_glo (v := .str "abcdefghijklmnopqrstuvwxyz") (by rfl) ht ⟨t, rfl⟩ fun _ => .str _) (by rfl)))))))))))
theorem c_is_grain (G : Glo K mg) : Cal P w K mg base "is_grain" 2 (spA P w K m_is_grain) := by
  have C_is_name : Cal P w K mg base "is_name" 1 (spA P w K m_is_name) := c_is_name G
  have C_is_whole : Cal P w K mg base "is_whole" 1 (spA P w K m_is_whole) := c_is_whole G
  exact mkA (k := 1) (f := b_is_grain) G.h_is_grain S_is_grain (by decide) (fun f fd F => F.bindsN fun _ _ _ _ _ _ us hl => match us, hl with | [_], _ => rfl)
    (fun a cdv A outer s H E hr => (dss_cons (ds_if (dt_w (dw_or (dt_not (dt_val (de_isi (T := "tuple") (by decide +kernel) (by rfl) G.f_isinstance (nv 0) (by rfl) G.f_tuple (by decide +kernel)))) (dw_or (dt_cmp (do_ne hr.units) (de_cb1 dc_len (by rfl) G.f_len (by decide +kernel) (nv 0)) de_int (by rfl)) (dw_or1 (dt_not (dt_val (de_call C_is_name hr (by omega) (by rfl) (da_cons (de_ix (dx_ixA (hu100 hr)) (nv 0) de_int (by intro _ _; rfl)) da_nil)))))))) (dss_one (ds_ret de_bl)) dss_nil)
    (dss_cons (ds_if (dt_w (dw_or (dt_not (dt_val (de_isi (T := "tuple") (by decide +kernel) (by rfl) G.f_isinstance (de_ix (dx_ixA (hu100 hr)) (nv 0) de_int (by intro _ _; rfl)) (by rfl) G.f_tuple (by decide +kernel)))) (dw_or1 (dt_cmp do_gt (de_cb1 dc_len (by rfl) G.f_len (by decide +kernel) (de_ix (dx_ixA (hu100 hr)) (nv 0) de_int (by intro _ _; rfl))) (G.g_MOST_RANK.elim fun t ht => de_glo (v := .int 3) (by rfl) ht ⟨t, rfl⟩ fun _ => .int _) (by rfl))))) (dss_one (ds_ret de_bl)) dss_nil)
    (dss_one (ds_ret (de_cb1 (dc_all (by rfl)) (by rfl) G.f_all (by decide +kernel) (de_lc rfl S_is_grain.nd (di_seq (de_ix (dx_ixA (hu100 hr)) (nv 0) de_int (by intro _ _; rfl))) (blk_ok (own := [("one", 1)]) (by kernel_rfl)) (by decide) (fun _ _ _ _ _ => (gv 1 S_is_grain.nd)) (fun _ _ _ _ _ => dts_nil) (fun _ _ _ _ _ => (de_and (de_call C_is_whole hr (by omega) (by rfl) (da_cons (nv 1) da_nil)) (de_one (de_cmp do_ge (nv 1) de_int (by rfl))))))))))))
theorem c_is_part (G : Glo K mg) : Cal P w K mg base "is_part" 3 (spA P w K m_is_part) := by
  have C_is_grain : Cal P w K mg base "is_grain" 2 (spA P w K m_is_grain) := c_is_grain G
  have C_is_number : Cal P w K mg base "is_number" 2 (spA P w K m_is_number) := c_is_number G
  exact mkA (k := 2) (f := b_is_part) G.h_is_part S_is_part (by decide) (fun f fd F => F.bindsN fun _ _ _ _ _ _ us hl => match us, hl with | [_], _ => rfl)
    (fun a cdv A outer s H E hr => (dss_cons (ds_if (dt_w (dw_or (dt_not (dt_val (de_isi (T := "tuple") (by decide +kernel) (by rfl) G.f_isinstance (nv 0) (by rfl) G.f_tuple (by decide +kernel)))) (dw_or (dt_cmp (do_ne hr.units) (de_cb1 dc_len (by rfl) G.f_len (by decide +kernel) (nv 0)) de_int (by rfl)) (dw_or1 (dt_not (dt_val (de_call C_is_grain hr (by omega) (by rfl) (da_cons (de_ix (dx_ixA (hu100 hr)) (nv 0) de_int (by intro _ _; rfl)) da_nil)))))))) (dss_one (ds_ret de_bl)) dss_nil)
    (dss_one (ds_ret (de_and (de_call C_is_number hr (by omega) (by rfl) (da_cons (de_ix (dx_ixA (hu100 hr)) (nv 0) de_int (by intro _ _; rfl)) da_nil)) (de_one (de_cmp (do_ne hr.units) (de_ix (dx_ixA (hu100 hr)) (nv 0) de_int (by intro _ _; rfl)) (de_glo (v := .ref (He.ga K "NOUGHT")) (by rfl) G.g_NOUGHT.1 rfl fun F => .tup (pl_ok G.g_NOUGHT.2 F) (.cons (.int _) (.cons (.int _) .nil))) (by rfl))))))))
theorem c_is_line (G : Glo K mg) : Cal P w K mg base "is_line" 4 (spA P w K m_is_line) := by
  have C_is_part : Cal P w K mg base "is_part" 3 (spA P w K m_is_part) := c_is_part G
  exact mkA (k := 3) (f := b_is_line) G.h_is_line S_is_line (by decide) (fun f fd F => F.bindsN fun _ _ _ _ _ _ us hl => match us, hl with | [_], _ => rfl)
    (fun a cdv A outer s H E hr => (dss_cons (ds_if (dt_w (dw_or (dt_not (dt_val (de_isi (T := "tuple") (by decide +kernel) (by rfl) G.f_isinstance (nv 0) (by rfl) G.f_tuple (by decide +kernel)))) (dw_or1 (dt_not (dt_val (de_cb1 (dc_all (by rfl)) (by rfl) G.f_all (by decide +kernel) (de_lc rfl S_is_line.nd (di_seq (nv 0)) (blk_ok (own := [("part", 1)]) (by kernel_rfl)) (by decide) (fun _ _ _ _ _ => (gv 1 S_is_line.nd)) (fun _ _ _ _ _ => dts_nil) (fun _ _ _ _ _ => (de_call C_is_part hr (by omega) (by rfl) (da_cons (nv 1) da_nil)))))))))) (dss_one (ds_ret de_bl)) dss_nil)
    (dss_one (ds_ret (de_cb1 (dc_all (by rfl)) (by rfl) G.f_all (by decide +kernel) (de_lc rfl S_is_line.nd (di_zip (by rfl) G.f_zip (da_cons (nv 0) (da_cons (de_slice (nv 0) (do_some de_int) do_none) da_nil))) (blk_ok (own := [("one", 2), ("other", 3)]) (by kernel_rfl)) (by decide) (fun _ _ _ _ _ => (dg_t rfl (dgs_cons (gv 2 S_is_line.nd) (dgs_cons (gv 3 S_is_line.nd) dgs_nil)))) (fun _ _ _ _ _ => dts_nil) (fun _ _ _ _ _ => (de_cmp (do_lt hr.units) (de_ix (dx_ixA (hu100 hr)) (nv 2) de_int (by intro _ _; rfl)) (de_ix (dx_ixA (hu100 hr)) (nv 3) de_int (by intro _ _; rfl)) (by rfl)))))))))
theorem c_is_form (G : Glo K mg) : Cal P w K mg base "is_form" 5 (spA P w K m_is_form) := by
  have C_is_line : Cal P w K mg base "is_line" 4 (spA P w K m_is_line) := c_is_line G
  have C_is_number : Cal P w K mg base "is_number" 2 (spA P w K m_is_number) := c_is_number G
  exact mkA (k := 4) (f := b_is_form) G.h_is_form S_is_form (by decide) (fun f fd F => F.bindsN fun _ _ _ _ _ _ us hl => match us, hl with | [_], _ => rfl)
    (fun a cdv A outer s H E hr => (dss_one (ds_ret (de_and (de_isi (T := "tuple") (by decide +kernel) (by rfl) G.f_isinstance (nv 0) (by rfl) G.f_tuple (by decide +kernel)) (de_and (de_cmp (do_eq hr.units) (de_cb1 dc_len (by rfl) G.f_len (by decide +kernel) (nv 0)) de_int (by rfl)) (de_and (de_call C_is_number hr (by omega) (by rfl) (da_cons (de_ix (dx_ixA (hu100 hr)) (nv 0) de_int (by intro _ _; rfl)) da_nil)) (de_one (de_call C_is_line hr (by omega) (by rfl) (da_cons (de_ix (dx_ixA (hu100 hr)) (nv 0) de_int (by intro _ _; rfl)) da_nil)))))))))
theorem c_as_dict (G : Glo K mg) : Cal P w K mg base "as_dict" 1 (spN P w K m_as_dict) := by
  exact mkN (k := 0) (f := b_as_dict) G.h_as_dict S_as_dict (by decide) (fun f fd F => F.bindsN fun _ _ _ _ _ _ us hl => match us, hl with | [_], _ => rfl)
    (fun a cdv A outer s H E hr => (dss_one (ds_ret (de_dc rfl (hu100 hr) S_as_dict.nd (di_seq (nv 0)) (blk_ok (own := [("grain", 1), ("weight", 2)]) (by kernel_rfl)) (by decide) (fun _ _ _ _ _ => (dg_t rfl (dgs_cons (gv 1 S_as_dict.nd) (dgs_cons (gv 2 S_as_dict.nd) dgs_nil)))) (fun _ _ _ _ _ => dts_nil) (fun _ _ _ _ _ => (nv 1)) (fun _ _ _ _ _ => (nv 2))))))
theorem c_as_line (G : Glo K mg) : Cal P w K mg base "as_line" 1 (spA P w K m_as_line) := by
  exact mkA (k := 0) (f := b_as_line) G.h_as_line S_as_line (by decide) (fun f fd F => F.bindsN fun _ _ _ _ _ _ us hl => match us, hl with | [_], _ => rfl)
    (fun a cdv A outer s H E hr => (dss_one (ds_ret (de_ct1 dc_tuple (by rfl) G.f_tuple (by decide +kernel) (de_lc rfl S_as_line.nd (di_seq (de_cbn (dc_sorted (by rfl) (hu200 hr)) (by rfl) G.f_sorted (by decide +kernel) (nv 0))) (blk_ok (own := [("grain", 1)]) (by kernel_rfl)) (by decide) (fun _ _ _ _ _ => (gv 1 S_as_line.nd)) (fun _ _ _ _ _ => (dts_one (dt_cmp (do_ne hr.units) (de_ix (dx_ixA (hu100 hr)) (nv 0) (nv 1) (by intro _ _; rfl)) (de_glo (v := .ref (He.ga K "NOUGHT")) (by rfl) G.g_NOUGHT.1 rfl fun F => .tup (pl_ok G.g_NOUGHT.2 F) (.cons (.int _) (.cons (.int _) .nil))) (by rfl)))) (fun _ _ _ _ _ => (de_tup (da_cons (nv 1) (da_cons (de_ix (dx_ixA (hu100 hr)) (nv 0) (nv 1) (by intro _ _; rfl)) da_nil)))))))))
theorem c_line_plus (G : Glo K mg) : Cal P w K mg base "line_plus" 4 (spA P w K m_line_plus) := by
  have C_as_dict : Cal P w K mg base "as_dict" 1 (spN P w K m_as_dict) := c_as_dict G
  have C_as_line : Cal P w K mg base "as_line" 1 (spA P w K m_as_line) := c_as_line G
  have C_plus : Cal P w K mg base "plus" 3 (spA P w K m_plus) := c_plus G
  exact mkA (k := 3) (f := b_line_plus) G.h_line_plus S_line_plus (by decide) (fun f fd F => F.bindsN fun _ _ _ _ _ _ us hl => match us, hl with | [_, _], _ => rfl)
    (fun a cdv A outer s H E hr => (dss_cons (down 2 S_line_plus.nd (de_callN C_as_dict hr (by omega) (by rfl) (da_cons (nv 0) da_nil)))
    (dss_cons (ds_for PassesOwn.never rfl (di_seq (nv 1)) (dg_t rfl (dgs_cons (gv 3 S_line_plus.nd) (dgs_cons (gv 4 S_line_plus.nd) dgs_nil))) (dss_one (ds_setD (hu100 hr) (pe_var rfl (by first | exact Or.inl rfl | exact Or.inr (Or.inl rfl))) (nv 3) (de_call C_plus hr (by omega) (by rfl) (da_cons (de_get (hu100 hr) (nv 2) (nv 3) (de_glo (v := .ref (He.ga K "NOUGHT")) (by rfl) G.g_NOUGHT.1 rfl fun F => .tup (pl_ok G.g_NOUGHT.2 F) (.cons (.int _) (.cons (.int _) .nil))) ⟨rfl, rfl, rfl, rfl⟩) (da_cons (nv 4) da_nil))))))
    (dss_fz (i := 2) (dss_one (ds_ret (de_call C_as_line hr (by omega) (by rfl) (da_cons (nv 2) da_nil))))))))
theorem c_line_times (G : Glo K mg) : Cal P w K mg base "line_times" 4 (spA P w K m_line_times) := by
  have C_times : Cal P w K mg base "times" 3 (spA P w K m_times) := c_times G
  exact mkA (k := 3) (f := b_line_times) G.h_line_times S_line_times (by decide) (fun f fd F => F.bindsN fun _ _ _ _ _ _ us hl => match us, hl with | [_, _], _ => rfl)
    (fun a cdv A outer s H E hr => (dss_one (ds_ret (de_ct1 dc_tuple (by rfl) G.f_tuple (by decide +kernel) (de_lc rfl S_line_times.nd (di_seq (nv 0)) (blk_ok (own := [("grain", 2), ("weight", 3)]) (by kernel_rfl)) (by decide) (fun _ _ _ _ _ => (dg_t rfl (dgs_cons (gv 2 S_line_times.nd) (dgs_cons (gv 3 S_line_times.nd) dgs_nil)))) (fun _ _ _ _ _ => (dts_one (dt_cmp (do_ne hr.units) (nv 1) (de_glo (v := .ref (He.ga K "NOUGHT")) (by rfl) G.g_NOUGHT.1 rfl fun F => .tup (pl_ok G.g_NOUGHT.2 F) (.cons (.int _) (.cons (.int _) .nil))) (by rfl)))) (fun _ _ _ _ _ => (de_tup (da_cons (nv 2) (da_cons (de_call C_times hr (by omega) (by rfl) (da_cons (nv 3) (da_cons (nv 1) da_nil))) da_nil)))))))))
theorem c_cut (G : Glo K mg) : Cal P w K mg base "cut" 1 (spA P w K m_cut) := by
  exact mkA (k := 0) (f := b_cut) G.h_cut S_cut (by decide) (fun f fd F => F.bindsN fun _ _ _ _ _ _ us hl => match us, hl with | [_, _], _ => rfl)
    (fun a cdv A outer s H E hr => (dss_cons (dset 2 S_cut.nd (de_dc rfl (hu100 hr) S_cut.nd (di_seq (nv 1)) (blk_ok (own := [("grain", 3)]) (by kernel_rfl)) (by decide) (fun _ _ _ _ _ => (gv 3 S_cut.nd)) (fun _ _ _ _ _ => dts_nil) (fun _ _ _ _ _ => (nv 3)) (fun _ _ _ _ _ => de_bl)))
    (dss_one (ds_ret (de_ct1 dc_tuple (by rfl) G.f_tuple (by decide +kernel) (de_lc rfl S_cut.nd (di_seq (nv 0)) (blk_ok (own := [("grain", 3), ("weight", 4)]) (by kernel_rfl)) (by decide) (fun _ _ _ _ _ => (dg_t rfl (dgs_cons (gv 3 S_cut.nd) (dgs_cons (gv 4 S_cut.nd) dgs_nil)))) (fun _ _ _ _ _ => (dts_one (dt_cmp (do_inA (hu200 hr)) (nv 3) (nv 2) (by rfl)))) (fun _ _ _ _ _ => (de_tup (da_cons (nv 3) (da_cons (nv 4) da_nil))))))))))
theorem c_weight_in (G : Glo K mg) : Cal P w K mg base "weight_in" 2 (spA P w K m_weight_in) := by
  have C_as_dict : Cal P w K mg base "as_dict" 1 (spN P w K m_as_dict) := c_as_dict G
  exact mkA (k := 1) (f := b_weight_in) G.h_weight_in S_weight_in (by decide) (fun f fd F => F.bindsN fun _ _ _ _ _ _ us hl => match us, hl with | [_, _], _ => rfl)
    (fun a cdv A outer s H E hr => (dss_one (ds_ret (de_get (hu100 hr) (de_callN C_as_dict hr (by omega) (by rfl) (da_cons (nv 0) da_nil)) (nv 1) (de_glo (v := .ref (He.ga K "NOUGHT")) (by rfl) G.g_NOUGHT.1 rfl fun F => .tup (pl_ok G.g_NOUGHT.2 F) (.cons (.int _) (.cons (.int _) .nil))) ⟨rfl, rfl, rfl, rfl⟩))))
theorem c_paired (G : Glo K mg) : Cal P w K mg base "paired" 4 (spA P w K m_paired) := by
  have C_as_dict : Cal P w K mg base "as_dict" 1 (spN P w K m_as_dict) := c_as_dict G
  have C_plus : Cal P w K mg base "plus" 3 (spA P w K m_plus) := c_plus G
  have C_times : Cal P w K mg base "times" 3 (spA P w K m_times) := c_times G
  exact mkA (k := 3) (f := b_paired) G.h_paired S_paired (by decide) (fun f fd F => F.bindsN fun _ _ _ _ _ _ us hl => match us, hl with | [_, _], _ => rfl)
    (fun a cdv A outer s H E hr => (dss_cons (dset 2 S_paired.nd (de_callN C_as_dict hr (by omega) (by rfl) (da_cons (nv 1) da_nil)))
    (dss_cons (dset 3 S_paired.nd (de_glo (v := .ref (He.ga K "NOUGHT")) (by rfl) G.g_NOUGHT.1 rfl fun F => .tup (pl_ok G.g_NOUGHT.2 F) (.cons (.int _) (.cons (.int _) .nil))))
    (dss_cons (ds_for PassesOwn.never rfl (di_seq (nv 0)) (dg_t rfl (dgs_cons (gv 4 S_paired.nd) (dgs_cons (gv 5 S_paired.nd) dgs_nil))) (dss_one (ds_if (dt_cmp (do_inA (hu200 hr)) (nv 4) (nv 2) (by rfl)) (dss_one (dset 3 S_paired.nd (de_call C_plus hr (by omega) (by rfl) (da_cons (nv 3) (da_cons (de_call C_times hr (by omega) (by rfl) (da_cons (nv 5) (da_cons (de_ix (dx_ixA (hu100 hr)) (nv 2) (nv 4) (by intro _ _; rfl)) da_nil))) da_nil))))) dss_nil)))
    (dss_one (ds_ret (nv 3)))))))
theorem c_form_plus (G : Glo K mg) : Cal P w K mg base "form_plus" 5 (spA P w K m_form_plus) := by
  have C_line_plus : Cal P w K mg base "line_plus" 4 (spA P w K m_line_plus) := c_line_plus G
  have C_plus : Cal P w K mg base "plus" 3 (spA P w K m_plus) := c_plus G
  exact mkA (k := 4) (f := b_form_plus) G.h_form_plus S_form_plus (by decide) (fun f fd F => F.bindsN fun _ _ _ _ _ _ us hl => match us, hl with | [_, _], _ => rfl)
    (fun a cdv A outer s H E hr => (dss_one (ds_ret (de_tup (da_cons (de_call C_plus hr (by omega) (by rfl) (da_cons (de_ix (dx_ixA (hu100 hr)) (nv 0) de_int (by intro _ _; rfl)) (da_cons (de_ix (dx_ixA (hu100 hr)) (nv 1) de_int (by intro _ _; rfl)) da_nil))) (da_cons (de_call C_line_plus hr (by omega) (by rfl) (da_cons (de_ix (dx_ixA (hu100 hr)) (nv 0) de_int (by intro _ _; rfl)) (da_cons (de_ix (dx_ixA (hu100 hr)) (nv 1) de_int (by intro _ _; rfl)) da_nil))) da_nil))))))
theorem c_form_times (G : Glo K mg) : Cal P w K mg base "form_times" 5 (spA P w K m_form_times) := by
  have C_line_times : Cal P w K mg base "line_times" 4 (spA P w K m_line_times) := c_line_times G
  have C_times : Cal P w K mg base "times" 3 (spA P w K m_times) := c_times G
  exact mkA (k := 4) (f := b_form_times) G.h_form_times S_form_times (by decide) (fun f fd F => F.bindsN fun _ _ _ _ _ _ us hl => match us, hl with | [_, _], _ => rfl)
    (fun a cdv A outer s H E hr => (dss_one (ds_ret (de_tup (da_cons (de_call C_times hr (by omega) (by rfl) (da_cons (de_ix (dx_ixA (hu100 hr)) (nv 0) de_int (by intro _ _; rfl)) (da_cons (nv 1) da_nil))) (da_cons (de_call C_line_times hr (by omega) (by rfl) (da_cons (de_ix (dx_ixA (hu100 hr)) (nv 0) de_int (by intro _ _; rfl)) (da_cons (nv 1) da_nil))) da_nil))))))
theorem c_form_minus (G : Glo K mg) : Cal P w K mg base "form_minus" 6 (spA P w K m_form_minus) := by
  have C_form_plus : Cal P w K mg base "form_plus" 5 (spA P w K m_form_plus) := c_form_plus G
  have C_form_times : Cal P w K mg base "form_times" 5 (spA P w K m_form_times) := c_form_times G
  exact mkA (k := 5) (f := b_form_minus) G.h_form_minus S_form_minus (by decide) (fun f fd F => F.bindsN fun _ _ _ _ _ _ us hl => match us, hl with | [_, _], _ => rfl)
    (fun a cdv A outer s H E hr => (dss_one (ds_ret (de_call C_form_plus hr (by omega) (by rfl) (da_cons (nv 0) (da_cons (de_call C_form_times hr (by omega) (by rfl) (da_cons (nv 1) (da_cons (de_glo (v := .ref (He.ga K "LESS_ONE")) (by rfl) G.g_LESS_ONE.1 rfl fun F => .tup (pl_ok G.g_LESS_ONE.2 F) (.cons (.int _) (.cons (.int _) .nil))) da_nil))) da_nil))))))
theorem c_worth_of_form (G : Glo K mg) : Cal P w K mg base "worth_of_form" 4 (spA P w K m_worth_of_form) := by
  have C_plus : Cal P w K mg base "plus" 3 (spA P w K m_plus) := c_plus G
  have C_times : Cal P w K mg base "times" 3 (spA P w K m_times) := c_times G
  exact mkA (k := 3) (f := b_worth_of_form) G.h_worth_of_form S_worth_of_form (by decide) (fun f fd F => F.bindsN fun _ _ _ _ _ _ us hl => match us, hl with | [_, _], _ => rfl)
    (fun a cdv A outer s H E hr => (dss_cons (dset 2 S_worth_of_form.nd (de_ix (dx_ixA (hu100 hr)) (nv 0) de_int (by intro _ _; rfl)))
    (dss_cons (ds_for PassesOwn.never rfl (di_seq (de_ix (dx_ixA (hu100 hr)) (nv 0) de_int (by intro _ _; rfl))) (dg_t rfl (dgs_cons (dg_t rfl (dgs_cons (gv 4 S_worth_of_form.nd) (dgs_cons (gv 5 S_worth_of_form.nd) dgs_nil))) (dgs_cons (gv 3 S_worth_of_form.nd) dgs_nil))) (dss_one (dset 2 S_worth_of_form.nd (de_call C_plus hr (by omega) (by rfl) (da_cons (nv 2) (da_cons (de_call C_times hr (by omega) (by rfl) (da_cons (nv 3) (da_cons (de_ix (dx_ixA (hu100 hr)) (de_ix (dx_ixA (hu100 hr)) (nv 1) (nv 4) (by intro _ _; rfl)) (nv 5) (by intro _ _; rfl)) da_nil))) da_nil))))))
    (dss_one (ds_ret (nv 2))))))
theorem c__law_pool (G : Glo K mg) : Cal P w K mg base "_law_pool" 1 (spN P w K m__law_pool) := by
  exact mkN (k := 0) (f := b__law_pool) G.h__law_pool S__law_pool (by decide) (fun f fd F => F.bindsN fun _ _ _ _ _ _ us hl => match us, hl with | [_, _], _ => rfl)
    (fun a cdv A outer s H E hr => (dss_cons (dset 2 S__law_pool.nd (de_ix (dx_ixA (hu100 hr)) (de_op do_add (de_slice (nv 0) (do_some (nv 1)) (do_some (de_op do_add (nv 1) de_int))) (de_lst (da_cons de_int da_nil))) de_int (by intro _ _; rfl)))
    (dss_cons (dset 3 S__law_pool.nd (de_cb2 (dc_max (by rfl)) (by rfl) G.f_max (by decide +kernel) (nv 2) (de_op do_sub (de_un du_neg de_int) (nv 2))))
    (dss_cons (dset 4 S__law_pool.nd (de_op do_mod (de_op do_mul (de_op do_add (de_op do_add (de_op do_add (de_op do_mod (nv 3) de_int) (de_op do_mul (de_op do_mul de_int (nv 1)) (nv 1))) (de_op do_mul de_int (nv 1))) de_int) de_int) de_int))
    (dss_one (ds_ret (de_lst (da_cons (de_op do_mulS (nv 3) (de_ct1 dc_int (by rfl) G.f_int (by decide +kernel) (de_cmp do_ge (nv 3) (de_op do_pow de_int de_int) (by rfl)))) (da_cons (de_op do_mod (de_op do_mul (nv 4) (nv 4)) de_int) da_nil)))))))))
theorem c__law_take (G : Glo K mg) : Cal P w K mg base "_law_take" 1 (spP P w K m__law_take) := by
  exact mkP (k := 0) (f := b__law_take) G.h__law_take S__law_take (by decide) (fun f fd F => F.bindsN fun _ _ _ _ _ _ us hl => match us, hl with | [_, _], _ => rfl)
    (fun a cdv A outer s H E hr => (dss_cons (ds_if (dt_cmp do_gt (de_ix (dx_ixA (hu100 hr)) (nv 0) de_int (by intro _ _; rfl)) de_int (by rfl)) (dss_cons (dset 2 S__law_take.nd (de_op do_mod (de_ix (dx_ixA (hu100 hr)) (nv 0) de_int (by intro _ _; rfl)) (nv 1)))
    (dss_cons (ds_setL (pe_var rfl (by first | exact Or.inl rfl | exact Or.inr (Or.inl rfl))) de_int (de_op do_fdiv (de_ix (dx_ixA (hu100 hr)) (nv 0) de_int (by intro _ _; rfl)) (nv 1)))
    (dss_one (ds_ret (nv 2))))) dss_nil)
    (dss_cons (ds_setL (pe_var rfl (by first | exact Or.inl rfl | exact Or.inr (Or.inl rfl))) de_int (de_op do_mod (de_op do_add (de_op do_mul (de_ix (dx_ixA (hu100 hr)) (nv 0) de_int (by intro _ _; rfl)) de_int) de_int) de_int))
    (dss_one (ds_ret (de_op do_mod (de_op do_fdiv (de_op do_mod (de_op do_mul (de_ix (dx_ixA (hu100 hr)) (nv 0) de_int (by intro _ _; rfl)) (de_ix (dx_ixA (hu100 hr)) (nv 0) de_int (by intro _ _; rfl))) de_int) de_int) (nv 1)))))))
theorem c__law_is_whole (G : Glo K mg) : Cal P w K mg base "_law_is_whole" 1 (spA P w K m__law_is_whole) := by
  exact mkA (k := 0) (f := b__law_is_whole) G.h__law_is_whole S__law_is_whole (by decide) (fun f fd F => F.bindsN fun _ _ _ _ _ _ us hl => match us, hl with | [_], _ => rfl)
    (fun a cdv A outer s H E hr => (dss_one (ds_ret (de_and (de_isi (T := "int") (by decide +kernel) (by rfl) G.f_isinstance (nv 0) (by rfl) G.f_int (by decide +kernel)) (de_one (de_not (de_isi (T := "bool") (by decide +kernel) (by rfl) G.f_isinstance (nv 0) (by rfl) G.f_bool (by decide +kernel))))))))
theorem c__law_same (G : Glo K mg) : ∀ n : Nat, Cal P w K mg base "_law_same" (2 + n) (spA P w K (m__law_same n))
  | 0 => mkA0 (k := 1) G.h__law_same S__law_same (by decide) (fun f fd F => F.bindsN fun _ _ _ _ _ _ us hl => match us, hl with | [_, _], _ => rfl)
  | n + 1 => by
    have C__law_same : Cal P w K mg base "_law_same" (2 + n) (spA P w K (m__law_same n)) := c__law_same G n
    have C__law_is_whole : Cal P w K mg base "_law_is_whole" 1 (spA P w K m__law_is_whole) := c__law_is_whole G
    exact mkA (k := 2 + n) (f := b__law_same (m__law_same n)) G.h__law_same S__law_same (by decide) (fun f fd F => F.bindsN fun _ _ _ _ _ _ us hl => match us, hl with | [_, _], _ => rfl)
      (fun a cdv A outer s H E hr => (dss_cons (ds_if (dt_cmp do_is (nv 1) de_non (by rfl)) (dss_one (ds_ret (de_cmp do_is (nv 0) de_non (by rfl)))) dss_nil)
    (dss_cons (ds_if (dt_val (de_isi (T := "bool") (by decide +kernel) (by rfl) G.f_isinstance (nv 1) (by rfl) G.f_bool (by decide +kernel))) (dss_one (ds_ret (de_if (dt_val (nv 1)) (de_cmp do_is (nv 0) de_bl (by rfl)) (de_cmp do_is (nv 0) de_bl (by rfl))))) dss_nil)
    (dss_cons (ds_if (dt_val (de_isi (T := "int") (by decide +kernel) (by rfl) G.f_isinstance (nv 1) (by rfl) G.f_int (by decide +kernel))) (dss_one (ds_ret (de_and (de_call C__law_is_whole hr (by omega) (by rfl) (da_cons (nv 0) da_nil)) (de_one (de_cmp (do_eq hr.units) (nv 0) (nv 1) (by rfl)))))) dss_nil)
    (dss_cons (ds_if (dt_val (de_isi (T := "str") (by decide +kernel) (by rfl) G.f_isinstance (nv 1) (by rfl) G.f_str (by decide +kernel))) (dss_one (ds_ret (de_and (de_isi (T := "str") (by decide +kernel) (by rfl) G.f_isinstance (nv 0) (by rfl) G.f_str (by decide +kernel)) (de_one (de_cmp (do_eq hr.units) (nv 0) (nv 1) (by rfl)))))) dss_nil)
    (dss_cons (ds_if (dt_val (de_isi (T := "dict") (by decide +kernel) (by rfl) G.f_isinstance (nv 1) (by rfl) G.f_dict (by decide +kernel))) dss_no dss_nil)
    (dss_cons (ds_if (dt_w (dw_and (dt_not (dt_val (de_isi (T := "tuple") (by decide +kernel) (by rfl) G.f_isinstance (nv 1) (by rfl) G.f_tuple (by decide +kernel)))) (dw_and1 (dt_not (dt_val (de_isi (T := "list") (by decide +kernel) (by rfl) G.f_isinstance (nv 1) (by rfl) G.f_list (by decide +kernel))))))) (dss_one (ds_ret (de_cmp (do_eq hr.units) (nv 0) (nv 1) (by rfl)))) dss_nil)
    (dss_cons (ds_if (dt_w (dw_or (dt_w (dw_and (dt_val (de_isi (T := "tuple") (by decide +kernel) (by rfl) G.f_isinstance (nv 1) (by rfl) G.f_tuple (by decide +kernel))) (dw_and1 (dt_not (dt_val (de_isi (T := "tuple") (by decide +kernel) (by rfl) G.f_isinstance (nv 0) (by rfl) G.f_tuple (by decide +kernel))))))) (dw_or1 (dt_w (dw_and (dt_val (de_isi (T := "list") (by decide +kernel) (by rfl) G.f_isinstance (nv 1) (by rfl) G.f_list (by decide +kernel))) (dw_and1 (dt_not (dt_val (de_isi (T := "list") (by decide +kernel) (by rfl) G.f_isinstance (nv 0) (by rfl) G.f_list (by decide +kernel)))))))))) (dss_one (ds_ret de_bl)) dss_nil)
    (dss_cons (ds_if (dt_cmp (do_ne hr.units) (de_cb1 dc_len (by rfl) G.f_len (by decide +kernel) (nv 0)) (de_cb1 dc_len (by rfl) G.f_len (by decide +kernel) (nv 1)) (by rfl)) (dss_one (ds_ret de_bl)) dss_nil)
    (dss_cons (ds_for PassesOwn.never rfl (di_r1 (by rfl) G.f_range (da_cons (de_cb1 dc_len (by rfl) G.f_len (by decide +kernel) (nv 1)) da_nil)) (gv 3 S__law_same.nd) (dss_one (ds_if (dt_not (dt_val (de_call C__law_same hr (by omega) (by rfl) (da_cons (de_ix (dx_ixA (hu100 hr)) (nv 0) (nv 3) (by intro _ _; rfl)) (da_cons (de_ix (dx_ixA (hu100 hr)) (nv 1) (nv 3) (by intro _ _; rfl)) da_nil))))) (dss_one (ds_ret de_bl)) dss_nil)))
    (dss_one (ds_ret de_bl))))))))))))
theorem c__law_shared_part (G : Glo K mg) : Cal P w K mg base "_law_shared_part" 1 (spA P w K m__law_shared_part) := by
  exact mkA (k := 0) (f := b__law_shared_part) G.h__law_shared_part S__law_shared_part (by decide) (fun f fd F => F.bindsN fun _ _ _ _ _ _ us hl => match us, hl with | [_, _], _ => rfl)
    (fun a cdv A outer s H E hr => (dss_cons (ds_par2 rfl S__law_shared_part.nd rfl rfl (by decide) rfl rfl (de_fz (de_cb1 dc_abs (by rfl) G.f_abs (by decide +kernel) (nv 0))) (de_fz (de_cb1 dc_abs (by rfl) G.f_abs (by decide +kernel) (nv 1))) (by rfl))
    (dss_cons (ds_while (muI 1) PassesOwn.never (dt_cmp do_gt (nv 1) de_int (by rfl)) (dss_one (ds_par2 rfl S__law_shared_part.nd rfl rfl (by decide) rfl rfl (de_fz (nv 1)) (de_fz (de_op do_mod (de_ct1 dc_int (by rfl) G.f_int (by decide +kernel) (nv 0)) (nv 1))) (by rfl))))
    (dss_one (ds_ret (nv 0))))))
theorem c__law_is_number_of (G : Glo K mg) : Cal P w K mg base "_law_is_number_of" 2 (spA P w K m__law_is_number_of) := by
  have C__law_is_whole : Cal P w K mg base "_law_is_whole" 1 (spA P w K m__law_is_whole) := c__law_is_whole G
  have C__law_shared_part : Cal P w K mg base "_law_shared_part" 1 (spA P w K m__law_shared_part) := c__law_shared_part G
  exact mkA (k := 1) (f := b__law_is_number_of) G.h__law_is_number_of S__law_is_number_of (by decide) (fun f fd F => F.bindsN fun _ _ _ _ _ _ us hl => match us, hl with | [_], _ => rfl)
    (fun a cdv A outer s H E hr => (dss_cons (ds_if (dt_w (dw_or (dt_not (dt_val (de_isi (T := "tuple") (by decide +kernel) (by rfl) G.f_isinstance (nv 0) (by rfl) G.f_tuple (by decide +kernel)))) (dw_or (dt_cmp (do_ne hr.units) (de_cb1 dc_len (by rfl) G.f_len (by decide +kernel) (nv 0)) de_int (by rfl)) (dw_or (dt_not (dt_val (de_call C__law_is_whole hr (by omega) (by rfl) (da_cons (de_ix (dx_ixA (hu100 hr)) (nv 0) de_int (by intro _ _; rfl)) da_nil)))) (dw_or1 (dt_not (dt_val (de_call C__law_is_whole hr (by omega) (by rfl) (da_cons (de_ix (dx_ixA (hu100 hr)) (nv 0) de_int (by intro _ _; rfl)) da_nil))))))))) (dss_one (ds_ret de_bl)) dss_nil)
    (dss_one (ds_ret (de_and (de_cmp do_ge (de_ix (dx_ixA (hu100 hr)) (nv 0) de_int (by intro _ _; rfl)) de_int (by rfl)) (de_one (de_cmp (do_eq hr.units) (de_call C__law_shared_part hr (by omega) (by rfl) (da_cons (de_ix (dx_ixA (hu100 hr)) (nv 0) de_int (by intro _ _; rfl)) (da_cons (de_ix (dx_ixA (hu100 hr)) (nv 0) de_int (by intro _ _; rfl)) da_nil))) de_int (by rfl))))))))
theorem c__law_is_name_of (G : Glo K mg) : Cal P w K mg base "_law_is_name_of" 1 (spA P w K m__law_is_name_of) := by
  exact mkA (k := 0) (f := b__law_is_name_of) G.h__law_is_name_of S__law_is_name_of (by decide) (fun f fd F => F.bindsN fun _ _ _ _ _ _ us hl => match us, hl with | [_], _ => rfl)
    (fun a cdv A outer s H E hr => (dss_one (ds_ret (de_and (de_isi (T := "str") (by decide +kernel) (by rfl) G.f_isinstance (nv 0) (by rfl) G.f_str (by decide +kernel)) (de_and (de_chain do_le do_le de_int (de_cb1 dc_len (by rfl) G.f_len (by decide +kernel) (nv 0)) de_int) (de_one (de_cmp (do_eq hr.units) (de_lc rfl S__law_is_name_of.nd (di_str (nv 0)) (blk_ok (own := [("sign", 1)]) (by kernel_rfl)) (by decide) (fun _ _ _ _ _ => (gv 1 S__law_is_name_of.nd)) (fun _ _ _ _ _ => (dts_one (dt_cmp (do_notin (hu200 hr)) (nv 1) de_str (by rfl)))) (fun _ _ _ _ _ => (nv 1))) (de_lst da_nil) (by rfl))))))))
theorem c__law_is_cell_form (G : Glo K mg) : Cal P w K mg base "_law_is_cell_form" 2 (spA P w K m__law_is_cell_form) := by
  have C__law_is_whole : Cal P w K mg base "_law_is_whole" 1 (spA P w K m__law_is_whole) := c__law_is_whole G
  exact mkA (k := 1) (f := b__law_is_cell_form) G.h__law_is_cell_form S__law_is_cell_form (by decide) (fun f fd F => F.bindsN fun _ _ _ _ _ _ us hl => match us, hl with | [_], _ => rfl)
    (fun a cdv A outer s H E hr => (dss_one (ds_ret (de_and (de_isi (T := "tuple") (by decide +kernel) (by rfl) G.f_isinstance (nv 0) (by rfl) G.f_tuple (by decide +kernel)) (de_and (de_cmp do_le (de_cb1 dc_len (by rfl) G.f_len (by decide +kernel) (nv 0)) de_int (by rfl)) (de_one (de_cmp (do_eq hr.units) (de_lc rfl S__law_is_cell_form.nd (di_seq (nv 0)) (blk_ok (own := [("one", 1)]) (by kernel_rfl)) (by decide) (fun _ _ _ _ _ => (gv 1 S__law_is_cell_form.nd)) (fun _ _ _ _ _ => (dts_one (dt_w (dw_or (dt_not (dt_val (de_call C__law_is_whole hr (by omega) (by rfl) (da_cons (nv 1) da_nil)))) (dw_or1 (dt_cmp (do_lt hr.units) (nv 1) de_int (by rfl))))))) (fun _ _ _ _ _ => (nv 1))) (de_lst da_nil) (by rfl))))))))
theorem c__law_is_grain_of (G : Glo K mg) : Cal P w K mg base "_law_is_grain_of" 3 (spA P w K m__law_is_grain_of) := by
  have C__law_is_cell_form : Cal P w K mg base "_law_is_cell_form" 2 (spA P w K m__law_is_cell_form) := c__law_is_cell_form G
  have C__law_is_name_of : Cal P w K mg base "_law_is_name_of" 1 (spA P w K m__law_is_name_of) := c__law_is_name_of G
  exact mkA (k := 2) (f := b__law_is_grain_of) G.h__law_is_grain_of S__law_is_grain_of (by decide) (fun f fd F => F.bindsN fun _ _ _ _ _ _ us hl => match us, hl with | [_], _ => rfl)
    (fun a cdv A outer s H E hr => (dss_one (ds_ret (de_and (de_isi (T := "tuple") (by decide +kernel) (by rfl) G.f_isinstance (nv 0) (by rfl) G.f_tuple (by decide +kernel)) (de_and (de_cmp (do_eq hr.units) (de_cb1 dc_len (by rfl) G.f_len (by decide +kernel) (nv 0)) de_int (by rfl)) (de_and (de_call C__law_is_name_of hr (by omega) (by rfl) (da_cons (de_ix (dx_ixA (hu100 hr)) (nv 0) de_int (by intro _ _; rfl)) da_nil)) (de_one (de_call C__law_is_cell_form hr (by omega) (by rfl) (da_cons (de_ix (dx_ixA (hu100 hr)) (nv 0) de_int (by intro _ _; rfl)) da_nil)))))))))
theorem c__law_are_rising (G : Glo K mg) : Cal P w K mg base "_law_are_rising" 1 (spA P w K m__law_are_rising) := by
  exact mkA (k := 0) (f := b__law_are_rising) G.h__law_are_rising S__law_are_rising (by decide) (fun f fd F => F.bindsN fun _ _ _ _ _ _ us hl => match us, hl with | [_], _ => rfl)
    (fun a cdv A outer s H E hr => (dss_one (ds_ret (de_cmp (do_eq hr.units) (de_lc rfl S__law_are_rising.nd (di_r2 (by rfl) G.f_range (da_cons de_int (da_cons (de_cb1 dc_len (by rfl) G.f_len (by decide +kernel) (nv 0)) da_nil))) (blk_ok (own := [("at", 1)]) (by kernel_rfl)) (by decide) (fun _ _ _ _ _ => (gv 1 S__law_are_rising.nd)) (fun _ _ _ _ _ => (dts_one (dt_not (dt_cmp (do_lt hr.units) (de_ix (dx_ixA (hu100 hr)) (nv 0) (de_op do_sub (nv 1) de_int) (by intro _ _; rfl)) (de_ix (dx_ixA (hu100 hr)) (nv 0) (nv 1) (by intro _ _; rfl)) (by rfl))))) (fun _ _ _ _ _ => (nv 1))) (de_lst da_nil) (by rfl)))))
theorem c__law_is_line_of (G : Glo K mg) : Cal P w K mg base "_law_is_line_of" 4 (spA P w K m__law_is_line_of) := by
  have C__law_are_rising : Cal P w K mg base "_law_are_rising" 1 (spA P w K m__law_are_rising) := c__law_are_rising G
  have C__law_is_grain_of : Cal P w K mg base "_law_is_grain_of" 3 (spA P w K m__law_is_grain_of) := c__law_is_grain_of G
  have C__law_is_number_of : Cal P w K mg base "_law_is_number_of" 2 (spA P w K m__law_is_number_of) := c__law_is_number_of G
  exact mkA (k := 3) (f := b__law_is_line_of) G.h__law_is_line_of S__law_is_line_of (by decide) (fun f fd F => F.bindsN fun _ _ _ _ _ _ us hl => match us, hl with | [_], _ => rfl)
    (fun a cdv A outer s H E hr => (dss_cons (ds_if (dt_w (dw_or (dt_not (dt_val (de_isi (T := "tuple") (by decide +kernel) (by rfl) G.f_isinstance (nv 0) (by rfl) G.f_tuple (by decide +kernel)))) (dw_or1 (dt_cmp (do_ne hr.units) (de_lc rfl S__law_is_line_of.nd (di_seq (nv 0)) (blk_ok (own := [("one", 1)]) (by kernel_rfl)) (by decide) (fun _ _ _ _ _ => (gv 1 S__law_is_line_of.nd)) (fun _ _ _ _ _ => (dts_one (dt_w (dw_or (dt_not (dt_val (de_isi (T := "tuple") (by decide +kernel) (by rfl) G.f_isinstance (nv 1) (by rfl) G.f_tuple (by decide +kernel)))) (dw_or1 (dt_cmp (do_ne hr.units) (de_cb1 dc_len (by rfl) G.f_len (by decide +kernel) (nv 1)) de_int (by rfl))))))) (fun _ _ _ _ _ => (nv 1))) (de_lst da_nil) (by rfl))))) (dss_one (ds_ret de_bl)) dss_nil)
    (dss_cons (ds_if (dt_cmp (do_ne hr.units) (de_lc rfl S__law_is_line_of.nd (di_seq (nv 0)) (blk_ok (own := [("grain", 2), ("weight", 3)]) (by kernel_rfl)) (by decide) (fun _ _ _ _ _ => (dg_t rfl (dgs_cons (gv 2 S__law_is_line_of.nd) (dgs_cons (gv 3 S__law_is_line_of.nd) dgs_nil)))) (fun _ _ _ _ _ => (dts_one (dt_w (dw_or (dt_not (dt_val (de_call C__law_is_grain_of hr (by omega) (by rfl) (da_cons (nv 2) da_nil)))) (dw_or (dt_not (dt_val (de_call C__law_is_number_of hr (by omega) (by rfl) (da_cons (nv 3) da_nil)))) (dw_or1 (dt_cmp (do_eq hr.units) (de_ix (dx_ixA (hu100 hr)) (nv 3) de_int (by intro _ _; rfl)) de_int (by rfl)))))))) (fun _ _ _ _ _ => de_int)) (de_lst da_nil) (by rfl)) (dss_one (ds_ret de_bl)) dss_nil)
    (dss_one (ds_ret (de_call C__law_are_rising hr (by omega) (by rfl) (da_cons (de_lc rfl S__law_is_line_of.nd (di_seq (nv 0)) (blk_ok (own := [("grain", 2), ("weight", 3)]) (by kernel_rfl)) (by decide) (fun _ _ _ _ _ => (dg_t rfl (dgs_cons (gv 2 S__law_is_line_of.nd) (dgs_cons (gv 3 S__law_is_line_of.nd) dgs_nil)))) (fun _ _ _ _ _ => dts_nil) (fun _ _ _ _ _ => (nv 2))) da_nil)))))))
theorem c__law_is_form_of (G : Glo K mg) : Cal P w K mg base "_law_is_form_of" 5 (spA P w K m__law_is_form_of) := by
  have C__law_is_line_of : Cal P w K mg base "_law_is_line_of" 4 (spA P w K m__law_is_line_of) := c__law_is_line_of G
  have C__law_is_number_of : Cal P w K mg base "_law_is_number_of" 2 (spA P w K m__law_is_number_of) := c__law_is_number_of G
  exact mkA (k := 4) (f := b__law_is_form_of) G.h__law_is_form_of S__law_is_form_of (by decide) (fun f fd F => F.bindsN fun _ _ _ _ _ _ us hl => match us, hl with | [_], _ => rfl)
    (fun a cdv A outer s H E hr => (dss_one (ds_ret (de_and (de_isi (T := "tuple") (by decide +kernel) (by rfl) G.f_isinstance (nv 0) (by rfl) G.f_tuple (by decide +kernel)) (de_and (de_cmp (do_eq hr.units) (de_cb1 dc_len (by rfl) G.f_len (by decide +kernel) (nv 0)) de_int (by rfl)) (de_and (de_call C__law_is_number_of hr (by omega) (by rfl) (da_cons (de_ix (dx_ixA (hu100 hr)) (nv 0) de_int (by intro _ _; rfl)) da_nil)) (de_one (de_call C__law_is_line_of hr (by omega) (by rfl) (da_cons (de_ix (dx_ixA (hu100 hr)) (nv 0) de_int (by intro _ _; rfl)) da_nil)))))))))
theorem c__law_nr (G : Glo K mg) : Cal P w K mg base "_law_nr" 1 (spA P w K m__law_nr) := by
  exact mkA (k := 0) (f := b__law_nr) G.h__law_nr S__law_nr (by decide) (fun f fd F => F.bindsN fun _ _ _ _ _ _ us hl => match us, hl with | [_, _], _ => rfl)
    (fun a cdv A outer s H E hr => (dss_cons (ds_par2 rfl S__law_nr.nd rfl rfl (by decide) rfl rfl (de_fz (de_cb1 dc_abs (by rfl) G.f_abs (by decide +kernel) (nv 0))) (de_fz (de_cb1 dc_abs (by rfl) G.f_abs (by decide +kernel) (nv 1))) (by rfl))
    (dss_cons (ds_while (muI 3) PassesOwn.never (dt_cmp do_gt (nv 3) de_int (by rfl)) (dss_one (ds_par2 rfl S__law_nr.nd rfl rfl (by decide) rfl rfl (de_fz (nv 3)) (de_fz (de_op do_mod (de_ct1 dc_int (by rfl) G.f_int (by decide +kernel) (nv 2)) (nv 3))) (by rfl))))
    (dss_cons (dset 4 S__law_nr.nd (de_if (dt_cmp do_gt (nv 1) de_int (by rfl)) de_int (de_un du_neg de_int)))
    (dss_one (ds_ret (de_tup (da_cons (de_op do_fdiv (de_op do_mul (nv 4) (nv 0)) (nv 2)) (da_cons (de_op do_fdiv (de_op do_mul (nv 4) (nv 1)) (nv 2)) da_nil)))))))))
theorem c__law_nr_plus (G : Glo K mg) : Cal P w K mg base "_law_nr_plus" 2 (spA P w K m__law_nr_plus) := by
  have C__law_nr : Cal P w K mg base "_law_nr" 1 (spA P w K m__law_nr) := c__law_nr G
  exact mkA (k := 1) (f := b__law_nr_plus) G.h__law_nr_plus S__law_nr_plus (by decide) (fun f fd F => F.bindsN fun _ _ _ _ _ _ us hl => match us, hl with | [_, _], _ => rfl)
    (fun a cdv A outer s H E hr => (dss_one (ds_ret (de_call C__law_nr hr (by omega) (by rfl) (da_cons (de_op do_add (de_op do_mul (de_ix (dx_ixA (hu100 hr)) (nv 0) de_int (by intro _ _; rfl)) (de_ix (dx_ixA (hu100 hr)) (nv 1) de_int (by intro _ _; rfl))) (de_op do_mul (de_ix (dx_ixA (hu100 hr)) (nv 1) de_int (by intro _ _; rfl)) (de_ix (dx_ixA (hu100 hr)) (nv 0) de_int (by intro _ _; rfl)))) (da_cons (de_op do_mul (de_ix (dx_ixA (hu100 hr)) (nv 0) de_int (by intro _ _; rfl)) (de_ix (dx_ixA (hu100 hr)) (nv 1) de_int (by intro _ _; rfl))) da_nil))))))
theorem c__law_nr_times (G : Glo K mg) : Cal P w K mg base "_law_nr_times" 2 (spA P w K m__law_nr_times) := by
  have C__law_nr : Cal P w K mg base "_law_nr" 1 (spA P w K m__law_nr) := c__law_nr G
  exact mkA (k := 1) (f := b__law_nr_times) G.h__law_nr_times S__law_nr_times (by decide) (fun f fd F => F.bindsN fun _ _ _ _ _ _ us hl => match us, hl with | [_, _], _ => rfl)
    (fun a cdv A outer s H E hr => (dss_one (ds_ret (de_call C__law_nr hr (by omega) (by rfl) (da_cons (de_op do_mul (de_ix (dx_ixA (hu100 hr)) (nv 0) de_int (by intro _ _; rfl)) (de_ix (dx_ixA (hu100 hr)) (nv 1) de_int (by intro _ _; rfl))) (da_cons (de_op do_mul (de_ix (dx_ixA (hu100 hr)) (nv 0) de_int (by intro _ _; rfl)) (de_ix (dx_ixA (hu100 hr)) (nv 1) de_int (by intro _ _; rfl))) da_nil))))))
theorem c__law_line_from (G : Glo K mg) : Cal P w K mg base "_law_line_from" 1 (spA P w K m__law_line_from) := by
  exact mkA (k := 0) (f := b__law_line_from) G.h__law_line_from S__law_line_from (by decide) (fun f fd F => F.bindsN fun _ _ _ _ _ _ us hl => match us, hl with | [_], _ => rfl)
    (fun a cdv A outer s H E hr => (dss_one (ds_ret (de_ct1 dc_tuple (by rfl) G.f_tuple (by decide +kernel) (de_lc rfl S__law_line_from.nd (di_seq (de_cbn (dc_sorted (by rfl) (hu200 hr)) (by rfl) G.f_sorted (by decide +kernel) (nv 0))) (blk_ok (own := [("grain", 1)]) (by kernel_rfl)) (by decide) (fun _ _ _ _ _ => (gv 1 S__law_line_from.nd)) (fun _ _ _ _ _ => (dts_one (dt_cmp (do_ne hr.units) (de_ix (dx_ixA (hu100 hr)) (de_ix (dx_ixA (hu100 hr)) (nv 0) (nv 1) (by intro _ _; rfl)) de_int (by intro _ _; rfl)) de_int (by rfl)))) (fun _ _ _ _ _ => (de_tup (da_cons (nv 1) (da_cons (de_ix (dx_ixA (hu100 hr)) (nv 0) (nv 1) (by intro _ _; rfl)) da_nil)))))))))
theorem c__law_line_plus (G : Glo K mg) : Cal P w K mg base "_law_line_plus" 3 (spA P w K m__law_line_plus) := by
  have C__law_line_from : Cal P w K mg base "_law_line_from" 1 (spA P w K m__law_line_from) := c__law_line_from G
  have C__law_nr_plus : Cal P w K mg base "_law_nr_plus" 2 (spA P w K m__law_nr_plus) := c__law_nr_plus G
  exact mkA (k := 2) (f := b__law_line_plus) G.h__law_line_plus S__law_line_plus (by decide) (fun f fd F => F.bindsN fun _ _ _ _ _ _ us hl => match us, hl with | [_, _], _ => rfl)
    (fun a cdv A outer s H E hr => (dss_cons (down 2 S__law_line_plus.nd (de_dict (by rfl) (hu100 hr) (by rfl) G.f_dict (by decide +kernel) (nv 0)))
    (dss_cons (ds_for PassesOwn.never rfl (di_seq (nv 1)) (dg_t rfl (dgs_cons (gv 3 S__law_line_plus.nd) (dgs_cons (gv 4 S__law_line_plus.nd) dgs_nil))) (dss_one (ds_setD (hu100 hr) (pe_var rfl (by first | exact Or.inl rfl | exact Or.inr (Or.inl rfl))) (nv 3) (de_call C__law_nr_plus hr (by omega) (by rfl) (da_cons (de_get (hu100 hr) (nv 2) (nv 3) (de_tup (da_cons de_int (da_cons de_int da_nil))) ⟨rfl, rfl, rfl, rfl⟩) (da_cons (nv 4) da_nil))))))
    (dss_fz (i := 2) (dss_one (ds_ret (de_call C__law_line_from hr (by omega) (by rfl) (da_cons (nv 2) da_nil))))))))
theorem c__law_line_times (G : Glo K mg) : Cal P w K mg base "_law_line_times" 3 (spA P w K m__law_line_times) := by
  have C__law_line_from : Cal P w K mg base "_law_line_from" 1 (spA P w K m__law_line_from) := c__law_line_from G
  have C__law_nr_times : Cal P w K mg base "_law_nr_times" 2 (spA P w K m__law_nr_times) := c__law_nr_times G
  exact mkA (k := 2) (f := b__law_line_times) G.h__law_line_times S__law_line_times (by decide) (fun f fd F => F.bindsN fun _ _ _ _ _ _ us hl => match us, hl with | [_, _], _ => rfl)
    (fun a cdv A outer s H E hr => (dss_one (ds_ret (de_call C__law_line_from hr (by omega) (by rfl) (da_cons (de_dict (by rfl) (hu100 hr) (by rfl) G.f_dict (by decide +kernel) (de_lc rfl S__law_line_times.nd (di_seq (nv 0)) (blk_ok (own := [("grain", 2), ("weight", 3)]) (by kernel_rfl)) (by decide) (fun _ _ _ _ _ => (dg_t rfl (dgs_cons (gv 2 S__law_line_times.nd) (dgs_cons (gv 3 S__law_line_times.nd) dgs_nil)))) (fun _ _ _ _ _ => dts_nil) (fun _ _ _ _ _ => (de_tup (da_cons (nv 2) (da_cons (de_call C__law_nr_times hr (by omega) (by rfl) (da_cons (nv 3) (da_cons (nv 1) da_nil))) da_nil)))))) da_nil)))))
theorem c__law_line_cut (G : Glo K mg) : Cal P w K mg base "_law_line_cut" 1 (spA P w K m__law_line_cut) := by
  exact mkA (k := 0) (f := b__law_line_cut) G.h__law_line_cut S__law_line_cut (by decide) (fun f fd F => F.bindsN fun _ _ _ _ _ _ us hl => match us, hl with | [_, _], _ => rfl)
    (fun a cdv A outer s H E hr => (dss_one (ds_ret (de_ct1 dc_tuple (by rfl) G.f_tuple (by decide +kernel) (de_lc rfl S__law_line_cut.nd (di_seq (nv 0)) (blk_ok (own := [("part", 2)]) (by kernel_rfl)) (by decide) (fun _ _ _ _ _ => (gv 2 S__law_line_cut.nd)) (fun _ _ _ _ _ => (dts_one (dt_cmp (do_inA (hu200 hr)) (de_ix (dx_ixA (hu100 hr)) (nv 2) de_int (by intro _ _; rfl)) (nv 1) (by rfl)))) (fun _ _ _ _ _ => (nv 2)))))))
theorem c__law_weight (G : Glo K mg) : Cal P w K mg base "_law_weight" 1 (spA P w K m__law_weight) := by
  exact mkA (k := 0) (f := b__law_weight) G.h__law_weight S__law_weight (by decide) (fun f fd F => F.bindsN fun _ _ _ _ _ _ us hl => match us, hl with | [_, _], _ => rfl)
    (fun a cdv A outer s H E hr => (dss_one (ds_ret (de_get (hu100 hr) (de_dict (by rfl) (hu100 hr) (by rfl) G.f_dict (by decide +kernel) (nv 0)) (nv 1) (de_tup (da_cons de_int (da_cons de_int da_nil))) ⟨rfl, rfl, rfl, rfl⟩))))
theorem c__law_line_pair (G : Glo K mg) : Cal P w K mg base "_law_line_pair" 3 (spA P w K m__law_line_pair) := by
  have C__law_nr_plus : Cal P w K mg base "_law_nr_plus" 2 (spA P w K m__law_nr_plus) := c__law_nr_plus G
  have C__law_nr_times : Cal P w K mg base "_law_nr_times" 2 (spA P w K m__law_nr_times) := c__law_nr_times G
  exact mkA (k := 2) (f := b__law_line_pair) G.h__law_line_pair S__law_line_pair (by decide) (fun f fd F => F.bindsN fun _ _ _ _ _ _ us hl => match us, hl with | [_, _], _ => rfl)
    (fun a cdv A outer s H E hr => (dss_cons (ds_par2 rfl S__law_line_pair.nd rfl rfl (by decide) rfl rfl (de_fz (de_dict (by rfl) (hu100 hr) (by rfl) G.f_dict (by decide +kernel) (nv 1))) (de_fz (de_tup (da_cons de_int (da_cons de_int da_nil)))) (by rfl))
    (dss_cons (ds_for PassesOwn.never rfl (di_seq (nv 0)) (dg_t rfl (dgs_cons (gv 4 S__law_line_pair.nd) (dgs_cons (gv 5 S__law_line_pair.nd) dgs_nil))) (dss_one (dset 3 S__law_line_pair.nd (de_call C__law_nr_plus hr (by omega) (by rfl) (da_cons (nv 3) (da_cons (de_call C__law_nr_times hr (by omega) (by rfl) (da_cons (nv 5) (da_cons (de_get (hu100 hr) (nv 2) (nv 4) (de_tup (da_cons de_int (da_cons de_int da_nil))) ⟨rfl, rfl, rfl, rfl⟩) da_nil))) da_nil))))))
    (dss_one (ds_ret (nv 3))))))
theorem c__law_fm_plus (G : Glo K mg) : Cal P w K mg base "_law_fm_plus" 4 (spA P w K m__law_fm_plus) := by
  have C__law_line_plus : Cal P w K mg base "_law_line_plus" 3 (spA P w K m__law_line_plus) := c__law_line_plus G
  have C__law_nr_plus : Cal P w K mg base "_law_nr_plus" 2 (spA P w K m__law_nr_plus) := c__law_nr_plus G
  exact mkA (k := 3) (f := b__law_fm_plus) G.h__law_fm_plus S__law_fm_plus (by decide) (fun f fd F => F.bindsN fun _ _ _ _ _ _ us hl => match us, hl with | [_, _], _ => rfl)
    (fun a cdv A outer s H E hr => (dss_one (ds_ret (de_tup (da_cons (de_call C__law_nr_plus hr (by omega) (by rfl) (da_cons (de_ix (dx_ixA (hu100 hr)) (nv 0) de_int (by intro _ _; rfl)) (da_cons (de_ix (dx_ixA (hu100 hr)) (nv 1) de_int (by intro _ _; rfl)) da_nil))) (da_cons (de_call C__law_line_plus hr (by omega) (by rfl) (da_cons (de_ix (dx_ixA (hu100 hr)) (nv 0) de_int (by intro _ _; rfl)) (da_cons (de_ix (dx_ixA (hu100 hr)) (nv 1) de_int (by intro _ _; rfl)) da_nil))) da_nil))))))
theorem c__law_fm_times (G : Glo K mg) : Cal P w K mg base "_law_fm_times" 4 (spA P w K m__law_fm_times) := by
  have C__law_line_times : Cal P w K mg base "_law_line_times" 3 (spA P w K m__law_line_times) := c__law_line_times G
  have C__law_nr_times : Cal P w K mg base "_law_nr_times" 2 (spA P w K m__law_nr_times) := c__law_nr_times G
  exact mkA (k := 3) (f := b__law_fm_times) G.h__law_fm_times S__law_fm_times (by decide) (fun f fd F => F.bindsN fun _ _ _ _ _ _ us hl => match us, hl with | [_, _], _ => rfl)
    (fun a cdv A outer s H E hr => (dss_one (ds_ret (de_tup (da_cons (de_call C__law_nr_times hr (by omega) (by rfl) (da_cons (de_ix (dx_ixA (hu100 hr)) (nv 0) de_int (by intro _ _; rfl)) (da_cons (nv 1) da_nil))) (da_cons (de_call C__law_line_times hr (by omega) (by rfl) (da_cons (de_ix (dx_ixA (hu100 hr)) (nv 0) de_int (by intro _ _; rfl)) (da_cons (nv 1) da_nil))) da_nil))))))
theorem c__law_fm_less (G : Glo K mg) : Cal P w K mg base "_law_fm_less" 5 (spA P w K m__law_fm_less) := by
  have C__law_fm_plus : Cal P w K mg base "_law_fm_plus" 4 (spA P w K m__law_fm_plus) := c__law_fm_plus G
  have C__law_fm_times : Cal P w K mg base "_law_fm_times" 4 (spA P w K m__law_fm_times) := c__law_fm_times G
  exact mkA (k := 4) (f := b__law_fm_less) G.h__law_fm_less S__law_fm_less (by decide) (fun f fd F => F.bindsN fun _ _ _ _ _ _ us hl => match us, hl with | [_, _], _ => rfl)
    (fun a cdv A outer s H E hr => (dss_one (ds_ret (de_call C__law_fm_plus hr (by omega) (by rfl) (da_cons (nv 0) (da_cons (de_call C__law_fm_times hr (by omega) (by rfl) (da_cons (nv 1) (da_cons (de_tup (da_cons (de_un du_neg de_int) (da_cons de_int da_nil))) da_nil))) da_nil))))))
theorem c__law_line_worth (G : Glo K mg) : Cal P w K mg base "_law_line_worth" 3 (spA P w K m__law_line_worth) := by
  have C__law_nr_plus : Cal P w K mg base "_law_nr_plus" 2 (spA P w K m__law_nr_plus) := c__law_nr_plus G
  have C__law_nr_times : Cal P w K mg base "_law_nr_times" 2 (spA P w K m__law_nr_times) := c__law_nr_times G
  exact mkA (k := 2) (f := b__law_line_worth) G.h__law_line_worth S__law_line_worth (by decide) (fun f fd F => F.bindsN fun _ _ _ _ _ _ us hl => match us, hl with | [_, _], _ => rfl)
    (fun a cdv A outer s H E hr => (dss_cons (dset 2 S__law_line_worth.nd (de_tup (da_cons de_int (da_cons de_int da_nil))))
    (dss_cons (ds_for PassesOwn.never rfl (di_seq (nv 0)) (dg_t rfl (dgs_cons (dg_t rfl (dgs_cons (gv 4 S__law_line_worth.nd) (dgs_cons (gv 5 S__law_line_worth.nd) dgs_nil))) (dgs_cons (gv 3 S__law_line_worth.nd) dgs_nil))) (dss_one (dset 2 S__law_line_worth.nd (de_call C__law_nr_plus hr (by omega) (by rfl) (da_cons (nv 2) (da_cons (de_call C__law_nr_times hr (by omega) (by rfl) (da_cons (nv 3) (da_cons (de_ix (dx_ixA (hu100 hr)) (de_ix (dx_ixA (hu100 hr)) (nv 1) (nv 4) (by intro _ _; rfl)) (nv 5) (by intro _ _; rfl)) da_nil))) da_nil))))))
    (dss_one (ds_ret (nv 2))))))
theorem c__law_fm_worth (G : Glo K mg) : Cal P w K mg base "_law_fm_worth" 4 (spA P w K m__law_fm_worth) := by
  have C__law_line_worth : Cal P w K mg base "_law_line_worth" 3 (spA P w K m__law_line_worth) := c__law_line_worth G
  have C__law_nr_plus : Cal P w K mg base "_law_nr_plus" 2 (spA P w K m__law_nr_plus) := c__law_nr_plus G
  exact mkA (k := 3) (f := b__law_fm_worth) G.h__law_fm_worth S__law_fm_worth (by decide) (fun f fd F => F.bindsN fun _ _ _ _ _ _ us hl => match us, hl with | [_, _], _ => rfl)
    (fun a cdv A outer s H E hr => (dss_one (ds_ret (de_call C__law_nr_plus hr (by omega) (by rfl) (da_cons (de_ix (dx_ixA (hu100 hr)) (nv 0) de_int (by intro _ _; rfl)) (da_cons (de_call C__law_line_worth hr (by omega) (by rfl) (da_cons (de_ix (dx_ixA (hu100 hr)) (nv 0) de_int (by intro _ _; rfl)) (da_cons (nv 1) da_nil))) da_nil))))))
theorem c__law_chosen (G : Glo K mg) : Cal P w K mg base "_law_chosen" 2 (spP P w K m__law_chosen) := by
  have C__law_take : Cal P w K mg base "_law_take" 1 (spP P w K m__law_take) := c__law_take G
  exact mkP (k := 1) (f := b__law_chosen) G.h__law_chosen S__law_chosen (by decide) (fun f fd F => F.bindsN fun _ _ _ _ _ _ us hl => match us, hl with | [_, _], _ => rfl)
    (fun a cdv A outer s H E hr => (dss_one (ds_ret (de_ix (dx_ixA (hu100 hr)) (nv 1) (de_callP (i := 0) C__law_take hr (by omega) (by rfl) (nv 0) (da_cons (de_cb1 dc_len (by rfl) G.f_len (by decide +kernel) (nv 1)) da_nil)) (by intro _ _; rfl)))))
theorem c__law_number_drawn (G : Glo K mg) : Cal P w K mg base "_law_number_drawn" 2 (spP P w K m__law_number_drawn) := by
  have C__law_nr : Cal P w K mg base "_law_nr" 1 (spA P w K m__law_nr) := c__law_nr G
  have C__law_take : Cal P w K mg base "_law_take" 1 (spP P w K m__law_take) := c__law_take G
  exact mkP (k := 1) (f := b__law_number_drawn) G.h__law_number_drawn S__law_number_drawn (by decide) (fun f fd F => F.bindsN fun _ _ _ _ _ _ us hl => match us, hl with | [_], _ => rfl)
    (fun a cdv A outer s H E hr => (dss_cons (dset 1 S__law_number_drawn.nd (de_callP (i := 0) C__law_take hr (by omega) (by rfl) (nv 0) (da_cons de_int da_nil)))
    (dss_cons (ds_if (dt_cmp (do_lt hr.units) (nv 1) de_int (by rfl)) (dss_one (ds_ret (de_tup (da_cons (de_op do_sub (de_callP (i := 0) C__law_take hr (by omega) (by rfl) (nv 0) (da_cons de_int da_nil)) de_int) (da_cons de_int da_nil))))) dss_nil)
    (dss_one (ds_ret (de_if (dt_cmp (do_eq hr.units) (nv 1) de_int (by rfl)) (de_call C__law_nr hr (by omega) (by rfl) (da_cons (de_op do_sub (de_callP (i := 0) C__law_take hr (by omega) (by rfl) (nv 0) (da_cons de_int da_nil)) de_int) (da_cons (de_op do_add de_int (de_callP (i := 0) C__law_take hr (by omega) (by rfl) (nv 0) (da_cons de_int da_nil))) da_nil))) (de_tup (da_cons (de_callP (i := 0) C__law_take hr (by omega) (by rfl) (nv 0) (da_cons (de_op do_pow de_int de_int) da_nil)) (da_cons de_int da_nil)))))))))
theorem c__law_factor_drawn (G : Glo K mg) : Cal P w K mg base "_law_factor_drawn" 3 (spP P w K m__law_factor_drawn) := by
  have C__law_chosen : Cal P w K mg base "_law_chosen" 2 (spP P w K m__law_chosen) := c__law_chosen G
  exact mkP (k := 2) (f := b__law_factor_drawn) G.h__law_factor_drawn S__law_factor_drawn (by decide) (fun f fd F => F.bindsN fun _ _ _ _ _ _ us hl => match us, hl with | [_], _ => rfl)
    (fun a cdv A outer s H E hr => (dss_one (ds_ret (de_callP (i := 0) C__law_chosen hr (by omega) (by rfl) (nv 0) (da_cons (de_lst (da_cons (de_tup (da_cons de_int (da_cons de_int da_nil))) (da_cons (de_tup (da_cons de_int (da_cons de_int da_nil))) (da_cons (de_tup (da_cons de_int (da_cons de_int da_nil))) (da_cons (de_tup (da_cons (de_un du_neg de_int) (da_cons de_int da_nil))) (da_cons (de_tup (da_cons de_int (da_cons de_int da_nil))) (da_cons (de_tup (da_cons de_int (da_cons de_int da_nil))) (da_cons (de_tup (da_cons (de_un du_neg de_int) (da_cons de_int da_nil))) da_nil)))))))) da_nil)))))
theorem c__law_any_number (G : Glo K mg) : Cal P w K mg base "_law_any_number" 4 (spP P w K m__law_any_number) := by
  have C__law_chosen : Cal P w K mg base "_law_chosen" 2 (spP P w K m__law_chosen) := c__law_chosen G
  have C__law_factor_drawn : Cal P w K mg base "_law_factor_drawn" 3 (spP P w K m__law_factor_drawn) := c__law_factor_drawn G
  have C__law_nr : Cal P w K mg base "_law_nr" 1 (spA P w K m__law_nr) := c__law_nr G
  have C__law_number_drawn : Cal P w K mg base "_law_number_drawn" 2 (spP P w K m__law_number_drawn) := c__law_number_drawn G
  have C__law_take : Cal P w K mg base "_law_take" 1 (spP P w K m__law_take) := c__law_take G
  exact mkP (k := 3) (f := b__law_any_number) G.h__law_any_number S__law_any_number (by decide) (fun f fd F => F.bindsN fun _ _ _ _ _ _ us hl => match us, hl with | [_], _ => rfl)
    (fun a cdv A outer s H E hr => (dss_cons (dset 1 S__law_any_number.nd (de_op do_add (de_op do_pow de_int de_int) (de_callP (i := 0) C__law_take hr (by omega) (by rfl) (nv 0) (da_cons (de_op do_pow de_int de_int) da_nil))))
    (dss_cons (dset 2 S__law_any_number.nd (de_lst (da_cons (de_tup (da_cons de_int (da_cons de_int da_nil))) (da_cons (de_tup (da_cons de_int (da_cons de_int da_nil))) (da_cons (de_tup (da_cons (de_un du_neg de_int) (da_cons de_int da_nil))) (da_cons (de_callP (i := 0) C__law_number_drawn hr (by omega) (by rfl) (nv 0) da_nil) (da_cons (de_callP (i := 0) C__law_factor_drawn hr (by omega) (by rfl) (nv 0) da_nil) (da_cons (de_tup (da_cons (nv 1) (da_cons de_int da_nil))) (da_cons (de_call C__law_nr hr (by omega) (by rfl) (da_cons (de_un du_neg (nv 1)) (da_cons de_int da_nil))) da_nil)))))))))
    (dss_one (ds_ret (de_callP (i := 0) C__law_chosen hr (by omega) (by rfl) (nv 0) (da_cons (de_op do_add (nv 2) (de_lst (da_cons (de_call C__law_nr hr (by omega) (by rfl) (da_cons (de_op do_add de_int (de_callP (i := 0) C__law_take hr (by omega) (by rfl) (nv 0) (da_cons de_int da_nil))) (da_cons (de_op do_add (de_op do_pow de_int de_int) de_int) da_nil))) da_nil))) da_nil)))))))
theorem c__law_some_weight (G : Glo K mg) : Cal P w K mg base "_law_some_weight" 5 (spP P w K m__law_some_weight) := by
  have C__law_any_number : Cal P w K mg base "_law_any_number" 4 (spP P w K m__law_any_number) := c__law_any_number G
  exact mkP (k := 4) (f := b__law_some_weight) G.h__law_some_weight S__law_some_weight (by decide) (fun f fd F => F.bindsN fun _ _ _ _ _ _ us hl => match us, hl with | [_], _ => rfl)
    (fun a cdv A outer s H E hr => (dss_cons (dset 1 S__law_some_weight.nd (de_callP (i := 0) C__law_any_number hr (by omega) (by rfl) (nv 0) da_nil))
    (dss_one (ds_ret (de_if (dt_cmp (do_ne hr.units) (de_ix (dx_ixA (hu100 hr)) (nv 1) de_int (by intro _ _; rfl)) de_int (by rfl)) (nv 1) (de_tup (da_cons de_int (da_cons de_int da_nil))))))))
theorem c__law_grains_any (G : Glo K mg) : Cal P w K mg base "_law_grains_any" 3 (spP P w K m__law_grains_any) := by
  have C__law_chosen : Cal P w K mg base "_law_chosen" 2 (spP P w K m__law_chosen) := c__law_chosen G
  have C__law_take : Cal P w K mg base "_law_take" 1 (spP P w K m__law_take) := c__law_take G
  exact mkP (k := 2) (f := b__law_grains_any) G.h__law_grains_any S__law_grains_any (by decide) (fun f fd F => F.bindsN fun _ _ _ _ _ _ us hl => match us, hl with | [_], _ => rfl)
    (fun a cdv A outer s H E hr => (dss_cons (ds_par2 rfl S__law_grains_any.nd rfl rfl (by decide) rfl rfl (de_fz (de_lst (da_cons de_str (da_cons de_str (da_cons de_str (da_cons de_str (da_cons de_str (da_cons de_str da_nil)))))))) de_newN (by rfl))
    (dss_cons (ds_for PassesOwn.never rfl (di_r1 (by rfl) G.f_range (da_cons (de_op do_add de_int (de_callP (i := 0) C__law_take hr (by omega) (by rfl) (nv 0) (da_cons de_int da_nil))) da_nil)) (gv 3 S__law_grains_any.nd) (dss_cons (dset 4 S__law_grains_any.nd (de_ct1 dc_tuple (by rfl) G.f_tuple (by decide +kernel) (de_lc rfl S__law_grains_any.nd (di_r1 (by rfl) G.f_range (da_cons (de_callP (i := 0) C__law_take hr (by omega) (by rfl) (nv 0) (da_cons de_int da_nil)) da_nil)) (blk_ok (own := [("axis", 5)]) (by kernel_rfl)) (by decide) (fun _ _ _ _ _ => (gv 5 S__law_grains_any.nd)) (fun _ _ _ _ _ => dts_nil) (fun _ _ _ _ _ => (de_callP (i := 0) C__law_chosen hr (by omega) (by rfl) (nv 0) (da_cons (de_lst (da_cons de_int (da_cons de_int (da_cons de_int (da_cons de_int (da_cons (de_op do_pow de_int de_int) da_nil)))))) da_nil))))))
    (dss_one (ds_setD (hu100 hr) (pe_var rfl (by first | exact Or.inl rfl | exact Or.inr (Or.inl rfl))) (de_tup (da_cons (de_callP (i := 0) C__law_chosen hr (by omega) (by rfl) (nv 0) (da_cons (nv 1) da_nil)) (da_cons (nv 4) da_nil))) de_bl))))
    (dss_fz (i := 2) (dss_one (ds_ret (de_cbn (dc_sorted (by rfl) (hu200 hr)) (by rfl) G.f_sorted (by decide +kernel) (nv 2))))))))
theorem c__law_line_of (G : Glo K mg) : Cal P w K mg base "_law_line_of" 6 (spP P w K m__law_line_of) := by
  have C__law_some_weight : Cal P w K mg base "_law_some_weight" 5 (spP P w K m__law_some_weight) := c__law_some_weight G
  have C__law_take : Cal P w K mg base "_law_take" 1 (spP P w K m__law_take) := c__law_take G
  exact mkP (k := 5) (f := b__law_line_of) G.h__law_line_of S__law_line_of (by decide) (fun f fd F => F.bindsN fun _ _ _ _ _ _ us hl => match us, hl with | [_, _], _ => rfl)
    (fun a cdv A outer s H E hr => (dss_one (ds_ret (de_ct1 dc_tuple (by rfl) G.f_tuple (by decide +kernel) (de_lc rfl S__law_line_of.nd (di_seq (nv 1)) (blk_ok (own := [("grain", 2)]) (by kernel_rfl)) (by decide) (fun _ _ _ _ _ => (gv 2 S__law_line_of.nd)) (fun _ _ _ _ _ => (dts_one (dt_cmp do_gt (de_callP (i := 0) C__law_take hr (by omega) (by rfl) (nv 0) (da_cons de_int da_nil)) de_int (by rfl)))) (fun _ _ _ _ _ => (de_tup (da_cons (nv 2) (da_cons (de_callP (i := 0) C__law_some_weight hr (by omega) (by rfl) (nv 0) da_nil) da_nil)))))))))
theorem c__law_sums_right (G : Glo K mg) : Cal P w K mg base "_law_sums_right" 13 (spP P w K m__law_sums_right) := by
  have C__law_any_number : Cal P w K mg base "_law_any_number" 4 (spP P w K m__law_any_number) := c__law_any_number G
  have C__law_fm_less : Cal P w K mg base "_law_fm_less" 5 (spA P w K m__law_fm_less) := c__law_fm_less G
  have C__law_fm_plus : Cal P w K mg base "_law_fm_plus" 4 (spA P w K m__law_fm_plus) := c__law_fm_plus G
  have C__law_fm_times : Cal P w K mg base "_law_fm_times" 4 (spA P w K m__law_fm_times) := c__law_fm_times G
  have C__law_line_cut : Cal P w K mg base "_law_line_cut" 1 (spA P w K m__law_line_cut) := c__law_line_cut G
  have C__law_line_of : Cal P w K mg base "_law_line_of" 6 (spP P w K m__law_line_of) := c__law_line_of G
  have C__law_line_pair : Cal P w K mg base "_law_line_pair" 3 (spA P w K m__law_line_pair) := c__law_line_pair G
  have C__law_line_plus : Cal P w K mg base "_law_line_plus" 3 (spA P w K m__law_line_plus) := c__law_line_plus G
  have C__law_line_times : Cal P w K mg base "_law_line_times" 3 (spA P w K m__law_line_times) := c__law_line_times G
  have C__law_same : Cal P w K mg base "_law_same" 12 (spA P w K (m__law_same fuel)) := c__law_same G fuel
  have C__law_take : Cal P w K mg base "_law_take" 1 (spP P w K m__law_take) := c__law_take G
  have C__law_weight : Cal P w K mg base "_law_weight" 1 (spA P w K m__law_weight) := c__law_weight G
  have C_cut : Cal P w K mg base "cut" 1 (spA P w K m_cut) := c_cut G
  have C_form_minus : Cal P w K mg base "form_minus" 6 (spA P w K m_form_minus) := c_form_minus G
  have C_form_plus : Cal P w K mg base "form_plus" 5 (spA P w K m_form_plus) := c_form_plus G
  have C_form_times : Cal P w K mg base "form_times" 5 (spA P w K m_form_times) := c_form_times G
  have C_line_plus : Cal P w K mg base "line_plus" 4 (spA P w K m_line_plus) := c_line_plus G
  have C_line_times : Cal P w K mg base "line_times" 4 (spA P w K m_line_times) := c_line_times G
  have C_paired : Cal P w K mg base "paired" 4 (spA P w K m_paired) := c_paired G
  have C_weight_in : Cal P w K mg base "weight_in" 2 (spA P w K m_weight_in) := c_weight_in G
  exact mkP (k := 12) (f := b__law_sums_right) G.h__law_sums_right S__law_sums_right (by decide) (fun f fd F => F.bindsN fun _ _ _ _ _ _ us hl => match us, hl with | [_, _], _ => rfl)
    (fun a cdv A outer s H E hr => (dss_cons (ds_asg (de_tup (da_cons (de_callP (i := 0) C__law_line_of hr (by omega) (by rfl) (nv 0) (da_cons (nv 1) da_nil)) (da_cons (de_callP (i := 0) C__law_line_of hr (by omega) (by rfl) (nv 0) (da_cons (nv 1) da_nil)) (da_cons (de_callP (i := 0) C__law_any_number hr (by omega) (by rfl) (nv 0) da_nil) da_nil)))) (dg_t rfl (dgs_cons (gv 2 S__law_sums_right.nd) (dgs_cons (gv 3 S__law_sums_right.nd) (dgs_cons (gv 4 S__law_sums_right.nd) dgs_nil)))))
    (dss_cons (dset 5 S__law_sums_right.nd (de_op do_add (de_lc rfl S__law_sums_right.nd (di_seq (nv 1)) (blk_ok (own := [("grain", 6)]) (by kernel_rfl)) (by decide) (fun _ _ _ _ _ => (gv 6 S__law_sums_right.nd)) (fun _ _ _ _ _ => (dts_one (dt_cmp (do_eq hr.units) (de_callP (i := 0) C__law_take hr (by omega) (by rfl) (nv 0) (da_cons de_int da_nil)) de_int (by rfl)))) (fun _ _ _ _ _ => (nv 6))) (de_lst (da_cons (de_tup (da_cons de_str (da_cons (de_tup (da_cons de_int da_nil)) da_nil))) da_nil))))
    (dss_cons (dset 5 S__law_sums_right.nd (de_if (dt_cmp (do_eq hr.units) (de_callP (i := 0) C__law_take hr (by omega) (by rfl) (nv 0) (da_cons de_int da_nil)) de_int (by rfl)) (nv 5) (de_ct1 dc_tuple (by rfl) G.f_tuple (by decide +kernel) (nv 5))))
    (dss_cons (dset 7 S__law_sums_right.nd (de_call C__law_line_plus hr (by omega) (by rfl) (da_cons (nv 2) (da_cons (nv 3) da_nil))))
    (dss_cons (dset 8 S__law_sums_right.nd (de_tup (da_cons (de_call C_line_plus hr (by omega) (by rfl) (da_cons (nv 2) (da_cons (nv 3) da_nil))) (da_cons (de_call C_line_plus hr (by omega) (by rfl) (da_cons (nv 3) (da_cons (nv 2) da_nil))) (da_cons (de_call C_line_times hr (by omega) (by rfl) (da_cons (nv 2) (da_cons (nv 4) da_nil))) (da_cons (de_call C_line_plus hr (by omega) (by rfl) (da_cons (nv 2) (da_cons (de_call C_line_times hr (by omega) (by rfl) (da_cons (nv 2) (da_cons (de_tup (da_cons (de_un du_neg de_int) (da_cons de_int da_nil))) da_nil))) da_nil))) (da_cons (de_call C_line_times hr (by omega) (by rfl) (da_cons (nv 2) (da_cons (de_tup (da_cons de_int (da_cons de_int da_nil))) da_nil))) da_nil)))))))
    (dss_cons (ds_if (dt_not (dt_val (de_call C__law_same hr (by omega) (by rfl) (da_cons (nv 8) (da_cons (de_tup (da_cons (nv 7) (da_cons (nv 7) (da_cons (de_call C__law_line_times hr (by omega) (by rfl) (da_cons (nv 2) (da_cons (nv 4) da_nil))) (da_cons (de_tup da_nil) (da_cons (de_tup da_nil) da_nil)))))) da_nil))))) (dss_one (ds_ret de_bl)) dss_nil)
    (dss_cons (dset 8 S__law_sums_right.nd (de_tup (da_cons (de_call C_cut hr (by omega) (by rfl) (da_cons (nv 2) (da_cons (nv 5) da_nil))) (da_cons (de_call C_cut hr (by omega) (by rfl) (da_cons (nv 2) (da_cons (de_lst da_nil) da_nil))) (da_cons (de_call C_paired hr (by omega) (by rfl) (da_cons (nv 2) (da_cons (nv 3) da_nil))) (da_cons (de_call C_paired hr (by omega) (by rfl) (da_cons (nv 3) (da_cons (nv 2) da_nil))) (da_cons (de_call C_paired hr (by omega) (by rfl) (da_cons (nv 2) (da_cons (de_tup da_nil) da_nil))) da_nil)))))))
    (dss_cons (ds_if (dt_not (dt_val (de_call C__law_same hr (by omega) (by rfl) (da_cons (nv 8) (da_cons (de_tup (da_cons (de_call C__law_line_cut hr (by omega) (by rfl) (da_cons (nv 2) (da_cons (nv 5) da_nil))) (da_cons (de_tup da_nil) (da_cons (de_call C__law_line_pair hr (by omega) (by rfl) (da_cons (nv 2) (da_cons (nv 3) da_nil))) (da_cons (de_call C__law_line_pair hr (by omega) (by rfl) (da_cons (nv 2) (da_cons (nv 3) da_nil))) (da_cons (de_tup (da_cons de_int (da_cons de_int da_nil))) da_nil)))))) da_nil))))) (dss_one (ds_ret de_bl)) dss_nil)
    (dss_cons (ds_if (dt_cmp (do_ne hr.units) (de_lc rfl S__law_sums_right.nd (di_seq (de_op do_add (nv 1) (de_lst (da_cons (de_tup (da_cons de_str (da_cons (de_tup (da_cons de_int da_nil)) da_nil))) (da_cons (de_tup (da_cons de_str (da_cons (de_tup da_nil) da_nil))) da_nil))))) (blk_ok (own := [("grain", 6)]) (by kernel_rfl)) (by decide) (fun _ _ _ _ _ => (gv 6 S__law_sums_right.nd)) (fun _ _ _ _ _ => (dts_one (dt_not (dt_val (de_call C__law_same hr (by omega) (by rfl) (da_cons (de_call C_weight_in hr (by omega) (by rfl) (da_cons (nv 2) (da_cons (nv 6) da_nil))) (da_cons (de_call C__law_weight hr (by omega) (by rfl) (da_cons (nv 2) (da_cons (nv 6) da_nil))) da_nil))))))) (fun _ _ _ _ _ => (nv 6))) (de_lst da_nil) (by rfl)) (dss_one (ds_ret de_bl)) dss_nil)
    (dss_cons (ds_par2 rfl S__law_sums_right.nd rfl rfl (by decide) rfl rfl (de_fz (de_callP (i := 0) C__law_any_number hr (by omega) (by rfl) (nv 0) da_nil)) (de_fz (de_callP (i := 0) C__law_any_number hr (by omega) (by rfl) (nv 0) da_nil)) (by rfl))
    (dss_cons (ds_par2 rfl S__law_sums_right.nd rfl rfl (by decide) rfl rfl (de_fz (de_tup (da_cons (nv 9) (da_cons (nv 2) da_nil)))) (de_fz (de_tup (da_cons (nv 10) (da_cons (nv 3) da_nil)))) (by rfl))
    (dss_cons (dset 8 S__law_sums_right.nd (de_lst (da_cons (de_call C_form_plus hr (by omega) (by rfl) (da_cons (nv 11) (da_cons (nv 12) da_nil))) (da_cons (de_call C_form_minus hr (by omega) (by rfl) (da_cons (nv 11) (da_cons (nv 12) da_nil))) (da_cons (de_call C_form_times hr (by omega) (by rfl) (da_cons (nv 11) (da_cons (nv 4) da_nil))) (da_cons (de_call C_form_minus hr (by omega) (by rfl) (da_cons (nv 11) (da_cons (nv 11) da_nil))) (da_cons (de_call C_form_minus hr (by omega) (by rfl) (da_cons (nv 12) (da_cons (nv 11) da_nil))) da_nil)))))))
    (dss_cons (dset 13 S__law_sums_right.nd (de_lst (da_cons (de_call C__law_fm_plus hr (by omega) (by rfl) (da_cons (nv 11) (da_cons (nv 12) da_nil))) (da_cons (de_call C__law_fm_less hr (by omega) (by rfl) (da_cons (nv 11) (da_cons (nv 12) da_nil))) (da_cons (de_call C__law_fm_times hr (by omega) (by rfl) (da_cons (nv 11) (da_cons (nv 4) da_nil))) (da_cons (de_tup (da_cons (de_tup (da_cons de_int (da_cons de_int da_nil))) (da_cons (de_tup da_nil) da_nil))) (da_cons (de_call C__law_fm_less hr (by omega) (by rfl) (da_cons (nv 12) (da_cons (nv 11) da_nil))) da_nil)))))))
    (dss_one (ds_ret (de_call C__law_same hr (by omega) (by rfl) (da_cons (nv 8) (da_cons (nv 13) da_nil)))))))))))))))))))
theorem c__law_arrays_drawn (G : Glo K mg) : Cal P w K mg base "_law_arrays_drawn" 5 (spP P w K m__law_arrays_drawn) := by
  have C__law_any_number : Cal P w K mg base "_law_any_number" 4 (spP P w K m__law_any_number) := c__law_any_number G
  have C__law_take : Cal P w K mg base "_law_take" 1 (spP P w K m__law_take) := c__law_take G
  exact mkP (k := 4) (f := b__law_arrays_drawn) G.h__law_arrays_drawn S__law_arrays_drawn (by decide) (fun f fd F => F.bindsN fun _ _ _ _ _ _ us hl => match us, hl with | [_], _ => rfl)
    (fun a cdv A outer s H E hr => (dss_cons (down 1 S__law_arrays_drawn.nd de_newK)
    (dss_cons (ds_for PassesOwn.never rfl (di_seq (de_lst (da_cons de_str (da_cons de_str (da_cons de_str (da_cons de_str (da_cons de_str da_nil))))))) (gv 2 S__law_arrays_drawn.nd) (dss_cons (dset 3 S__law_arrays_drawn.nd (de_lst (da_cons (de_tup da_nil) da_nil)))
    (dss_cons (ds_for PassesOwn.never rfl (di_r1 (by rfl) G.f_range (da_cons (de_callP (i := 0) C__law_take hr (by omega) (by rfl) (nv 0) (da_cons de_int da_nil)) da_nil)) (gv 4 S__law_arrays_drawn.nd) (dss_cons (ds_par2 rfl S__law_arrays_drawn.nd rfl rfl (by decide) rfl rfl (de_fz (de_op do_add de_int (de_callP (i := 0) C__law_take hr (by omega) (by rfl) (nv 0) (da_cons de_int da_nil)))) (de_lst da_nil) (by rfl))
    (dss_cons (ds_for PassesOwn.never rfl (di_seq (nv 3)) (gv 5 S__law_arrays_drawn.nd) (dss_one (ds_expr (dext 7 (de_lc rfl S__law_arrays_drawn.nd (di_r1 (by rfl) G.f_range (da_cons (nv 6) da_nil)) (blk_ok (own := [("at", 8)]) (by kernel_rfl)) (by decide) (fun _ _ _ _ _ => (gv 8 S__law_arrays_drawn.nd)) (fun _ _ _ _ _ => dts_nil) (fun _ _ _ _ _ => (de_op do_add (nv 5) (de_tup (da_cons (nv 8) da_nil)))))))))
    (dss_fz (i := 7) (dss_one (dset 3 S__law_arrays_drawn.nd (de_ctn dc_list (by rfl) G.f_list (by decide +kernel) (nv 7))))))))
    (dss_one (ds_setD (hu100 hr) (pe_var rfl (by first | exact Or.inl rfl | exact Or.inr (Or.inl rfl))) (nv 2) (de_lk (de_dict (by rfl) (hu100 hr) (by rfl) G.f_dict (by decide +kernel) (de_lc rfl S__law_arrays_drawn.nd (di_seq (nv 3)) (blk_ok (own := [("cell", 5)]) (by kernel_rfl)) (by decide) (fun _ _ _ _ _ => (gv 5 S__law_arrays_drawn.nd)) (fun _ _ _ _ _ => dts_nil) (fun _ _ _ _ _ => (de_tup (da_cons (nv 5) (da_cons (de_callP (i := 0) C__law_any_number hr (by omega) (by rfl) (nv 0) da_nil) da_nil))))))))))))
    (dss_one (ds_ret (nv 1))))))
theorem c__law_worths_right (G : Glo K mg) : Cal P w K mg base "_law_worths_right" 13 (spP P w K m__law_worths_right) := by
  have C__law_any_number : Cal P w K mg base "_law_any_number" 4 (spP P w K m__law_any_number) := c__law_any_number G
  have C__law_arrays_drawn : Cal P w K mg base "_law_arrays_drawn" 5 (spP P w K m__law_arrays_drawn) := c__law_arrays_drawn G
  have C__law_fm_worth : Cal P w K mg base "_law_fm_worth" 4 (spA P w K m__law_fm_worth) := c__law_fm_worth G
  have C__law_line_of : Cal P w K mg base "_law_line_of" 6 (spP P w K m__law_line_of) := c__law_line_of G
  have C__law_nr_plus : Cal P w K mg base "_law_nr_plus" 2 (spA P w K m__law_nr_plus) := c__law_nr_plus G
  have C__law_same : Cal P w K mg base "_law_same" 12 (spA P w K (m__law_same fuel)) := c__law_same G fuel
  have C__law_take : Cal P w K mg base "_law_take" 1 (spP P w K m__law_take) := c__law_take G
  have C_form_plus : Cal P w K mg base "form_plus" 5 (spA P w K m_form_plus) := c_form_plus G
  have C_worth_of_form : Cal P w K mg base "worth_of_form" 4 (spA P w K m_worth_of_form) := c_worth_of_form G
  exact mkP (k := 12) (f := b__law_worths_right) G.h__law_worths_right S__law_worths_right (by decide) (fun f fd F => F.bindsN fun _ _ _ _ _ _ us hl => match us, hl with | [_], _ => rfl)
    (fun a cdv A outer s H E hr => (dss_cons (ds_par2 rfl S__law_worths_right.nd rfl rfl (by decide) rfl rfl (de_fz (de_callP (i := 0) C__law_arrays_drawn hr (by omega) (by rfl) (nv 0) da_nil)) (de_lst da_nil) (by rfl))
    (dss_cons (ds_for PassesOwn.never rfl (di_seq (de_cbn (dc_sorted (by rfl) (hu200 hr)) (by rfl) G.f_sorted (by decide +kernel) (nv 1))) (gv 3 S__law_worths_right.nd) (dss_one (ds_expr (dext 2 (de_lc rfl S__law_worths_right.nd (di_dil (de_ix (dx_ixA (hu100 hr)) (nv 1) (nv 3) (by intro _ _; rfl))) (blk_ok (own := [("cell", 4)]) (by kernel_rfl)) (by decide) (fun _ _ _ _ _ => (gv 4 S__law_worths_right.nd)) (fun _ _ _ _ _ => (dts_one (dt_cmp (do_eq hr.units) (de_callP (i := 0) C__law_take hr (by omega) (by rfl) (nv 0) (da_cons de_int da_nil)) de_int (by rfl)))) (fun _ _ _ _ _ => (de_tup (da_cons (nv 3) (da_cons (nv 4) da_nil)))))))))
    (dss_fz (i := 2) (dss_cons (ds_par2 rfl S__law_worths_right.nd rfl rfl (by decide) rfl rfl (de_fz (de_callP (i := 0) C__law_line_of hr (by omega) (by rfl) (nv 0) (da_cons (de_cbn (dc_sorted (by rfl) (hu200 hr)) (by rfl) G.f_sorted (by decide +kernel) (nv 2)) da_nil))) (de_fz (de_callP (i := 0) C__law_line_of hr (by omega) (by rfl) (nv 0) (da_cons (de_cbn (dc_sorted (by rfl) (hu200 hr)) (by rfl) G.f_sorted (by decide +kernel) (nv 2)) da_nil))) (by rfl))
    (dss_cons (ds_par2 rfl S__law_worths_right.nd rfl rfl (by decide) rfl rfl (de_fz (de_tup (da_cons (de_callP (i := 0) C__law_any_number hr (by omega) (by rfl) (nv 0) da_nil) (da_cons (nv 5) da_nil)))) (de_fz (de_tup (da_cons (de_callP (i := 0) C__law_any_number hr (by omega) (by rfl) (nv 0) da_nil) (da_cons (nv 6) da_nil)))) (by rfl))
    (dss_cons (dset 9 S__law_worths_right.nd (de_lst (da_cons (de_call C_worth_of_form hr (by omega) (by rfl) (da_cons (nv 7) (da_cons (nv 1) da_nil))) (da_cons (de_call C_worth_of_form hr (by omega) (by rfl) (da_cons (nv 8) (da_cons (nv 1) da_nil))) (da_cons (de_call C_worth_of_form hr (by omega) (by rfl) (da_cons (de_call C_form_plus hr (by omega) (by rfl) (da_cons (nv 7) (da_cons (nv 8) da_nil))) (da_cons (nv 1) da_nil))) (da_cons (de_call C_worth_of_form hr (by omega) (by rfl) (da_cons (de_tup (da_cons (de_tup (da_cons de_int (da_cons de_int da_nil))) (da_cons (de_tup da_nil) da_nil))) (da_cons de_newN da_nil))) da_nil))))))
    (dss_cons (dset 10 S__law_worths_right.nd (de_lst (da_cons (de_call C__law_fm_worth hr (by omega) (by rfl) (da_cons (nv 7) (da_cons (nv 1) da_nil))) (da_cons (de_call C__law_fm_worth hr (by omega) (by rfl) (da_cons (nv 8) (da_cons (nv 1) da_nil))) (da_cons (de_call C__law_nr_plus hr (by omega) (by rfl) (da_cons (de_call C__law_fm_worth hr (by omega) (by rfl) (da_cons (nv 7) (da_cons (nv 1) da_nil))) (da_cons (de_call C__law_fm_worth hr (by omega) (by rfl) (da_cons (nv 8) (da_cons (nv 1) da_nil))) da_nil))) (da_cons (de_tup (da_cons de_int (da_cons de_int da_nil))) da_nil))))))
    (dss_one (ds_ret (de_call C__law_same hr (by omega) (by rfl) (da_cons (nv 9) (da_cons (nv 10) da_nil)))))))))))))
theorem c__law_bent_grain (G : Glo K mg) : Cal P w K mg base "_law_bent_grain" 3 (spP P w K m__law_bent_grain) := by
  have C__law_chosen : Cal P w K mg base "_law_chosen" 2 (spP P w K m__law_chosen) := c__law_chosen G
  exact mkP (k := 2) (f := b__law_bent_grain) G.h__law_bent_grain S__law_bent_grain (by decide) (fun f fd F => F.bindsN fun _ _ _ _ _ _ us hl => match us, hl with | [_, _], _ => rfl)
    (fun a cdv A outer s H E hr => (dss_cons (ds_asg (nv 1) (dg_t rfl (dgs_cons (gv 2 S__law_bent_grain.nd) (dgs_cons (gv 3 S__law_bent_grain.nd) dgs_nil))))
    (dss_cons (down 4 S__law_bent_grain.nd (de_lst (da_cons (de_tup (da_cons de_str (da_cons (nv 3) da_nil))) (da_cons (de_tup (da_cons de_str (da_cons (nv 3) da_nil))) (da_cons (de_tup (da_cons de_str (da_cons (nv 3) da_nil))) (da_cons (de_tup (da_cons de_str (da_cons (nv 3) da_nil))) (da_cons (de_tup (da_cons de_str (da_cons (nv 3) da_nil))) (da_cons (de_tup (da_cons de_int (da_cons (nv 3) da_nil))) (da_cons (de_tup (da_cons de_non (da_cons (nv 3) da_nil))) (da_cons (de_tup (da_cons (nv 2) (da_cons (de_ctn dc_list (by rfl) G.f_list (by decide +kernel) (nv 3)) da_nil))) (da_cons (de_tup (da_cons (nv 2) (da_cons de_int da_nil))) (da_cons (de_tup (da_cons (nv 2) (da_cons de_non da_nil))) da_nil))))))))))))
    (dss_cons (ds_expr (dext 4 (de_lst (da_cons (de_tup (da_cons (nv 2) (da_cons (de_op do_add (nv 3) (de_tup (da_cons (de_un du_neg de_int) da_nil))) da_nil))) (da_cons (de_tup (da_cons (nv 2) (da_cons (de_op do_add (nv 3) (de_tup (da_cons de_bl da_nil))) da_nil))) (da_cons (de_tup (da_cons (nv 2) (da_cons (de_tup (da_cons de_int (da_cons de_int (da_cons de_int (da_cons de_int da_nil))))) da_nil))) (da_cons (de_tup (da_cons (nv 2) (da_cons (de_op do_add (nv 3) (de_tup (da_cons de_str da_nil))) da_nil))) (da_cons (de_tup (da_cons (nv 2) da_nil)) (da_cons (de_tup (da_cons (nv 2) (da_cons (nv 3) (da_cons de_int da_nil)))) (da_cons (de_lst (da_cons (nv 2) (da_cons (nv 3) da_nil))) (da_cons (nv 2) (da_cons (nv 3) da_nil))))))))))))
    (dss_fz (i := 4) (dss_one (ds_ret (de_callP (i := 0) C__law_chosen hr (by omega) (by rfl) (nv 0) (da_cons (de_op do_add (nv 4) (de_lst (da_cons (de_tup (da_cons (nv 2) (da_cons (de_tup (da_cons de_non da_nil)) da_nil))) (da_cons (de_tup (da_cons (nv 3) (da_cons (nv 2) da_nil))) (da_cons (de_tup (da_cons (nv 2) (da_cons (de_op do_add (nv 3) (de_tup (da_cons (de_tup (da_cons de_int da_nil)) da_nil))) da_nil))) da_nil))))) da_nil)))))))))
theorem c__law_bent_weight (G : Glo K mg) : Cal P w K mg base "_law_bent_weight" 3 (spP P w K m__law_bent_weight) := by
  have C__law_chosen : Cal P w K mg base "_law_chosen" 2 (spP P w K m__law_chosen) := c__law_chosen G
  exact mkP (k := 2) (f := b__law_bent_weight) G.h__law_bent_weight S__law_bent_weight (by decide) (fun f fd F => F.bindsN fun _ _ _ _ _ _ us hl => match us, hl with | [_], _ => rfl)
    (fun a cdv A outer s H E hr => (dss_one (ds_ret (de_callP (i := 0) C__law_chosen hr (by omega) (by rfl) (nv 0) (da_cons (de_lst (da_cons (de_tup (da_cons de_int (da_cons de_int da_nil))) (da_cons (de_tup (da_cons de_int (da_cons de_int da_nil))) (da_cons (de_tup (da_cons de_int (da_cons de_int da_nil))) (da_cons (de_tup (da_cons de_int (da_cons de_int da_nil))) (da_cons (de_tup (da_cons de_int (da_cons (de_un du_neg de_int) da_nil))) (da_cons (de_tup (da_cons (de_un du_neg de_int) (da_cons (de_un du_neg de_int) da_nil))) (da_cons (de_tup (da_cons de_bl (da_cons de_int da_nil))) (da_cons (de_tup (da_cons de_int (da_cons de_bl da_nil))) (da_cons de_int (da_cons de_non (da_cons de_bl (da_cons de_str (da_cons (de_lst (da_cons de_int (da_cons de_int da_nil))) (da_cons (de_tup (da_cons de_int da_nil)) (da_cons (de_tup (da_cons de_int (da_cons de_int (da_cons de_int da_nil)))) (da_cons (de_tup (da_cons de_str (da_cons de_int da_nil))) da_nil))))))))))))))))) da_nil)))))
theorem c__law_bent_line (G : Glo K mg) : Cal P w K mg base "_law_bent_line" 4 (spP P w K m__law_bent_line) := by
  have C__law_bent_grain : Cal P w K mg base "_law_bent_grain" 3 (spP P w K m__law_bent_grain) := c__law_bent_grain G
  have C__law_bent_weight : Cal P w K mg base "_law_bent_weight" 3 (spP P w K m__law_bent_weight) := c__law_bent_weight G
  have C__law_chosen : Cal P w K mg base "_law_chosen" 2 (spP P w K m__law_chosen) := c__law_chosen G
  have C__law_take : Cal P w K mg base "_law_take" 1 (spP P w K m__law_take) := c__law_take G
  exact mkP (k := 3) (f := b__law_bent_line) G.h__law_bent_line S__law_bent_line (by decide) (fun f fd F => F.bindsN fun _ _ _ _ _ _ us hl => match us, hl with | [_, _], _ => rfl)
    (fun a cdv A outer s H E hr => (dss_cons (ds_if (dt_cmp (do_eq hr.units) (nv 1) (de_tup da_nil) (by rfl)) (dss_one (ds_ret (de_callP (i := 0) C__law_chosen hr (by omega) (by rfl) (nv 0) (da_cons (de_lst (da_cons de_non (da_cons (de_lst da_nil) (da_cons de_int (da_cons (de_tup (da_cons (de_tup da_nil) da_nil)) (da_cons (de_tup (da_cons de_non da_nil)) (da_cons de_str (da_cons de_newN da_nil)))))))) da_nil)))) dss_nil)
    (dss_cons (dset 2 S__law_bent_line.nd (de_callP (i := 0) C__law_take hr (by omega) (by rfl) (nv 0) (da_cons (de_cb1 dc_len (by rfl) G.f_len (by decide +kernel) (nv 1)) da_nil)))
    (dss_cons (ds_asg (de_ix (dx_ixA (hu100 hr)) (nv 1) (nv 2) (by intro _ _; rfl)) (dg_t rfl (dgs_cons (gv 3 S__law_bent_line.nd) (dgs_cons (gv 4 S__law_bent_line.nd) dgs_nil))))
    (dss_cons (dset 5 S__law_bent_line.nd (de_lst (da_cons (de_tup (da_cons (nv 3) (da_cons (de_callP (i := 0) C__law_bent_weight hr (by omega) (by rfl) (nv 0) da_nil) da_nil))) (da_cons (de_tup (da_cons (de_callP (i := 0) C__law_bent_grain hr (by omega) (by rfl) (nv 0) (da_cons (nv 3) da_nil)) (da_cons (nv 4) da_nil))) (da_cons (de_lst (da_cons (nv 3) (da_cons (nv 4) da_nil))) (da_cons (de_tup (da_cons (nv 3) da_nil)) (da_cons (de_tup (da_cons (nv 3) (da_cons (nv 4) (da_cons (nv 4) da_nil)))) (da_cons (de_tup (da_cons (nv 4) (da_cons (nv 3) da_nil))) (da_cons (nv 3) (da_cons de_non da_nil))))))))))
    (dss_cons (dset 6 S__law_bent_line.nd (de_op do_add (de_op do_add (de_slice (nv 1) do_none (do_some (nv 2))) (de_tup (da_cons (de_callP (i := 0) C__law_chosen hr (by omega) (by rfl) (nv 0) (da_cons (nv 5) da_nil)) da_nil))) (de_slice (nv 1) (do_some (de_op do_add (nv 2) de_int)) do_none)))
    (dss_one (ds_ret (de_callP (i := 0) C__law_chosen hr (by omega) (by rfl) (nv 0) (da_cons (de_lst (da_cons (nv 6) (da_cons (nv 6) (da_cons (nv 6) (da_cons (de_revT (nv 1)) (da_cons (de_op do_add (nv 1) (de_slice (nv 1) (do_some (de_un du_neg de_int)) do_none)) (da_cons (de_op do_add (de_slice (nv 1) do_none (do_some de_int)) (nv 1)) (da_cons (de_ctn dc_list (by rfl) G.f_list (by decide +kernel) (nv 1)) (da_cons (de_op do_add (nv 1) (de_tup (da_cons de_non da_nil))) (da_cons (de_op do_add (de_slice (nv 1) (do_some de_int) do_none) (de_slice (nv 1) do_none (do_some de_int))) (da_cons (de_ix (dx_ixA (hu100 hr)) (nv 1) (nv 2) (by intro _ _; rfl)) da_nil))))))))))) da_nil))))))))))
theorem c__law_bent_form (G : Glo K mg) : Cal P w K mg base "_law_bent_form" 5 (spP P w K m__law_bent_form) := by
  have C__law_bent_line : Cal P w K mg base "_law_bent_line" 4 (spP P w K m__law_bent_line) := c__law_bent_line G
  have C__law_bent_weight : Cal P w K mg base "_law_bent_weight" 3 (spP P w K m__law_bent_weight) := c__law_bent_weight G
  have C__law_chosen : Cal P w K mg base "_law_chosen" 2 (spP P w K m__law_chosen) := c__law_chosen G
  exact mkP (k := 4) (f := b__law_bent_form) G.h__law_bent_form S__law_bent_form (by decide) (fun f fd F => F.bindsN fun _ _ _ _ _ _ us hl => match us, hl with | [_, _], _ => rfl)
    (fun a cdv A outer s H E hr => (dss_cons (ds_asg (nv 1) (dg_t rfl (dgs_cons (gv 2 S__law_bent_form.nd) (dgs_cons (gv 3 S__law_bent_form.nd) dgs_nil))))
    (dss_cons (dset 4 S__law_bent_form.nd (de_lst (da_cons (de_tup (da_cons (de_callP (i := 0) C__law_bent_weight hr (by omega) (by rfl) (nv 0) da_nil) (da_cons (nv 3) da_nil))) (da_cons (de_tup (da_cons (nv 2) (da_cons (de_callP (i := 0) C__law_bent_line hr (by omega) (by rfl) (nv 0) (da_cons (nv 3) da_nil)) da_nil))) (da_cons (de_tup (da_cons (nv 2) (da_cons (de_callP (i := 0) C__law_bent_line hr (by omega) (by rfl) (nv 0) (da_cons (nv 3) da_nil)) da_nil))) (da_cons (de_lst (da_cons (nv 2) (da_cons (nv 3) da_nil))) (da_cons (de_tup (da_cons (nv 2) da_nil)) (da_cons (de_tup (da_cons (nv 2) (da_cons (nv 3) (da_cons de_int da_nil)))) da_nil))))))))
    (dss_one (ds_ret (de_callP (i := 0) C__law_chosen hr (by omega) (by rfl) (nv 0) (da_cons (de_op do_add (nv 4) (de_lst (da_cons (de_tup (da_cons (nv 3) (da_cons (nv 2) da_nil))) (da_cons (nv 3) (da_cons (nv 2) (da_cons de_non (da_cons (de_tup (da_cons (nv 2) (da_cons (de_ctn dc_list (by rfl) G.f_list (by decide +kernel) (nv 3)) da_nil))) da_nil))))))) da_nil)))))))
theorem c__law_judged_right (G : Glo K mg) : Cal P w K mg base "_law_judged_right" 13 (spP P w K m__law_judged_right) := by
  have C__law_any_number : Cal P w K mg base "_law_any_number" 4 (spP P w K m__law_any_number) := c__law_any_number G
  have C__law_bent_form : Cal P w K mg base "_law_bent_form" 5 (spP P w K m__law_bent_form) := c__law_bent_form G
  have C__law_bent_grain : Cal P w K mg base "_law_bent_grain" 3 (spP P w K m__law_bent_grain) := c__law_bent_grain G
  have C__law_bent_line : Cal P w K mg base "_law_bent_line" 4 (spP P w K m__law_bent_line) := c__law_bent_line G
  have C__law_chosen : Cal P w K mg base "_law_chosen" 2 (spP P w K m__law_chosen) := c__law_chosen G
  have C__law_is_form_of : Cal P w K mg base "_law_is_form_of" 5 (spA P w K m__law_is_form_of) := c__law_is_form_of G
  have C__law_is_grain_of : Cal P w K mg base "_law_is_grain_of" 3 (spA P w K m__law_is_grain_of) := c__law_is_grain_of G
  have C__law_is_line_of : Cal P w K mg base "_law_is_line_of" 4 (spA P w K m__law_is_line_of) := c__law_is_line_of G
  have C__law_line_of : Cal P w K mg base "_law_line_of" 6 (spP P w K m__law_line_of) := c__law_line_of G
  have C__law_same : Cal P w K mg base "_law_same" 12 (spA P w K (m__law_same fuel)) := c__law_same G fuel
  have C_is_form : Cal P w K mg base "is_form" 5 (spA P w K m_is_form) := c_is_form G
  have C_is_grain : Cal P w K mg base "is_grain" 2 (spA P w K m_is_grain) := c_is_grain G
  have C_is_line : Cal P w K mg base "is_line" 4 (spA P w K m_is_line) := c_is_line G
  exact mkP (k := 12) (f := b__law_judged_right) G.h__law_judged_right S__law_judged_right (by decide) (fun f fd F => F.bindsN fun _ _ _ _ _ _ us hl => match us, hl with | [_, _], _ => rfl)
    (fun a cdv A outer s H E hr => (dss_cons (dset 2 S__law_judged_right.nd (de_callP (i := 0) C__law_line_of hr (by omega) (by rfl) (nv 0) (da_cons (nv 1) da_nil)))
    (dss_cons (ds_par2 rfl S__law_judged_right.nd rfl rfl (by decide) rfl rfl (de_fz (de_tup (da_cons (de_callP (i := 0) C__law_any_number hr (by omega) (by rfl) (nv 0) da_nil) (da_cons (nv 2) da_nil)))) (de_lst (da_cons (de_ix (dx_ixA (hu100 hr)) (nv 1) de_int (by intro _ _; rfl)) (da_cons (nv 2) (da_cons (de_tup (da_cons (de_tup (da_cons de_int (da_cons de_int da_nil))) (da_cons (de_tup da_nil) da_nil))) (da_cons (de_tup da_nil) (da_cons de_non (da_cons de_bl (da_cons de_int (da_cons de_str (da_cons de_newN da_nil)))))))))) (by rfl))
    (dss_cons (ds_expr (dapp 4 (nv 3)))
    (dss_cons (ds_for PassesOwn.never rfl (di_r1 (by rfl) G.f_range (da_cons de_int da_nil)) (gv 5 S__law_judged_right.nd) (dss_one (ds_expr (dext 4 (de_lst (da_cons (de_callP (i := 0) C__law_bent_grain hr (by omega) (by rfl) (nv 0) (da_cons (de_callP (i := 0) C__law_chosen hr (by omega) (by rfl) (nv 0) (da_cons (nv 1) da_nil)) da_nil)) (da_cons (de_callP (i := 0) C__law_bent_line hr (by omega) (by rfl) (nv 0) (da_cons (nv 2) da_nil)) (da_cons (de_callP (i := 0) C__law_bent_form hr (by omega) (by rfl) (nv 0) (da_cons (nv 3) da_nil)) da_nil))))))))
    (dss_fz (i := 4) (dss_cons (ds_for PassesOwn.never rfl (di_seq (nv 4)) (gv 6 S__law_judged_right.nd) (dss_cons (dset 7 S__law_judged_right.nd (de_tup (da_cons (de_call C__law_is_grain_of hr (by omega) (by rfl) (da_cons (nv 6) da_nil)) (da_cons (de_call C__law_is_line_of hr (by omega) (by rfl) (da_cons (nv 6) da_nil)) (da_cons (de_call C__law_is_form_of hr (by omega) (by rfl) (da_cons (nv 6) da_nil)) da_nil)))))
    (dss_one (ds_if (dt_not (dt_val (de_call C__law_same hr (by omega) (by rfl) (da_cons (de_tup (da_cons (de_call C_is_grain hr (by omega) (by rfl) (da_cons (nv 6) da_nil)) (da_cons (de_call C_is_line hr (by omega) (by rfl) (da_cons (nv 6) da_nil)) (da_cons (de_call C_is_form hr (by omega) (by rfl) (da_cons (nv 6) da_nil)) da_nil)))) (da_cons (nv 7) da_nil))))) (dss_one (ds_ret de_bl)) dss_nil))))
    (dss_one (ds_ret de_bl)))))))))
theorem c_law (G : Glo K mg) (hl : Has K mg "law" s_law) : Cal P w K mg base "law" 14 (spA P w K m_law) := by
  have C__law_grains_any : Cal P w K mg base "_law_grains_any" 3 (spP P w K m__law_grains_any) := c__law_grains_any G
  have C__law_judged_right : Cal P w K mg base "_law_judged_right" 13 (spP P w K m__law_judged_right) := c__law_judged_right G
  have C__law_pool : Cal P w K mg base "_law_pool" 1 (spN P w K m__law_pool) := c__law_pool G
  have C__law_same : Cal P w K mg base "_law_same" 12 (spA P w K (m__law_same fuel)) := c__law_same G fuel
  have C__law_sums_right : Cal P w K mg base "_law_sums_right" 13 (spP P w K m__law_sums_right) := c__law_sums_right G
  have C__law_worths_right : Cal P w K mg base "_law_worths_right" 13 (spP P w K m__law_worths_right) := c__law_worths_right G
  have C_cut : Cal P w K mg base "cut" 1 (spA P w K m_cut) := c_cut G
  have C_form_minus : Cal P w K mg base "form_minus" 6 (spA P w K m_form_minus) := c_form_minus G
  have C_paired : Cal P w K mg base "paired" 4 (spA P w K m_paired) := c_paired G
  have C_worth_of_form : Cal P w K mg base "worth_of_form" 4 (spA P w K m_worth_of_form) := c_worth_of_form G
  exact mkA (k := 13) (f := b_law) hl S_law (by decide) (fun f fd F => F.bindsN fun _ _ _ _ _ _ us hl => match us, hl with | [_], _ => rfl)
    (fun a cdv A outer s H E hr => (dss_cons (down 1 S_law.nd (de_callN C__law_pool hr (by omega) (by rfl) (da_cons (nv 0) (da_cons de_int da_nil))))
    (dss_cons (ds_for PassesOwn.never rfl (di_r1 (by rfl) G.f_range (da_cons de_int da_nil)) (gv 2 S_law.nd) (dss_cons (dset 3 S_law.nd (de_callP (i := 1) C__law_grains_any hr (by omega) (by rfl) (nv 1) da_nil))
    (dss_one (ds_if (dt_w (dw_or (dt_not (dt_val (de_callP (i := 1) C__law_sums_right hr (by omega) (by rfl) (nv 1) (da_cons (nv 3) da_nil)))) (dw_or (dt_not (dt_val (de_callP (i := 1) C__law_worths_right hr (by omega) (by rfl) (nv 1) da_nil))) (dw_or1 (dt_not (dt_val (de_callP (i := 1) C__law_judged_right hr (by omega) (by rfl) (nv 1) (da_cons (nv 3) da_nil)))))))) (dss_one (ds_ret de_bl)) dss_nil))))
    (dss_cons (ds_asg (de_tup (da_cons (de_tup (da_cons de_str (da_cons (de_tup (da_cons de_int da_nil)) da_nil))) (da_cons (de_tup (da_cons de_str (da_cons (de_tup (da_cons de_int da_nil)) da_nil))) da_nil))) (dg_t rfl (dgs_cons (gv 4 S_law.nd) (dgs_cons (gv 5 S_law.nd) dgs_nil))))
    (dss_cons (ds_par2 rfl S_law.nd rfl rfl (by decide) rfl rfl (de_fz (de_tup (da_cons (de_tup (da_cons de_int (da_cons de_int da_nil))) (da_cons (de_tup (da_cons (de_tup (da_cons (nv 4) (da_cons (de_tup (da_cons de_int (da_cons de_int da_nil))) da_nil))) (da_cons (de_tup (da_cons (nv 5) (da_cons (de_tup (da_cons de_int (da_cons de_int da_nil))) da_nil))) da_nil))) da_nil)))) (de_fz (de_tup (da_cons (de_tup (da_cons de_int (da_cons de_int da_nil))) (da_cons (de_tup (da_cons (de_tup (da_cons (nv 4) (da_cons (de_tup (da_cons de_int (da_cons de_int da_nil))) da_nil))) (da_cons (de_tup (da_cons (nv 5) (da_cons (de_tup (da_cons de_int (da_cons de_int da_nil))) da_nil))) da_nil))) da_nil)))) (by rfl))
    (dss_cons (dset 8 S_law.nd (de_tup (da_cons (de_call C_form_minus hr (by omega) (by rfl) (da_cons (nv 6) (da_cons (nv 7) da_nil))) (da_cons (de_call C_worth_of_form hr (by omega) (by rfl) (da_cons (nv 6) (da_cons (de_disK (dp_cons de_str (de_disN (hu100 hr) (dp_cons (de_tup (da_cons de_int da_nil)) (de_tup (da_cons de_int (da_cons de_int da_nil))) (dp_cons (de_tup (da_cons de_int da_nil)) (de_tup (da_cons de_int (da_cons de_int da_nil))) (dp_cons (de_tup (da_cons de_int da_nil)) (de_tup (da_cons de_int (da_cons de_int da_nil))) dp_nil)))) dp_nil)) da_nil))) (da_cons (de_call C_paired hr (by omega) (by rfl) (da_cons (de_ix (dx_ixA (hu100 hr)) (nv 6) de_int (by intro _ _; rfl)) (da_cons (de_ix (dx_ixA (hu100 hr)) (nv 7) de_int (by intro _ _; rfl)) da_nil))) (da_cons (de_call C_cut hr (by omega) (by rfl) (da_cons (de_ix (dx_ixA (hu100 hr)) (nv 6) de_int (by intro _ _; rfl)) (da_cons (de_tup (da_cons (nv 5) da_nil)) da_nil))) da_nil))))))
    (dss_one (ds_ret (de_call C__law_same hr (by omega) (by rfl) (da_cons (nv 8) (da_cons (de_tup (da_cons (de_tup (da_cons (de_tup (da_cons de_int (da_cons de_int da_nil))) (da_cons (de_tup (da_cons (de_tup (da_cons (nv 4) (da_cons (de_tup (da_cons de_int (da_cons de_int da_nil))) da_nil))) da_nil)) da_nil))) (da_cons (de_tup (da_cons de_int (da_cons de_int da_nil))) (da_cons (de_tup (da_cons de_int (da_cons de_int da_nil))) (da_cons (de_tup (da_cons (de_tup (da_cons (nv 5) (da_cons (de_tup (da_cons de_int (da_cons de_int da_nil))) da_nil))) da_nil)) da_nil))))) da_nil)))))))))))
end
end Dl

set_option Elab.async false
set_option linter.all false
set_option maxRecDepth 100000
set_option maxHeartbeats 4000000
/-! M0: the combinators at a state, as rows of the simplifier. -/
namespace Dl
open PySem
@[simp] theorem e_cVar (i : Nat) (ρ : Rho) : cVar i ρ = match ρ[i]? with
  | some (.val d) => some (.dat d, ρ)
  | some (.own _ _) => some (.slot i, ρ)
  | _ => none := rfl
@[simp] theorem e_cK (d : Dat) (ρ : Rho) : cK d ρ = some (.dat d, ρ) := rfl
@[simp] theorem e_rv0 (d : Dat) (ρ : Rho) : rv ρ (.dat d) = some d := rfl
@[simp] theorem e_rv2 (d : Dat) (ρ : Rho) : rv ρ (.new d) = some d := rfl
@[simp] theorem e_rv1 (i : Nat) (ρ : Rho) : rv ρ (.slot i) = match ρ[i]? with
    | some (.own _ d) => some d
    | _ => none := rfl
@[simp] theorem e_c1 (g : Dat → Option Dat) (fa : FE) (ρ : Rho) : c1 g fa ρ = (fa ρ).bind fun p => (rv p.2 p.1).bind fun d => (g d).bind fun z => some (.dat z, p.2) := rfl
@[simp] theorem e_c2 (g : Dat → Dat → Option Dat) (fa fb : FE) (ρ : Rho) : c2 g fa fb ρ = (fa ρ).bind fun p => (fb p.2).bind fun q => (rv q.2 p.1).bind fun d => (rv q.2 q.1).bind fun e => (g d e).bind fun z => some (.dat z, q.2) := rfl
@[simp] theorem e_cFz (f : FE) (ρ : Rho) : cFz f ρ = match f ρ with
  | some (.dat d, ρ1) => some (.dat d, ρ1)
  | some (.new d, ρ1) => some (.dat d, ρ1)
  | _ => none := rfl
@[simp] theorem e_cB (f : FE) (ρ : Rho) : cB f ρ = match f ρ with
  | some (.dat (.bl b), ρ1) => some (b, ρ1)
  | _ => none := rfl
@[simp] theorem e_cCh (g g' : Dat → Dat → Option Dat) (fa fb fc : FE) (ρ : Rho) : cCh g g' fa fb fc ρ = (fa ρ).bind fun p => (fb p.2).bind fun q => (rv q.2 p.1).bind fun d => (rv q.2 q.1).bind fun e => match g d e with
  | some (.bl true) => (fc q.2).bind fun r => (rv r.2 q.1).bind fun e' => (rv r.2 r.1).bind fun h => (g' e' h).bind fun z => some (.dat z, r.2)
  | some (.bl false) => some (.dat (.bl false), q.2)
  | _ => none := rfl
@[simp] theorem e_cAnd (f g : FT) (ρ : Rho) : cAnd f g ρ = match f ρ with
  | some (true, ρ1) => g ρ1
  | some (false, ρ1) => some (false, ρ1)
  | none => none := rfl
@[simp] theorem e_cOr (f g : FT) (ρ : Rho) : cOr f g ρ = match f ρ with
  | some (true, ρ1) => some (true, ρ1)
  | some (false, ρ1) => g ρ1
  | none => none := rfl
@[simp] theorem e_cNot (f : FT) (ρ : Rho) : cNot f ρ = match f ρ with
  | some (b, ρ1) => some (!b, ρ1)
  | none => none := rfl
@[simp] theorem e_cAndV (f g : FE) (ρ : Rho) : cAndV f g ρ = match f ρ with
  | some (.dat (.bl true), ρ1) => g ρ1
  | some (.dat (.bl false), ρ1) => some (.dat (.bl false), ρ1)
  | _ => none := rfl
@[simp] theorem e_cOrV (f g : FE) (ρ : Rho) : cOrV f g ρ = match f ρ with
  | some (.dat (.bl true), ρ1) => some (.dat (.bl true), ρ1)
  | some (.dat (.bl false), ρ1) => g ρ1
  | _ => none := rfl
@[simp] theorem e_cNotV (f : FE) (ρ : Rho) : cNotV f ρ = match f ρ with
  | some (.dat (.bl b), ρ1) => some (.dat (.bl (!b)), ρ1)
  | _ => none := rfl
@[simp] theorem e_cIf (t : FT) (f g : FE) (ρ : Rho) : cIf t f g ρ = match t ρ with
  | some (true, ρ1) => f ρ1
  | some (false, ρ1) => g ρ1
  | none => none := rfl
@[simp] theorem e_aNil (ρ : Rho) : aNil ρ = some ([], ρ) := rfl
@[simp] theorem e_aCons (f : FE) (g : FA) (ρ : Rho) : aCons f g ρ = match cFz f ρ with
  | some (.dat d, ρ1) => (g ρ1).bind fun p => some (d :: p.1, p.2)
  | _ => none := rfl
@[simp] theorem e_cTup (f : FA) (ρ : Rho) : cTup f ρ = match f ρ with
  | some (ds, ρ1) => if ds.length < 1000 then some (.dat (.tup ds), ρ1) else none
  | none => none := rfl
@[simp] theorem e_cLst (f : FA) (ρ : Rho) : cLst f ρ = match f ρ with
  | some (ds, ρ1) => if ds.length < 1000 then some (.new (.lst ds), ρ1) else none
  | none => none := rfl
@[simp] theorem e_gN (i : Nat) (d : Dat) (ρ : Rho) : gN i d ρ = if free ρ i = true then some (ρ.set i (.val d)) else none := rfl
@[simp] theorem e_free (ρ : Rho) (i : Nat) : free ρ i = match ρ[i]? with
  | some (.own true _) => false
  | some _ => true
  | none => false := rfl
@[simp] theorem e_gNil (ρ : Rho) : gNil' [] ρ = some ρ := rfl
@[simp] theorem e_gCons (g : FG) (gs : FGs) (d : Dat) (ds : List Dat) (ρ : Rho) : gCons' g gs (d :: ds) ρ = (g d ρ).bind (gs ds) := rfl
@[simp] theorem e_gT (n : Nat) (gs : FGs) (ds : List Dat) (ρ : Rho) : gT n gs (.tup ds) ρ = if ds.length = n then gs ds ρ else none := rfl
@[simp] theorem e_gTw (n : Nat) (gs : FGs) (ds : List Dat) (ρ : Rho) : gT n gs (.wtp ds) ρ = if ds.length = n then gs ds ρ else none := rfl
@[simp] theorem e_sNil (ρ : Rho) : sNil ρ = some (ρ, .nx) := rfl
@[simp] theorem e_sSeq (f g : FS) (ρ : Rho) : sSeq f g ρ = match f ρ with
  | some (ρ1, .nx) => g ρ1
  | r => r := rfl
@[simp] theorem e_sEx (f : FE) (ρ : Rho) : sEx f ρ = match f ρ with
  | some (_, ρ1) => some (ρ1, .nx)
  | none => none := rfl
@[simp] theorem e_sRet (f : FE) (ρ : Rho) : sRet f ρ = match f ρ with
  | some (.dat d, ρ1) => some (ρ1, .rt d)
  | some (.new d, ρ1) => some (ρ1, .rn d)
  | some (.slot i, ρ1) => match ρ1[i]? with
    | some (.own false d) => some (ρ1.set i .un, .rn d)
    | _ => none
  | none => none := rfl
@[simp] theorem e_sIf (t : FT) (f g : FS) (ρ : Rho) : sIf t f g ρ = match t ρ with
  | some (true, ρ1) => f ρ1
  | some (false, ρ1) => g ρ1
  | none => none := rfl
@[simp] theorem e_sAsg (f : FE) (g : FG) (ρ : Rho) : sAsg f g ρ = match cFz f ρ with
  | some (.dat d, ρ1) => (g d ρ1).bind fun ρ2 => some (ρ2, .nx)
  | _ => none := rfl
@[simp] theorem e_sOwn (i : Nat) (f : FE) (ρ : Rho) : sOwn i f ρ = match f ρ with
  | some (.new d, ρ1) => if free ρ1 i = true then some (ρ1.set i (.own false d), .nx) else none
  | _ => none := rfl
@[simp] theorem e_sFz (i : Nat) (f : FS) (ρ : Rho) : sFz i f ρ = match ρ[i]? with
  | some (.own false d) => f (ρ.set i (.val d))
  | _ => f ρ := rfl
@[simp] theorem e_sFor (it : FI) (g : FG) (b : FS) (ρ : Rho) : sFor it g b ρ = match it ρ with
  | some (ds, ρ1) => lp g b ds ρ1
  | none => none := rfl
@[simp] theorem e_cLc (it : FI) (g : FG) (t : FT) (f : FE) (vs : List Nat) (ρ : Rho) : cLc it g t f vs ρ = match it ρ with
  | some (ds, ρ1) => match lcp g t f vs ds (wipeR ρ1 vs) [] with
    | some (acc, ρ2) => some (.new (.lst acc), back ρ1 ρ2 vs)
    | none => none
  | none => none := rfl
@[simp] theorem e_cDc (it : FI) (g : FG) (t : FT) (fk fv : FE) (vs : List Nat) (ρ : Rho) : cDc it g t fk fv vs ρ = match it ρ with
  | some (ds, ρ1) => match lcpD g t fk fv vs ds (wipeR ρ1 vs) [] with
    | some (acc, ρ2) => some (.new (.dic true acc), back ρ1 ρ2 vs)
    | none => none
  | none => none := rfl
@[simp] theorem e_cCall (m : List Dat → Option Dat) (f : FA) (ρ : Rho) : cCall m f ρ = match f ρ with
  | some (ds, ρ1) => match m ds with
    | some d => some (.dat d, ρ1)
    | none => none
  | none => none := rfl
@[simp] theorem e_cCallN (m : List Dat → Option Dat) (f : FA) (ρ : Rho) : cCallN m f ρ = match f ρ with
  | some (ds, ρ1) => match m ds with
    | some d => some (.new d, ρ1)
    | none => none
  | none => none := rfl
@[simp] theorem e_cCallP (i : Nat) (m : Dat → List Dat → Option (Dat × Dat)) (f : FA) (ρ : Rho) : cCallP i m f ρ = match cVar i ρ with
  | some (.slot _, ρ0) => match f ρ0 with
    | some (ds, ρ1) => match ρ1[i]? with
      | some (.own b c) => match m c ds with
        | some (d, c') => some (.dat d, ρ1.set i (.own b c'))
        | none => none
      | _ => none
    | none => none
  | _ => none := rfl
@[simp] theorem e_mA (n N : Nat) (f : FS) (ds : List Dat) : mA n N f ds = if ds.length = n then runA N f ds else none := rfl
@[simp] theorem e_mN (n N : Nat) (f : FS) (ds : List Dat) : mN n N f ds = if ds.length = n then runN N f ds else none := rfl
@[simp] theorem e_mP (n N : Nat) (f : FS) (c : Dat) (ds : List Dat) : mP n N f c ds = if ds.length + 1 = n then runP N f c ds else none := rfl
@[simp] theorem e_runA (n : Nat) (f : FS) (ds : List Dat) : runA n f ds = match f (rho0 n ds) with
  | some (_, .rt d) => some d
  | some (_, .rn d) => some d
  | some (_, .nx) => some .non
  | _ => none := rfl
@[simp] theorem e_runN (n : Nat) (f : FS) (ds : List Dat) : runN n f ds = match f (rho0 n ds) with
  | some (_, .rn d) => some d
  | _ => none := rfl
@[simp] theorem e_rho0 (n : Nat) (ds : List Dat) : rho0 n ds = ds.map .val ++ List.replicate (n - ds.length) .un := rfl
@[simp] theorem e_rhoP (n : Nat) (c : Dat) (ds : List Dat) : rhoP n c ds = .own true c :: rho0 (n - 1) ds := rfl
@[simp] theorem e_runP (n : Nat) (f : FS) (c : Dat) (ds : List Dat) : runP n f c ds = match f (rhoP n c ds) with
  | some (ρ, .rt d) => (pool0 ρ).map fun c' => (d, c')
  | some (ρ, .rn d) => (pool0 ρ).map fun c' => (d, c')
  | some (ρ, .nx) => (pool0 ρ).map fun c' => (.non, c')
  | _ => none := rfl
@[simp] theorem e_pool0 (c : Dat) (ρ : Rho) : pool0 (.own true c :: ρ) = some c := rfl
@[simp] theorem e_iSeq (f : FE) (ρ : Rho) : iSeq f ρ = match cFz f ρ with
  | some (.dat (.lst ds), ρ1) => some (ds, ρ1)
  | some (.dat (.tup ds), ρ1) => some (ds, ρ1)
  | _ => none := rfl
@[simp] theorem e_c1n (g : Dat → Option (List Dat)) (fa : FE) (ρ : Rho) : c1n g fa ρ = (fa ρ).bind fun p => (rv p.2 p.1).bind fun d => (g d).bind fun z => some (.new (.lst z), p.2) := rfl
@[simp] theorem e_c1d (g : Dat → Option (List (NestedKey × Dat))) (fa : FE) (ρ : Rho) : c1d g fa ρ = (fa ρ).bind fun p => (rv p.2 p.1).bind fun d => (g d).bind fun z => some (.new (.dic true z), p.2) := rfl
@[simp] theorem e_cNew (b : Bool) (ρ : Rho) : cNew b ρ = some (.new (.dic b []), ρ) := rfl
@[simp] theorem e_sPar2 (i j : Nat) (fa fb : FE) (ρ : Rho) : sPar2 i j fa fb ρ = (fa ρ).bind fun p => (fb p.2).bind fun q => (putH i p.1 q.2).bind fun ρ3 => (putH j q.1 ρ3).bind fun ρ4 => some (ρ4, .nx) := rfl
@[simp] theorem e_putH (i : Nat) (h : Hd) (ρ : Rho) : putH i h ρ = if free ρ i = true then (match h with
  | .dat d => some (ρ.set i (.val d))
  | .new d => some (ρ.set i (.own false d))
  | .slot _ => none) else none := rfl
@[simp] theorem e_oNone (ρ : Rho) : oNone ρ = some (none, ρ) := rfl
@[simp] theorem e_oSome (f : FE) (ρ : Rho) : oSome f ρ = match f ρ with
  | some (.dat (.int i), ρ1) => some (some i, ρ1)
  | _ => none := rfl
@[simp] theorem e_cSl (f : FE) (lo hi : FO) (ρ : Rho) : cSl f lo hi ρ = (f ρ).bind fun p => (lo p.2).bind fun q => (hi q.2).bind fun r => (rv r.2 p.1).bind fun d => (gSl d q.1 r.1).bind fun h => some (h, r.2) := rfl
/-! data -/
@[simp] theorem e_gAdd (i j : Int) : gAdd (.int i) (.int j) = some (.int (i + j)) := rfl
@[simp] theorem e_gSub (i j : Int) : gSub (.int i) (.int j) = some (.int (i - j)) := rfl
@[simp] theorem e_gNeg (i : Int) : gNeg (.int i) = some (.int (-i)) := rfl
@[simp] theorem e_gMod (i j : Int) : gMod (.int i) (.int j) = if j ≠ 0 then some (.int (i.fmod j)) else none := rfl
@[simp] theorem e_gFdiv (i j : Int) : gFdiv (.int i) (.int j) = if j ≠ 0 ∧ j.natAbs.log2 < 9000 then some (.int (i.fdiv j)) else none := rfl
@[simp] theorem e_gMul (i j : Int) : gMul (.int i) (.int j) = if i.natAbs.log2 + j.natAbs.log2 < 1000000 then some (.int (i * j)) else none := rfl
@[simp] theorem e_gAbs (i : Int) : gAbs (.int i) = some (.int (if i < 0 then -i else i)) := rfl
@[simp] theorem e_gInt (i : Int) : gInt (.int i) = some (.int i) := rfl
@[simp] theorem e_gIntb (b : Bool) : gInt (.bl b) = some (.int (if b then 1 else 0)) := rfl
@[simp] theorem e_gCmp (p : Int → Int → Bool) (i j : Int) : gCmp p (.int i) (.int j) = some (.bl (p i j)) := rfl
@[simp] theorem e_gIxT (xs : List Dat) (i : Int) : gIxA (.tup xs) (.int i) = L2.atI xs i := rfl
@[simp] theorem e_gIxL (xs : List Dat) (i : Int) : gIxA (.lst xs) (.int i) = L2.atI xs i := rfl
@[simp] theorem e_at0 {α : Type} (x : α) (xs : List α) : L2.atI (x :: xs) 0 = some x := by simp [L2.atI, L2.ixN]
@[simp] theorem e_at1 {α : Type} (x y : α) (xs : List α) : L2.atI (x :: y :: xs) 1 = some y := by
  have h : (1 : Int) < (xs.length : Int) + 1 + 1 := by omega
  simp [L2.atI, L2.ixN, h]
@[simp] theorem e_gTupleL (xs : List Dat) : gTuple (.lst xs) = some (.tup xs) := rfl
@[simp] theorem e_gTupleT (xs : List Dat) : gTuple (.tup xs) = some (.tup xs) := rfl
@[simp] theorem gNe_int (a b : Int) : gNe (.int a) (.int b) = some (.bl (!decide (a = b))) := by
  simp [gNe, lenNe, okD, eqD, toPy, PyData.eqv, Bool.beq_eq_decide_eq]
@[simp] theorem gEq_int (a b : Int) : gEq (.int a) (.int b) = some (.bl (decide (a = b))) := by
  simp [gEq, lenNe, okD, eqD, toPy, PyData.eqv, Bool.beq_eq_decide_eq]
@[simp] theorem gLt_int (a b : Int) : gLt (.int a) (.int b) = some (.bl (decide (a < b))) := rfl
end Dl

set_option Elab.async false
set_option linter.all false
set_option maxRecDepth 100000
set_option maxHeartbeats 4000000
/-! MA: numbers: what the mirrors of the number defs answer. -/
namespace Dl
open PySem

theorem fmod_small (a b : Int) (h : b ≠ 0) : (a.fmod b).natAbs < b.natAbs := by
  rcases Int.lt_or_gt_of_ne h with hb | hb
  · have e : a.fmod b = -((-a).fmod (-b)) := by rw [Int.neg_fmod_neg]; omega
    have h1 := Int.fmod_nonneg_of_pos (-a) (b := -b) (by omega)
    have h2 := Int.fmod_lt_of_pos (-a) (b := -b) (by omega)
    rw [e]
    omega
  · have h1 := Int.fmod_nonneg_of_pos a hb
    have h2 := Int.fmod_lt_of_pos a hb
    omega
theorem gcd_fmod (a b : Int) : Int.gcd b (a.fmod b) = Int.gcd a b := by
  rw [Int.fmod_def, Int.gcd_sub_mul_left_right, Int.gcd_comm]
theorem eu_loop : ∀ (n : Nat) (a b : Int), b.natAbs < n → ∃ g : Int, g.natAbs = Int.gcd a b ∧
    whl n (cB (c2 gNe (cVar 1) (cK (.int 0)))) (sPar2 0 1 (cFz (cVar 1)) (cFz (c2 gMod (cVar 0) (cVar 1)))) [.val (.int a), .val (.int b)] = some ([.val (.int g), .val (.int 0)], .nx)
  | 0, a, b, h => by omega
  | n + 1, a, b, h => by
    by_cases hb : b = 0
    · subst hb
      refine ⟨a, by simp, ?_⟩
      simp [whl]
    · obtain ⟨g, h1, h2⟩ := eu_loop n b (a.fmod b) (by have := fmod_small a b hb; omega)
      refine ⟨g, by rw [h1, gcd_fmod], ?_⟩
      rw [← h2]
      simp [whl, hb]
theorem m_divisor_of_eq (a b : Int) : m_divisor_of [.int a, .int b] = some (.int (Int.gcd a b)) := by
  obtain ⟨g, h1, h2⟩ := eu_loop (b.natAbs + 2) a b (by omega)
  simp only [m_divisor_of, e_mA, List.length_cons, List.length_nil, if_true, e_runA, e_rho0, b_divisor_of, e_sSeq, sWh, muI]
  simp only [List.map_cons, List.map_nil, List.length_cons, List.length_nil, Nat.sub_self, List.replicate_zero, List.append_nil, List.getElem?_cons_succ, List.getElem?_cons_zero]
  rw [h2]
  simp
  rw [← h1]
  split <;> omega
/-- the loop of the law's own defs, at slots i, i + 1 behind the arguments -/
theorem sh_loop0 : ∀ (n : Nat) (a b : Int), 0 ≤ a → 0 ≤ b → b.natAbs < n → ∃ g : Int, 0 ≤ g ∧ g.natAbs = Int.gcd a b ∧
    whl n (cB (c2 gGt (cVar 1) (cK (.int 0)))) (sPar2 0 1 (cFz (cVar 1)) (cFz (c2 gMod (c1 gInt (cVar 0)) (cVar 1)))) [.val (.int a), .val (.int b)] = some ([.val (.int g), .val (.int 0)], .nx)
  | 0, a, b, _, _, h => by omega
  | n + 1, a, b, ha, hb, h => by
    by_cases h0 : b = 0
    · subst h0
      refine ⟨a, ha, by simp, ?_⟩
      simp [whl]
    · obtain ⟨g, h1, h2, h3⟩ := sh_loop0 n b (a.fmod b) hb (Int.fmod_nonneg_of_pos a (by omega)) (by have := fmod_small a b h0; omega)
      refine ⟨g, h1, by rw [h2, gcd_fmod], ?_⟩
      rw [← h3]
      have hp : 0 < b := by omega
      simp [whl, h0, hp]
theorem sh_loop2 (x y z : Slot) : ∀ (n : Nat) (a b : Int), 0 ≤ a → 0 ≤ b → b.natAbs < n → ∃ g : Int, 0 ≤ g ∧ g.natAbs = Int.gcd a b ∧
    whl n (cB (c2 gGt (cVar 3) (cK (.int 0)))) (sPar2 2 3 (cFz (cVar 3)) (cFz (c2 gMod (c1 gInt (cVar 2)) (cVar 3)))) [x, y, .val (.int a), .val (.int b), z] = some ([x, y, .val (.int g), .val (.int 0), z], .nx)
  | 0, a, b, _, _, h => by omega
  | n + 1, a, b, ha, hb, h => by
    by_cases h0 : b = 0
    · subst h0
      refine ⟨a, ha, by simp, ?_⟩
      simp [whl]
    · obtain ⟨g, h1, h2, h3⟩ := sh_loop2 x y z n b (a.fmod b) hb (Int.fmod_nonneg_of_pos a (by omega)) (by have := fmod_small a b h0; omega)
      refine ⟨g, h1, by rw [h2, gcd_fmod], ?_⟩
      rw [← h3]
      have hp : 0 < b := by omega
      simp [whl, h0, hp]
theorem abs_ite (a : Int) : (if a < 0 then -a else a) = (a.natAbs : Int) := by split <;> omega
theorem m_shared_eq (a b : Int) : m__law_shared_part [.int a, .int b] = some (.int (Int.gcd a b)) := by
  obtain ⟨g, h0, h1, h2⟩ := sh_loop0 (b.natAbs + 2) a.natAbs b.natAbs (by omega) (by omega) (by omega)
  simp [m__law_shared_part, b__law_shared_part, sWh, muI, abs_ite, h2]
  have h3 : Int.gcd a.natAbs b.natAbs = Int.gcd a b := rfl
  rw [h3] at h1
  omega
/-- small enough for every rule -/
def Sm (i : Int) : Prop := i.natAbs < 2 ^ 5000
theorem Sm.log {i : Int} (h : Sm i) : i.natAbs.log2 < 5000 := by
  unfold Sm at h
  by_cases h0 : i.natAbs = 0
  · rw [h0]; decide
  · exact (Nat.log2_lt h0).mpr h
/-- a number of the program -/
def nu (t b : Int) : Dat := .tup [.int t, .int b]
def nq (q : Rat) : Dat := nu q.num q.den
theorem mk_den (t : Int) (d : Nat) (h : d ≠ 0) : (mkRat t d).den = d / Int.gcd t d := by
  rw [Rat.den_mkRat, if_neg h, Int.gcd_eq_natAbs_gcd_natAbs, Int.natAbs_natCast, Nat.gcd_comm]
theorem mk_num (t : Int) (d : Nat) (h : d ≠ 0) : (mkRat t d).num = t / (Int.gcd t d : Int) := by
  rw [Rat.num_mkRat, if_neg h, Int.gcd_eq_natAbs_gcd_natAbs, Int.natAbs_natCast, Nat.gcd_comm]
theorem m_lowest_eq (t : Int) (d : Nat) (h : d ≠ 0) (hs : Sm d) : m_lowest [.int t, .int d] = some (nq (mkRat t d)) := by
  have hd : (0 : Int) < d := by omega
  have g0 : Int.gcd t d ≠ 0 := by simp [Int.gcd_eq_zero_iff]; omega
  have gl : (Int.gcd t d) ≤ d := by
    have := Int.gcd_le_natAbs_right (a := t) (b := (d : Int)) (by omega)
    simpa using this
  have gs : (Int.gcd t d).log2 < 9000 := by
    have : Sm (Int.gcd t d : Int) := by unfold Sm at *; simp only [Int.natAbs_natCast] at *; omega
    have := this.log
    simp only [Int.natAbs_natCast] at this
    omega
  have e1 : t.fdiv (Int.gcd t d : Int) = (mkRat t d).num := by rw [mk_num t d h, Int.fdiv_eq_ediv_of_nonneg _ (by omega)]
  have e2 : (d : Int).fdiv (Int.gcd t d : Int) = ((mkRat t d).den : Int) := by
    rw [mk_den t d h, Int.fdiv_eq_ediv_of_nonneg _ (by omega)]
    simp
  have gi : ((Int.gcd t d : Nat) : Int) ≠ 0 := by omega
  have hd2 : 0 < d := by omega
  simp [m_lowest, b_lowest, m_divisor_of_eq, hd, hd2, gs, e1, e2, nq, nu, g0]
end Dl

set_option Elab.async false
set_option linter.all false
set_option maxRecDepth 100000
set_option maxHeartbeats 4000000
/-! MB: numbers as rationals. -/
namespace Dl
open PySem
def Bg (q : Rat) : Prop := q.num.natAbs < 2 ^ 2000 ∧ q.den < 2 ^ 2000
theorem sm_mul {a b : Int} (ha : a.natAbs < 2 ^ 2000) (hb : b.natAbs < 2 ^ 2000) : (a * b).natAbs < 2 ^ 4000 := by
  rw [Int.natAbs_mul]
  have h1 : a.natAbs * b.natAbs < 2 ^ 2000 * 2 ^ 2000 := Nat.mul_lt_mul'' ha hb
  have h2 : (2 : Nat) ^ 2000 * 2 ^ 2000 = 2 ^ 4000 := by rw [← Nat.pow_add]
  omega
theorem log_of {a : Int} (h : a.natAbs < 2 ^ 2000) : a.natAbs.log2 < 2000 := by
  by_cases h0 : a.natAbs = 0
  · rw [h0]; decide
  · exact (Nat.log2_lt h0).mpr h
theorem log_ofN {a : Nat} (h : a < 2 ^ 2000) : a.log2 < 2000 := by
  have := log_of (a := (a : Int)) (by simpa using h)
  simpa using this
theorem m_plus_eq {x y : Rat} (hx : Bg x) (hy : Bg y) : m_plus [nq x, nq y] = some (nq (x + y)) := by
  obtain ⟨x1, x2⟩ := hx
  obtain ⟨y1, y2⟩ := hy
  have a1 := log_of x1
  have a2 := log_ofN x2
  have b1 := log_of y1
  have b2 := log_ofN y2
  have c1 : x.num.natAbs.log2 + y.den.log2 < 1000000 := by omega
  have c2 : y.num.natAbs.log2 + x.den.log2 < 1000000 := by omega
  have c3 : x.den.log2 + y.den.log2 < 1000000 := by omega
  have nz : x.den * y.den ≠ 0 := Nat.mul_ne_zero x.den_nz y.den_nz
  have sm : Sm ((x.den * y.den : Nat) : Int) := by
    have := sm_mul (a := (x.den : Int)) (b := (y.den : Int)) (by simpa using x2) (by simpa using y2)
    unfold Sm
    have h2 : (2 : Nat) ^ 4000 < 2 ^ 5000 := Nat.pow_lt_pow_right (by decide) (by decide)
    rw [Int.natCast_mul]
    omega
  have e := m_lowest_eq (x.num * y.den + y.num * x.den) (x.den * y.den) nz sm
  rw [Int.natCast_mul] at e
  simp [m_plus, b_plus, nq, nu, c1, c2, c3] at e ⊢
  rw [e, Rat.add_def']
theorem m_times_eq {x y : Rat} (hx : Bg x) (hy : Bg y) : m_times [nq x, nq y] = some (nq (x * y)) := by
  obtain ⟨x1, x2⟩ := hx
  obtain ⟨y1, y2⟩ := hy
  have a1 := log_of x1
  have a2 := log_ofN x2
  have b1 := log_of y1
  have b2 := log_ofN y2
  have c1 : x.num.natAbs.log2 + y.num.natAbs.log2 < 1000000 := by omega
  have c3 : x.den.log2 + y.den.log2 < 1000000 := by omega
  have nz : x.den * y.den ≠ 0 := Nat.mul_ne_zero x.den_nz y.den_nz
  have sm : Sm ((x.den * y.den : Nat) : Int) := by
    have := sm_mul (a := (x.den : Int)) (b := (y.den : Int)) (by simpa using x2) (by simpa using y2)
    unfold Sm
    have h2 : (2 : Nat) ^ 4000 < 2 ^ 5000 := Nat.pow_lt_pow_right (by decide) (by decide)
    rw [Int.natCast_mul]
    omega
  have e := m_lowest_eq (x.num * y.num) (x.den * y.den) nz sm
  rw [Int.natCast_mul] at e
  simp [m_times, b_times, nq, nu, c1, c3] at e ⊢
  rw [e, Rat.mul_def']
theorem m_nr_eq (t : Int) (d : Nat) (h : d ≠ 0) (ht : Sm t) (hs : Sm d) : m__law_nr [.int t, .int d] = some (nq (mkRat t d)) := by
  obtain ⟨g, p0, p1, p2⟩ := sh_loop2 (.val (.int t)) (.val (.int d)) .un (d + 2) t.natAbs d (by omega) (by omega) (by simp)
  have e3 : Int.gcd t.natAbs d = Int.gcd t d := rfl
  rw [e3] at p1
  have g0 : Int.gcd t d ≠ 0 := by simp [Int.gcd_eq_zero_iff]; omega
  have gi : g ≠ 0 := by omega
  have ge : g = (Int.gcd t d : Int) := by omega
  have gl : (Int.gcd t d) ≤ d := by
    have := Int.gcd_le_natAbs_right (a := t) (b := (d : Int)) (by omega)
    simpa using this
  have gs : g.natAbs.log2 < 9000 := by
    have : Sm g := by unfold Sm at *; simp only [Int.natAbs_natCast] at *; omega
    have := this.log
    omega
  have e1 : t.fdiv g = (mkRat t d).num := by rw [mk_num t d h, ge, Int.fdiv_eq_ediv_of_nonneg _ (by omega)]
  have e2 : (d : Int).fdiv g = ((mkRat t d).den : Int) := by
    rw [mk_den t d h, ge, Int.fdiv_eq_ediv_of_nonneg _ (by omega)]
    simp
  have hd2 : 0 < d := by omega
  have lt := ht.log
  have ld := hs.log
  simp only [Int.natAbs_natCast] at ld
  have l1 : t.natAbs.log2 < 1000000 := by omega
  have l2 : d.log2 < 1000000 := by omega
  have one : Nat.log2 1 = 0 := by decide
  simp [m__law_nr, b__law_nr, sWh, muI, abs_ite, p2, gi, gs, e1, e2, hd2, nq, nu, one, l1, l2]
theorem big_sum {a b c d : Int} (ha : a.natAbs < 2 ^ 2000) (hb : b.natAbs < 2 ^ 2000) (hc : c.natAbs < 2 ^ 2000) (hd : d.natAbs < 2 ^ 2000) : Sm (a * b + c * d) := by
  have h1 := sm_mul ha hb
  have h2 := sm_mul hc hd
  have h3 : (2 : Nat) ^ 4000 + 2 ^ 4000 ≤ 2 ^ 5000 := by
    have : (2 : Nat) ^ 4000 + 2 ^ 4000 = 2 ^ 4001 := by rw [Nat.pow_succ 2 4000]; omega
    rw [this]
    exact Nat.pow_le_pow_right (by decide) (by decide)
  unfold Sm
  omega
theorem sm_of {a : Int} (h : a.natAbs < 2 ^ 4000) : Sm a := by
  have h2 : (2 : Nat) ^ 4000 < 2 ^ 5000 := Nat.pow_lt_pow_right (by decide) (by decide)
  unfold Sm
  omega
theorem m_nr_plus_eq {x y : Rat} (hx : Bg x) (hy : Bg y) : m__law_nr_plus [nq x, nq y] = some (nq (x + y)) := by
  obtain ⟨x1, x2⟩ := hx
  obtain ⟨y1, y2⟩ := hy
  have a1 := log_of x1
  have a2 := log_ofN x2
  have b1 := log_of y1
  have b2 := log_ofN y2
  have c1 : x.num.natAbs.log2 + y.den.log2 < 1000000 := by omega
  have c2 : y.num.natAbs.log2 + x.den.log2 < 1000000 := by omega
  have c3 : x.den.log2 + y.den.log2 < 1000000 := by omega
  have nz : x.den * y.den ≠ 0 := Nat.mul_ne_zero x.den_nz y.den_nz
  have x2' : ((x.den : Int)).natAbs < 2 ^ 2000 := by simpa using x2
  have y2' : ((y.den : Int)).natAbs < 2 ^ 2000 := by simpa using y2
  have sm : Sm ((x.den * y.den : Nat) : Int) := by rw [Int.natCast_mul]; exact sm_of (sm_mul x2' y2')
  have e := m_nr_eq (x.num * y.den + y.num * x.den) (x.den * y.den) nz (big_sum x1 y2' y1 x2') sm
  rw [Int.natCast_mul] at e
  simp [m__law_nr_plus, b__law_nr_plus, nq, nu, c1, c2, c3] at e ⊢
  rw [e, Rat.add_def']
theorem m_nr_times_eq {x y : Rat} (hx : Bg x) (hy : Bg y) : m__law_nr_times [nq x, nq y] = some (nq (x * y)) := by
  obtain ⟨x1, x2⟩ := hx
  obtain ⟨y1, y2⟩ := hy
  have a1 := log_of x1
  have a2 := log_ofN x2
  have b1 := log_of y1
  have b2 := log_ofN y2
  have c1 : x.num.natAbs.log2 + y.num.natAbs.log2 < 1000000 := by omega
  have c3 : x.den.log2 + y.den.log2 < 1000000 := by omega
  have nz : x.den * y.den ≠ 0 := Nat.mul_ne_zero x.den_nz y.den_nz
  have x2' : ((x.den : Int)).natAbs < 2 ^ 2000 := by simpa using x2
  have y2' : ((y.den : Int)).natAbs < 2 ^ 2000 := by simpa using y2
  have sm : Sm ((x.den * y.den : Nat) : Int) := by rw [Int.natCast_mul]; exact sm_of (sm_mul x2' y2')
  have e := m_nr_eq (x.num * y.num) (x.den * y.den) nz (sm_of (sm_mul x1 y1)) sm
  rw [Int.natCast_mul] at e
  simp [m__law_nr_times, b__law_nr_times, nq, nu, c1, c3] at e ⊢
  rw [e, Rat.mul_def']
end Dl

set_option Elab.async false
set_option linter.all false
set_option maxRecDepth 100000
set_option maxHeartbeats 4000000
set_option exponentiation.threshold 3000
/-! MC: how great the numbers get. -/
namespace Dl
open PySem
abbrev MM : Nat := 12 * (10 ^ 29 + 1)
def Pn (n : Nat) (q : Rat) : Prop := ∃ z : Int, q = mkRat z MM ∧ z.natAbs ≤ n * 2 ^ 210
def Rn (n : Nat) (q : Rat) : Prop := ∃ z : Int, q = mkRat z (MM * MM) ∧ z.natAbs ≤ n * 2 ^ 420
theorem mk_small (z : Int) (d : Nat) (hd : d ≠ 0) : (mkRat z d).num.natAbs ≤ z.natAbs ∧ (mkRat z d).den ≤ d := by
  rw [mk_num z d hd, mk_den z d hd]
  constructor
  · rw [Int.natAbs_ediv_of_dvd (Int.gcd_dvd_left ..)]
    exact Nat.div_le_self ..
  · exact Nat.div_le_self ..
theorem Pn.bg {n : Nat} {q : Rat} (h : Pn n q) (hn : n < 2 ^ 100) : Bg q := by
  obtain ⟨z, rfl, hz⟩ := h
  obtain ⟨h1, h2⟩ := mk_small z MM (by decide)
  have h3 : n * 2 ^ 210 < 2 ^ 100 * 2 ^ 210 := Nat.mul_lt_mul_of_pos_right hn (by decide)
  have h4 : (2 : Nat) ^ 100 * 2 ^ 210 < 2 ^ 2000 := by rw [← Nat.pow_add]; exact Nat.pow_lt_pow_right (by decide) (by decide)
  have h5 : MM < 2 ^ 2000 := Nat.lt_of_lt_of_le (show MM < 2 ^ 110 by decide) (Nat.pow_le_pow_right (by decide) (by decide))
  exact ⟨by omega, by omega⟩
theorem Rn.bg {n : Nat} {q : Rat} (h : Rn n q) (hn : n < 2 ^ 100) : Bg q := by
  obtain ⟨z, rfl, hz⟩ := h
  obtain ⟨h1, h2⟩ := mk_small z (MM * MM) (by decide)
  have h3 : n * 2 ^ 420 < 2 ^ 100 * 2 ^ 420 := Nat.mul_lt_mul_of_pos_right hn (by decide)
  have h4 : (2 : Nat) ^ 100 * 2 ^ 420 < 2 ^ 2000 := by rw [← Nat.pow_add]; exact Nat.pow_lt_pow_right (by decide) (by decide)
  have h5 : MM * MM < 2 ^ 2000 := Nat.lt_of_lt_of_le (show MM * MM < 2 ^ 220 by decide) (Nat.pow_le_pow_right (by decide) (by decide))
  exact ⟨by omega, by omega⟩
theorem mk_add (a b : Int) (d : Nat) (hd : d ≠ 0) : mkRat a d + mkRat b d = mkRat (a + b) d := by
  rw [Rat.mkRat_add_mkRat _ _ hd hd, ← Int.add_mul, Rat.mkRat_mul_right hd]
theorem Pn.add {n m : Nat} {x y : Rat} (h : Pn n x) (k : Pn m y) : Pn (n + m) (x + y) := by
  obtain ⟨z, rfl, hz⟩ := h
  obtain ⟨u, rfl, hu⟩ := k
  exact ⟨z + u, mk_add z u MM (by decide), by rw [Nat.add_mul]; omega⟩
theorem Rn.add {n m : Nat} {x y : Rat} (h : Rn n x) (k : Rn m y) : Rn (n + m) (x + y) := by
  obtain ⟨z, rfl, hz⟩ := h
  obtain ⟨u, rfl, hu⟩ := k
  exact ⟨z + u, mk_add z u (MM * MM) (by decide), by rw [Nat.add_mul]; omega⟩
theorem Pn.neg {n : Nat} {x : Rat} (h : Pn n x) : Pn n (-x) := by
  obtain ⟨z, rfl, hz⟩ := h
  exact ⟨-z, Rat.neg_mkRat _ _, by omega⟩
theorem Pn.zero {n : Nat} : Pn n 0 := ⟨0, by simp, by simp⟩
theorem Rn.zero {n : Nat} : Rn n 0 := ⟨0, by simp, by simp⟩
theorem Pn.mul {n m : Nat} {x y : Rat} (h : Pn n x) (k : Pn m y) : Rn (n * m) (x * y) := by
  obtain ⟨z, rfl, hz⟩ := h
  obtain ⟨u, rfl, hu⟩ := k
  refine ⟨z * u, Rat.mkRat_mul_mkRat .., ?_⟩
  rw [Int.natAbs_mul]
  have h1 := Nat.mul_le_mul hz hu
  have h2 : n * 2 ^ 210 * (m * 2 ^ 210) = n * m * 2 ^ 420 := by
    rw [show (2 : Nat) ^ 420 = 2 ^ 210 * 2 ^ 210 by rw [← Nat.pow_add]]
    ac_rfl
  omega
theorem Pn.mono {n m : Nat} {x : Rat} (h : Pn n x) (k : n ≤ m) : Pn m x := by
  obtain ⟨z, e, hz⟩ := h
  exact ⟨z, e, Nat.le_trans hz (Nat.mul_le_mul_right _ k)⟩
theorem Rn.mono {n m : Nat} {x : Rat} (h : Rn n x) (k : n ≤ m) : Rn m x := by
  obtain ⟨z, e, hz⟩ := h
  exact ⟨z, e, Nat.le_trans hz (Nat.mul_le_mul_right _ k)⟩
theorem Pn.toR {n : Nat} {x : Rat} (h : Pn n x) : Rn n x := by
  obtain ⟨z, rfl, hz⟩ := h
  refine ⟨z * MM, (Rat.mkRat_mul_right (by decide)).symm, ?_⟩
  rw [Int.natAbs_mul]
  rw [Int.natAbs_natCast]
  have hM : MM ≤ 2 ^ 210 := by decide
  have h1 := Nat.mul_le_mul hz hM
  have h2 : n * 2 ^ 210 * 2 ^ 210 = n * 2 ^ 420 := by
    rw [show (2 : Nat) ^ 420 = 2 ^ 210 * 2 ^ 210 by rw [← Nat.pow_add], Nat.mul_assoc]
  exact Nat.le_trans h1 (Nat.le_of_eq h2)
/-- the numbers that are drawn -/
theorem Pn.mk {t : Int} {d e : Nat} (he : d * e = MM) (ht : t.natAbs < 2 ^ 100) : Pn 1 (mkRat t d) := by
  have e0 : e ≠ 0 := by rintro rfl; simp at he
  have e1 : e ≤ MM := by
    have d0 : d ≠ 0 := by rintro rfl; simp at he
    rw [← he]
    exact Nat.le_mul_of_pos_left e (by omega)
  refine ⟨t * e, by rw [← he, Rat.mkRat_mul_right e0], ?_⟩
  rw [Int.natAbs_mul, Int.natAbs_natCast, Nat.one_mul]
  have h1 : t.natAbs * e ≤ 2 ^ 100 * MM := Nat.mul_le_mul (by omega) e1
  have h2 : (2 : Nat) ^ 100 * MM ≤ 2 ^ 210 := by decide
  omega
theorem Pn.int {t : Int} (ht : t.natAbs < 2 ^ 100) : Pn 1 (t : Rat) := by
  have h := Pn.mk (t := t) (d := 1) (e := MM) (by simp) ht
  have e : mkRat t 1 = (t : Rat) := (Rat.mk_eq_mkRat t 1 (by decide) (by simp)).symm
  rwa [e] at h
theorem nq_int (t : Int) : nq (t : Rat) = nu t 1 := rfl
end Dl

set_option Elab.async false
set_option linter.all false
set_option maxRecDepth 100000
set_option maxHeartbeats 4000000
/-! ME: grains: keys, their order. -/
namespace Dl
open PySem
abbrev Gr := Str × List Int
def dg (g : Gr) : Dat := .tup [.str g.1, .tup (g.2.map .int)]
def kg (g : Gr) : NestedKey := .tup [.text g.1, .tup (g.2.map .num)]
def Gk (g : Gr) : Prop := PyData.strOk g.1 = true
theorem kds_num : ∀ cs : List Int, kds (cs.map .num) = cs.map .int
  | [] => rfl
  | c :: cs => by rw [List.map_cons, kds, kds_num cs]; rfl
theorem keysOf_int : ∀ cs : List Int, keysOf (cs.map .int) = some (cs.map .num)
  | [] => rfl
  | c :: cs => by rw [List.map_cons, keysOf, keysOf_int cs]; rfl
@[simp] theorem kd_kg (g : Gr) : kd (kg g) = dg g := by
  simp [kg, dg, kd, kds, kds_num]
theorem keyOf_dg (g : Gr) : keyOf (dg g) = some (kg g) := by
  rw [← kd_kg]; exact kd_keyOf _
theorem depth_num : ∀ cs : List Int, NestedKey.depthAll (cs.map .num) = 0
  | [] => rfl
  | c :: cs => by rw [List.map_cons, NestedKey.depthAll, depth_num cs]; rfl
theorem depth_kg (g : Gr) : (kg g).depth = 2 := by
  simp [kg, NestedKey.depth, NestedKey.depthAll, depth_num]
@[simp] theorem tkey_dg (g : Gr) : tkey (dg g) = some (kg g) := by
  have h := keyOf_dg g
  have h2 : (kg g).depth ≤ 8 := by rw [depth_kg]; decide
  unfold dg at h ⊢
  simp [tkey, h, h2]
theorem kg_inj {a b : Gr} (h : kg a = kg b) : a = b := by
  obtain ⟨s, cs⟩ := a
  obtain ⟨t, ds⟩ := b
  simp only [kg, NestedKey.tup.injEq, List.cons.injEq, NestedKey.text.injEq, and_true] at h
  obtain ⟨rfl, h⟩ := h
  have : cs = ds := by
    have inj : Function.Injective NestedKey.num := fun x y e => by injection e
    exact (List.map_inj_right (fun x y e => by injection e)).mp h
  rw [this]
theorem kg_eq (a b : Gr) : (kg a = kg b) ↔ a = b := ⟨kg_inj, fun h => h ▸ rfl⟩
theorem eqvAll_int : ∀ cs ds : List Int, PyData.eqvAll (toPys (cs.map .int)) (toPys (ds.map .int)) = decide (cs = ds)
  | [], [] => by simp [toPys, PyData.eqvAll]
  | [], _ :: _ => by simp [toPys, PyData.eqvAll]
  | _ :: _, [] => by simp [toPys, PyData.eqvAll]
  | c :: cs, d :: ds => by
    rw [List.map_cons, List.map_cons, toPys, toPys, PyData.eqvAll, eqvAll_int cs ds]
    simp [toPy, PyData.eqv, Bool.beq_eq_decide_eq]
@[simp] theorem eqD_dg (a b : Gr) : eqD (dg a) (dg b) = decide (a = b) := by
  obtain ⟨s, cs⟩ := a
  obtain ⟨t, ds⟩ := b
  simp [eqD, dg, toPy, toPys, PyData.eqv, PyData.eqvAll, eqvAll_int, Bool.beq_eq_decide_eq]
theorem alikeAll_int : ∀ cs ds : List Int, PySem.W.alikeAll (toPys (cs.map .int)) (toPys (ds.map .int)) = true
  | [], _ => by simp [toPys, PySem.W.alikeAll]
  | _ :: _, [] => by simp [toPys, PySem.W.alikeAll]
  | c :: cs, d :: ds => by
    rw [List.map_cons, List.map_cons, toPys, toPys, PySem.W.alikeAll, alikeAll_int cs ds]
    simp [toPy, PySem.W.alike]
@[simp] theorem likeD_dg (a b : Gr) : likeD (dg a) (dg b) = true := by
  simp [likeD, dg, toPy, toPys, PySem.W.alike, PySem.W.alikeAll, alikeAll_int]
theorem okDs_int (n : Nat) : ∀ cs : List Int, okDs n (cs.map .int) = true
  | [] => by simp [okDs]
  | c :: cs => by rw [List.map_cons, okDs, okDs_int n cs]; cases n <;> rfl
theorem okD_dg {n : Nat} {g : Gr} (h : Gk g) : okD (n + 2) (dg g) = true := by
  unfold Gk at h
  simp [dg, okD, okDs, h, okDs_int]
/-! ### the order -/
def glt (a b : Gr) : Bool := ltD (dg a) (dg b)
def gle (a b : Gr) : Bool := leD (dg a) (dg b)
theorem gle_lt (a b : Gr) : gle a b = !glt b a := by
  unfold gle leD glt ltD PySem.W.dataLe PySem.W.dataLt PySem.W.sortLe
  rfl
def tk (g : Gr) : List (Int ⊕ List Nat) := PySem.W.keyToks (toPy (dg g))
theorem glt_tk (a b : Gr) : glt a b = PyProof.Rows.lexLt PyProof.Rows.itemOrd (tk a) (tk b) := rfl
theorem tk_inj {a b : Gr} (h : tk a = tk b) : a = b := by
  have al : PySem.W.alike (toPy (dg a)) (toPy (dg b)) = true := likeD_dg a b
  cases e : PyData.eqv (toPy (dg a)) (toPy (dg b)) with
  | true =>
    have : eqD (dg a) (dg b) = true := e
    rw [eqD_dg] at this
    exact of_decide_eq_true this
  | false =>
    have q := (PySem.W.toks_eqv _ _ al).2 e [.inl 0] [.inl 1]
    have q2 := (PySem.W.toks_eqv _ _ al).2 e [.inl 1] [.inl 0]
    unfold tk at h
    rw [h, PySem.W.lex_pre] at q q2
    rw [← q2] at q
    exact absurd q (by decide)
theorem glt_irrefl (a : Gr) : glt a a = false := (PyProof.Rows.listOrd PyProof.Rows.itemOrd).irrefl (tk a)
theorem glt_trans {a b c : Gr} (h : glt a b = true) (k : glt b c = true) : glt a c = true := (PyProof.Rows.listOrd PyProof.Rows.itemOrd).trans (tk a) (tk b) (tk c) h k
theorem glt_total {a b : Gr} (h : glt a b = false) (k : glt b a = false) : a = b := tk_inj ((PyProof.Rows.listOrd PyProof.Rows.itemOrd).total (tk a) (tk b) h k)
end Dl

set_option Elab.async false
set_option linter.all false
set_option maxRecDepth 100000
set_option maxHeartbeats 4000000
/-! MF: lines: lists of grains with weights, in order; tables. -/
namespace Dl
open PySem
abbrev Tb := List (Gr × Rat)
def Asc (l : List Gr) : Prop := l.Pairwise fun a b => glt a b = true
theorem Asc.nodup {l : List Gr} (h : Asc l) : l.Nodup := h.imp fun {a b} h e => by subst e; rw [glt_irrefl] at h; cases h
theorem asc_ext : ∀ {a b : List Gr}, Asc a → Asc b → (∀ x, x ∈ a ↔ x ∈ b) → a = b
  | [], [], _, _, _ => rfl
  | [], y :: b, _, _, h => by have := (h y).mpr (List.mem_cons_self); cases this
  | x :: a, [], _, _, h => by have := (h x).mp (List.mem_cons_self); cases this
  | x :: a, y :: b, ha, hb, h => by
    obtain ⟨ha1, ha2⟩ := List.pairwise_cons.mp ha
    obtain ⟨hb1, hb2⟩ := List.pairwise_cons.mp hb
    have e : x = y := by
      rcases List.mem_cons.mp ((h x).mp List.mem_cons_self) with e | hx
      · exact e
      · rcases List.mem_cons.mp ((h y).mpr List.mem_cons_self) with e | hy
        · exact e.symm
        · have h1 := hb1 x hx
          have h2 := ha1 y hy
          have := glt_trans h1 h2
          rw [glt_irrefl] at this; cases this
    subst e
    rw [asc_ext ha2 hb2 fun z => ⟨fun hz => ?_, fun hz => ?_⟩]
    · rcases List.mem_cons.mp ((h z).mp (List.mem_cons_of_mem _ hz)) with e | q
      · subst e; have := ha1 z hz; rw [glt_irrefl] at this; cases this
      · exact q
    · rcases List.mem_cons.mp ((h z).mpr (List.mem_cons_of_mem _ hz)) with e | q
      · subst e; have := hb1 z hz; rw [glt_irrefl] at this; cases this
      · exact q
def srt (gs : List Gr) : List Gr := gs.mergeSort gle
theorem srt_perm (gs : List Gr) : (srt gs).Perm gs := List.mergeSort_perm gs gle
theorem srt_asc {gs : List Gr} (h : gs.Nodup) : Asc (srt gs) := by
  have h1 : (srt gs).Pairwise (fun a b => gle a b = true) := List.pairwise_mergeSort (fun a b c x y => by
    rw [gle_lt] at *
    simp only [Bool.not_eq_true'] at *
    cases e : glt c a with
    | false => rfl
    | true =>
      rcases (PyProof.Rows.listOrd PyProof.Rows.itemOrd).negTrans (tk c) (tk b) (tk a) e with z | z
      · exact absurd (z.symm.trans y) (by decide)
      · exact absurd (z.symm.trans x) (by decide)) (fun a b => by
    rw [gle_lt, gle_lt]
    cases e : glt b a with
    | false => rfl
    | true =>
      cases e2 : glt a b with
      | false => rfl
      | true =>
        have := glt_trans e e2
        rw [glt_irrefl] at this; cases this) gs
  have h2 : (srt gs).Nodup := (srt_perm gs).nodup_iff.mpr h
  have h3 : (srt gs).Pairwise (fun a b => gle a b = true ∧ a ≠ b) := h1.and h2
  exact h3.imp fun {a b} ⟨x, ne⟩ => by
    rw [gle_lt, Bool.not_eq_true'] at x
    cases e : glt a b with
    | true => rfl
    | false => exact (ne (glt_total e x)).elim
theorem srt_self {gs : List Gr} (h : Asc gs) : srt gs = gs := asc_ext (srt_asc h.nodup) h fun x => (srt_perm gs).mem_iff
/-! ### tables -/
def lk (t : Tb) (g : Gr) : Option Rat := (t.find? fun p => decide (p.1 = g)).map (·.2)
def pt (t : Tb) (g : Gr) (q : Rat) : Tb := if (lk t g).isSome then t.map (fun p => if p.1 = g then (p.1, q) else p) else t ++ [(g, q)]
def keys (t : Tb) : List Gr := t.map (·.1)
def vl (t : Tb) (g : Gr) : Rat := (lk t g).getD 0
@[simp] theorem lk_nil (g : Gr) : lk [] g = none := rfl
theorem lk_cons (p : Gr × Rat) (t : Tb) (g : Gr) : lk (p :: t) g = if p.1 = g then some p.2 else lk t g := by
  by_cases h : p.1 = g <;> simp [lk, List.find?_cons, h]
theorem lk_isSome (t : Tb) (g : Gr) : (lk t g).isSome = true ↔ g ∈ keys t := by
  induction t with
  | nil => simp [keys]
  | cons p t ih =>
    rw [lk_cons]
    by_cases h : p.1 = g
    · simp [h, keys]
    · rw [if_neg h, ih]
      simp [keys, Ne.symm h]
theorem lk_none {t : Tb} {g : Gr} (h : g ∉ keys t) : lk t g = none := by
  cases e : lk t g with
  | none => rfl
  | some q => exact (h ((lk_isSome t g).mp (by rw [e]; rfl))).elim
theorem lk_mem {t : Tb} {g : Gr} {q : Rat} (h : lk t g = some q) : (g, q) ∈ t := by
  induction t with
  | nil => simp at h
  | cons p t ih =>
    rw [lk_cons] at h
    by_cases e : p.1 = g
    · rw [if_pos e] at h
      cases h
      subst e
      exact List.mem_cons_self
    · rw [if_neg e] at h
      exact List.mem_cons_of_mem _ (ih h)
theorem lk_append (t u : Tb) (g : Gr) : lk (t ++ u) g = (lk t g).or (lk u g) := by
  induction t with
  | nil => simp
  | cons p t ih =>
    rw [List.cons_append, lk_cons, lk_cons]
    by_cases e : p.1 = g
    · simp [e]
    · simp [e, ih]
theorem lk_upd (t : Tb) (g : Gr) (q : Rat) (k : Gr) (h : (lk t g).isSome = true) : lk (t.map (fun p => if p.1 = g then (p.1, q) else p)) k = if k = g then some q else lk t k := by
  induction t with
  | nil => simp at h
  | cons p t ih =>
    rw [List.map_cons, lk_cons, lk_cons]
    by_cases e : p.1 = g
    · subst e
      simp only [if_true]
      by_cases e2 : p.1 = k
      · subst e2; simp
      · rw [if_neg e2, if_neg (Ne.symm e2), if_neg e2]
        by_cases hs : (lk t p.1).isSome = true
        · rw [ih hs, if_neg (Ne.symm e2)]
        · have hn : ∀ z ∈ t, z.1 ≠ p.1 := fun z hz ez => hs ((lk_isSome t p.1).mpr (by rw [← ez]; exact List.mem_map.mpr ⟨z, hz, rfl⟩))
          have : t.map (fun z => if z.1 = p.1 then (z.1, q) else z) = t := by
            conv => rhs; rw [← List.map_id t]
            exact List.map_congr_left fun z hz => by simp [hn z hz]
          rw [this]
    · have hs : (lk t g).isSome = true := by rw [lk_cons, if_neg e] at h; exact h
      simp only [if_neg e]
      rw [ih hs]
      by_cases e2 : p.1 = k
      · subst e2
        rw [if_pos rfl, if_neg e, if_pos rfl]
      · rw [if_neg e2, if_neg e2]
theorem lk_pt (t : Tb) (g : Gr) (q : Rat) (k : Gr) : lk (pt t g q) k = if k = g then some q else lk t k := by
  unfold pt
  split
  · rename_i h; exact lk_upd t g q k h
  · rename_i h
    rw [lk_append, lk_cons, lk_nil]
    have hn : lk t g = none := by
      cases e : lk t g with
      | none => rfl
      | some z => rw [e] at h; exact (h rfl).elim
    by_cases e : k = g
    · subst e; simp [hn]
    · simp [e, Ne.symm e]
theorem keys_pt (t : Tb) (g : Gr) (q : Rat) : keys (pt t g q) = if g ∈ keys t then keys t else keys t ++ [g] := by
  unfold pt
  by_cases h : (lk t g).isSome = true
  · rw [if_pos h, if_pos ((lk_isSome t g).mp h)]
    unfold keys
    rw [List.map_map]
    exact List.map_congr_left fun p _ => by by_cases e : p.1 = g <;> simp [e]
  · rw [if_neg h, if_neg fun z => h ((lk_isSome t g).mpr z)]
    simp [keys]
theorem nodup_pt {t : Tb} (h : (keys t).Nodup) (g : Gr) (q : Rat) : (keys (pt t g q)).Nodup := by
  rw [keys_pt]
  split
  · exact h
  · rename_i hn
    rw [List.nodup_append]
    exact ⟨h, by simp, fun a ha b hb => by simp at hb; subst hb; intro e; subst e; exact hn ha⟩
/-- lines: in order, no nought -/
structure IsLn (l : Tb) : Prop where
  asc : Asc (keys l)
  nz : ∀ p ∈ l, p.2 ≠ 0
theorem lk_eq_vl {l : Tb} (h : IsLn l) (g : Gr) : lk l g = if vl l g = 0 then none else some (vl l g) := by
  unfold vl
  cases e : lk l g with
  | none => simp
  | some q =>
    have := h.nz _ (lk_mem e)
    simp [this]
theorem tb_ext : ∀ {a b : Tb}, (keys a).Nodup → keys a = keys b → (∀ g, lk a g = lk b g) → a = b
  | [], [], _, _, _ => rfl
  | [], _ :: _, _, h, _ => by simp [keys] at h
  | _ :: _, [], _, h, _ => by simp [keys] at h
  | (g, q) :: a, (g', q') :: b, hn, hk, h => by
    simp only [keys, List.map_cons, List.cons.injEq] at hk
    obtain ⟨rfl, hk⟩ := hk
    have h0 := h g
    rw [lk_cons, lk_cons] at h0
    simp at h0
    subst h0
    simp only [keys, List.map_cons, List.nodup_cons] at hn
    rw [tb_ext hn.2 hk fun k => ?_]
    have hk' := h k
    rw [lk_cons, lk_cons] at hk'
    by_cases e : g = k
    · subst e
      rw [lk_none (t := a) (by exact hn.1), lk_none (t := b) (by unfold keys; rw [← hk]; exact hn.1)]
    · simpa [e] using hk'
theorem ln_ext {a b : Tb} (ha : IsLn a) (hb : IsLn b) (h : ∀ g, vl a g = vl b g) : a = b := by
  have hl : ∀ g, lk a g = lk b g := fun g => by rw [lk_eq_vl ha, lk_eq_vl hb, h g]
  refine tb_ext ha.asc.nodup (asc_ext ha.asc hb.asc fun x => ?_) hl
  rw [← lk_isSome, ← lk_isSome, hl x]

/-! ### the sum of two lines -/
def addT (t l : Tb) : Tb := l.foldl (fun t p => pt t p.1 (vl t p.1 + p.2)) t
theorem addT_nodup : ∀ (l t : Tb), (keys t).Nodup → (keys (addT t l)).Nodup
  | [], t, h => h
  | p :: l, t, h => addT_nodup l _ (nodup_pt h _ _)
theorem vl_pt (t : Tb) (g : Gr) (q : Rat) (k : Gr) : vl (pt t g q) k = if k = g then q else vl t k := by
  unfold vl
  rw [lk_pt]
  split <;> rfl
theorem vl_cons (p : Gr × Rat) (l : Tb) (k : Gr) : vl (p :: l) k = if p.1 = k then p.2 else vl l k := by
  unfold vl
  rw [lk_cons]
  split <;> rfl
theorem vl_none {l : Tb} {k : Gr} (h : k ∉ keys l) : vl l k = 0 := by
  unfold vl
  rw [lk_none h]
  rfl
theorem vl_addT : ∀ (l t : Tb), (keys l).Nodup → ∀ k, vl (addT t l) k = vl t k + vl l k
  | [], t, _, k => by
    show vl t k = vl t k + 0
    rw [Rat.add_zero]
  | p :: l, t, h, k => by
    simp only [keys, List.map_cons, List.nodup_cons] at h
    show vl (addT (pt t p.1 (vl t p.1 + p.2)) l) k = _
    rw [vl_addT l _ h.2, vl_pt, vl_cons]
    by_cases e : k = p.1
    · subst e
      rw [if_pos rfl, if_pos rfl, vl_none (l := l) h.1, Rat.add_zero]
    · rw [if_neg e, if_neg (Ne.symm e)]
/-- a table as a line -/
def lnOf (t : Tb) : Tb := (srt (keys t)).filterMap fun g => if vl t g = 0 then none else some (g, vl t g)
theorem asc_filterMap (f : Gr → Option (Gr × Rat)) (hf : ∀ g p, f g = some p → p.1 = g) : ∀ {gs : List Gr}, Asc gs → Asc (keys (gs.filterMap f))
  | [], _ => by simp [keys, Asc]
  | g :: gs, h => by
    obtain ⟨h1, h2⟩ := List.pairwise_cons.mp h
    have ih := asc_filterMap f hf h2
    rw [List.filterMap_cons]
    cases e : f g with
    | none => exact ih
    | some p =>
      simp only [keys, List.map_cons]
      refine List.pairwise_cons.mpr ⟨fun k hk => ?_, ih⟩
      obtain ⟨q, hq, rfl⟩ := List.mem_map.mp hk
      obtain ⟨g', hg', e'⟩ := List.mem_filterMap.mp hq
      rw [hf g p e, hf g' q e']
      exact h1 g' hg'
theorem lnOf_ln {t : Tb} (h : (keys t).Nodup) : IsLn (lnOf t) where
  asc := asc_filterMap _ (fun g p e => by split at e <;> cases e; rfl) (srt_asc h)
  nz := fun p hp => by
    obtain ⟨g, _, e⟩ := List.mem_filterMap.mp hp
    split at e
    · cases e
    · rename_i hz; cases e; exact hz
theorem vl_mem {l : Tb} (hn : (keys l).Nodup) {p : Gr × Rat} (hp : p ∈ l) : vl l p.1 = p.2 := by
  induction l with
  | nil => cases hp
  | cons q l ih =>
    simp only [keys, List.map_cons, List.nodup_cons] at hn
    rw [vl_cons]
    rcases List.mem_cons.mp hp with e | hp
    · subst e; rw [if_pos rfl]
    · have ne : q.1 ≠ p.1 := fun e => hn.1 (by rw [e]; exact List.mem_map.mpr ⟨p, hp, rfl⟩)
      rw [if_neg ne, ih hn.2 hp]
theorem vl_lnOf {t : Tb} (h : (keys t).Nodup) (g : Gr) : vl (lnOf t) g = vl t g := by
  have hl := lnOf_ln h
  by_cases hz : vl t g = 0
  · by_cases hk : g ∈ keys (lnOf t)
    · obtain ⟨p, hp, e⟩ := List.mem_map.mp hk
      have h1 := vl_mem hl.asc.nodup hp
      obtain ⟨g', _, e'⟩ := List.mem_filterMap.mp hp
      split at e'
      · cases e'
      · cases e'
        simp only at e
        subst e
        exact h1
    · rw [vl_none hk, hz]
  · have hg : g ∈ keys t := by
      rw [← lk_isSome]
      unfold vl at hz
      cases e : lk t g with
      | none => rw [e] at hz; exact (hz rfl).elim
      | some q => rfl
    have : (g, vl t g) ∈ lnOf t := List.mem_filterMap.mpr ⟨g, (srt_perm _).mem_iff.mpr hg, by rw [if_neg hz]⟩
    exact vl_mem hl.asc.nodup this
def plusL (a b : Tb) : Tb := lnOf (addT a b)
theorem plusL_ln {a b : Tb} (ha : IsLn a) : IsLn (plusL a b) := lnOf_ln (addT_nodup _ _ ha.asc.nodup)
theorem vl_plusL {a b : Tb} (ha : IsLn a) (hb : IsLn b) (g : Gr) : vl (plusL a b) g = vl a g + vl b g := by
  unfold plusL
  rw [vl_lnOf (addT_nodup _ _ ha.asc.nodup), vl_addT _ _ hb.asc.nodup]
theorem plusL_comm {a b : Tb} (ha : IsLn a) (hb : IsLn b) : plusL b a = plusL a b :=
  ln_ext (plusL_ln hb) (plusL_ln ha) fun g => by rw [vl_plusL hb ha, vl_plusL ha hb, Rat.add_comm]
theorem nil_ln : IsLn [] := ⟨List.Pairwise.nil, fun _ h => nomatch h⟩
def timesL (l : Tb) (x : Rat) : Tb := if x = 0 then [] else l.map fun p => (p.1, p.2 * x)
theorem keys_map (l : Tb) (x : Rat) : keys (l.map fun p => (p.1, p.2 * x)) = keys l := by
  unfold keys
  rw [List.map_map]
  rfl
theorem timesL_ln {l : Tb} (h : IsLn l) (x : Rat) : IsLn (timesL l x) := by
  unfold timesL
  split
  · exact nil_ln
  · rename_i hx
    refine ⟨by rw [keys_map]; exact h.asc, fun p hp => ?_⟩
    obtain ⟨q, hq, rfl⟩ := List.mem_map.mp hp
    intro e
    rcases Rat.mul_eq_zero.mp e with e | e
    · exact h.nz q hq e
    · exact hx e
theorem vl_map (l : Tb) (x : Rat) (g : Gr) : vl (l.map fun p => (p.1, p.2 * x)) g = vl l g * x := by
  induction l with
  | nil => simp [vl]
  | cons p l ih =>
    rw [List.map_cons, vl_cons, vl_cons, ih]
    split <;> rfl
theorem vl_timesL (l : Tb) (x : Rat) (g : Gr) : vl (timesL l x) g = vl l g * x := by
  unfold timesL
  split
  · rename_i e; subst e; rw [Rat.mul_zero]; rfl
  · exact vl_map l x g
theorem plus_minus {a : Tb} (ha : IsLn a) : plusL a (timesL a (-1)) = [] :=
  ln_ext (plusL_ln ha) nil_ln fun g => by
    rw [vl_plusL ha (timesL_ln ha _), vl_timesL, Rat.mul_neg, Rat.mul_one, Rat.add_neg_cancel]
    rfl
/-- the law's way to multiply -/
theorem lnOf_map {l : Tb} (h : IsLn l) (x : Rat) : lnOf (l.map fun p => (p.1, p.2 * x)) = timesL l x :=
  ln_ext (lnOf_ln (by rw [keys_map]; exact h.asc.nodup)) (timesL_ln h x) fun g => by
    rw [vl_lnOf (by rw [keys_map]; exact h.asc.nodup), vl_map, vl_timesL]
end Dl

set_option Elab.async false
set_option linter.all false
set_option maxRecDepth 100000
set_option maxHeartbeats 4000000
/-! MG: loops of the mirrors; lines and tables as data. -/
namespace Dl
open PySem
/-! ### loops -/
def stL (g : FG) (t : FT) (f : FE) (vs : List Nat) (d : Dat) (ρ : Rho) : Option (Option Dat × Rho) := match g d ρ with
  | none => none
  | some ρ1 => match t ρ1 with
    | none => none
    | some (false, ρ2) => some (none, wipeR ρ2 vs)
    | some (true, ρ2) => match cFz f ρ2 with
      | some (.dat x, ρ3) => some (some x, wipeR ρ3 vs)
      | _ => none
theorem lcp_cons (g : FG) (t : FT) (f : FE) (vs : List Nat) (d : Dat) (ds : List Dat) (ρ : Rho) (acc : List Dat) : lcp g t f vs (d :: ds) ρ acc = match stL g t f vs d ρ with
    | none => none
    | some (none, ρ') => lcp g t f vs ds ρ' acc
    | some (some x, ρ') => if acc.length < 100000 then lcp g t f vs ds ρ' (acc ++ [x]) else none := by
  unfold stL
  rw [lcp]
  cases g d ρ with
  | none => rfl
  | some ρ1 =>
    simp only
    cases t ρ1 with
    | none => rfl
    | some p =>
      obtain ⟨b, ρ2⟩ := p
      cases b with
      | false => rfl
      | true =>
        simp only
        cases cFz f ρ2 with
        | none => rfl
        | some q =>
          obtain ⟨h, ρ3⟩ := q
          cases h <;> rfl
theorem lcp_map {α : Type} {g : FG} {t : FT} {f : FE} {vs : List Nat} {ρ : Rho} (q : α → Dat) (r : α → Option Dat) : ∀ (xs : List α) (acc : List Dat), (∀ a ∈ xs, stL g t f vs (q a) ρ = some (r a, ρ)) → acc.length + xs.length ≤ 100000 →
    lcp g t f vs (xs.map q) ρ acc = some (acc ++ xs.filterMap r, ρ)
  | [], acc, _, _ => by simp [lcp]
  | a :: xs, acc, h, hl => by
    rw [List.map_cons, lcp_cons, h a List.mem_cons_self, List.filterMap_cons]
    simp only [List.length_cons] at hl
    cases e : r a with
    | none => exact lcp_map q r xs acc (fun b hb => h b (List.mem_cons_of_mem _ hb)) (by omega)
    | some x =>
      simp only
      rw [if_pos (by omega), lcp_map q r xs (acc ++ [x]) (fun b hb => h b (List.mem_cons_of_mem _ hb)) (by simp; omega)]
      simp
/-- where a state goes along: what comes out, of which grains -/
theorem lcp_ex {α : Type} {g : FG} {t : FT} {f : FE} {vs : List Nat} (q : α → Dat) (I : Rho → Prop) (R : α → Dat → Prop) : ∀ (xs : List α) (ρ : Rho) (acc : List Dat), I ρ →
    (∀ a ∈ xs, ∀ ρ, I ρ → ∃ o ρ', stL g t f vs (q a) ρ = some (o, ρ') ∧ I ρ' ∧ ∀ x, o = some x → R a x) → acc.length + xs.length ≤ 100000 →
    ∃ zs : List (α × Dat), (zs.map (·.1)).Sublist xs ∧ (∀ z ∈ zs, R z.1 z.2) ∧ ∃ ρ', lcp g t f vs (xs.map q) ρ acc = some (acc ++ zs.map (·.2), ρ') ∧ I ρ'
  | [], ρ, acc, hI, _, _ => ⟨[], List.Sublist.slnil, (fun z h => by cases h), ρ, (by simp [lcp]), hI⟩
  | a :: xs, ρ, acc, hI, h, hl => by
    obtain ⟨o, ρ1, e1, h1, h2⟩ := h a List.mem_cons_self ρ hI
    simp only [List.length_cons] at hl
    rw [List.map_cons, lcp_cons, e1]
    cases o with
    | none =>
      obtain ⟨zs, z1, z2, ρ', z3, z4⟩ := lcp_ex q I R xs ρ1 acc h1 (fun b hb => h b (List.mem_cons_of_mem _ hb)) (by omega)
      exact ⟨zs, z1.cons _, z2, ρ', z3, z4⟩
    | some x =>
      obtain ⟨zs, z1, z2, ρ', z3, z4⟩ := lcp_ex q I R xs ρ1 (acc ++ [x]) h1 (fun b hb => h b (List.mem_cons_of_mem _ hb)) (by simp; omega)
      refine ⟨(a, x) :: zs, z1.cons_cons _, fun z hz => ?_, ρ', ?_, z4⟩
      · rcases List.mem_cons.mp hz with e | hz
        · subst e; exact h2 x rfl
        · exact z2 z hz
      · simp only
        rw [if_pos (by omega), z3]
        simp
def stD (g : FG) (t : FT) (fk fv : FE) (vs : List Nat) (d : Dat) (ρ : Rho) : Option (Option (NestedKey × Dat) × Rho) := match g d ρ with
  | none => none
  | some ρ1 => match t ρ1 with
    | none => none
    | some (false, ρ2) => some (none, wipeR ρ2 vs)
    | some (true, ρ2) => match cFz fk ρ2 with
      | some (.dat y, ρ3) => match cFz fv ρ3 with
        | some (.dat z, ρ4) => match tkey y with
          | some k => some (some (k, z), wipeR ρ4 vs)
          | none => none
        | _ => none
      | _ => none
theorem lcpD_cons (g : FG) (t : FT) (fk fv : FE) (vs : List Nat) (d : Dat) (ds : List Dat) (ρ : Rho) (acc : List (NestedKey × Dat)) : lcpD g t fk fv vs (d :: ds) ρ acc = match stD g t fk fv vs d ρ with
    | none => none
    | some (none, ρ') => lcpD g t fk fv vs ds ρ' acc
    | some (some p, ρ') => if acc.length < 100000 then lcpD g t fk fv vs ds ρ' (putD acc p.1 p.2) else none := by
  unfold stD
  rw [lcpD]
  cases g d ρ with
  | none => rfl
  | some ρ1 =>
    simp only
    cases t ρ1 with
    | none => rfl
    | some p =>
      obtain ⟨b, ρ2⟩ := p
      cases b with
      | false => rfl
      | true =>
        simp only
        cases cFz fk ρ2 with
        | none => rfl
        | some q =>
          obtain ⟨h, ρ3⟩ := q
          cases h with
          | dat y =>
            simp only
            cases cFz fv ρ3 with
            | none => rfl
            | some q2 =>
              obtain ⟨h2, ρ4⟩ := q2
              cases h2 with
              | dat z =>
                simp only
                cases tkey y <;> rfl
              | _ => rfl
          | _ => rfl
theorem putD_len (kvs : List (NestedKey × Dat)) (k : NestedKey) (d : Dat) : (putD kvs k d).length ≤ kvs.length + 1 := putD_length kvs k d
theorem lcpD_map {α : Type} {g : FG} {t : FT} {fk fv : FE} {vs : List Nat} {ρ : Rho} (q : α → Dat) (r : α → NestedKey × Dat) : ∀ (xs : List α) (acc : List (NestedKey × Dat)), (∀ a ∈ xs, stD g t fk fv vs (q a) ρ = some (some (r a), ρ)) → acc.length + xs.length ≤ 100000 →
    lcpD g t fk fv vs (xs.map q) ρ acc = some (mergeD acc (xs.map r), ρ)
  | [], acc, _, _ => by simp [lcpD, mergeD]
  | a :: xs, acc, h, hl => by
    simp only [List.length_cons] at hl
    rw [List.map_cons, lcpD_cons, h a List.mem_cons_self]
    simp only
    rw [if_pos (by omega), lcpD_map q r xs _ (fun b hb => h b (List.mem_cons_of_mem _ hb)) (by have := putD_len acc (r a).1 (r a).2; omega)]
    rfl
theorem lp_inv {α β : Type} {g : FG} {b : FS} (q : α → Dat) (I : β → Rho → Prop) (step : β → α → β) : ∀ (xs : List α) (s : β) (ρ : Rho), I s ρ → (∀ s ρ, ∀ a ∈ xs, I s ρ → ∃ ρ1 ρ2, g (q a) ρ = some ρ1 ∧ b ρ1 = some (ρ2, .nx) ∧ I (step s a) ρ2) →
    ∃ ρ', lp g b (xs.map q) ρ = some (ρ', .nx) ∧ I (xs.foldl step s) ρ'
  | [], s, ρ, h, _ => ⟨ρ, rfl, h⟩
  | a :: xs, s, ρ, h, hs => by
    obtain ⟨ρ1, ρ2, e1, e2, h2⟩ := hs s ρ a List.mem_cons_self h
    obtain ⟨ρ', e3, h3⟩ := lp_inv q I step xs (step s a) ρ2 h2 fun s ρ b hb => hs s ρ b (List.mem_cons_of_mem _ hb)
    refine ⟨ρ', ?_, h3⟩
    rw [List.map_cons, lp, e1]
    simp only
    rw [e2]
    exact e3
/-! ### data -/
def dp (p : Gr × Rat) : Dat := .tup [dg p.1, nq p.2]
def dl (l : Tb) : Dat := .tup (l.map dp)
def dT (t : Tb) : List (NestedKey × Dat) := t.map fun p => (kg p.1, nq p.2)
theorem look_dT (t : Tb) (g : Gr) : lookD (dT t) (kg g) = (lk t g).map nq := by
  induction t with
  | nil => rfl
  | cons p t ih =>
    rw [lk_cons]
    by_cases h : p.1 = g
    · simp [dT, lookD, h]
    · have hk : ¬ kg p.1 = kg g := fun e => h (kg_inj e)
      have : lookD (dT (p :: t)) (kg g) = lookD (dT t) (kg g) := by simp [dT, lookD, List.find?_cons, hk]
      rw [this, ih, if_neg h]
theorem put_dT (t : Tb) (g : Gr) (q : Rat) : putD (dT t) (kg g) (nq q) = dT (pt t g q) := by
  unfold putD pt
  rw [look_dT]
  simp only [Option.isSome_map]
  split
  · unfold dT
    rw [List.map_map, List.map_map]
    refine List.map_congr_left fun p _ => ?_
    by_cases h : p.1 = g
    · simp [h]
    · have hk : ¬ kg p.1 = kg g := fun e => h (kg_inj e)
      simp [h, hk]
  · simp [dT]
theorem merge_dT : ∀ (l t : Tb), mergeD (dT t) (dT l) = dT (l.foldl (fun t p => pt t p.1 p.2) t)
  | [], t => rfl
  | p :: l, t => by
    show mergeD (putD (dT t) (kg p.1) (nq p.2)) (dT l) = _
    rw [put_dT, merge_dT l]
    rfl
theorem fold_nodup : ∀ (l t : Tb), (keys (t ++ l)).Nodup → l.foldl (fun t p => pt t p.1 p.2) t = t ++ l
  | [], t, _ => by simp
  | p :: l, t, h => by
    have hn : p.1 ∉ keys t := fun hp => by
      unfold keys at h hp
      rw [List.map_append, List.nodup_append] at h
      exact h.2.2 p.1 hp p.1 (by simp) rfl
    have e : pt t p.1 p.2 = t ++ [p] := by
      unfold pt
      rw [if_neg fun z => hn ((lk_isSome t p.1).mp z)]
    rw [List.foldl_cons, e, fold_nodup l (t ++ [p]) (by rw [List.append_assoc]; exact h), List.append_assoc]
    rfl
theorem merge_nodup {l : Tb} (h : (keys l).Nodup) : mergeD [] (dT l) = dT l := by
  have := merge_dT l []
  rw [fold_nodup l [] (by simpa using h)] at this
  exact this
theorem okD_nq {n : Nat} (q : Rat) : okD (n + 1) (nq q) = true := by
  cases n <;> simp [nq, nu, okD, okDs]
theorem eqD_nq (x y : Rat) : eqD (nq x) (nq y) = decide (x = y) := by
  have : (x = y) ↔ (x.num = y.num ∧ x.den = y.den) := ⟨fun h => by subst h; exact ⟨rfl, rfl⟩, fun h => Rat.ext h.1 h.2⟩
  by_cases h : x = y
  · subst h
    simp [eqD, nq, nu, toPy, toPys, PyData.eqv, PyData.eqvAll]
  · have h2 : ¬ (x.num = y.num ∧ x.den = y.den) := fun z => h (this.mpr z)
    rw [decide_eq_false h]
    simp only [eqD, nq, nu, toPy, toPys, PyData.eqv, PyData.eqvAll, Bool.and_true]
    cases e1 : (x.num == y.num) <;> cases e2 : ((x.den : Int) == (y.den : Int)) <;> simp_all
    exact h (Rat.ext e1 (by omega))
theorem nought : nq 0 = .tup [.int 0, .int 1] := rfl
theorem gNe_nq (x y : Rat) : gNe (nq x) (nq y) = some (.bl (!decide (x = y))) := by
  have h1 := okD_nq (n := 59) x
  have h2 := okD_nq (n := 59) y
  have h3 : lenNe (nq x) (nq y) = false := rfl
  simp [gNe, h1, h2, h3, eqD_nq]
theorem gNe_nought (x : Rat) : gNe (nq x) (.tup [.int 0, .int 1]) = some (.bl (!decide (x = 0))) := gNe_nq x 0
theorem gIxA_dT (t : Tb) (g : Gr) : gIxA (.dic true (dT t)) (dg g) = (lk t g).map nq := by
  simp [gIxA, gIxN, entN, look_dT]
theorem gSort_dT {t : Tb} (hk : ∀ g ∈ keys t, Gk g) (hl : t.length < 100000) : gSort (.dic true (dT t)) = some ((srt (keys t)).map dg) := by
  have e : (dT t).map (fun p => kd p.1) = (keys t).map dg := by
    unfold dT keys
    rw [List.map_map, List.map_map]
    exact List.map_congr_left fun p _ => kd_kg p.1
  have ok : ∀ gs : List Gr, (∀ g ∈ gs, Gk g) → okDs 60 (gs.map dg) = true := by
    intro gs
    induction gs with
    | nil => intro _; rfl
    | cons g gs ih =>
      intro h
      rw [List.map_cons, okDs, ih fun x hx => h x (List.mem_cons_of_mem _ hx), okD_dg (n := 58) (h g List.mem_cons_self)]
      rfl
  simp only [gSort, e]
  unfold sortD
  rw [if_pos]
  · congr 1
    exact (List.map_mergeSort (r := gle) (s := leD) (f := dg) (l := keys t) fun _ _ _ _ => rfl).symm
  · refine ⟨by simp [keys]; omega, ok _ hk, ?_, .inl ?_⟩
    · simp [List.all_eq_true]
    · simp [List.all_eq_true, tupNe, dg]
end Dl

set_option Elab.async false
set_option linter.all false
set_option maxRecDepth 100000
set_option maxHeartbeats 4000000
/-! MH: what the mirrors of the line defs answer. -/
namespace Dl
open PySem
@[simp] theorem e_wipe0 (ρ : Rho) : wipeR ρ [] = ρ := rfl
@[simp] theorem e_wipe1 (ρ : Rho) (v : Nat) (vs : List Nat) : wipeR ρ (v :: vs) = (wipeR ρ vs).set v .un := rfl
@[simp] theorem e_tAll (ρ : Rho) : tAll ρ = some (true, ρ) := rfl
@[simp] theorem e_dp (p : Gr × Rat) (gs : FGs) (n : Nat) (ρ : Rho) : gT n gs (dp p) ρ = if 2 = n then gs [dg p.1, nq p.2] ρ else none := rfl
@[simp] theorem e_cGet (fo fe ff : FE) (ρ : Rho) : cGet fo fe ff ρ = (fo ρ).bind fun p => if isN (rv p.2 p.1) = true then (fe p.2).bind fun q => match cFz ff q.2 with
  | some (.dat z, ρ3) => (rv ρ3 p.1).bind fun d => (rv ρ3 q.1).bind fun y => match d, tkey y with
    | .dic true kvs, some k => some (.dat ((lookD kvs k).getD z), ρ3)
    | _, _ => none
  | _ => none
  else none := rfl
@[simp] theorem e_isN (kvs : List (NestedKey × Dat)) : isN (some (.dic true kvs)) = true := rfl
@[simp] theorem e_gDict (xs : List Dat) : gDict (.tup xs) = if xs.length < 1000000 then (pairsOf xs).map (mergeD []) else none := rfl
@[simp] theorem e_gDictL (xs : List Dat) : gDict (.lst xs) = if xs.length < 1000000 then (pairsOf xs).map (mergeD []) else none := rfl
theorem pairs_dp : ∀ l : Tb, pairsOf (l.map dp) = some (dT l)
  | [] => rfl
  | p :: l => by
    rw [List.map_cons]
    show pairsOf (.tup [dg p.1, nq p.2] :: l.map dp) = _
    simp [pairsOf, pairs_dp l, dT]
theorem m_as_dict_eq {l : Tb} (hn : (keys l).Nodup) (hl : l.length ≤ 100000) : m_as_dict [dl l] = some (.dic true (dT l)) := by
  have h := lcpD_map (g := gT 2 (gCons' (gN 1) (gCons' (gN 2) gNil'))) (t := tAll) (fk := cVar 1) (fv := cVar 2) (vs := [1, 2]) (ρ := [.val (dl l), .un, .un]) dp (fun p => (kg p.1, nq p.2)) l [] (fun p _ => by simp [stD]) (by simpa using hl)
  have e : l.map (fun p => (kg p.1, nq p.2)) = dT l := rfl
  rw [e, merge_nodup hn] at h
  unfold dl at h ⊢
  simp [m_as_dict, b_as_dict, h]
theorem gDict_dl {l : Tb} (hn : (keys l).Nodup) (hl : l.length ≤ 100000) : gDict (dl l) = some (dT l) := by
  have h : l.length < 1000000 := by omega
  unfold dl
  simp [h, pairs_dp, merge_nodup hn]
theorem vl_some {t : Tb} {g : Gr} (h : g ∈ keys t) : lk t g = some (vl t g) := by
  have := (lk_isSome t g).mpr h
  unfold vl
  cases e : lk t g with
  | none => rw [e] at this; cases this
  | some q => rfl
theorem m_as_line_eq {t : Tb} (hk : ∀ g ∈ keys t, Gk g) (hl : t.length < 100000) : m_as_line [.dic true (dT t)] = some (dl (lnOf t)) := by
  have hs := gSort_dT hk hl
  have h := lcp_map (g := gN 1) (t := cB (c2 gNe (c2 gIxA (cVar 0) (cVar 1)) (cK (.tup [(.int (0)), (.int (1))])))) (f := cTup (aCons (cVar 1) (aCons (c2 gIxA (cVar 0) (cVar 1)) aNil))) (vs := [1])
    (ρ := [.val (.dic true (dT t)), .un]) dg (fun g => if vl t g = 0 then none else some (dp (g, vl t g))) (srt (keys t)) []
    (fun g hg => by
      have e := vl_some ((srt_perm (keys t)).mem_iff.mp hg)
      by_cases hz : vl t g = 0
      · simp [stL, gIxA_dT, e, gNe_nought, hz]
      · simp [stL, gIxA_dT, e, gNe_nought, hz, dp])
    (by
      have := (srt_perm (keys t)).length_eq
      simp [keys] at this ⊢
      omega)
  have e2 : ([] : List Dat) ++ (srt (keys t)).filterMap (fun g => if vl t g = 0 then none else some (dp (g, vl t g))) = (lnOf t).map dp := by
    unfold lnOf
    rw [List.map_filterMap, List.nil_append]
    congr 1
    funext g
    split <;> rfl
  rw [e2] at h
  simp [m_as_line, b_as_line, hs, h, dl]

theorem lp_ix {α : Type} {g : FG} {b : FS} (q : α → Dat) : ∀ (xs : List α) (I : Nat → Rho → Prop) (ρ : Rho), I 0 ρ → (∀ (i : Nat) (a : α) (ρ : Rho), xs[i]? = some a → I i ρ → ∃ ρ1 ρ2, g (q a) ρ = some ρ1 ∧ b ρ1 = some (ρ2, .nx) ∧ I (i + 1) ρ2) →
    ∃ ρ', lp g b (xs.map q) ρ = some (ρ', .nx) ∧ I xs.length ρ'
  | [], I, ρ, h, _ => ⟨ρ, rfl, h⟩
  | a :: xs, I, ρ, h, hs => by
    obtain ⟨ρ1, ρ2, e1, e2, h2⟩ := hs 0 a ρ rfl h
    obtain ⟨ρ', e3, h3⟩ := lp_ix q xs (fun i => I (i + 1)) ρ2 h2 fun i c ρ hi => hs (i + 1) c ρ (by simpa using hi)
    refine ⟨ρ', ?_, h3⟩
    rw [List.map_cons, lp, e1]
    simp only
    rw [e2]
    exact e3
/-- a slot that may be stored to -/
def fr (x : Slot) : Prop := x = .un ∨ ∃ d, x = .val d
theorem addT_take (a b : Tb) (i : Nat) (p : Gr × Rat) (h : b[i]? = some p) : addT a (b.take (i + 1)) = pt (addT a (b.take i)) p.1 (vl (addT a (b.take i)) p.1 + p.2) := by
  unfold addT
  rw [List.take_add_one, h, List.foldl_append]
  rfl
theorem pt_length (t : Tb) (g : Gr) (q : Rat) : (pt t g q).length ≤ t.length + 1 := by
  unfold pt
  split <;> simp
theorem addT_length : ∀ (b a : Tb), (addT a b).length ≤ a.length + b.length
  | [], a => Nat.le_refl _
  | p :: b, a => by
    have h1 := addT_length b (pt a p.1 (vl a p.1 + p.2))
    have h2 := pt_length a p.1 (vl a p.1 + p.2)
    show (addT (pt a p.1 (vl a p.1 + p.2)) b).length ≤ _
    simp only [List.length_cons]
    omega
theorem addT_keys : ∀ (b a : Tb) (g : Gr), g ∈ keys (addT a b) → g ∈ keys a ∨ g ∈ keys b
  | [], a, g, h => .inl h
  | p :: b, a, g, h => by
    rcases addT_keys b _ g h with h | h
    · rw [keys_pt] at h
      split at h
      · exact .inl h
      · rcases List.mem_append.mp h with h | h
        · exact .inl h
        · simp at h; subst h; exact .inr (by simp [keys])
    · exact .inr (by unfold keys at *; exact List.mem_cons_of_mem _ h)
/-- a line whose weights are not too great, whose names are plain -/
structure Ok (n : Nat) (l : Tb) : Prop where
  ln : IsLn l
  sz : ∀ p ∈ l, Rn n p.2
  gk : ∀ g ∈ keys l, Gk g
  len : l.length ≤ 1000
theorem vl_sz {n : Nat} {l : Tb} (h : ∀ p ∈ l, Rn n p.2) (g : Gr) : Rn n (vl l g) := by
  unfold vl
  cases e : lk l g with
  | none => exact Rn.zero
  | some q => exact h _ (lk_mem e)
theorem nodup_take {l : Tb} (h : (keys l).Nodup) (i : Nat) : (keys (l.take i)).Nodup := by
  unfold keys at *
  rw [List.map_take]
  exact (List.take_sublist i _).nodup h
theorem sum_sz {n m : Nat} {a b : Tb} (ha : Ok n a) (hb : Ok m b) (i : Nat) (g : Gr) : Rn (n + m) (vl (addT a (b.take i)) g) := by
  rw [vl_addT _ _ (nodup_take hb.ln.asc.nodup i)]
  exact (vl_sz ha.sz g).add (vl_sz (fun p hp => hb.sz p ((List.take_sublist i b).mem hp)) g)
theorem getD_nq (t : Tb) (g : Gr) : ((lk t g).map nq).getD (.tup [.int 0, .int 1]) = nq (vl t g) := by
  unfold vl
  cases lk t g <;> rfl
theorem m_line_plus_eq {n m : Nat} {a b : Tb} (ha : Ok n a) (hb : Ok m b) (hnm : n + m < 2 ^ 99) : m_line_plus [dl a, dl b] = some (dl (plusL a b)) := by
  have h1 := m_as_dict_eq ha.ln.asc.nodup (by have := ha.len; omega)
  obtain ⟨ρ', e, x, y, hx, hy, rfl⟩ := lp_ix (g := gT 2 (gCons' (gN 3) (gCons' (gN 4) gNil'))) (b := sSetD (cCall m_plus (aCons (cGet (cVar 2) (cVar 3) (cK (.tup [(.int (0)), (.int (1))]))) (aCons (cVar 4) aNil))) 2 (cVar 3)) dp b
    (fun i ρ => ∃ x y, fr x ∧ fr y ∧ ρ = [.val (dl a), .val (dl b), .own false (.dic true (dT (addT a (b.take i)))), x, y])
    [.val (dl a), .val (dl b), .own false (.dic true (dT a)), .un, .un] ⟨.un, .un, .inl rfl, .inl rfl, by simp [addT]⟩ (fun i p ρ hp hI => by
      obtain ⟨x, y, hx, hy, rfl⟩ := hI
      have hpm : p ∈ b := List.mem_of_getElem? hp
      have s1 := (sum_sz ha hb i p.1).bg (by omega)
      have s2 : Bg p.2 := (hb.sz p hpm).bg (by omega)
      have hl : (dT (addT a (b.take i))).length < 1000000 := by
        have h1 := addT_length (b.take i) a
        have h2 := ha.len
        have h3 := hb.len
        have h4 : (b.take i).length ≤ b.length := by simp; omega
        simp only [dT, List.length_map]
        omega
      refine ⟨[.val (dl a), .val (dl b), .own false (.dic true (dT (addT a (b.take i)))), .val (dg p.1), .val (nq p.2)], _, ?_, ?_, .val (dg p.1), .val (nq p.2), .inr ⟨_, rfl⟩, .inr ⟨_, rfl⟩, rfl⟩
      · rcases hx with rfl | ⟨_, rfl⟩ <;> rcases hy with rfl | ⟨_, rfl⟩ <;> simp
      · simp [sSetD, isDc, look_dT, getD_nq, m_plus_eq s1 s2, putAny, hl, put_dT, addT_take a b i p hp])
  have ht : b.take b.length = b := List.take_length
  rw [ht] at e
  have hl : (addT a b).length < 100000 := by
    have h1 := addT_length b a
    have h2 := ha.len
    have h3 := hb.len
    omega
  have e2 := m_as_line_eq (t := addT a b) (fun g hg => by
    rcases addT_keys b a g hg with h | h
    · exact ha.gk g h
    · exact hb.gk g h) hl
  unfold dl at *
  simp [m_line_plus, b_line_plus, h1, e, e2, plusL]
end Dl

set_option Elab.async false
set_option linter.all false
set_option maxRecDepth 100000
set_option maxHeartbeats 4000000
/-! MI: more of the line defs. -/
namespace Dl
open PySem
theorem nq_num (q : Rat) : gIxA (nq q) (.int 0) = some (.int q.num) := by simp [nq, nu]
theorem m_line_from_eq {t : Tb} (hk : ∀ g ∈ keys t, Gk g) (hl : t.length < 100000) : m__law_line_from [.dic true (dT t)] = some (dl (lnOf t)) := by
  have hs := gSort_dT hk hl
  have h := lcp_map (g := gN 1) (t := cB (c2 gNe (c2 gIxA (c2 gIxA (cVar 0) (cVar 1)) (cK (.int 0))) (cK (.int 0)))) (f := cTup (aCons (cVar 1) (aCons (c2 gIxA (cVar 0) (cVar 1)) aNil))) (vs := [1])
    (ρ := [.val (.dic true (dT t)), .un]) dg (fun g => if vl t g = 0 then none else some (dp (g, vl t g))) (srt (keys t)) []
    (fun g hg => by
      have e := vl_some ((srt_perm (keys t)).mem_iff.mp hg)
      by_cases hz : vl t g = 0
      · simp [stL, gIxA_dT, e, nq_num, hz]
      · have hz2 : (vl t g).num ≠ 0 := fun z => hz (Rat.num_eq_zero.mp z)
        simp [stL, gIxA_dT, e, nq_num, hz, hz2, dp])
    (by
      have := (srt_perm (keys t)).length_eq
      simp [keys] at this ⊢
      omega)
  have e2 : ([] : List Dat) ++ (srt (keys t)).filterMap (fun g => if vl t g = 0 then none else some (dp (g, vl t g))) = (lnOf t).map dp := by
    unfold lnOf
    rw [List.map_filterMap, List.nil_append]
    congr 1
    funext g
    split <;> rfl
  rw [e2] at h
  simp [m__law_line_from, b__law_line_from, hs, h, dl]
theorem m_law_line_plus_eq {n m : Nat} {a b : Tb} (ha : Ok n a) (hb : Ok m b) (hnm : n + m < 2 ^ 99) : m__law_line_plus [dl a, dl b] = some (dl (plusL a b)) := by
  have h1 := gDict_dl ha.ln.asc.nodup (by have := ha.len; omega)
  obtain ⟨ρ', e, x, y, hx, hy, rfl⟩ := lp_ix (g := gT 2 (gCons' (gN 3) (gCons' (gN 4) gNil'))) (b := sSetD (cCall m__law_nr_plus (aCons (cGet (cVar 2) (cVar 3) (cTup (aCons (cK (.int 0)) (aCons (cK (.int 1)) aNil)))) (aCons (cVar 4) aNil))) 2 (cVar 3)) dp b
    (fun i ρ => ∃ x y, fr x ∧ fr y ∧ ρ = [.val (dl a), .val (dl b), .own false (.dic true (dT (addT a (b.take i)))), x, y])
    [.val (dl a), .val (dl b), .own false (.dic true (dT a)), .un, .un] ⟨.un, .un, .inl rfl, .inl rfl, by simp [addT]⟩ (fun i p ρ hp hI => by
      obtain ⟨x, y, hx, hy, rfl⟩ := hI
      have hpm : p ∈ b := List.mem_of_getElem? hp
      have s1 := (sum_sz ha hb i p.1).bg (by omega)
      have s2 : Bg p.2 := (hb.sz p hpm).bg (by omega)
      have hl : (dT (addT a (b.take i))).length < 1000000 := by
        have h1 := addT_length (b.take i) a
        have h2 := ha.len
        have h3 := hb.len
        have h4 : (b.take i).length ≤ b.length := by simp; omega
        simp only [dT, List.length_map]
        omega
      refine ⟨[.val (dl a), .val (dl b), .own false (.dic true (dT (addT a (b.take i)))), .val (dg p.1), .val (nq p.2)], _, ?_, ?_, .val (dg p.1), .val (nq p.2), .inr ⟨_, rfl⟩, .inr ⟨_, rfl⟩, rfl⟩
      · rcases hx with rfl | ⟨_, rfl⟩ <;> rcases hy with rfl | ⟨_, rfl⟩ <;> simp
      · simp [sSetD, isDc, look_dT, getD_nq, m_nr_plus_eq s1 s2, putAny, hl, put_dT, addT_take a b i p hp])
  have ht : b.take b.length = b := List.take_length
  rw [ht] at e
  have hl : (addT a b).length < 100000 := by
    have h1 := addT_length b a
    have h2 := ha.len
    have h3 := hb.len
    omega
  have e2 := m_line_from_eq (t := addT a b) (fun g hg => by
    rcases addT_keys b a g hg with h | h
    · exact ha.gk g h
    · exact hb.gk g h) hl
  unfold dl at *
  simp [m__law_line_plus, b__law_line_plus, h1, e, e2, plusL]
theorem m_line_times_eq {l : Tb} {x : Rat} (hl : l.length ≤ 1000) (hs : ∀ p ∈ l, Bg p.2) (hx : Bg x) : m_line_times [dl l, nq x] = some (dl (timesL l x)) := by
  have h := lcp_map (g := gT 2 (gCons' (gN 2) (gCons' (gN 3) gNil'))) (t := cB (c2 gNe (cVar 1) (cK (.tup [(.int (0)), (.int (1))])))) (f := cTup (aCons (cVar 2) (aCons (cCall m_times (aCons (cVar 3) (aCons (cVar 1) aNil))) aNil))) (vs := [2, 3])
    (ρ := [.val (dl l), .val (nq x), .un, .un]) dp (fun p => if x = 0 then none else some (dp (p.1, p.2 * x))) l []
    (fun p hp => by
      by_cases hz : x = 0
      · simp [stL, gNe_nought, hz]
      · simp [stL, gNe_nought, hz, m_times_eq (hs p hp) hx, dp]) (by simp; omega)
  have e2 : ([] : List Dat) ++ l.filterMap (fun p => if x = 0 then none else some (dp (p.1, p.2 * x))) = (timesL l x).map dp := by
    unfold timesL
    by_cases hz : x = 0
    · simp [hz]
    · simp only [hz, if_false, List.nil_append, List.map_map]
      induction l with
      | nil => rfl
      | cons p l ih => simp [List.filterMap_cons]
  rw [e2] at h
  unfold dl at h ⊢
  simp [m_line_times, b_line_times, h]
theorem m_law_line_times_eq {l : Tb} {x : Rat} (hln : IsLn l) (hl : l.length ≤ 1000) (hs : ∀ p ∈ l, Bg p.2) (hg : ∀ g ∈ keys l, Gk g) (hx : Bg x) : m__law_line_times [dl l, nq x] = some (dl (timesL l x)) := by
  have h := lcp_map (g := gT 2 (gCons' (gN 2) (gCons' (gN 3) gNil'))) (t := tAll) (f := cTup (aCons (cVar 2) (aCons (cCall m__law_nr_times (aCons (cVar 3) (aCons (cVar 1) aNil))) aNil))) (vs := [2, 3])
    (ρ := [.val (dl l), .val (nq x), .un, .un]) dp (fun p => some (dp (p.1, p.2 * x))) l []
    (fun p hp => by simp [stL, m_nr_times_eq (hs p hp) hx, dp]) (by simp; omega)
  have e2 : ([] : List Dat) ++ l.filterMap (fun p => some (dp (p.1, p.2 * x))) = (l.map fun p => (p.1, p.2 * x)).map dp := by
    rw [List.nil_append, List.map_map]
    induction l with
    | nil => rfl
    | cons p l ih => simp [List.filterMap_cons]
  rw [e2] at h
  have hn : (keys (l.map fun p => (p.1, p.2 * x))).Nodup := by rw [keys_map]; exact hln.asc.nodup
  have hd := pairs_dp (l.map fun p => (p.1, p.2 * x))
  have hm := merge_nodup hn
  have e3 := m_line_from_eq (t := l.map fun p => (p.1, p.2 * x)) (by rw [keys_map]; exact hg) (by simp; omega)
  rw [lnOf_map hln x] at e3
  have hl2 : (l.map fun p => (p.1, p.2 * x)).length < 1000000 := by rw [List.length_map]; omega
  unfold dl at h e3 ⊢
  generalize (l.map fun p => (p.1, p.2 * x)) = L at *
  simp [m__law_line_times, b__law_line_times, h, hd, hm, e3, hl2]
theorem m_weight_in_eq {l : Tb} (hn : (keys l).Nodup) (hl : l.length ≤ 1000) (g : Gr) : m_weight_in [dl l, dg g] = some (nq (vl l g)) := by
  have h := m_as_dict_eq hn (by omega)
  simp [m_weight_in, b_weight_in, h, look_dT, getD_nq]
theorem m_law_weight_eq {l : Tb} (hn : (keys l).Nodup) (hl : l.length ≤ 1000) (g : Gr) : m__law_weight [dl l, dg g] = some (nq (vl l g)) := by
  have h := gDict_dl hn (by omega)
  simp [m__law_weight, b__law_weight, h, look_dT, getD_nq]
end Dl

set_option Elab.async false
set_option linter.all false
set_option maxRecDepth 100000
set_option maxHeartbeats 4000000
/-! MJ: pairs of lines, cuts. -/
namespace Dl
open PySem
def sumR (f : Gr × Rat → Rat) : Tb → Rat
  | [] => 0
  | p :: l => f p + sumR f l
theorem foldl_sum (f : Gr × Rat → Rat) : ∀ (l : Tb) (s : Rat), l.foldl (fun s p => s + f p) s = s + sumR f l
  | [], s => (Rat.add_zero s).symm
  | p :: l, s => by
    rw [List.foldl_cons, foldl_sum f l, sumR, Rat.add_assoc]
theorem sumR_add (f h : Gr × Rat → Rat) : ∀ l : Tb, sumR (fun p => f p + h p) l = sumR f l + sumR h l
  | [] => (Rat.add_zero 0).symm
  | p :: l => by
    rw [sumR, sumR, sumR, sumR_add f h l, Rat.add_assoc, Rat.add_assoc, Rat.add_left_comm (h p)]
theorem sumR_congr {f h : Gr × Rat → Rat} : ∀ {l : Tb}, (∀ p ∈ l, f p = h p) → sumR f l = sumR h l
  | [], _ => rfl
  | p :: l, e => by rw [sumR, sumR, e p List.mem_cons_self, sumR_congr fun q hq => e q (List.mem_cons_of_mem _ hq)]
theorem sumR_zero : ∀ l : Tb, sumR (fun _ => 0) l = 0
  | [] => rfl
  | p :: l => by rw [sumR, sumR_zero l, Rat.add_zero]
theorem sumR_at (g : Gr) (x : Rat) : ∀ {l : Tb}, (keys l).Nodup → sumR (fun p => p.2 * (if p.1 = g then x else 0)) l = vl l g * x
  | [], _ => by rw [sumR]; show (0 : Rat) = 0 * x; rw [Rat.zero_mul]
  | p :: l, h => by
    simp only [keys, List.map_cons, List.nodup_cons] at h
    rw [sumR, vl_cons, sumR_at g x h.2]
    by_cases e : p.1 = g
    · subst e
      rw [if_pos rfl, if_pos rfl, vl_none (l := l) h.1, Rat.zero_mul, Rat.add_zero]
    · rw [if_neg e, if_neg e, Rat.mul_zero, Rat.zero_add]
/-- the sum of products -/
def pairL (a b : Tb) : Rat := sumR (fun p => p.2 * vl b p.1) a
theorem pairL_comm : ∀ {a b : Tb}, (keys a).Nodup → (keys b).Nodup → pairL b a = pairL a b
  | [], b, _, _ => by
    show sumR (fun p => p.2 * vl [] p.1) b = 0
    rw [sumR_congr (h := fun _ => 0) fun p _ => by show p.2 * 0 = 0; rw [Rat.mul_zero], sumR_zero]
  | q :: a, b, ha, hb => by
    simp only [keys, List.map_cons, List.nodup_cons] at ha
    have ih := pairL_comm (a := a) (b := b) ha.2 hb
    show sumR (fun p => p.2 * vl (q :: a) p.1) b = q.2 * vl b q.1 + pairL a b
    rw [← ih, Rat.mul_comm q.2, ← sumR_at q.1 q.2 hb]
    unfold pairL
    rw [← sumR_add]
    refine sumR_congr fun p _ => ?_
    rw [vl_cons, ← Rat.mul_add]
    by_cases e : q.1 = p.1
    · rw [if_pos e, if_pos e.symm, ← e, vl_none (l := a) ha.1, Rat.add_zero]
    · rw [if_neg e, if_neg (Ne.symm e), Rat.zero_add]
def psum (a b : Tb) : Rat := a.foldl (fun s p => s + p.2 * vl b p.1) 0
theorem psum_eq (a b : Tb) : psum a b = pairL a b := by
  unfold psum
  rw [foldl_sum (fun p => p.2 * vl b p.1), Rat.zero_add]
  rfl
theorem psum_take (a b : Tb) (i : Nat) (p : Gr × Rat) (h : a[i]? = some p) : psum (a.take (i + 1)) b = psum (a.take i) b + p.2 * vl b p.1 := by
  unfold psum
  rw [List.take_add_one, h, List.foldl_append]
  rfl
theorem vlP {n : Nat} {l : Tb} (h : ∀ p ∈ l, Pn n p.2) (g : Gr) : Pn n (vl l g) := by
  unfold vl
  cases e : lk l g with
  | none => exact Pn.zero
  | some q => exact h _ (lk_mem e)
theorem psum_sz {n m : Nat} {b : Tb} (hb : ∀ p ∈ b, Pn m p.2) : ∀ (a : Tb) (s : Rat) (k : Nat), (∀ p ∈ a, Pn n p.2) → Rn k s → Rn (k + a.length * (n * m)) (a.foldl (fun s p => s + p.2 * vl b p.1) s)
  | [], s, k, _, h => by simpa using h
  | p :: a, s, k, ha, h => by
    have h1 : Rn (k + n * m) (s + p.2 * vl b p.1) := h.add ((ha p List.mem_cons_self).mul (vlP hb p.1))
    have h2 := psum_sz hb a _ _ (fun q hq => ha q (List.mem_cons_of_mem _ hq)) h1
    rw [List.foldl_cons]
    refine h2.mono ?_
    rw [List.length_cons, Nat.add_mul]
    omega
theorem gInA_dT (t : Tb) (g : Gr) : gInA (dg g) (.dic true (dT t)) = some (.bl (lk t g).isSome) := by
  simp [gInA, gInN, look_dT]
theorem psum_small {n m : Nat} {a b : Tb} (hl : a.length ≤ 1000) (ha : ∀ p ∈ a, Pn n p.2) (hb : ∀ p ∈ b, Pn m p.2) (hnm : n * m ≤ 2 ^ 80) (i : Nat) : Bg (psum (a.take i) b) := by
  have h := psum_sz hb (a.take i) 0 0 (fun p hp => ha p ((List.take_sublist i a).mem hp)) Rn.zero
  refine Rn.bg (n := 0 + (a.take i).length * (n * m)) h ?_
  have h1 : (a.take i).length ≤ 1000 := by simp; omega
  have h2 : (a.take i).length * (n * m) ≤ 1000 * 2 ^ 80 := Nat.mul_le_mul h1 hnm
  have h3 : (1000 : Nat) * 2 ^ 80 < 2 ^ 100 := by decide
  omega
theorem prod_small {n m : Nat} {x y : Rat} (hx : Pn n x) (hy : Pn m y) (hnm : n * m ≤ 2 ^ 80) : Bg (x * y) :=
  (hx.mul hy).bg (Nat.lt_of_le_of_lt hnm (by decide))
theorem Pn.bgs {n : Nat} {x : Rat} (h : Pn n x) (hn : n ≤ 2 ^ 80) : Bg x := h.bg (Nat.lt_of_le_of_lt hn (by decide))
theorem m_paired_eq {n m : Nat} {a b : Tb} (hl : a.length ≤ 1000) (hlb : b.length ≤ 1000) (hnb : (keys b).Nodup) (ha : ∀ p ∈ a, Pn n p.2) (hb : ∀ p ∈ b, Pn m p.2) (hn : n ≤ 2 ^ 80) (hm : m ≤ 2 ^ 80) (hnm : n * m ≤ 2 ^ 80) :
    m_paired [dl a, dl b] = some (nq (pairL a b)) := by
  have h1 := m_as_dict_eq hnb (by omega)
  obtain ⟨ρ', e, x, y, hx, hy, rfl⟩ := lp_ix (g := gT 2 (gCons' (gN 4) (gCons' (gN 5) gNil'))) (b := sIf (cB (c2 gInA (cVar 4) (cVar 2))) (sAsg (cCall m_plus (aCons (cVar 3) (aCons (cCall m_times (aCons (cVar 5) (aCons (c2 gIxA (cVar 2) (cVar 4)) aNil))) aNil))) (gN 3)) sNil) dp a
    (fun i ρ => ∃ x y, fr x ∧ fr y ∧ ρ = [.val (dl a), .val (dl b), .val (.dic true (dT b)), .val (nq (psum (a.take i) b)), x, y])
    [.val (dl a), .val (dl b), .val (.dic true (dT b)), .val (.tup [.int 0, .int 1]), .un, .un] ⟨.un, .un, .inl rfl, .inl rfl, by simp [psum, nought]⟩ (fun i p ρ hp hI => by
      obtain ⟨x, y, hx, hy, rfl⟩ := hI
      have hpm : p ∈ a := List.mem_of_getElem? hp
      have s1 := psum_small hl ha hb hnm i
      have s2 := (ha p hpm).bgs hn
      have s3 := (vlP hb p.1).bgs hm
      have s4 := prod_small (ha p hpm) (vlP hb p.1) hnm
      refine ⟨[.val (dl a), .val (dl b), .val (.dic true (dT b)), .val (nq (psum (a.take i) b)), .val (dg p.1), .val (nq p.2)], _, ?_, ?_, .val (dg p.1), .val (nq p.2), .inr ⟨_, rfl⟩, .inr ⟨_, rfl⟩, rfl⟩
      · rcases hx with rfl | ⟨_, rfl⟩ <;> rcases hy with rfl | ⟨_, rfl⟩ <;> simp
      · by_cases hk : p.1 ∈ keys b
        · have e1 := vl_some hk
          simp [gInA_dT, gIxA_dT, e1, m_times_eq s2 s3, m_plus_eq s1 s4, psum_take a b i p hp]
        · have e1 := lk_none hk
          have e2 := vl_none hk
          simp [gInA_dT, e1, psum_take a b i p hp, e2]
          rw [Rat.add_zero])
  have ht : a.take a.length = a := List.take_length
  rw [ht, psum_eq] at e
  unfold dl at *
  simp [m_paired, b_paired, h1, e]
theorem m_law_line_pair_eq {n m : Nat} {a b : Tb} (hl : a.length ≤ 1000) (hlb : b.length ≤ 1000) (hnb : (keys b).Nodup) (ha : ∀ p ∈ a, Pn n p.2) (hb : ∀ p ∈ b, Pn m p.2) (hn : n ≤ 2 ^ 80) (hm : m ≤ 2 ^ 80) (hnm : n * m ≤ 2 ^ 80) :
    m__law_line_pair [dl a, dl b] = some (nq (pairL a b)) := by
  have h1 := gDict_dl hnb (by omega)
  obtain ⟨ρ', e, x, y, hx, hy, rfl⟩ := lp_ix (g := gT 2 (gCons' (gN 4) (gCons' (gN 5) gNil'))) (b := sAsg (cCall m__law_nr_plus (aCons (cVar 3) (aCons (cCall m__law_nr_times (aCons (cVar 5) (aCons (cGet (cVar 2) (cVar 4) (cTup (aCons (cK (.int 0)) (aCons (cK (.int 1)) aNil)))) aNil))) aNil))) (gN 3)) dp a
    (fun i ρ => ∃ x y, fr x ∧ fr y ∧ ρ = [.val (dl a), .val (dl b), .val (.dic true (dT b)), .val (nq (psum (a.take i) b)), x, y])
    [.val (dl a), .val (dl b), .val (.dic true (dT b)), .val (.tup [.int 0, .int 1]), .un, .un] ⟨.un, .un, .inl rfl, .inl rfl, by simp [psum, nought]⟩ (fun i p ρ hp hI => by
      obtain ⟨x, y, hx, hy, rfl⟩ := hI
      have hpm : p ∈ a := List.mem_of_getElem? hp
      have s1 := psum_small hl ha hb hnm i
      have s2 := (ha p hpm).bgs hn
      have s3 := (vlP hb p.1).bgs hm
      have s4 := prod_small (ha p hpm) (vlP hb p.1) hnm
      refine ⟨[.val (dl a), .val (dl b), .val (.dic true (dT b)), .val (nq (psum (a.take i) b)), .val (dg p.1), .val (nq p.2)], _, ?_, ?_, .val (dg p.1), .val (nq p.2), .inr ⟨_, rfl⟩, .inr ⟨_, rfl⟩, rfl⟩
      · rcases hx with rfl | ⟨_, rfl⟩ <;> rcases hy with rfl | ⟨_, rfl⟩ <;> simp
      · simp [look_dT, getD_nq, m_nr_times_eq s2 s3, m_nr_plus_eq s1 s4, psum_take a b i p hp])
  have ht : a.take a.length = a := List.take_length
  rw [ht, psum_eq] at e
  unfold dl at *
  simp [m__law_line_pair, b__law_line_pair, h1, e]
/-! ### cuts -/
theorem has_put (kvs : List (NestedKey × Dat)) (k k' : NestedKey) (d : Dat) : (lookD (putD kvs k d) k').isSome = (decide (k = k') || (lookD kvs k').isSome) := by
  have hs : ∀ (l : List (NestedKey × Dat)) (k : NestedKey), (lookD l k).isSome = l.any fun p => decide (p.1 = k) := by
    intro l k
    induction l with
    | nil => rfl
    | cons p l ih =>
      by_cases h : p.1 = k
      · simp [lookD, h]
      · have : lookD (p :: l) k = lookD l k := by simp [lookD, List.find?_cons, h]
        rw [this, ih]
        simp [h]
  rw [hs, hs]
  unfold putD
  rw [hs]
  split
  · rename_i h
    rw [List.any_map]
    have e : ((fun p : NestedKey × Dat => decide (p.1 = k')) ∘ fun p => if p.1 = k then (p.1, d) else p) = fun p => decide (p.1 = k') := by
      funext p
      by_cases hp : p.1 = k <;> simp [hp]
    rw [e]
    by_cases hk : k = k'
    · subst hk
      rw [h]
      simp
    · simp [hk]
  · rw [List.any_append]
    simp [Bool.or_comm]
theorem has_merge (gs : List Gr) (d : Dat) (g : Gr) : ∀ acc : List (NestedKey × Dat), (lookD (mergeD acc (gs.map fun x => (kg x, d))) (kg g)).isSome = ((lookD acc (kg g)).isSome || decide (g ∈ gs)) := by
  induction gs with
  | nil => intro acc; simp [mergeD]
  | cons x gs ih =>
    intro acc
    show (lookD (mergeD (putD acc (kg x) d) (gs.map fun x => (kg x, d))) (kg g)).isSome = _
    rw [ih, has_put]
    by_cases h : x = g
    · subst h; simp
    · have h2 : ¬ kg x = kg g := fun e => h (kg_inj e)
      simp [h2, Ne.symm h]
def cutG (l : Tb) (gs : List Gr) : Tb := l.filter fun p => decide (p.1 ∈ gs)
theorem cut_map (l : Tb) (gs : List Gr) : l.filterMap (fun p => if p.1 ∈ gs then some (dp p) else none) = (cutG l gs).map dp := by
  unfold cutG
  induction l with
  | nil => rfl
  | cons p l ih =>
    by_cases h : p.1 ∈ gs
    · simp [h, ih]
    · simp [h, ih]
theorem okDs_dg : ∀ {gs : List Gr}, (∀ g ∈ gs, Gk g) → okDs 60 (gs.map dg) = true
  | [], _ => rfl
  | g :: gs, h => by
    rw [List.map_cons, okDs, okDs_dg fun x hx => h x (List.mem_cons_of_mem _ hx), okD_dg (n := 58) (h g List.mem_cons_self)]
    rfl
theorem in_dg (g : Gr) (gs : List Gr) : inDs (dg g) (gs.map dg) = decide (g ∈ gs) := by
  unfold inDs
  rw [List.any_map]
  induction gs with
  | nil => rfl
  | cons x gs ih =>
    rw [List.any_cons, ih]
    by_cases h : x = g
    · subst h; simp
    · simp [h, Ne.symm h]
inductive Sq : Dat → List Dat → Prop
  | lst (xs) : Sq (.lst xs) xs
  | tup (xs) : Sq (.tup xs) xs
theorem m_cut_eq {l : Tb} {gs : List Gr} {s : Dat} (hs : Sq s (gs.map dg)) (hl : l.length ≤ 1000) (hg : gs.length ≤ 1000) : m_cut [dl l, s] = some (dl (cutG l gs)) := by
  have h := lcpD_map (g := gN 3) (t := tAll) (fk := cVar 3) (fv := cK (.bl true)) (vs := [3]) (ρ := [.val (dl l), .val s, .un, .un, .un]) dg (fun g => (kg g, .bl true)) gs [] (fun g _ => by simp [stD]) (by simp; omega)
  have h2 := lcp_map (g := gT 2 (gCons' (gN 3) (gCons' (gN 4) gNil'))) (t := cB (c2 gInA (cVar 3) (cVar 2))) (f := cTup (aCons (cVar 3) (aCons (cVar 4) aNil))) (vs := [3, 4])
    (ρ := [.val (dl l), .val s, .val (.dic true (mergeD [] (gs.map fun g => (kg g, .bl true)))), .un, .un]) dp (fun p => if p.1 ∈ gs then some (dp p) else none) l []
    (fun p _ => by
      have e := has_merge gs (.bl true) p.1 []
      have e2 : gInA (dg p.1) (.dic true (mergeD [] (gs.map fun g => (kg g, .bl true)))) = some (.bl (decide (p.1 ∈ gs))) := by
        simp only [gInA, gInN, tkey_dg, e]
        simp [lookD]
      by_cases hk : p.1 ∈ gs
      · simp [stL, e2, hk, dp]
      · simp [stL, e2, hk]) (by simp; omega)
  rw [List.nil_append, cut_map] at h2
  have hb : back [.val (dl l), .val s, .un, .un, .un] [.val (dl l), .val s, .un, .un, .un] [3] = [.val (dl l), .val s, .un, .un, .un] := by simp [back, List.range_succ]
  cases hs with
  | lst =>
    unfold dl at *
    simp [m_cut, b_cut, h, h2, hb]
  | tup =>
    unfold dl at *
    simp [m_cut, b_cut, h, h2, hb]
theorem m_law_cut_eq {l : Tb} {gs : List Gr} {s : Dat} (hs : Sq s (gs.map dg)) (hl : l.length ≤ 1000) (hk : ∀ g ∈ gs, Gk g) (hk2 : ∀ g ∈ keys l, Gk g) : m__law_line_cut [dl l, s] = some (dl (cutG l gs)) := by
  have h2 := lcp_map (g := gN 2) (t := cB (c2 gInA (c2 gIxA (cVar 2) (cK (.int 0))) (cVar 1))) (f := cVar 2) (vs := [2])
    (ρ := [.val (dl l), .val s, .un]) dp (fun p => if p.1 ∈ gs then some (dp p) else none) l []
    (fun p hp => by
      have g1 : Gk p.1 := hk2 p.1 (List.mem_map.mpr ⟨p, hp, rfl⟩)
      have o1 := okD_dg (n := 58) g1
      have o2 := okDs_dg hk
      have e2 : gInA (dg p.1) s = some (.bl (decide (p.1 ∈ gs))) := by
        cases hs <;> simp [gInA, gIn, o1, o2, in_dg]
      have e3 : gIxA (dp p) (.int 0) = some (dg p.1) := by simp [dp]
      by_cases hk : p.1 ∈ gs
      · simp [stL, e3, e2, hk]
      · simp [stL, e3, e2, hk]) (by simp; omega)
  rw [List.nil_append, cut_map] at h2
  unfold dl at *
  simp [m__law_line_cut, b__law_line_cut, h2]
end Dl

set_option Elab.async false
set_option linter.all false
set_option maxRecDepth 100000
set_option maxHeartbeats 4000000
/-! MK: the law's own way to compare. -/
namespace Dl
open PySem
@[simp] theorem e_gIsi (T : String) (d : Dat) : gIsi T d = some (.bl (isT T d)) := rfl
@[simp] theorem e_gLenT (xs : List Dat) : gLen (.tup xs) = some (.int xs.length) := rfl
@[simp] theorem e_gLenL (xs : List Dat) : gLen (.lst xs) = some (.int xs.length) := rfl
theorem iR1_nat {f : FA} {ρ ρ1 : Rho} {n : Nat} (h : f ρ = some ([.int (n : Int)], ρ1)) (hn : n < 1000000) : iR1 f ρ = some (rngD 0 n, ρ1) := by
  unfold iR1
  rw [h]
  have h1 : -(2 ^ 62 : Int) ≤ (n : Int) := by omega
  have h2 : (n : Int) < 2 ^ 62 := by omega
  simp only
  rw [if_pos ⟨h1, h2⟩, Int.toNat_natCast]
@[simp] theorem ty_bool_NoneType : isT "bool" .non = false := by rw [isT_bool]
@[simp] theorem ty_bool_bool (b : Bool) : isT "bool" (.bl b) = true := by rw [isT_bool]
@[simp] theorem ty_bool_int (i : Int) : isT "bool" (.int i) = false := by rw [isT_bool]
@[simp] theorem ty_bool_str (s : Str) : isT "bool" (.str s) = false := by rw [isT_bool]
@[simp] theorem ty_bool_tuple (xs : List Dat) : isT "bool" (.tup xs) = false := by rw [isT_bool]
@[simp] theorem ty_bool_list (xs : List Dat) : isT "bool" (.lst xs) = false := by rw [isT_bool]
@[simp] theorem ty_bool_dict (n : Bool) (kvs : List (NestedKey × Dat)) : isT "bool" (.dic n kvs) = false := by rw [isT_bool]
@[simp] theorem ty_int_NoneType : isT "int" .non = false := by rw [isT_int]
@[simp] theorem ty_int_bool (b : Bool) : isT "int" (.bl b) = true := by rw [isT_int]
@[simp] theorem ty_int_int (i : Int) : isT "int" (.int i) = true := by rw [isT_int]
@[simp] theorem ty_int_str (s : Str) : isT "int" (.str s) = false := by rw [isT_int]
@[simp] theorem ty_int_tuple (xs : List Dat) : isT "int" (.tup xs) = false := by rw [isT_int]
@[simp] theorem ty_int_list (xs : List Dat) : isT "int" (.lst xs) = false := by rw [isT_int]
@[simp] theorem ty_int_dict (n : Bool) (kvs : List (NestedKey × Dat)) : isT "int" (.dic n kvs) = false := by rw [isT_int]
@[simp] theorem ty_str_NoneType : isT "str" .non = false := by rw [isT_str]
@[simp] theorem ty_str_bool (b : Bool) : isT "str" (.bl b) = false := by rw [isT_str]
@[simp] theorem ty_str_int (i : Int) : isT "str" (.int i) = false := by rw [isT_str]
@[simp] theorem ty_str_str (s : Str) : isT "str" (.str s) = true := by rw [isT_str]
@[simp] theorem ty_str_tuple (xs : List Dat) : isT "str" (.tup xs) = false := by rw [isT_str]
@[simp] theorem ty_str_list (xs : List Dat) : isT "str" (.lst xs) = false := by rw [isT_str]
@[simp] theorem ty_str_dict (n : Bool) (kvs : List (NestedKey × Dat)) : isT "str" (.dic n kvs) = false := by rw [isT_str]
@[simp] theorem ty_tuple_NoneType : isT "tuple" .non = false := by rw [isT_tuple]
@[simp] theorem ty_tuple_bool (b : Bool) : isT "tuple" (.bl b) = false := by rw [isT_tuple]
@[simp] theorem ty_tuple_int (i : Int) : isT "tuple" (.int i) = false := by rw [isT_tuple]
@[simp] theorem ty_tuple_str (s : Str) : isT "tuple" (.str s) = false := by rw [isT_tuple]
@[simp] theorem ty_tuple_tuple (xs : List Dat) : isT "tuple" (.tup xs) = true := by rw [isT_tuple]
@[simp] theorem ty_tuple_list (xs : List Dat) : isT "tuple" (.lst xs) = false := by rw [isT_tuple]
@[simp] theorem ty_tuple_dict (n : Bool) (kvs : List (NestedKey × Dat)) : isT "tuple" (.dic n kvs) = false := by rw [isT_tuple]
@[simp] theorem ty_list_NoneType : isT "list" .non = false := by rw [isT_list]
@[simp] theorem ty_list_bool (b : Bool) : isT "list" (.bl b) = false := by rw [isT_list]
@[simp] theorem ty_list_int (i : Int) : isT "list" (.int i) = false := by rw [isT_list]
@[simp] theorem ty_list_str (s : Str) : isT "list" (.str s) = false := by rw [isT_list]
@[simp] theorem ty_list_tuple (xs : List Dat) : isT "list" (.tup xs) = false := by rw [isT_list]
@[simp] theorem ty_list_list (xs : List Dat) : isT "list" (.lst xs) = true := by rw [isT_list]
@[simp] theorem ty_list_dict (n : Bool) (kvs : List (NestedKey × Dat)) : isT "list" (.dic n kvs) = false := by rw [isT_list]
@[simp] theorem ty_dict_NoneType : isT "dict" .non = false := by rw [isT_dict]
@[simp] theorem ty_dict_bool (b : Bool) : isT "dict" (.bl b) = false := by rw [isT_dict]
@[simp] theorem ty_dict_int (i : Int) : isT "dict" (.int i) = false := by rw [isT_dict]
@[simp] theorem ty_dict_str (s : Str) : isT "dict" (.str s) = false := by rw [isT_dict]
@[simp] theorem ty_dict_tuple (xs : List Dat) : isT "dict" (.tup xs) = false := by rw [isT_dict]
@[simp] theorem ty_dict_list (xs : List Dat) : isT "dict" (.lst xs) = false := by rw [isT_dict]
@[simp] theorem ty_dict_dict (n : Bool) (kvs : List (NestedKey × Dat)) : isT "dict" (.dic n kvs) = true := by rw [isT_dict]
@[simp] theorem gIs_non (d : Dat) : gIs d .non = some (.bl (isNon d)) := by cases d <;> rfl
@[simp] theorem gIs_bl (a b : Bool) : gIs (.bl a) (.bl b) = some (.bl (decide (a = b))) := rfl
theorem gEq_str {s t : Str} (h : PyData.strOk s = true) (k : PyData.strOk t = true) : gEq (.str s) (.str t) = some (.bl (decide (s = t))) := by
  simp [gEq, lenNe, okD, h, k, eqD, toPy, PyData.eqv, Bool.beq_eq_decide_eq]
@[simp] theorem isNon_non : isNon .non = true := rfl
@[simp] theorem isNon_bl (b : Bool) : isNon (.bl b) = false := rfl
@[simp] theorem isNon_int (b : Int) : isNon (.int b) = false := rfl
@[simp] theorem isNon_str (b : Str) : isNon (.str b) = false := rfl
@[simp] theorem isNon_tup (b : List Dat) : isNon (.tup b) = false := rfl
@[simp] theorem isNon_lst (b : List Dat) : isNon (.lst b) = false := rfl
@[simp] theorem isNon_dic (n : Bool) (b : List (NestedKey × Dat)) : isNon (.dic n b) = false := rfl
theorem at_nat {α : Type} (xs : List α) (i : Nat) (h : i < xs.length) : L2.atI xs (i : Int) = xs[i]? := by
  have h2 : (i : Int) < xs.length := by omega
  simp [L2.atI, L2.ixN, h2, h]
mutual
def sok : Nat → Dat → Bool
  | 0, _ => false
  | _ + 1, .non => true
  | _ + 1, .bl _ => true
  | _ + 1, .int _ => true
  | _ + 1, .str s => PyData.strOk s
  | n + 1, .tup xs => decide (xs.length < 1000000) && soks n xs
  | n + 1, .lst xs => decide (xs.length < 1000000) && soks n xs
  | _ + 1, _ => false
def soks : Nat → List Dat → Bool
  | _, [] => true
  | n, x :: xs => sok n x && soks n xs
end
theorem soks_mem {n : Nat} : ∀ {xs : List Dat}, soks n xs = true → ∀ d ∈ xs, sok n d = true
  | x :: xs, h, d, hd => by
    rw [soks, Bool.and_eq_true] at h
    rcases List.mem_cons.mp hd with e | hd
    · subst e; exact h.1
    · exact soks_mem h.2 d hd
theorem same_loop {n : Nat} {d : Dat} {xs : List Dat} (hx : ∀ (i : Nat) (x : Dat), xs[i]? = some x → gIxA d (.int i) = some x) (hl : xs.length < 1000000) (ih : ∀ x ∈ xs, m__law_same n [x, x] = some (.bl true)) :
    ∃ ρ', lp (gN 3) (sIf (cNot (cB (cCall (m__law_same n) (aCons (c2 gIxA (cVar 0) (cVar 3)) (aCons (c2 gIxA (cVar 1) (cVar 3)) aNil))))) (sRet (cK (.bl false))) sNil) (rngD 0 xs.length) [.val d, .val d, .un, .un] = some (ρ', .nx) := by
  obtain ⟨ρ', e, _⟩ := lp_ix (g := gN 3) (b := sIf (cNot (cB (cCall (m__law_same n) (aCons (c2 gIxA (cVar 0) (cVar 3)) (aCons (c2 gIxA (cVar 1) (cVar 3)) aNil))))) (sRet (cK (.bl false))) sNil) (fun i : Nat => Dat.int (0 + i)) (List.range xs.length)
    (fun i ρ => ∃ x, fr x ∧ ρ = [.val d, .val d, .un, x]) [.val d, .val d, .un, .un] ⟨.un, .inl rfl, rfl⟩ (fun i a ρ ha hI => by
      obtain ⟨x, hx', rfl⟩ := hI
      obtain ⟨h1, h2⟩ := List.getElem?_eq_some_iff.mp ha
      rw [List.getElem_range] at h2
      subst h2
      rw [List.length_range] at h1
      have e1 : xs[i]? = some xs[i] := List.getElem?_eq_getElem h1
      have e2 := hx i _ e1
      have e3 := ih xs[i] (List.getElem_mem h1)
      refine ⟨[.val d, .val d, .un, .val (.int (0 + (i : Int)))], _, ?_, ?_, .val (.int (0 + (i : Int))), .inr ⟨_, rfl⟩, rfl⟩
      · rcases hx' with rfl | ⟨_, rfl⟩ <;> simp
      · simp [e2, e3])
  exact ⟨ρ', e⟩
theorem sSeq_nx {f g : FS} {ρ ρ1 : Rho} (h : f ρ = some (ρ1, .nx)) : sSeq f g ρ = g ρ1 := by
  unfold sSeq
  rw [h]
theorem if_no {t : FT} {f : FS} {ρ : Rho} (h : t ρ = some (false, ρ)) : sIf t f sNil ρ = some (ρ, .nx) := by
  unfold sIf
  rw [h]
  rfl
theorem for_nx {it : FI} {g : FG} {b : FS} {ρ ρ1 ρ2 : Rho} {ds : List Dat} (h : it ρ = some (ds, ρ1)) (k : lp g b ds ρ1 = some (ρ2, .nx)) : sFor it g b ρ = some (ρ2, .nx) := by
  unfold sFor
  rw [h]
  exact k
theorem same_seq {n : Nat} {d : Dat} {xs : List Dat} (hd : d = .tup xs ∨ d = .lst xs) (hl : xs.length < 1000000) (ih : ∀ x ∈ xs, m__law_same n [x, x] = some (.bl true)) : m__law_same (n + 1) [d, d] = some (.bl true) := by
  rcases hd with rfl | rfl
  · obtain ⟨ρ', e⟩ := same_loop (n := n) (d := .tup xs) (xs := xs) (fun i x hi => by
      have := (List.getElem?_eq_some_iff.mp hi).1
      simp [at_nat xs i this, hi]) hl ih
    have h5 : iR1 (aCons (c1 gLen (cVar 1)) aNil) [.val (.tup xs), .val (.tup xs), .un, .un] = some (rngD 0 xs.length, [.val (.tup xs), .val (.tup xs), .un, .un]) := iR1_nat (by simp) hl
    have h6 : b__law_same (m__law_same n) [.val (.tup xs), .val (.tup xs), .un, .un] = some (ρ', .rt (.bl true)) := by
      unfold b__law_same
      refine (sSeq_nx (if_no (by simp))).trans ?_
      refine (sSeq_nx (if_no (by simp))).trans ?_
      refine (sSeq_nx (if_no (by simp))).trans ?_
      refine (sSeq_nx (if_no (by simp))).trans ?_
      refine (sSeq_nx (if_no (by simp))).trans ?_
      refine (sSeq_nx (if_no (by simp))).trans ?_
      refine (sSeq_nx (if_no (by simp))).trans ?_
      refine (sSeq_nx (if_no (by simp))).trans ?_
      refine (sSeq_nx (for_nx h5 e)).trans ?_
      simp
    simp only [m__law_same, e_mA, e_runA, e_rho0]
    simp [h6]
  · obtain ⟨ρ', e⟩ := same_loop (n := n) (d := .lst xs) (xs := xs) (fun i x hi => by
      have := (List.getElem?_eq_some_iff.mp hi).1
      simp [at_nat xs i this, hi]) hl ih
    have h5 : iR1 (aCons (c1 gLen (cVar 1)) aNil) [.val (.lst xs), .val (.lst xs), .un, .un] = some (rngD 0 xs.length, [.val (.lst xs), .val (.lst xs), .un, .un]) := iR1_nat (by simp) hl
    have h6 : b__law_same (m__law_same n) [.val (.lst xs), .val (.lst xs), .un, .un] = some (ρ', .rt (.bl true)) := by
      unfold b__law_same
      refine (sSeq_nx (if_no (by simp))).trans ?_
      refine (sSeq_nx (if_no (by simp))).trans ?_
      refine (sSeq_nx (if_no (by simp))).trans ?_
      refine (sSeq_nx (if_no (by simp))).trans ?_
      refine (sSeq_nx (if_no (by simp))).trans ?_
      refine (sSeq_nx (if_no (by simp))).trans ?_
      refine (sSeq_nx (if_no (by simp))).trans ?_
      refine (sSeq_nx (if_no (by simp))).trans ?_
      refine (sSeq_nx (for_nx h5 e)).trans ?_
      simp
    simp only [m__law_same, e_mA, e_runA, e_rho0]
    simp [h6]
theorem same_refl (n : Nat) : ∀ (d : Dat), sok n d = true → m__law_same n [d, d] = some (.bl true) := by
  induction n with
  | zero => intro d h; cases d <;> simp [sok] at h
  | succ n ih =>
    intro d h
    cases d with
    | non => simp [m__law_same, b__law_same]
    | bl b => cases b <;> simp [m__law_same, b__law_same]
    | int i => simp [m__law_same, b__law_same, m__law_is_whole, b__law_is_whole]
    | str s =>
      have h2 : PyData.strOk s = true := by simpa [sok] using h
      simp [m__law_same, b__law_same, gEq_str h2 h2]
    | tup xs =>
      simp only [sok, Bool.and_eq_true, decide_eq_true_eq] at h
      exact same_seq (.inl rfl) h.1 fun x hx => ih x (soks_mem h.2 x hx)
    | lst xs =>
      simp only [sok, Bool.and_eq_true, decide_eq_true_eq] at h
      exact same_seq (.inr rfl) h.1 fun x hx => ih x (soks_mem h.2 x hx)
    | _ => simp [sok] at h
/-! what is compared here -/
theorem sok_nq {n : Nat} (q : Rat) : sok (n + 2) (nq q) = true := by simp [nq, nu, sok, soks]
theorem soks_int (n : Nat) : ∀ cs : List Int, soks (n + 1) (cs.map .int) = true
  | [] => by simp [soks]
  | c :: cs => by rw [List.map_cons, soks, soks_int n cs]; rfl
theorem sok_dg {n : Nat} {g : Gr} (h : Gk g) (hl : g.2.length < 1000) : sok (n + 3) (dg g) = true := by
  unfold Gk at h
  have h2 : g.2.length < 1000000 := by omega
  simp [dg, sok, soks, h, soks_int, h2]
end Dl

set_option Elab.async false
set_option linter.all false
set_option maxRecDepth 100000
set_option maxHeartbeats 4000000
/-! ML: forms. -/
namespace Dl
open PySem
def fd (c : Rat) (l : Tb) : Dat := .tup [nq c, dl l]
theorem less_one : nq (-1) = .tup [.int (-1), .int 1] := rfl
theorem m_form_plus_eq {n m : Nat} {c d : Rat} {a b : Tb} (hc : Bg c) (hd : Bg d) (ha : Ok n a) (hb : Ok m b) (hnm : n + m < 2 ^ 99) : m_form_plus [fd c a, fd d b] = some (fd (c + d) (plusL a b)) := by
  have h1 := m_plus_eq hc hd
  have h2 := m_line_plus_eq ha hb hnm
  unfold fd
  simp [m_form_plus, b_form_plus, h1, h2]
theorem m_law_fm_plus_eq {n m : Nat} {c d : Rat} {a b : Tb} (hc : Bg c) (hd : Bg d) (ha : Ok n a) (hb : Ok m b) (hnm : n + m < 2 ^ 99) : m__law_fm_plus [fd c a, fd d b] = some (fd (c + d) (plusL a b)) := by
  have h1 := m_nr_plus_eq hc hd
  have h2 := m_law_line_plus_eq ha hb hnm
  unfold fd
  simp [m__law_fm_plus, b__law_fm_plus, h1, h2]
/-- a drawn line -/
structure Dr (l : Tb) : Prop where
  ln : IsLn l
  sz : ∀ p ∈ l, Pn 1 p.2
  gk : ∀ g ∈ keys l, Gk g
  len : l.length ≤ 1000
theorem Dr.ok {l : Tb} (h : Dr l) : Ok 1 l := ⟨h.ln, fun p hp => (h.sz p hp).toR, h.gk, h.len⟩
theorem Dr.bg {l : Tb} (h : Dr l) : ∀ p ∈ l, Bg p.2 := fun p hp => (h.sz p hp).bg (by decide)
theorem keys_timesL {l : Tb} {x : Rat} {g : Gr} (h : g ∈ keys (timesL l x)) : g ∈ keys l := by
  unfold timesL at h
  split at h
  · simp [keys] at h
  · rwa [keys_map] at h
theorem Dr.times {l : Tb} (h : Dr l) {x : Rat} (hx : Pn 1 x) : Ok 1 (timesL l x) where
  ln := timesL_ln h.ln x
  gk := fun g hg => h.gk g (keys_timesL hg)
  sz := fun p hp => by
    unfold timesL at hp
    split at hp
    · cases hp
    · obtain ⟨r, hr, rfl⟩ := List.mem_map.mp hp
      have h1 : Rn (1 * 1) (r.2 * x) := (h.sz r hr).mul hx
      exact Rn.mono h1 (by decide)
  len := by
    unfold timesL
    split
    · simp
    · simpa using h.len
theorem p1 : Pn 1 (-1) := Pn.int (t := -1) (by decide)
theorem p0 : Pn 1 (0 : Rat) := Pn.zero
theorem Pn.b {x : Rat} (h : Pn 1 x) : Bg x := h.bg (by decide)
theorem m_form_times_eq {c x : Rat} {l : Tb} (hc : Bg c) (hl : Dr l) (hx : Bg x) : m_form_times [fd c l, nq x] = some (fd (c * x) (timesL l x)) := by
  have h1 := m_times_eq hc hx
  have h2 := m_line_times_eq hl.len hl.bg hx
  unfold fd
  simp [m_form_times, b_form_times, h1, h2]
theorem m_law_fm_times_eq {c x : Rat} {l : Tb} (hc : Bg c) (hl : Dr l) (hx : Bg x) : m__law_fm_times [fd c l, nq x] = some (fd (c * x) (timesL l x)) := by
  have h1 := m_nr_times_eq hc hx
  have h2 := m_law_line_times_eq hl.ln hl.len hl.bg hl.gk hx
  unfold fd
  simp [m__law_fm_times, b__law_fm_times, h1, h2]
theorem m_form_minus_eq {c d : Rat} {a b : Tb} (hc : Pn 1 c) (hd : Pn 1 d) (ha : Dr a) (hb : Dr b) : m_form_minus [fd c a, fd d b] = some (fd (c + d * (-1)) (plusL a (timesL b (-1)))) := by
  have h1 := m_form_times_eq hd.b hb p1.b
  have h2 := m_form_plus_eq hc.b ((hd.mul p1).bg (by decide)) ha.ok (hb.times p1) (by decide)
  rw [less_one] at h1
  simp [m_form_minus, b_form_minus, h1, h2]
theorem m_law_fm_less_eq {c d : Rat} {a b : Tb} (hc : Pn 1 c) (hd : Pn 1 d) (ha : Dr a) (hb : Dr b) : m__law_fm_less [fd c a, fd d b] = some (fd (c + d * (-1)) (plusL a (timesL b (-1)))) := by
  have h1 := m_law_fm_times_eq hd.b hb p1.b
  have h2 := m_law_fm_plus_eq hc.b ((hd.mul p1).bg (by decide)) ha.ok (hb.times p1) (by decide)
  rw [less_one] at h1
  simp [m__law_fm_less, b__law_fm_less, h1, h2]
theorem minus_self (c : Rat) : c + c * (-1) = 0 := by rw [Rat.mul_neg, Rat.mul_one, Rat.add_neg_cancel]
theorem form_self {c : Rat} {a : Tb} (ha : Dr a) : fd (c + c * (-1)) (plusL a (timesL a (-1))) = .tup [.tup [.int 0, .int 1], .tup []] := by
  rw [minus_self, plus_minus ha.ln]
  rfl
/-! what is compared -/
theorem soks_map {α : Type} {n : Nat} (f : α → Dat) : ∀ xs : List α, (∀ x ∈ xs, sok n (f x) = true) → soks n (xs.map f) = true
  | [], _ => by simp [soks]
  | x :: xs, h => by rw [List.map_cons, soks, h x List.mem_cons_self, soks_map f xs fun y hy => h y (List.mem_cons_of_mem _ hy)]; rfl
/-- what a line's data keeps to, to be compared -/
structure Cm (l : Tb) : Prop where
  gk : ∀ g ∈ keys l, Gk g ∧ g.2.length < 1000
  len : l.length ≤ 10000
theorem sok_dl {n : Nat} {l : Tb} (h : Cm l) : sok (n + 5) (dl l) = true := by
  have h2 : l.length < 1000000 := by have := h.len; omega
  have h3 : soks (n + 4) (l.map dp) = true := soks_map dp l fun p hp => by
    have hk := h.gk p.1 (by unfold keys; exact List.mem_map_of_mem hp)
    have h4 := sok_dg (n := n) hk.1 hk.2
    have h5 := sok_nq (n := n + 1) p.2
    simp [dp, sok, soks, h4, h5]
  simp [dl, sok, h2, h3]
theorem sok_fd {n : Nat} {c : Rat} {l : Tb} (h : Cm l) : sok (n + 6) (fd c l) = true := by
  have h1 := sok_nq (n := n + 3) c
  have h2 := sok_dl (n := n) h
  simp [fd, sok, soks, h1, h2]
end Dl

set_option Elab.async false
set_option linter.all false
set_option maxRecDepth 100000
set_option maxHeartbeats 4000000
set_option exponentiation.threshold 5001
/-! NA: what is drawn from the pool. -/
namespace Dl
open PySem
def PoolOk (c : Dat) : Prop := ∃ a b : Int, c = .lst [.int a, .int b] ∧ 0 ≤ b ∧ b < 2147483647
@[simp] theorem e_sSetL (f : FE) (i : Nat) (fi : FE) (ρ : Rho) : sSetL f i fi ρ = match cFz f ρ with
  | some (.dat d, ρ1) => if isL ρ1 i = true then match fi ρ1 with
    | some (.dat (.int k), ρ2) => match ρ2[i]? with
      | some (.own b (.lst xs)) => match L2.ixN xs.length k with
        | some j => some (ρ2.set i (.own b (.lst (xs.set j d))), .nx)
        | none => none
      | _ => none
    | _ => none
    else none
  | _ => none := rfl
@[simp] theorem e_isL (ρ : Rho) (i : Nat) : isL ρ i = match ρ[i]? with
  | some (.own _ (.lst _)) => true
  | _ => false := rfl
@[simp] theorem ixN_20 : L2.ixN 2 0 = some 0 := by decide
@[simp] theorem ixN_21 : L2.ixN 2 1 = some 1 := by decide
theorem fmod_rng (a : Int) {n : Int} (hn : 0 < n) : 0 ≤ a.fmod n ∧ a.fmod n < n := by
  rw [Int.fmod_eq_emod_of_nonneg a (by omega)]
  exact ⟨Int.emod_nonneg a (by omega), Int.emod_lt_of_pos a hn⟩
theorem log_lt {i : Int} (h0 : 0 ≤ i) (h : i < 2 ^ 62) : i.natAbs.log2 < 62 := by
  by_cases hz : i.natAbs = 0
  · rw [hz]; decide
  · rw [Nat.log2_lt hz]; omega
theorem take_ex {c : Dat} {n : Int} (h : PoolOk c) (hn : 0 < n) (hs : n < 2 ^ 62) : ∃ (k : Int) (c' : Dat), m__law_take c [.int n] = some (.int k, c') ∧ 0 ≤ k ∧ k < n ∧ PoolOk c' := by
  obtain ⟨a, b, rfl, hb, hb2⟩ := h
  have hn0 : ¬ n = 0 := by omega
  have hl : n.natAbs.log2 < 9000 := Nat.lt_of_lt_of_le (log_lt (by omega) hs) (by decide)
  by_cases ha : 0 < a
  · refine ⟨a.fmod n, .lst [.int (a.fdiv n), .int b], ?_, (fmod_rng a hn).1, (fmod_rng a hn).2, _, _, rfl, hb, hb2⟩
    simp [m__law_take, b__law_take, ha, hn0, hl]
  · have r1 := fmod_rng (b * 48271 + 11) (n := 2147483647) (by decide)
    have hlb : b.natAbs.log2 + Nat.log2 48271 < 1000000 := by
      have h1 := log_lt hb (by omega)
      have h2 : Nat.log2 48271 < 64 := by decide
      omega
    have h16 : Nat.log2 16 < 9000 := by decide
    refine ⟨((((b * 48271 + 11).fmod 2147483647 * (b * 48271 + 11).fmod 2147483647).fmod 2147483629).fdiv 16).fmod n, .lst [.int a, .int ((b * 48271 + 11).fmod 2147483647)], ?_, ?_, ?_, _, _, rfl, r1.1, r1.2⟩
    · have hl2 := log_lt r1.1 (by omega)
      have hl3 : ((b * 48271 + 11).fmod 2147483647).natAbs.log2 + ((b * 48271 + 11).fmod 2147483647).natAbs.log2 < 1000000 := by omega
      simp [m__law_take, b__law_take, ha, hn0, hl, hlb, hl3, h16]
    · exact (fmod_rng _ hn).1
    · exact (fmod_rng _ hn).2
theorem chosen_ex {c : Dat} {xs : List Dat} (h : PoolOk c) (h1 : 0 < xs.length) (h2 : xs.length < 1000000) : ∃ (x : Dat) (c' : Dat), m__law_chosen c [.lst xs] = some (x, c') ∧ x ∈ xs ∧ PoolOk c' := by
  obtain ⟨k, c', e, k0, k1, p⟩ := take_ex (n := xs.length) h (by omega) (by omega)
  obtain ⟨i, rfl⟩ := Int.eq_ofNat_of_zero_le k0
  have hi : i < xs.length := by omega
  refine ⟨xs[i], c', ?_, List.getElem_mem hi, p⟩
  simp [m__law_chosen, b__law_chosen, e, at_nat xs i hi, List.getElem?_eq_getElem hi]
theorem tup_int (t : Int) : (.tup [.int t, .int 1] : Dat) = nq (t : Rat) := rfl
theorem nr_int (t : Int) (d e : Nat) (he : d * e = MM) (ht : t.natAbs < 2 ^ 100) : ∃ q, m__law_nr [.int t, .int d] = some (nq q) ∧ Pn 1 q := by
  have hd : d ≠ 0 := by intro h; subst h; simp at he
  have hdm : d ≤ MM := Nat.le_of_dvd (by decide) ⟨e, he.symm⟩
  refine ⟨_, m_nr_eq t d hd ?_ ?_, Pn.mk he ht⟩
  · unfold Sm; exact Nat.lt_trans ht (Nat.pow_lt_pow_right (by decide) (by decide))
  · unfold Sm
    have h1 : MM < 2 ^ 100 := by decide
    have h2 : (2 : Nat) ^ 100 < 2 ^ 5000 := Nat.pow_lt_pow_right (by decide) (by decide)
    show d < _
    omega
theorem number_ex {c : Dat} (h : PoolOk c) : ∃ (q : Rat) (c' : Dat), m__law_number_drawn c [] = some (nq q, c') ∧ Pn 1 q ∧ PoolOk c' := by
  obtain ⟨f, c1, e1, f0, f1, p1⟩ := take_ex (n := 8) h (by decide) (by decide)
  by_cases h6 : f < 6
  · obtain ⟨k, c2, e2, k0, k1, p2⟩ := take_ex (n := 19) p1 (by decide) (by decide)
    refine ⟨((k - 9 : Int) : Rat), c2, ?_, Pn.int (by omega), p2⟩
    rw [← tup_int]
    simp [m__law_number_drawn, b__law_number_drawn, e1, h6, e2]
  · by_cases h7 : f = 6
    · obtain ⟨k, c2, e2, k0, k1, p2⟩ := take_ex (n := 41) p1 (by decide) (by decide)
      obtain ⟨j, c3, e3, j0, j1, p3⟩ := take_ex (n := 4) p2 (by decide) (by decide)
      have hq : ∃ q, m__law_nr [.int (k - 20), .int (1 + j)] = some (nq q) ∧ Pn 1 q := by
        rcases (by omega : j = 0 ∨ j = 1 ∨ j = 2 ∨ j = 3) with rfl | rfl | rfl | rfl
        · exact nr_int (k - 20) 1 MM (by decide) (by omega)
        · exact nr_int (k - 20) 2 (6 * (10 ^ 29 + 1)) (by decide) (by omega)
        · exact nr_int (k - 20) 3 (4 * (10 ^ 29 + 1)) (by decide) (by omega)
        · exact nr_int (k - 20) 4 (3 * (10 ^ 29 + 1)) (by decide) (by omega)
      obtain ⟨q, e4, hq⟩ := hq
      refine ⟨q, c3, ?_, hq, p3⟩
      subst h7
      simp [m__law_number_drawn, b__law_number_drawn, e1, e2, e3, e4]
    · obtain ⟨k, c2, e2, k0, k1, p2⟩ := take_ex (n := 1000000000) p1 (by decide) (by decide)
      refine ⟨(k : Rat), c2, ?_, Pn.int (by omega), p2⟩
      rw [← tup_int]
      have hp : gPow (.int 10) (.int 9) = some (.int 1000000000) := rfl
      simp [m__law_number_drawn, b__law_number_drawn, e1, h6, h7, hp, e2]
def isP (x : Dat) : Prop := ∃ q, x = nq q ∧ Pn 1 q
theorem isP_int (t : Int) (h : t.natAbs < 2 ^ 100) : isP (.tup [.int t, .int 1]) := ⟨_, tup_int t, Pn.int h⟩
theorem isP_mk (t : Int) (d e : Nat) (he : d * e = MM) (ht : t.natAbs < 2 ^ 100) {x : Dat} (hx : x = nq (mkRat t d)) : isP x := ⟨_, hx, Pn.mk he ht⟩
theorem factor_ex {c : Dat} (h : PoolOk c) : ∃ (q : Rat) (c' : Dat), m__law_factor_drawn c [] = some (nq q, c') ∧ Pn 1 q ∧ PoolOk c' := by
  obtain ⟨x, c1, e1, hx, p1⟩ := chosen_ex (xs := [.tup [.int 1, .int 1], .tup [.int 1, .int 1], .tup [.int 2, .int 1], .tup [.int (-1), .int 1], .tup [.int 1, .int 2], .tup [.int 3, .int 1], .tup [.int (-2), .int 3]]) h (by decide) (by decide)
  have hq : isP x := by
    simp only [List.mem_cons, List.not_mem_nil, or_false] at hx
    rcases hx with rfl | rfl | rfl | rfl | rfl | rfl | rfl
    · exact isP_int 1 (by decide)
    · exact isP_int 1 (by decide)
    · exact isP_int 2 (by decide)
    · exact isP_int (-1) (by decide)
    · exact isP_mk 1 2 (6 * (10 ^ 29 + 1)) (by decide) (by decide) rfl
    · exact isP_int 3 (by decide)
    · exact isP_mk (-2) 3 (4 * (10 ^ 29 + 1)) (by decide) (by decide) rfl
  obtain ⟨q, rfl, hq⟩ := hq
  refine ⟨q, c1, ?_, hq, p1⟩
  simp [m__law_factor_drawn, b__law_factor_drawn, e1]
theorem gAddL {xs ys : List Dat} (h : xs.length + ys.length < 1000000) : gAdd (.lst xs) (.lst ys) = some (.lst (xs ++ ys)) := by
  unfold gAdd
  simp [h]
theorem any_ex {c : Dat} (h : PoolOk c) : ∃ (q : Rat) (c' : Dat), m__law_any_number c [] = some (nq q, c') ∧ Pn 1 q ∧ PoolOk c' := by
  obtain ⟨k, c1, e1, k0, k1, p1⟩ := take_ex (n := 1000000000) h (by decide) (by decide)
  obtain ⟨q2, c2, e2, hq2, p2⟩ := number_ex p1
  obtain ⟨q3, c3, e3, hq3, p3⟩ := factor_ex p2
  obtain ⟨q4, e4, hq4⟩ := nr_int (-(10 ^ 29 + k)) 3 (4 * (10 ^ 29 + 1)) (by decide) (by omega)
  obtain ⟨j, c5, e5, j0, j1, p5⟩ := take_ex (n := 99) p3 (by decide) (by decide)
  obtain ⟨q6, e6, hq6⟩ := nr_int (1 + j) (10 ^ 29 + 1) 12 (by decide) (by omega)
  obtain ⟨x, c7, e7, hx, p7⟩ := chosen_ex (xs := [.tup [.int 0, .int 1], .tup [.int 1, .int 1], .tup [.int (-1), .int 1], nq q2, nq q3, .tup [.int (10 ^ 29 + k), .int 1], nq q4, nq q6]) p5 (by simp) (by simp)
  have hq : isP x := by
    simp only [List.mem_cons, List.not_mem_nil, or_false] at hx
    rcases hx with rfl | rfl | rfl | rfl | rfl | rfl | rfl | rfl
    · exact isP_int 0 (by decide)
    · exact isP_int 1 (by decide)
    · exact isP_int (-1) (by decide)
    · exact ⟨_, rfl, hq2⟩
    · exact ⟨_, rfl, hq3⟩
    · exact isP_int _ (by omega)
    · exact ⟨_, rfl, hq4⟩
    · exact ⟨_, rfl, hq6⟩
  obtain ⟨q, rfl, hq⟩ := hq
  refine ⟨q, c7, ?_, hq, p7⟩
  have hp : gPow (.int 10) (.int 9) = some (.int 1000000000) := rfl
  have hp2 : gPow (.int 10) (.int 29) = some (.int (10 ^ 29)) := rfl
  have hc : ((10 ^ 29 + 1 : Nat) : Int) = 10 ^ 29 + 1 := rfl
  rw [hc] at e6
  have hc3 : ((3 : Nat) : Int) = 3 := rfl
  rw [hc3] at e4
  generalize (10 ^ 29 : Int) = G at *
  simp [m__law_any_number, b__law_any_number, hp, hp2, e1, e2, e3, e4, e5, e6, gAddL, e7]
theorem weight_ex {c : Dat} (h : PoolOk c) : ∃ (q : Rat) (c' : Dat), m__law_some_weight c [] = some (nq q, c') ∧ Pn 1 q ∧ q ≠ 0 ∧ PoolOk c' := by
  obtain ⟨q, c1, e1, hq, p1⟩ := any_ex h
  by_cases hz : q = 0
  · subst hz
    refine ⟨mkRat 7 2, c1, ?_, Pn.mk (d := 2) (e := 6 * (10 ^ 29 + 1)) (by decide) (by decide), by decide, p1⟩
    have h7 : nq (mkRat 7 2) = .tup [.int 7, .int 2] := rfl
    have h0 : nq 0 = .tup [.int 0, .int 1] := rfl
    rw [h0] at e1
    rw [h7]
    simp [m__law_some_weight, b__law_some_weight, e1]
  · refine ⟨q, c1, ?_, hq, hz, p1⟩
    have hn : ¬ q.num = 0 := fun h => hz (Rat.num_eq_zero.mp h)
    simp [m__law_some_weight, b__law_some_weight, e1, nq_num, hn]
end Dl

set_option Elab.async false
set_option linter.all false
set_option maxRecDepth 100000
set_option maxHeartbeats 4000000
/-! NB: lines and grains drawn. -/
namespace Dl
open PySem
/-- a drawn grain -/
def Go (g : Gr) : Prop := Gk g ∧ g.2.length ≤ 3 ∧ g.1.cps.size ≤ 6
theorem zs_tb : ∀ zs : List (Gr × Dat), (∀ z ∈ zs, ∃ q, z.2 = .tup [dg z.1, nq q] ∧ Pn 1 q ∧ q ≠ 0) →
    ∃ l : Tb, keys l = zs.map (·.1) ∧ l.map dp = zs.map (·.2) ∧ (∀ p ∈ l, Pn 1 p.2) ∧ ∀ p ∈ l, p.2 ≠ 0
  | [], _ => ⟨[], rfl, rfl, (fun _ h => nomatch h), fun _ h => nomatch h⟩
  | (g, x) :: zs, h => by
    obtain ⟨q, hx, hq, hz⟩ := h _ List.mem_cons_self
    obtain ⟨l, h1, h2, h3, h4⟩ := zs_tb zs fun z hz => h z (List.mem_cons_of_mem _ hz)
    refine ⟨(g, q) :: l, ?_, ?_, ?_, ?_⟩
    · unfold keys at *; simp [h1]
    · simp only at hx; simp [h2, hx, dp]
    · intro p hp
      rcases List.mem_cons.mp hp with rfl | hp
      · exact hq
      · exact h3 p hp
    · intro p hp
      rcases List.mem_cons.mp hp with rfl | hp
      · exact hz
      · exact h4 p hp
theorem line_ex {c : Dat} {gs : List Gr} (h : PoolOk c) (ha : Asc gs) (hk : ∀ g ∈ gs, Gk g) (hl : gs.length ≤ 1000) :
    ∃ (l : Tb) (c' : Dat), m__law_line_of c [.lst (gs.map dg)] = some (dl l, c') ∧ Dr l ∧ (keys l).Sublist gs ∧ PoolOk c' := by
  obtain ⟨zs, z1, z2, ρ', z3, c', hc', rfl⟩ := lcp_ex (g := gN 2) (t := cB (c2 gGt (cCallP 0 m__law_take (aCons (cK (.int 3)) aNil)) (cK (.int 0)))) (f := cTup (aCons (cVar 2) (aCons (cCallP 0 m__law_some_weight aNil) aNil))) (vs := [2]) dg
    (fun ρ => ∃ c', PoolOk c' ∧ ρ = [.own true c', .val (.lst (gs.map dg)), .un]) (fun g x => ∃ q, x = .tup [dg g, nq q] ∧ Pn 1 q ∧ q ≠ 0) gs [.own true c, .val (.lst (gs.map dg)), .un] []
    ⟨c, h, rfl⟩ (fun g hg ρ hI => by
      obtain ⟨c1, hc1, rfl⟩ := hI
      obtain ⟨k, c2, e2, k0, k1, p2⟩ := take_ex (n := 3) hc1 (by decide) (by decide)
      by_cases hk0 : 0 < k
      · obtain ⟨q, c3, e3, hq, hz, p3⟩ := weight_ex p2
        refine ⟨some (.tup [dg g, nq q]), [.own true c3, .val (.lst (gs.map dg)), .un], ?_, ⟨c3, p3, rfl⟩, fun x hx => ?_⟩
        · simp [stL, e2, hk0, e3, wipeR]
        · cases hx
          exact ⟨q, rfl, hq, hz⟩
      · refine ⟨none, [.own true c2, .val (.lst (gs.map dg)), .un], ?_, ⟨c2, p2, rfl⟩, fun x hx => nomatch hx⟩
        simp [stL, e2, hk0, wipeR]) (by simp; omega)
  obtain ⟨l, h1, h2, h3, h4⟩ := zs_tb zs z2
  refine ⟨l, c', ?_, ⟨⟨?_, h4⟩, h3, ?_, ?_⟩, ?_, hc'⟩
  · rw [← h2] at z3
    generalize gs.map dg = L at *
    simp [m__law_line_of, b__law_line_of, z3, wipeR, back, dl]
    rfl
  · rw [h1]
    exact List.Pairwise.sublist z1 ha
  · intro g hg
    rw [h1] at hg
    exact hk g (z1.mem hg)
  · have := z1.length_le
    have h5 : l.length = zs.length := by
      have := congrArg List.length h2
      simpa using this
    simp at this
    omega
  · rw [h1]; exact z1
/-! grains -/
def sG (gs : List Gr) : List (NestedKey × Dat) := gs.map fun g => (kg g, .bl true)
theorem look_sG (gs : List Gr) (g : Gr) : (lookD (sG gs) (kg g)).isSome = decide (g ∈ gs) := by
  induction gs with
  | nil => rfl
  | cons x gs ih =>
    by_cases h : x = g
    · simp [sG, lookD, h]
    · have hk : ¬ kg x = kg g := fun e => h (kg_inj e)
      have : lookD (sG (x :: gs)) (kg g) = lookD (sG gs) (kg g) := by simp [sG, lookD, List.find?_cons, hk]
      rw [this, ih]
      simp [Ne.symm h]
theorem put_sG (gs : List Gr) (g : Gr) : putD (sG gs) (kg g) (.bl true) = sG (if g ∈ gs then gs else gs ++ [g]) := by
  unfold putD
  rw [look_sG]
  by_cases h : g ∈ gs
  · simp only [h, decide_true, if_true]
    unfold sG
    rw [List.map_map]
    refine List.map_congr_left fun p _ => ?_
    by_cases h : p = g
    · simp [h]
    · have hk : ¬ kg p = kg g := fun e => h (kg_inj e)
      simp [hk]
  · simp [h, sG]
theorem gSort_sG {gs : List Gr} (hk : ∀ g ∈ gs, Gk g) (hl : gs.length < 100000) : gSort (.dic true (sG gs)) = some ((srt gs).map dg) := by
  have e : (sG gs).map (fun p => kd p.1) = gs.map dg := by
    unfold sG
    rw [List.map_map]
    exact List.map_congr_left fun p _ => kd_kg p
  simp only [gSort, e]
  unfold sortD
  rw [if_pos]
  · congr 1
    exact (List.map_mergeSort (r := gle) (s := leD) (f := dg) (l := gs) fun _ _ _ _ => rfl).symm
  · refine ⟨by simp; omega, okDs_dg hk, ?_, .inl ?_⟩
    · simp [List.all_eq_true]
    · simp [List.all_eq_true, tupNe, dg]
def nms : List Dat := [.str "x", .str "y", .str "ab", .str "zzzzzz", .str "xa", .str "a"]
theorem int_list {α : Type} : ∀ zs : List (α × Dat), (∀ z ∈ zs, ∃ i : Int, z.2 = .int i) → ∃ is : List Int, zs.map (·.2) = is.map .int
  | [], _ => ⟨[], rfl⟩
  | z :: zs, h => by
    obtain ⟨i, hi⟩ := h z List.mem_cons_self
    obtain ⟨is, h2⟩ := int_list zs fun z hz => h z (List.mem_cons_of_mem _ hz)
    exact ⟨i :: is, by simp [hi, h2]⟩
def cellE : FE := cLc (iR1 (aCons (cCallP 0 m__law_take (aCons (cK (.int 4)) aNil)) aNil)) (gN 5) tAll (cCallP 0 m__law_chosen (aCons (cLst (aCons (cK (.int 0)) (aCons (cK (.int 1)) (aCons (cK (.int 2)) (aCons (cK (.int 11)) (aCons (c2 gPow (cK (.int 10)) (cK (.int 20))) aNil)))))) aNil)) [5]
theorem cell_ex {c : Dat} (h : PoolOk c) (d e x y : Slot) (hx : fr x) (hy : fr y) : ∃ (is : List Int) (c' : Dat), cellE [.own true c, d, e, x, y, .un] = some (.new (.lst (is.map .int)), [.own true c', d, e, x, y, .un]) ∧ is.length ≤ 3 ∧ PoolOk c' := by
  obtain ⟨k, c1, e1, k0, k1, p1⟩ := take_ex (n := 4) h (by decide) (by decide)
  obtain ⟨n, rfl⟩ := Int.eq_ofNat_of_zero_le k0
  have hr : iR1 (aCons (cCallP 0 m__law_take (aCons (cK (.int 4)) aNil)) aNil) [.own true c, d, e, x, y, .un] = some (rngD 0 n, [.own true c1, d, e, x, y, .un]) := iR1_nat (by simp [e1]) (by omega)
  obtain ⟨zs, z1, z2, ρ', z3, c', hc', rfl⟩ := lcp_ex (g := gN 5) (t := tAll) (f := cCallP 0 m__law_chosen (aCons (cLst (aCons (cK (.int 0)) (aCons (cK (.int 1)) (aCons (cK (.int 2)) (aCons (cK (.int 11)) (aCons (c2 gPow (cK (.int 10)) (cK (.int 20))) aNil)))))) aNil)) (vs := [5]) (fun i : Nat => Dat.int (0 + i))
    (fun ρ => ∃ c', PoolOk c' ∧ ρ = [.own true c', d, e, x, y, .un]) (fun _ x => ∃ i : Int, x = .int i) (List.range n) [.own true c1, d, e, x, y, .un] []
    ⟨c1, p1, rfl⟩ (fun g hg ρ hI => by
      obtain ⟨c2, hc2, rfl⟩ := hI
      obtain ⟨z, c3, e3, hz, p3⟩ := chosen_ex (xs := [.int 0, .int 1, .int 2, .int 11, .int 100000000000000000000]) hc2 (by decide) (by decide)
      have hi : ∃ i : Int, z = .int i := by
        simp only [List.mem_cons, List.not_mem_nil, or_false] at hz
        rcases hz with rfl | rfl | rfl | rfl | rfl <;> exact ⟨_, rfl⟩
      obtain ⟨i, rfl⟩ := hi
      have hp : gPow (.int 10) (.int 20) = some (.int 100000000000000000000) := rfl
      refine ⟨some (.int i), [.own true c3, d, e, x, y, .un], ?_, ⟨c3, p3, rfl⟩, fun x hx => ⟨i, by cases hx; rfl⟩⟩
      simp [stL, tAll, hp, e3, wipeR]) (by simp; omega)
  obtain ⟨is, hi⟩ := int_list zs z2
  refine ⟨is, c', ?_, ?_, hc'⟩
  · rw [hi] at z3
    unfold cellE
    rw [e_cLc, hr]
    simp only [rngD]
    have hw : wipeR [.own true c1, d, e, x, y, .un] [5] = [.own true c1, d, e, x, y, .un] := rfl
    rw [hw, z3]
    rfl
  · have h1 := z1.length_le
    have h2 := congrArg List.length hi
    simp at h1 h2
    omega
theorem name_ok {x : Dat} (h : x ∈ nms) : ∃ s : Str, x = .str s ∧ PyData.strOk s = true ∧ s.cps.size ≤ 6 := by
  simp only [nms, List.mem_cons, List.not_mem_nil, or_false] at h
  rcases h with rfl | rfl | rfl | rfl | rfl | rfl <;> exact ⟨_, rfl, by decide +kernel, by decide +kernel⟩
theorem grains_ex {c : Dat} (h : PoolOk c) : ∃ (gs : List Gr) (c' : Dat), m__law_grains_any c [] = some (.lst (gs.map dg), c') ∧ Asc gs ∧ (∀ g ∈ gs, Go g) ∧ 0 < gs.length ∧ gs.length ≤ 8 ∧ PoolOk c' := by
  obtain ⟨k, ca, e1, k0, k1, p1⟩ := take_ex (n := 8) h (by decide) (by decide)
  obtain ⟨n, rfl⟩ := Int.eq_ofNat_of_zero_le k0
  have hr : iR1 (aCons (c2 gAdd (cK (.int 1)) (cCallP 0 m__law_take (aCons (cK (.int 8)) aNil))) aNil) [.own true c, .val (.lst nms), .own false (.dic true []), .un, .un, .un] = some (rngD 0 (n + 1), [.own true ca, .val (.lst nms), .own false (.dic true []), .un, .un, .un]) :=
    iR1_nat (by simp [e1]; omega) (by omega)
  obtain ⟨ρ', e, hI⟩ := lp_ix (g := gN 3) (b := sSeq (sAsg (c1 gTuple cellE) (gN 4)) (sSetD (cK (.bl true)) 2 (cTup (aCons (cCallP 0 m__law_chosen (aCons (cVar 1) aNil)) (aCons (cVar 4) aNil))))) (fun i : Nat => Dat.int (0 + i)) (List.range (n + 1))
    (fun i ρ => ∃ c' gs x y, PoolOk c' ∧ fr x ∧ fr y ∧ gs.Nodup ∧ (∀ g ∈ gs, Go g) ∧ gs.length ≤ i ∧ (0 < i → 0 < gs.length) ∧ ρ = [.own true c', .val (.lst nms), .own false (.dic true (sG gs)), x, y, .un])
    [.own true ca, .val (.lst nms), .own false (.dic true []), .un, .un, .un] ⟨ca, [], .un, .un, p1, .inl rfl, .inl rfl, List.nodup_nil, (fun _ h => nomatch h), Nat.le_refl _, (fun h => absurd h (by decide)), rfl⟩ (fun i a ρ ha hI => by
      obtain ⟨c2, gs, x, y, p2, hx, hy, hn, hg, hl, h0, rfl⟩ := hI
      have hi : i < n + 1 := by
        have := (List.getElem?_eq_some_iff.mp ha).1
        simpa using this
      obtain ⟨is, c3, e3, hi3, p3⟩ := cell_ex p2 (.val (.lst nms)) (.own false (.dic true (sG gs))) (.val (.int (a : Int))) y (.inr ⟨_, rfl⟩) hy
      obtain ⟨z, c4, e4, hz, p4⟩ := chosen_ex (xs := nms) p3 (by decide) (by decide)
      obtain ⟨s, rfl, hs1, hs2⟩ := name_ok hz
      have hd : (.tup [.str s, .tup (is.map .int)] : Dat) = dg (s, is) := rfl
      have hlen : (sG gs).length < 1000000 := by simp [sG]; omega
      have hp := put_sG gs (s, is)
      refine ⟨[.own true c2, .val (.lst nms), .own false (.dic true (sG gs)), .val (.int (a : Int)), y, .un], [.own true c4, .val (.lst nms), .own false (.dic true (sG (if (s, is) ∈ gs then gs else gs ++ [(s, is)]))), .val (.int (a : Int)), .val (.tup (is.map .int)), .un], ?_, ?_,
        c4, _, _, _, p4, .inr ⟨_, rfl⟩, .inr ⟨_, rfl⟩, ?_, ?_, ?_, ?_, rfl⟩
      · rcases hx with rfl | ⟨_, rfl⟩ <;> simp
      · have hnl : nms.length < 1000000 := by decide
        generalize nms = N at *
        rcases hy with rfl | ⟨_, rfl⟩ <;> simp [e3, sSetD, isDc, e4, hd, putAny, hlen, hp]
      · split
        · exact hn
        · rename_i hm
          rw [List.nodup_append]
          exact ⟨hn, by simp, fun a ha b hb => by simp at hb; subst hb; intro e; subst e; exact hm ha⟩
      · intro g hgm
        split at hgm
        · exact hg g hgm
        · rcases List.mem_append.mp hgm with hgm | hgm
          · exact hg g hgm
          · simp at hgm; subst hgm; exact ⟨hs1, hi3, hs2⟩
      · split
        · omega
        · simp; omega
      · intro _
        split
        · rename_i hm
          exact List.length_pos_of_mem hm
        · simp)
  obtain ⟨c', gs, x, y, p2, hx, hy, hn, hg, hl, h0, rfl⟩ := hI
  simp only [List.length_range] at hl h0
  refine ⟨srt gs, c', ?_, srt_asc hn, fun g hm => hg g ((srt_perm gs).mem_iff.mp hm), ?_, ?_, p2⟩
  · have hs := gSort_sG (gs := gs) (fun g hm => (hg g hm).1) (by omega)
    have h9 : b__law_grains_any [.own true c, .un, .un, .un, .un, .un] = some ([.own true c', .val (.lst nms), .val (.dic true (sG gs)), x, y, .un], .rn (.lst ((srt gs).map dg))) := by
      unfold b__law_grains_any
      refine (sSeq_nx (ρ1 := [.own true c, .val (.lst nms), .own false (.dic true []), .un, .un, .un]) (by simp [nms])).trans ?_
      refine (sSeq_nx (for_nx hr e)).trans ?_
      simp [hs]
    simp only [m__law_grains_any, e_mP, e_runP, e_rhoP, e_rho0]
    simp [h9]
  · rw [(srt_perm gs).length_eq]; exact h0 (by omega)
  · rw [(srt_perm gs).length_eq]; omega
end Dl

set_option Elab.async false
set_option linter.all false
set_option maxRecDepth 100000
set_option maxHeartbeats 8000000
/-! NC: the sums are right. -/
namespace Dl
open PySem
theorem keys_lnOf {t : Tb} {g : Gr} (h : g ∈ keys (lnOf t)) : g ∈ keys t := by
  unfold lnOf keys at h
  obtain ⟨p, hp, rfl⟩ := List.mem_map.mp h
  obtain ⟨x, hx, e⟩ := List.mem_filterMap.mp hp
  split at e
  · cases e
  · cases e
    exact (srt_perm _).mem_iff.mp hx
theorem lnOf_length (t : Tb) : (lnOf t).length ≤ t.length := by
  unfold lnOf
  refine Nat.le_trans (List.length_filterMap_le _ _) ?_
  rw [(srt_perm _).length_eq]
  simp [keys]
/-- a line of grains that were drawn -/
structure Kp (l : Tb) : Prop where
  go : ∀ g ∈ keys l, Go g
  len : l.length ≤ 5000
theorem Kp.cm {l : Tb} (h : Kp l) : Cm l := ⟨fun g hg => ⟨(h.go g hg).1, by have := (h.go g hg).2.1; omega⟩, by have := h.len; omega⟩
theorem Kp.plus {a b : Tb} (ha : ∀ g ∈ keys a, Go g) (hb : ∀ g ∈ keys b, Go g) (hl : a.length ≤ 1000) (hk : b.length ≤ 1000) : Kp (plusL a b) where
  go := fun g hg => by
    rcases addT_keys b a g (keys_lnOf hg) with h | h
    · exact ha g h
    · exact hb g h
  len := by
    have h1 := lnOf_length (addT a b)
    have h2 := addT_length b a
    show (lnOf (addT a b)).length ≤ _
    omega
theorem timesL_length (l : Tb) (x : Rat) : (timesL l x).length ≤ l.length := by
  unfold timesL
  split <;> simp
theorem Kp.times {a : Tb} (x : Rat) (ha : ∀ g ∈ keys a, Go g) (hl : a.length ≤ 1000) : Kp (timesL a x) where
  go := fun g hg => ha g (keys_timesL hg)
  len := by have := timesL_length a x; omega
theorem Kp.cut {a : Tb} (gs : List Gr) (ha : ∀ g ∈ keys a, Go g) (hl : a.length ≤ 1000) : Kp (cutG a gs) where
  go := fun g hg => by
    unfold keys cutG at hg
    obtain ⟨p, hp, rfl⟩ := List.mem_map.mp hg
    exact ha _ (List.mem_map.mpr ⟨p, (List.mem_filter.mp hp).1, rfl⟩)
  len := by
    have h1 : (cutG a gs).length ≤ a.length := List.length_filter_le _ _
    omega
theorem cut_nil (l : Tb) : cutG l [] = [] := by simp [cutG]
theorem pair_nil (l : Tb) : pairL l [] = 0 := by
  unfold pairL
  have h : ∀ p ∈ l, p.2 * vl [] p.1 = 0 := fun p _ => Rat.mul_zero p.2
  rw [sumR_congr h, sumR_zero]
theorem timesL_zero (l : Tb) : timesL l 0 = [] := by simp [timesL]
theorem dl_nil : dl [] = .tup [] := rfl
def gNone : Gr := ("none", [0])
def gX : Gr := ("x", [])
theorem dgs_none : (.tup [.str "none", .tup [.int 0]] : Dat) = dg gNone := rfl
theorem dgs_x : (.tup [.str "x", .tup []] : Dat) = dg gX := rfl
theorem go_none : Go gNone := ⟨by unfold Gk; decide +kernel, by decide, by decide +kernel⟩
theorem gNe_nil : gNe (.lst []) (.lst []) = some (.bl false) := by simp [gNe, lenNe, okD, okDs, eqD, toPy, toPys, PyData.eqv, PyData.eqvAll]
/-- the grains picked -/
theorem pick_ex {c : Dat} {gs : List Gr} (G A B Q : Dat) (hG : G = .lst (gs.map dg)) (h : PoolOk c) (hl : gs.length ≤ 1000) :
    ∃ (hs : List Gr) (c' : Dat), cLc (iSeq (cVar 1)) (gN 6) (cB (c2 gEq (cCallP 0 m__law_take (aCons (cK (.int 2)) aNil)) (cK (.int 0)))) (cVar 6) [6] [.own true c, .val G, .val A, .val B, .val Q, .un, .un, .un, .un, .un, .un, .un, .un, .un] =
      some (.new (.lst (hs.map dg)), [.own true c', .val G, .val A, .val B, .val Q, .un, .un, .un, .un, .un, .un, .un, .un, .un]) ∧ (∀ g ∈ hs, g ∈ gs) ∧ hs.length ≤ gs.length ∧ PoolOk c' := by
  obtain ⟨zs, z1, z2, ρ', z3, c', hc', rfl⟩ := lcp_ex (g := gN 6) (t := cB (c2 gEq (cCallP 0 m__law_take (aCons (cK (.int 2)) aNil)) (cK (.int 0)))) (f := cVar 6) (vs := [6]) dg
    (fun ρ => ∃ c', PoolOk c' ∧ ρ = [.own true c', .val G, .val A, .val B, .val Q, .un, .un, .un, .un, .un, .un, .un, .un, .un]) (fun g x => x = dg g) gs [.own true c, .val G, .val A, .val B, .val Q, .un, .un, .un, .un, .un, .un, .un, .un, .un] []
    ⟨c, h, rfl⟩ (fun g hg ρ hI => by
      obtain ⟨c1, hc1, rfl⟩ := hI
      obtain ⟨k, c2, e2, k0, k1, p2⟩ := take_ex (n := 2) hc1 (by decide) (by decide)
      by_cases hk0 : k = 0
      · refine ⟨some (dg g), [.own true c2, .val G, .val A, .val B, .val Q, .un, .un, .un, .un, .un, .un, .un, .un, .un], ?_, ⟨c2, p2, rfl⟩, fun x hx => by cases hx; rfl⟩
        subst hk0
        simp [stL, e2, wipeR]
      · refine ⟨none, [.own true c2, .val G, .val A, .val B, .val Q, .un, .un, .un, .un, .un, .un, .un, .un, .un], ?_, ⟨c2, p2, rfl⟩, fun x hx => nomatch hx⟩
        simp [stL, e2, hk0, wipeR]) (by simp; omega)
  refine ⟨zs.map (·.1), c', ?_, fun g hg => z1.mem hg, z1.length_le, hc'⟩
  have he : zs.map (·.2) = (zs.map (·.1)).map dg := by
    rw [List.map_map]
    exact List.map_congr_left fun z hz => z2 z hz
  rw [he] at z3
  rw [e_cLc]
  have hi : iSeq (cVar 1) [.own true c, .val G, .val A, .val B, .val Q, .un, .un, .un, .un, .un, .un, .un, .un, .un] = some (gs.map dg, [.own true c, .val G, .val A, .val B, .val Q, .un, .un, .un, .un, .un, .un, .un, .un, .un]) := by
    subst hG; simp
  rw [hi]
  have hw : wipeR [.own true c, .val G, .val A, .val B, .val Q, .un, .un, .un, .un, .un, .un, .un, .un, .un] [6] = [.own true c, .val G, .val A, .val B, .val Q, .un, .un, .un, .un, .un, .un, .un, .un, .un] := rfl
  simp only
  rw [hw, z3]
  rfl
theorem wt_all {c : Dat} {gs : List Gr} {l : Tb} (G B Q S T U : Dat) (hn : (keys l).Nodup) (hl : l.length ≤ 1000) (hg : gs.length ≤ 1000) :
    lcp (gN 6) (cNot (cB (cCall (m__law_same fuel) (aCons (cCall m_weight_in (aCons (cVar 2) (aCons (cVar 6) aNil))) (aCons (cCall m__law_weight (aCons (cVar 2) (aCons (cVar 6) aNil))) aNil))))) (cVar 6) [6] (gs.map dg) [.own true c, .val G, .val (dl l), .val B, .val Q, .val S, .un, .val T, .val U, .un, .un, .un, .un, .un] [] =
      some ([], [.own true c, .val G, .val (dl l), .val B, .val Q, .val S, .un, .val T, .val U, .un, .un, .un, .un, .un]) := by
  have h := lcp_map (g := gN 6) (t := cNot (cB (cCall (m__law_same fuel) (aCons (cCall m_weight_in (aCons (cVar 2) (aCons (cVar 6) aNil))) (aCons (cCall m__law_weight (aCons (cVar 2) (aCons (cVar 6) aNil))) aNil))))) (f := cVar 6) (vs := [6])
    (ρ := [.own true c, .val G, .val (dl l), .val B, .val Q, .val S, .un, .val T, .val U, .un, .un, .un, .un, .un]) dg (fun _ => none) gs []
    (fun g _ => by
      have e1 := m_weight_in_eq hn hl g
      have e2 := m_law_weight_eq hn hl g
      have e3 := same_refl fuel (nq (vl l g)) (sok_nq _)
      simp [stL, e1, e2, e3, wipeR]) (by simp; omega)
  rw [h]
  simp
theorem sums_ex {c : Dat} {gs : List Gr} (h : PoolOk c) (ha : Asc gs) (hg : ∀ g ∈ gs, Go g) (hl : gs.length ≤ 8) :
    ∃ c', m__law_sums_right c [.lst (gs.map dg)] = some (.bl true, c') ∧ PoolOk c' := by
  have hk : ∀ g ∈ gs, Gk g := fun g h => (hg g h).1
  obtain ⟨a, w1, e1, da, sa, p1⟩ := line_ex h ha hk (by omega)
  obtain ⟨b, w2, e2, db, sb, p2⟩ := line_ex p1 ha hk (by omega)
  obtain ⟨x, w3, e3, hx, p3⟩ := any_ex p2
  have ga : ∀ g ∈ keys a, Go g := fun g h => hg g (sa.mem h)
  have gb : ∀ g ∈ keys b, Go g := fun g h => hg g (sb.mem h)
  obtain ⟨G, hG⟩ : ∃ G, G = (.lst (gs.map dg) : Dat) := ⟨_, rfl⟩
  rw [← hG] at e1 e2 ⊢
  obtain ⟨hs, w4, e4, hhs, hhl, p4⟩ := pick_ex G (dl a) (dl b) (nq x) hG p3 (by omega)
  obtain ⟨k, w5, e5, k0, k1, p5⟩ := take_ex (n := 2) p4 (by decide) (by decide)
  obtain ⟨S, hS, hSq⟩ : ∃ S, S = (if k = 0 then Dat.lst ((hs ++ [gNone]).map dg) else .tup ((hs ++ [gNone]).map dg)) ∧ Sq S ((hs ++ [gNone]).map dg) := by
    refine ⟨_, rfl, ?_⟩
    split
    · exact .lst _
    · exact .tup _
  obtain ⟨u, w6, e6, hu, p6⟩ := any_ex p5
  obtain ⟨v, w7, e7, hv, p7⟩ := any_ex p6
  -- what the defs answer
  have q1 := m_law_line_plus_eq da.ok db.ok (by decide)
  have q2 := m_line_plus_eq da.ok db.ok (by decide)
  have q3 := m_line_plus_eq db.ok da.ok (by decide)
  rw [plusL_comm da.ln db.ln] at q3
  have q4 := m_line_times_eq da.len da.bg hx.b
  have q5 := m_line_times_eq da.len da.bg Dl.p1.b
  have q6 := m_line_plus_eq da.ok (da.times Dl.p1) (by decide)
  rw [plus_minus da.ln] at q6
  have q7 := m_line_times_eq da.len da.bg p0.b
  rw [timesL_zero] at q7
  have q8 := m_law_line_times_eq da.ln da.len da.bg da.gk hx.b
  have q9 := m_cut_eq hSq da.len (by simp; omega)
  have q10 : m_cut [dl a, .lst []] = some (.tup []) := by
    have := m_cut_eq (gs := []) (.lst []) da.len (by decide)
    rwa [cut_nil, dl_nil] at this
  have q11 := m_paired_eq da.len db.len db.ln.asc.nodup da.sz db.sz (by decide) (by decide) (by decide)
  have q12 := m_paired_eq db.len da.len da.ln.asc.nodup db.sz da.sz (by decide) (by decide) (by decide)
  rw [pairL_comm da.ln.asc.nodup db.ln.asc.nodup] at q12
  have q13 : m_paired [dl a, .tup []] = some (nq 0) := by
    have := m_paired_eq (n := 1) (m := 1) (b := []) da.len (by decide) List.nodup_nil da.sz (fun _ h => nomatch h) (by decide) (by decide) (by decide)
    rwa [pair_nil, dl_nil] at this
  have q14 := m_law_cut_eq hSq da.len (fun g hg => by
    rcases List.mem_append.mp hg with hg | hg
    · exact hk g (hhs g hg)
    · simp at hg; subst hg; exact go_none.1) da.gk
  have q15 := m_law_line_pair_eq da.len db.len db.ln.asc.nodup da.sz db.sz (by decide) (by decide) (by decide)
  have f1 := m_form_plus_eq hu.b hv.b da.ok db.ok (by decide)
  have f2 := m_form_minus_eq hu hv da db
  have f3 := m_form_times_eq hu.b da hx.b
  have f4 := m_form_minus_eq hu hu da da
  rw [form_self da] at f4
  have f5 := m_form_minus_eq hv hu db da
  have g1 := m_law_fm_plus_eq hu.b hv.b da.ok db.ok (by decide)
  have g2 := m_law_fm_less_eq hu hv da db
  have g3 := m_law_fm_times_eq hu.b da hx.b
  have g5 := m_law_fm_less_eq hv hu db da
  have r1 : m__law_same fuel [.tup [dl (plusL a b), dl (plusL a b), dl (timesL a x), .tup [], .tup []], .tup [dl (plusL a b), dl (plusL a b), dl (timesL a x), .tup [], .tup []]] = some (.bl true) := by
    have s1 := sok_dl (n := 4) (Kp.plus ga gb da.len db.len).cm
    have s2 := sok_dl (n := 4) (Kp.times x ga da.len).cm
    exact same_refl fuel _ (by simp [sok, soks, s1, s2])
  have r2 : m__law_same fuel [.tup [dl (cutG a (hs ++ [gNone])), .tup [], nq (pairL a b), nq (pairL a b), nq 0], .tup [dl (cutG a (hs ++ [gNone])), .tup [], nq (pairL a b), nq (pairL a b), nq 0]] = some (.bl true) := by
    have s1 := sok_dl (n := 4) (Kp.cut (hs ++ [gNone]) ga da.len).cm
    have s2 := fun q => sok_nq (n := 7) q
    exact same_refl fuel _ (by simp [sok, soks, s1, s2])
  have r3 : ∀ d, d = Dat.lst [fd (u + v) (plusL a b), fd (u + v * (-1)) (plusL a (timesL b (-1))), fd (u * x) (timesL a x), .tup [.tup [.int 0, .int 1], .tup []], fd (v + u * (-1)) (plusL b (timesL a (-1)))] → m__law_same fuel [d, d] = some (.bl true) := by
    intro d hd
    subst hd
    have s1 := fun q => sok_fd (n := 3) (c := q) (Kp.plus ga gb da.len db.len).cm
    have s2 := fun q => sok_fd (n := 3) (c := q) (Kp.times x ga da.len).cm
    have t1 := Kp.times (-1) ga da.len
    have t2 := Kp.times (-1) gb db.len
    have s3 := fun q => sok_fd (n := 3) (c := q) (Kp.plus ga t2.go da.len (Nat.le_trans (timesL_length b _) db.len)).cm
    have s4 := fun q => sok_fd (n := 3) (c := q) (Kp.plus gb t1.go db.len (Nat.le_trans (timesL_length a _) da.len)).cm
    exact same_refl fuel _ (by simp [sok, soks, s1, s2, s3, s4])
  refine ⟨w7, ?_, p7⟩
  rw [dl_nil] at q6 q7
  have z0 : (.tup [.int 0, .int 1] : Dat) = nq 0 := rfl
  have z1 : (.tup [.int (-1), .int 1] : Dat) = nq (-1) := rfl
  have b1 : b__law_sums_right [.own true c, .val G, .un, .un, .un, .un, .un, .un, .un, .un, .un, .un, .un, .un] = some ([.own true w7, .val G, .val (dl a), .val (dl b), .val (nq x), .val S, .un, .val (dl (plusL a b)), .val (.lst [fd (u + v) (plusL a b), fd (u + v * (-1)) (plusL a (timesL b (-1))), fd (u * x) (timesL a x), .tup [.tup [.int 0, .int 1], .tup []], fd (v + u * (-1)) (plusL b (timesL a (-1)))]), .val (nq u), .val (nq v), .val (fd u a), .val (fd v b), .val (.lst [fd (u + v) (plusL a b), fd (u + v * (-1)) (plusL a (timesL b (-1))), fd (u * x) (timesL a x), .tup [.tup [.int 0, .int 1], .tup []], fd (v + u * (-1)) (plusL b (timesL a (-1)))])], .rt (.bl true)) := by
    unfold b__law_sums_right
    refine (sSeq_nx (ρ1 := [.own true w3, .val G, .val (dl a), .val (dl b), .val (nq x), .un, .un, .un, .un, .un, .un, .un, .un, .un]) (by simp [e1, e2, e3])).trans ?_
    refine (sSeq_nx (ρ1 := [.own true w4, .val G, .val (dl a), .val (dl b), .val (nq x), .val (.lst ((hs ++ [gNone]).map dg)), .un, .un, .un, .un, .un, .un, .un, .un]) ?_).trans ?_
    · have hlen : (hs.map dg).length + [dg gNone].length < 1000000 := by simp; omega
      have ga2 := gAddL hlen
      simp only [e_sAsg, e_cFz, e_c2]
      rw [e4]
      simp [dgs_none, ga2]
    refine (sSeq_nx (ρ1 := [.own true w5, .val G, .val (dl a), .val (dl b), .val (nq x), .val S, .un, .un, .un, .un, .un, .un, .un, .un]) ?_).trans ?_
    · by_cases h0 : k = 0
      · subst h0; simp [e5, hS]
      · simp [e5, hS, h0]
    refine (sSeq_nx (ρ1 := [.own true w5, .val G, .val (dl a), .val (dl b), .val (nq x), .val S, .un, .val (dl (plusL a b)), .un, .un, .un, .un, .un, .un]) (by simp [q1])).trans ?_
    refine (sSeq_nx (ρ1 := [.own true w5, .val G, .val (dl a), .val (dl b), .val (nq x), .val S, .un, .val (dl (plusL a b)), .val (.tup [dl (plusL a b), dl (plusL a b), dl (timesL a x), .tup [], .tup []]), .un, .un, .un, .un, .un]) (by simp [q2, q3, q4, z0, z1, q5, q6, q7])).trans ?_
    refine (sSeq_nx (if_no (by simp [q8, r1]))).trans ?_
    refine (sSeq_nx (ρ1 := [.own true w5, .val G, .val (dl a), .val (dl b), .val (nq x), .val S, .un, .val (dl (plusL a b)), .val (.tup [dl (cutG a (hs ++ [gNone])), .tup [], nq (pairL a b), nq (pairL a b), nq 0]), .un, .un, .un, .un, .un]) (by simp [q9, q10, q11, q12, q13])).trans ?_
    refine (sSeq_nx (if_no (by simp [q14, q15, z0, r2]))).trans ?_
    refine (sSeq_nx (if_no ?_)).trans ?_
    · have hlen : (gs.map dg).length + [dg gNone, dg gX].length < 1000000 := by simp; omega
      have ga2 := gAddL hlen
      have hm : gs.map dg ++ [dg gNone, dg gX] = (gs ++ [gNone, gX]).map dg := by simp
      rw [hm] at ga2
      have w := wt_all (c := w5) (gs := gs ++ [gNone, gX]) G (dl b) (nq x) S (dl (plusL a b)) (.tup [dl (cutG a (hs ++ [gNone])), .tup [], nq (pairL a b), nq (pairL a b), nq 0]) da.ln.asc.nodup da.len (by simp; omega)
      have hi : iSeq (c2 gAdd (cVar 1) (cLst (aCons (cTup (aCons (cK (.str "none")) (aCons (cTup (aCons (cK (.int 0)) aNil)) aNil))) (aCons (cTup (aCons (cK (.str "x")) (aCons (cTup aNil) aNil))) aNil)))) [.own true w5, .val G, .val (dl a), .val (dl b), .val (nq x), .val S, .un, .val (dl (plusL a b)), .val (.tup [dl (cutG a (hs ++ [gNone])), .tup [], nq (pairL a b), nq (pairL a b), nq 0]), .un, .un, .un, .un, .un]
          = some ((gs ++ [gNone, gX]).map dg, [.own true w5, .val G, .val (dl a), .val (dl b), .val (nq x), .val S, .un, .val (dl (plusL a b)), .val (.tup [dl (cutG a (hs ++ [gNone])), .tup [], nq (pairL a b), nq (pairL a b), nq 0]), .un, .un, .un, .un, .un]) := by
        subst hG
        simp only [e_iSeq, e_cFz, e_c2]
        simp [dgs_none, dgs_x, ga2]
      have hn : gNe (.lst []) (.lst []) = some (.bl false) := gNe_nil
      rw [e_cB, e_c2, e_cLc, hi]
      simp only
      have hw : wipeR [.own true w5, .val G, .val (dl a), .val (dl b), .val (nq x), .val S, .un, .val (dl (plusL a b)), .val (.tup [dl (cutG a (hs ++ [gNone])), .tup [], nq (pairL a b), nq (pairL a b), nq 0]), .un, .un, .un, .un, .un] [6] = [.own true w5, .val G, .val (dl a), .val (dl b), .val (nq x), .val S, .un, .val (dl (plusL a b)), .val (.tup [dl (cutG a (hs ++ [gNone])), .tup [], nq (pairL a b), nq (pairL a b), nq 0]), .un, .un, .un, .un, .un] := rfl
      rw [hw, w]
      simp [hn]
      rfl
    refine (sSeq_nx (ρ1 := [.own true w7, .val G, .val (dl a), .val (dl b), .val (nq x), .val S, .un, .val (dl (plusL a b)), .val (.tup [dl (cutG a (hs ++ [gNone])), .tup [], nq (pairL a b), nq (pairL a b), nq 0]), .val (nq u), .val (nq v), .un, .un, .un]) (by simp [e6, e7])).trans ?_
    refine (sSeq_nx (ρ1 := [.own true w7, .val G, .val (dl a), .val (dl b), .val (nq x), .val S, .un, .val (dl (plusL a b)), .val (.tup [dl (cutG a (hs ++ [gNone])), .tup [], nq (pairL a b), nq (pairL a b), nq 0]), .val (nq u), .val (nq v), .val (fd u a), .val (fd v b), .un]) (by simp [fd])).trans ?_
    refine (sSeq_nx (ρ1 := [.own true w7, .val G, .val (dl a), .val (dl b), .val (nq x), .val S, .un, .val (dl (plusL a b)), .val (.lst [fd (u + v) (plusL a b), fd (u + v * (-1)) (plusL a (timesL b (-1))), fd (u * x) (timesL a x), .tup [.tup [.int 0, .int 1], .tup []], fd (v + u * (-1)) (plusL b (timesL a (-1)))]), .val (nq u), .val (nq v), .val (fd u a), .val (fd v b), .un]) (by simp [f1, f2, f3, f4, f5])).trans ?_
    refine (sSeq_nx (ρ1 := [.own true w7, .val G, .val (dl a), .val (dl b), .val (nq x), .val S, .un, .val (dl (plusL a b)), .val (.lst [fd (u + v) (plusL a b), fd (u + v * (-1)) (plusL a (timesL b (-1))), fd (u * x) (timesL a x), .tup [.tup [.int 0, .int 1], .tup []], fd (v + u * (-1)) (plusL b (timesL a (-1)))]), .val (nq u), .val (nq v), .val (fd u a), .val (fd v b), .val (.lst [fd (u + v) (plusL a b), fd (u + v * (-1)) (plusL a (timesL b (-1))), fd (u * x) (timesL a x), .tup [.tup [.int 0, .int 1], .tup []], fd (v + u * (-1)) (plusL b (timesL a (-1)))])]) (by simp [g1, g2, g3, g5])).trans ?_
    have r4 := r3 _ rfl
    generalize (Dat.lst [fd (u + v) (plusL a b), fd (u + v * (-1)) (plusL a (timesL b (-1))), fd (u * x) (timesL a x), .tup [.tup [.int 0, .int 1], .tup []], fd (v + u * (-1)) (plusL b (timesL a (-1)))]) = D at *
    simp [r4]
  simp only [m__law_sums_right, e_mP, e_runP, e_rhoP, e_rho0]
  simp [b1]
end Dl

set_option Elab.async false
set_option linter.all false
set_option maxRecDepth 100000
set_option maxHeartbeats 8000000
/-! ND: worths of forms. -/
namespace Dl
open PySem
/-- the inputs tell the weights W -/
def Wh (inp : Dat) (W : Tb) (l : Tb) : Prop := ∀ g ∈ keys l, ∃ D, gIxA inp (.str g.1) = some D ∧ gIxA D (.tup (g.2.map .int)) = some (nq (vl W g))
def wsum (c : Rat) (a b : Tb) : Rat := a.foldl (fun s p => s + p.2 * vl b p.1) c
theorem wsum_eq (c : Rat) (a b : Tb) : wsum c a b = c + pairL a b := foldl_sum (fun p => p.2 * vl b p.1) a c
theorem wsum_take (c : Rat) (a b : Tb) (i : Nat) (p : Gr × Rat) (h : a[i]? = some p) : wsum c (a.take (i + 1)) b = wsum c (a.take i) b + p.2 * vl b p.1 := by
  unfold wsum
  rw [List.take_add_one, h, List.foldl_append]
  rfl
theorem wsum_sz {n : Nat} {c : Rat} {a b : Tb} (hc : Rn 10 c) (ha : ∀ p ∈ a, Pn n p.2) (hb : ∀ p ∈ b, Pn 1 p.2) (hl : a.length ≤ 5000) (hn : n ≤ 2) : Rn 20000 (wsum c a b) := by
  refine (psum_sz hb a c 10 ha hc).mono ?_
  have : a.length * (n * 1) ≤ 5000 * 2 := Nat.mul_le_mul hl (by omega)
  omega
theorem mem_keys {l : Tb} {p : Gr × Rat} (h : p ∈ l) : p.1 ∈ keys l := List.mem_map.mpr ⟨p, h, rfl⟩
theorem big20 {x : Rat} (h : Rn 20000 x) : Bg x := h.bg (by decide)
theorem wloop {n : Nat} {c : Rat} {l W : Tb} {inp F : Dat} (hc : Rn 10 c) (ha : ∀ p ∈ l, Pn n p.2) (hb : ∀ p ∈ W, Pn 1 p.2) (hl : l.length ≤ 5000) (hn : n ≤ 2) (hw : Wh inp W l) (mp mt : List Dat → Option Dat)
    (hp : ∀ {x y : Rat}, Bg x → Bg y → mp [nq x, nq y] = some (nq (x + y))) (ht : ∀ {x y : Rat}, Bg x → Bg y → mt [nq x, nq y] = some (nq (x * y))) :
    ∃ ρ', lp (gT 2 (gCons' (gT 2 (gCons' (gN 4) (gCons' (gN 5) gNil'))) (gCons' (gN 3) gNil'))) (sAsg (cCall mp (aCons (cVar 2) (aCons (cCall mt (aCons (cVar 3) (aCons (c2 gIxA (c2 gIxA (cVar 1) (cVar 4)) (cVar 5)) aNil))) aNil))) (gN 2)) (l.map dp) [.val F, .val inp, .val (nq c), .un, .un, .un] = some (ρ', .nx) ∧
      ∃ x y z, ρ' = [.val F, .val inp, .val (nq (wsum c l W)), x, y, z] := by
  obtain ⟨ρ', e, x, y, z, hx, hy, hz, rfl⟩ := lp_ix (g := gT 2 (gCons' (gT 2 (gCons' (gN 4) (gCons' (gN 5) gNil'))) (gCons' (gN 3) gNil'))) (b := sAsg (cCall mp (aCons (cVar 2) (aCons (cCall mt (aCons (cVar 3) (aCons (c2 gIxA (c2 gIxA (cVar 1) (cVar 4)) (cVar 5)) aNil))) aNil))) (gN 2)) dp l
    (fun i ρ => ∃ x y z, fr x ∧ fr y ∧ fr z ∧ ρ = [.val F, .val inp, .val (nq (wsum c (l.take i) W)), x, y, z])
    [.val F, .val inp, .val (nq c), .un, .un, .un] ⟨.un, .un, .un, .inl rfl, .inl rfl, .inl rfl, by simp [wsum]⟩ (fun i p ρ hpi hI => by
      obtain ⟨x, y, z, hx, hy, hz, rfl⟩ := hI
      have hpm : p ∈ l := List.mem_of_getElem? hpi
      obtain ⟨D, d1, d2⟩ := hw p.1 (mem_keys hpm)
      have b1 := big20 (wsum_sz (b := W) hc (fun q hq => ha q ((List.take_sublist i l).mem hq)) hb (by simp; omega) hn)
      have h1 : Pn n p.2 := ha p hpm
      have h2 : Pn 1 (vl W p.1) := vlP hb p.1
      have b2 : Bg p.2 := h1.bg (Nat.lt_of_le_of_lt hn (by decide))
      have b3 : Bg (vl W p.1) := h2.bg (by decide)
      have b4 : Bg (p.2 * vl W p.1) := (h1.mul h2).bg (Nat.lt_of_le_of_lt (by omega : n * 1 ≤ 2) (by decide))
      refine ⟨[.val F, .val inp, .val (nq (wsum c (l.take i) W)), .val (nq p.2), .val (.str p.1.1), .val (.tup (p.1.2.map .int))], _, ?_, ?_, .val (nq p.2), .val (.str p.1.1), .val (.tup (p.1.2.map .int)), .inr ⟨_, rfl⟩, .inr ⟨_, rfl⟩, .inr ⟨_, rfl⟩, rfl⟩
      · rcases hx with rfl | ⟨_, rfl⟩ <;> rcases hy with rfl | ⟨_, rfl⟩ <;> rcases hz with rfl | ⟨_, rfl⟩ <;> simp [dg]
      · simp [d1, d2, ht b2 b3, hp b1 b4, wsum_take c l W i p hpi])
  have hq : l.take l.length = l := List.take_length
  rw [hq] at e
  exact ⟨_, e, x, y, z, rfl⟩
theorem m_worth_eq {n : Nat} {c : Rat} {l W : Tb} {inp : Dat} (hc : Rn 10 c) (ha : ∀ p ∈ l, Pn n p.2) (hb : ∀ p ∈ W, Pn 1 p.2) (hl : l.length ≤ 5000) (hn : n ≤ 2) (hw : Wh inp W l) :
    m_worth_of_form [fd c l, inp] = some (nq (c + pairL l W)) := by
  obtain ⟨ρ', e, x, y, z, rfl⟩ := wloop (F := fd c l) hc ha hb hl hn hw m_plus m_times m_plus_eq m_times_eq
  rw [wsum_eq] at e
  unfold fd dl at *
  simp [m_worth_of_form, b_worth_of_form, e]
theorem m_law_worth_eq {n : Nat} {c : Rat} {l W : Tb} {inp : Dat} (hc : Rn 10 c) (ha : ∀ p ∈ l, Pn n p.2) (hb : ∀ p ∈ W, Pn 1 p.2) (hl : l.length ≤ 5000) (hn : n ≤ 2) (hw : Wh inp W l) :
    m__law_fm_worth [fd c l, inp] = some (nq (c + pairL l W)) := by
  obtain ⟨ρ', e, x, y, z, rfl⟩ := wloop (F := dl l) Rn.zero ha hb hl hn hw m__law_nr_plus m__law_nr_times m_nr_plus_eq m_nr_times_eq
  have b1 := wsum_sz (c := 0) (b := W) Rn.zero ha hb hl hn
  rw [wsum_eq, Rat.zero_add] at e b1
  have z0 : (.tup [.int 0, .int 1] : Dat) = nq 0 := rfl
  have e1 : m__law_line_worth [dl l, inp] = some (nq (pairL l W)) := by
    unfold dl at *
    simp [m__law_line_worth, b__law_line_worth, z0, e]
  have e2 := m_nr_plus_eq (hc.bg (by decide)) (big20 b1)
  unfold fd
  simp [m__law_fm_worth, b__law_fm_worth, e1, e2]
theorem pairL_plus {a b W : Tb} (ha : IsLn a) (hb : IsLn b) (hW : (keys W).Nodup) : pairL (plusL a b) W = pairL a W + pairL b W := by
  rw [← pairL_comm (plusL_ln ha).asc.nodup hW, ← pairL_comm ha.asc.nodup hW, ← pairL_comm hb.asc.nodup hW]
  unfold pairL
  rw [← sumR_add]
  refine sumR_congr fun p _ => ?_
  rw [vl_plusL ha hb, Rat.mul_add]
theorem plus_P2 {a b : Tb} (ha : Dr a) (hb : Dr b) : ∀ p ∈ plusL a b, Pn 2 p.2 := fun p hp => by
  have h1 := vl_mem (plusL_ln (b := b) ha.ln).asc.nodup hp
  rw [vl_plusL ha.ln hb.ln] at h1
  rw [← h1]
  have h2 : Pn (1 + 1) (vl a p.1 + vl b p.1) := (vlP ha.sz p.1).add (vlP hb.sz p.1)
  exact Pn.mono h2 (by decide)
theorem pair_sz {a W : Tb} (ha : Dr a) (hb : ∀ p ∈ W, Pn 1 p.2) : Rn 20000 (pairL a W) := by
  have h := wsum_sz (c := 0) (b := W) Rn.zero ha.sz hb (by have := ha.len; omega) (by decide)
  rwa [wsum_eq, Rat.zero_add] at h
end Dl

set_option Elab.async false
set_option linter.all false
set_option maxRecDepth 100000
set_option maxHeartbeats 8000000
/-! NE: arrays drawn. -/
namespace Dl
open PySem
def dc (c : List Int) : Dat := .tup (c.map .int)
def kc (c : List Int) : NestedKey := .tup (c.map .num)
@[simp] theorem tkey_dc (c : List Int) : tkey (dc c) = some (kc c) := by
  have h : keyOf (dc c) = some (kc c) := by simp [dc, kc, keyOf, keysOf_int]
  have h2 : (kc c).depth ≤ 8 := by simp [kc, NestedKey.depth, depth_num]
  unfold dc at h ⊢
  simp [tkey, h, h2]
theorem kc_inj {a b : List Int} (h : kc a = kc b) : a = b := by
  have h1 : kg ("", a) = kg ("", b) := by
    unfold kc at h
    unfold kg
    rw [h]
  exact congrArg Prod.snd (kg_inj h1)
theorem kd_kc (c : List Int) : kd (kc c) = dc c := by simp [kc, dc, kd, kds_num]
theorem lookD_none {kvs : List (NestedKey × Dat)} {k : NestedKey} (h : k ∉ kvs.map (·.1)) : lookD kvs k = none := by
  unfold lookD
  rw [List.find?_eq_none.mpr]
  · rfl
  · intro p hp
    simp only [decide_eq_true_eq]
    intro e
    exact h (List.mem_map.mpr ⟨p, hp, e⟩)
theorem lookD_mem {kvs : List (NestedKey × Dat)} (hn : (kvs.map (·.1)).Nodup) {k : NestedKey} {d : Dat} (h : (k, d) ∈ kvs) : lookD kvs k = some d := by
  induction kvs with
  | nil => cases h
  | cons p kvs ih =>
    rw [List.map_cons, List.nodup_cons] at hn
    unfold lookD at ih ⊢
    rw [List.find?_cons]
    rcases List.mem_cons.mp h with rfl | h
    · simp
    · have hp : ¬ p.1 = k := fun e => hn.1 (List.mem_map.mpr ⟨_, h, e.symm⟩)
      simp only [hp, decide_false]
      exact ih hn.2 h
theorem putD_new {kvs : List (NestedKey × Dat)} {k : NestedKey} {d : Dat} (h : k ∉ kvs.map (·.1)) : putD kvs k d = kvs ++ [(k, d)] := by
  unfold putD
  rw [lookD_none h]
  rfl
theorem mergeD_new : ∀ (ps acc : List (NestedKey × Dat)), ((acc ++ ps).map (·.1)).Nodup → mergeD acc ps = acc ++ ps
  | [], acc, _ => by simp [mergeD]
  | p :: ps, acc, h => by
    have h1 : p.1 ∉ acc.map (·.1) := by
      rw [List.map_append, List.nodup_append] at h
      intro hm
      exact h.2.2 _ hm _ (by simp) rfl
    have h2 : mergeD acc (p :: ps) = mergeD (putD acc p.1 p.2) ps := rfl
    rw [h2, putD_new h1, mergeD_new ps _ (by simpa using h)]
    simp
/-! cells -/
def grow (cs : List (List Int)) (n : Nat) : List (List Int) := cs.flatMap fun c => (List.range n).map fun i : Nat => c ++ [(i : Int)]
theorem grow_mem {cs : List (List Int)} {n : Nat} {c : List Int} (h : c ∈ grow cs n) : ∃ d ∈ cs, ∃ i : Nat, c = d ++ [(i : Int)] := by
  unfold grow at h
  obtain ⟨d, hd, h⟩ := List.mem_flatMap.mp h
  obtain ⟨i, _, rfl⟩ := List.mem_map.mp h
  exact ⟨d, hd, i, rfl⟩
theorem grow_nodup {n : Nat} : ∀ {cs : List (List Int)}, cs.Nodup → (grow cs n).Nodup
  | [], _ => List.nodup_nil
  | c :: cs, h => by
    rw [List.nodup_cons] at h
    have ih := grow_nodup (n := n) h.2
    have e : grow (c :: cs) n = ((List.range n).map fun i : Nat => c ++ [(i : Int)]) ++ grow cs n := rfl
    rw [e, List.nodup_append]
    refine ⟨?_, ih, ?_⟩
    · unfold List.Nodup
      rw [List.pairwise_map]
      refine List.Pairwise.imp (fun {a b} hab he => hab ?_) (List.nodup_range (n := n))
      have := List.append_inj_right he rfl
      simp at this
      omega
    · intro a ha b hb hab
      subst hab
      obtain ⟨i, _, rfl⟩ := List.mem_map.mp ha
      obtain ⟨d, hd, j, e⟩ := grow_mem hb
      have := List.append_inj_left' e rfl
      subst this
      exact h.1 hd
theorem grow_length (cs : List (List Int)) (n : Nat) : (grow cs n).length = cs.length * n := by
  unfold grow
  induction cs with
  | nil => simp
  | cons c cs ih => simp [ih, Nat.add_mul]; omega
theorem grow_take (cs : List (List Int)) (n j : Nat) (c : List Int) (h : cs[j]? = some c) : grow (cs.take (j + 1)) n = grow (cs.take j) n ++ (List.range n).map fun i : Nat => c ++ [(i : Int)] := by
  unfold grow
  rw [List.take_add_one, h]
  simp
def extB : FS := sEx (cExt 7 (cLc (iR1 (aCons (cVar 6) aNil)) (gN 8) tAll (c2 gAdd (cVar 5) (cTup (aCons (cVar 8) aNil))) [8]))
theorem addE {ρ : Rho} {c : List Int} {i : Nat} (h5 : ρ[5]? = some (.val (dc c))) (h8 : ρ[8]? = some (.val (.int (i : Int)))) (hc : c.length ≤ 10) : c2 gAdd (cVar 5) (cTup (aCons (cVar 8) aNil)) ρ = some (.dat (dc (c ++ [(i : Int)])), ρ) := by
  have hc2 : c.length + 1 < 1000000 := by omega
  simp [h5, h8, dc, gAdd, hc2]
theorem ext_c {P X N C : Slot} {a : Slot} {n : Nat} {c : List Int} {A : Slot} (hn : n ≤ 3) (hc : c.length ≤ 10) :
    cLc (iR1 (aCons (cVar 6) aNil)) (gN 8) tAll (c2 gAdd (cVar 5) (cTup (aCons (cVar 8) aNil))) [8] [P, X, N, C, a, .val (dc c), .val (.int n), A, .un] = some (.new (.lst ((List.range n).map fun i : Nat => dc (c ++ [(i : Int)]))), [P, X, N, C, a, .val (dc c), .val (.int n), A, .un]) := by
  have hr : iR1 (aCons (cVar 6) aNil) [P, X, N, C, a, .val (dc c), .val (.int n), A, .un] = some (rngD 0 n, [P, X, N, C, a, .val (dc c), .val (.int n), A, .un]) := iR1_nat (by simp) (by omega)
  have h := lcp_map (g := gN 8) (t := tAll) (f := c2 gAdd (cVar 5) (cTup (aCons (cVar 8) aNil))) (vs := [8]) (ρ := [P, X, N, C, a, .val (dc c), .val (.int n), A, .un]) (fun i : Nat => Dat.int (0 + i)) (fun i => some (dc (c ++ [(i : Int)]))) (List.range n) []
    (fun i _ => by
      have hg : gN 8 (.int (0 + i)) [P, X, N, C, a, .val (dc c), .val (.int n), A, .un] = some [P, X, N, C, a, .val (dc c), .val (.int n), A, .val (.int i)] := by simp
      have ha := addE (ρ := [P, X, N, C, a, .val (dc c), .val (.int n), A, .val (.int i)]) (c := c) (i := i) rfl rfl hc
      unfold stL
      rw [hg]
      simp only [e_tAll, e_cFz]
      rw [ha]
      rfl) (by simp; omega)
  have h2 : ([] : List Dat) ++ (List.range n).filterMap (fun i : Nat => some (dc (c ++ [(i : Int)]))) = (List.range n).map fun i : Nat => dc (c ++ [(i : Int)]) := by simp
  rw [h2] at h
  have hw : wipeR [P, X, N, C, a, .val (dc c), .val (.int n), A, .un] [8] = [P, X, N, C, a, .val (dc c), .val (.int n), A, .un] := rfl
  have hb : back [P, X, N, C, a, .val (dc c), .val (.int n), A, .un] [P, X, N, C, a, .val (dc c), .val (.int n), A, .un] [8] = [P, X, N, C, a, .val (dc c), .val (.int n), A, .un] := rfl
  rw [e_cLc, hr]
  simp only [rngD]
  rw [hw, h]
  simp only
  rw [hb]
theorem cExt_eq {f : FE} {i : Nat} {ρ : Rho} {b : Bool} {xs ys : List Dat} (h : ρ[i]? = some (.own b (.lst xs))) (hf : f ρ = some (.new (.lst ys), ρ)) (hl : xs.length + ys.length < 1000000) :
    sEx (cExt i f) ρ = some (ρ.set i (.own b (.lst (xs ++ ys))), .nx) := by
  have h1 : isL ρ i = true := by simp [h]
  have h2 : cExt i f ρ = some (.dat .non, ρ.set i (.own b (.lst (xs ++ ys)))) := by
    unfold cExt
    rw [if_pos h1, hf]
    simp [h, hl]
  rw [e_sEx, h2]
theorem ext_eq {P X N C : Slot} {a : Slot} {n : Nat} {c : List Int} {acc : List Dat} (hn : n ≤ 3) (hc : c.length ≤ 10) (hl : acc.length ≤ 100) :
    extB [P, X, N, C, a, .val (dc c), .val (.int n), .own false (.lst acc), .un] = some ([P, X, N, C, a, .val (dc c), .val (.int n), .own false (.lst (acc ++ ((List.range n).map fun i : Nat => dc (c ++ [(i : Int)])))), .un], .nx) := by
  have hlen : acc.length + ((List.range n).map fun i : Nat => dc (c ++ [(i : Int)])).length < 1000000 := by simp; omega
  exact cExt_eq (i := 7) rfl (ext_c hn hc) hlen
def axB : FS := sSeq (sPar2 6 7 (cFz (c2 gAdd (cK (.int 1)) (cCallP 0 m__law_take (aCons (cK (.int 3)) aNil)))) (cLst aNil)) (sSeq (sFor (iSeq (cVar 3)) (gN 5) extB) (sFz 7 (sAsg (c1n gList (cVar 7)) (gN 3))))
theorem ax_ex {c : Dat} {X N : Slot} {i : Dat} {cs : List (List Int)} {x5 x6 x7 : Slot} (h : PoolOk c) (h5 : fr x5) (h6 : fr x6) (h7 : fr x7) (hk : ∀ d ∈ cs, d.length ≤ 10) (hl : cs.length ≤ 9) :
    ∃ (n : Nat) (c' : Dat) (y5 y6 y7 : Slot), axB [.own true c, X, N, .val (.lst (cs.map dc)), .val i, x5, x6, x7, .un] = some ([.own true c', X, N, .val (.lst ((grow cs n).map dc)), .val i, y5, y6, y7, .un], .nx) ∧ n ≤ 3 ∧ PoolOk c' ∧ fr y5 ∧ fr y6 ∧ fr y7 := by
  obtain ⟨k, w1, e1, k0, k1, p1⟩ := take_ex (n := 3) h (by decide) (by decide)
  obtain ⟨n, rfl⟩ := Int.eq_ofNat_of_zero_le k0
  have hn : n + 1 ≤ 3 := by omega
  obtain ⟨ρ', e, x, hx, rfl⟩ := lp_ix (g := gN 5) (b := extB) dc cs
    (fun j ρ => ∃ x, fr x ∧ ρ = [.own true w1, X, N, .val (.lst (cs.map dc)), .val i, x, .val (.int (n + 1 : Nat)), .own false (.lst ((grow (cs.take j) (n + 1)).map dc)), .un])
    [.own true w1, X, N, .val (.lst (cs.map dc)), .val i, x5, .val (.int (n + 1 : Nat)), .own false (.lst []), .un] ⟨x5, h5, by simp [grow]⟩ (fun j d ρ hj hI => by
      obtain ⟨x, hx, rfl⟩ := hI
      have hd := hk d (List.mem_of_getElem? hj)
      have hlen : ((grow (cs.take j) (n + 1)).map dc).length ≤ 100 := by
        rw [List.length_map, grow_length]
        have h1 : (cs.take j).length ≤ 9 := by simp; omega
        have h2 : (cs.take j).length * (n + 1) ≤ 9 * 3 := Nat.mul_le_mul h1 hn
        omega
      have e2 := ext_eq (P := .own true w1) (X := X) (N := N) (C := .val (.lst (cs.map dc))) (a := .val i) hn hd hlen
      refine ⟨[.own true w1, X, N, .val (.lst (cs.map dc)), .val i, .val (dc d), .val (.int (n + 1 : Nat)), .own false (.lst ((grow (cs.take j) (n + 1)).map dc)), .un], _, ?_, e2, .val (dc d), .inr ⟨_, rfl⟩, ?_⟩
      · rcases hx with rfl | ⟨_, rfl⟩ <;> simp
      · rw [grow_take cs (n + 1) j d hj]
        simp [dc])
  have hq : cs.take cs.length = cs := List.take_length
  rw [hq] at e
  refine ⟨n + 1, w1, x, .val (.int (n + 1 : Nat)), .val (.lst ((grow cs (n + 1)).map dc)), ?_, hn, p1, hx, .inr ⟨_, rfl⟩, .inr ⟨_, rfl⟩⟩
  unfold axB
  have hz : ((n + 1 : Nat) : Int) = 1 + (n : Int) := by omega
  refine (sSeq_nx (ρ1 := [.own true w1, X, N, .val (.lst (cs.map dc)), .val i, x5, .val (.int (n + 1 : Nat)), .own false (.lst []), .un]) ?_).trans ?_
  · rw [hz]
    rcases h6 with rfl | ⟨_, rfl⟩ <;> rcases h7 with rfl | ⟨_, rfl⟩ <;> simp [e1]
  refine (sSeq_nx (for_nx (ρ1 := [.own true w1, X, N, .val (.lst (cs.map dc)), .val i, x5, .val (.int (n + 1 : Nat)), .own false (.lst []), .un]) (by simp) e)).trans ?_
  generalize (grow cs (n + 1)).map dc = Y
  simp [gList]
end Dl

set_option Elab.async false
set_option linter.all false
set_option maxRecDepth 100000
set_option maxHeartbeats 8000000
/-! NF: arrays drawn, ended. -/
namespace Dl
open PySem
abbrev Ct := List (List Int × Rat)
def sc (t : Ct) : List (NestedKey × Dat) := t.map fun p => (kc p.1, nq p.2)
theorem sc_nodup {t : Ct} (h : (t.map (·.1)).Nodup) : ((sc t).map (·.1)).Nodup := by
  unfold sc
  rw [List.map_map]
  have e : ((·.1) ∘ fun p : List Int × Rat => (kc p.1, nq p.2)) = kc ∘ (·.1) := rfl
  rw [e, ← List.map_map]
  unfold List.Nodup at h ⊢
  rw [List.pairwise_map]
  exact h.imp fun {a b} hab he => hab (kc_inj he)
theorem look_sc {t : Ct} (h : (t.map (·.1)).Nodup) {p : List Int × Rat} (hp : p ∈ t) : lookD (sc t) (kc p.1) = some (nq p.2) :=
  lookD_mem (sc_nodup h) (List.mem_map.mpr ⟨p, hp, rfl⟩)
theorem pairs_sc : ∀ t : Ct, pairsOf (t.map fun p => .tup [dc p.1, nq p.2]) = some (sc t)
  | [] => rfl
  | p :: t => by
    rw [List.map_cons]
    simp [pairsOf, pairs_sc t, sc]
structure CtOk (t : Ct) : Prop where
  nd : (t.map (·.1)).Nodup
  sm : ∀ c ∈ t.map (·.1), c.length ≤ 3
  len : t.length ≤ 30
  pn : ∀ p ∈ t, Pn 1 p.2
def cellsE : FE := cLk (c1d gDict (cLc (iSeq (cVar 3)) (gN 5) tAll (cTup (aCons (cVar 5) (aCons (cCallP 0 m__law_any_number aNil) aNil))) [5]))
theorem zs_ct : ∀ zs : List (List Int × Dat), (∀ z ∈ zs, ∃ q, z.2 = .tup [dc z.1, nq q] ∧ Pn 1 q) →
    ∃ t : Ct, t.map (·.1) = zs.map (·.1) ∧ (t.map fun p => (.tup [dc p.1, nq p.2] : Dat)) = zs.map (·.2) ∧ (∀ p ∈ t, Pn 1 p.2)
  | [], _ => ⟨[], rfl, rfl, fun _ h => nomatch h⟩
  | (g, x) :: zs, h => by
    obtain ⟨q, hx, hq⟩ := h _ List.mem_cons_self
    obtain ⟨l, h1, h2, h3⟩ := zs_ct zs fun z hz => h z (List.mem_cons_of_mem _ hz)
    refine ⟨(g, q) :: l, ?_, ?_, ?_⟩
    · simp [h1]
    · simp only at hx; simp [h2, hx]
    · intro p hp
      rcases List.mem_cons.mp hp with rfl | hp
      · exact hq
      · exact h3 p hp
theorem cells_ex {c : Dat} {X N a x5 x6 x7 : Slot} {cs : List (List Int)} (C : Dat) (hC : C = .lst (cs.map dc)) (h : PoolOk c) (hn : cs.Nodup) (hs : ∀ d ∈ cs, d.length ≤ 3) (hl : cs.length ≤ 30) :
    ∃ (t : Ct) (c' : Dat), cellsE [.own true c, X, N, .val C, a, x5, x6, x7, .un] = some (.dat (.dil (sc t)), [.own true c', X, N, .val C, a, x5, x6, x7, .un]) ∧ CtOk t ∧ PoolOk c' := by
  obtain ⟨zs, z1, z2, ρ', z3, c', hc', rfl⟩ := lcp_ex (g := gN 5) (t := tAll) (f := cTup (aCons (cVar 5) (aCons (cCallP 0 m__law_any_number aNil) aNil))) (vs := [5]) dc
    (fun ρ => ∃ c', PoolOk c' ∧ ρ = [.own true c', X, N, .val C, a, .un, x6, x7, .un]) (fun g x => ∃ q, x = .tup [dc g, nq q] ∧ Pn 1 q) cs [.own true c, X, N, .val C, a, .un, x6, x7, .un] []
    ⟨c, h, rfl⟩ (fun g hg ρ hI => by
      obtain ⟨w1, hc1, rfl⟩ := hI
      obtain ⟨q, w2, e2, hq, p2⟩ := any_ex hc1
      refine ⟨some (.tup [dc g, nq q]), [.own true w2, X, N, .val C, a, .un, x6, x7, .un], ?_, ⟨w2, p2, rfl⟩, fun x hx => ⟨q, by cases hx; rfl, hq⟩⟩
      simp [stL, e2]) (by simp; omega)
  obtain ⟨t, t1, t2, t3⟩ := zs_ct zs z2
  rw [← t2] at z3
  have hlen : t.length ≤ 30 := by
    have h1 := z1.length_le
    have h2 := congrArg List.length t1
    simp at h1 h2
    omega
  have hnd : (t.map (·.1)).Nodup := by rw [t1]; exact z1.nodup hn
  refine ⟨t, c', ?_, ⟨hnd, fun d hd => hs d (by rw [t1] at hd; exact z1.mem hd), hlen, t3⟩, hc'⟩
  have hi : iSeq (cVar 3) [.own true c, X, N, .val C, a, x5, x6, x7, .un] = some (cs.map dc, [.own true c, X, N, .val C, a, x5, x6, x7, .un]) := by
    subst hC; simp
  have hw : wipeR [.own true c, X, N, .val C, a, x5, x6, x7, .un] [5] = [.own true c, X, N, .val C, a, .un, x6, x7, .un] := rfl
  have hd : gDict (.lst (t.map fun p => .tup [dc p.1, nq p.2])) = some (sc t) := by
    have h1 : t.length < 1000000 := by omega
    simp [h1, pairs_sc, mergeD_new (sc t) [] (by simpa using sc_nodup hnd)]
  have e : cLc (iSeq (cVar 3)) (gN 5) tAll (cTup (aCons (cVar 5) (aCons (cCallP 0 m__law_any_number aNil) aNil))) [5] [.own true c, X, N, .val C, a, x5, x6, x7, .un] = some (.new (.lst (t.map fun p => .tup [dc p.1, nq p.2])), [.own true c', X, N, .val C, a, x5, x6, x7, .un]) := by
    rw [e_cLc, hi]
    simp only
    rw [hw, z3]
    rfl
  unfold cellsE cLk
  rw [e_c1d, e]
  simp [hd]
abbrev Ay := List (Str × Ct)
def sA (A : Ay) : List (NestedKey × Dat) := A.map fun p => (.text p.1, .dil (sc p.2))
def nms5 : List Str := ["x", "y", "ab", "zzzzzz", "more"]
theorem sA_new {A : Ay} {s : Str} {t : Ct} (h : s ∉ A.map (·.1)) : putD (sA A) (.text s) (.dil (sc t)) = sA (A ++ [(s, t)]) := by
  rw [putD_new]
  · simp [sA]
  · intro hm
    unfold sA at hm
    rw [List.map_map] at hm
    obtain ⟨p, hp, e⟩ := List.mem_map.mp hm
    cases e
    exact h (List.mem_map.mpr ⟨p, hp, rfl⟩)
theorem axes_ex {c : Dat} {X N x4 x5 x6 x7 : Slot} (h : PoolOk c) (h4 : fr x4) (h5 : fr x5) (h6 : fr x6) (h7 : fr x7) :
    ∃ (cs : List (List Int)) (c' : Dat) (y4 y5 y6 y7 : Slot), sFor (iR1 (aCons (cCallP 0 m__law_take (aCons (cK (.int 4)) aNil)) aNil)) (gN 4) axB [.own true c, X, N, .val (.lst [.tup []]), x4, x5, x6, x7, .un] = some ([.own true c', X, N, .val (.lst (cs.map dc)), y4, y5, y6, y7, .un], .nx) ∧
      cs.Nodup ∧ (∀ d ∈ cs, d.length ≤ 3) ∧ cs.length ≤ 30 ∧ PoolOk c' ∧ fr y4 ∧ fr y5 ∧ fr y6 ∧ fr y7 := by
  obtain ⟨k, w1, e1, k0, k1, p1⟩ := take_ex (n := 4) h (by decide) (by decide)
  obtain ⟨n, rfl⟩ := Int.eq_ofNat_of_zero_le k0
  have hr : iR1 (aCons (cCallP 0 m__law_take (aCons (cK (.int 4)) aNil)) aNil) [.own true c, X, N, .val (.lst [.tup []]), x4, x5, x6, x7, .un] = some (rngD 0 n, [.own true w1, X, N, .val (.lst [.tup []]), x4, x5, x6, x7, .un]) := iR1_nat (by simp [e1]) (by omega)
  obtain ⟨ρ', e, cs, c', y4, y5, y6, y7, q1, q2, q3, q4, q5, q6, q7, q8, rfl⟩ := lp_ix (g := gN 4) (b := axB) (fun i : Nat => Dat.int (0 + i)) (List.range n)
    (fun i ρ => ∃ cs c' y4 y5 y6 y7, cs.Nodup ∧ (∀ d ∈ cs, d.length ≤ i) ∧ cs.length ≤ 3 ^ i ∧ PoolOk c' ∧ fr y4 ∧ fr y5 ∧ fr y6 ∧ fr y7 ∧ ρ = [.own true c', X, N, .val (.lst (cs.map dc)), y4, y5, y6, y7, .un])
    [.own true w1, X, N, .val (.lst [.tup []]), x4, x5, x6, x7, .un] ⟨[[]], w1, x4, x5, x6, x7, by simp, by simp, by simp, p1, h4, h5, h6, h7, rfl⟩ (fun i a ρ ha hI => by
      obtain ⟨cs, c2, y4, y5, y6, y7, q1, q2, q3, q4, q5, q6, q7, q8, rfl⟩ := hI
      have hi : i < n := by
        have := (List.getElem?_eq_some_iff.mp ha).1
        simpa using this
      have h9 : (3 : Nat) ^ i ≤ 3 ^ 2 := Nat.pow_le_pow_right (by decide) (by omega)
      obtain ⟨m, c3, z5, z6, z7, e3, hm, p3, r5, r6, r7⟩ := ax_ex (X := X) (N := N) (i := .int a) q4 q6 q7 q8 (fun d hd => by have := q2 d hd; omega) (Nat.le_trans q3 h9)
      refine ⟨[.own true c2, X, N, .val (.lst (cs.map dc)), .val (.int a), y5, y6, y7, .un], _, ?_, e3, grow cs m, c3, .val (.int a), z5, z6, z7, grow_nodup q1, ?_, ?_, p3, .inr ⟨_, rfl⟩, r5, r6, r7, rfl⟩
      · rcases q5 with rfl | ⟨_, rfl⟩ <;> simp
      · intro d hd
        obtain ⟨d', hd', j, rfl⟩ := grow_mem hd
        have := q2 d' hd'
        simp; omega
      · rw [grow_length, Nat.pow_succ]
        exact Nat.mul_le_mul q3 hm)
  simp only [List.length_range] at q2 q3
  have h27 : (3 : Nat) ^ n ≤ 3 ^ 3 := Nat.pow_le_pow_right (by decide) (by omega)
  exact ⟨cs, c', y4, y5, y6, y7, for_nx hr e, q1, fun d hd => by have := q2 d hd; omega, by omega, q4, q5, q6, q7, q8⟩
def nameB : FS := sSeq (sAsg (cLst (aCons (cTup aNil) aNil)) (gN 3)) (sSeq (sFor (iR1 (aCons (cCallP 0 m__law_take (aCons (cK (.int 4)) aNil)) aNil)) (gN 4) axB) (sSetD cellsE 1 (cVar 2)))
theorem setD_eq {f : FE} {i : Nat} {fi : FE} {ρ ρ1 : Rho} {b : Bool} {kvs : List (NestedKey × Dat)} {s : Str} {D : Dat} (hf : f ρ = some (.dat D, ρ1)) (h1 : ρ1[i]? = some (.own b (.dic false kvs))) (hi : fi ρ1 = some (.dat (.str s), ρ1)) (hl : kvs.length < 1000000) :
    sSetD f i fi ρ = some (ρ1.set i (.own b (.dic false (putD kvs (.text s) D))), .nx) := by
  have h2 : isDc ρ1 i = true := by unfold isDc; rw [h1]
  unfold sSetD
  rw [e_cFz, hf]
  simp only
  rw [if_pos h2, e_cFz, hi]
  simp only
  rw [h1]
  simp [putAny, hl]
theorem arrays_ex {c : Dat} (h : PoolOk c) : ∃ (A : Ay) (c' : Dat), m__law_arrays_drawn c [] = some (.dic false (sA A), c') ∧ A.map (·.1) = nms5 ∧ (∀ p ∈ A, CtOk p.2) ∧ PoolOk c' := by
  have hnd : nms5.Nodup := by decide +kernel
  have h5 : nms5.length = 5 := rfl
  obtain ⟨ρ', e, A, c', y2, y3, y4, y5, y6, y7, q1, q2, q3, r2, r3, r4, r5, r6, r7, rfl⟩ := lp_ix (g := gN 2) (b := nameB) Dat.str nms5
    (fun i ρ => ∃ A c' y2 y3 y4 y5 y6 y7, A.map (·.1) = nms5.take i ∧ (∀ p ∈ A, CtOk p.2) ∧ PoolOk c' ∧ fr y2 ∧ fr y3 ∧ fr y4 ∧ fr y5 ∧ fr y6 ∧ fr y7 ∧ ρ = [.own true c', .own false (.dic false (sA A)), y2, y3, y4, y5, y6, y7, .un])
    [.own true c, .own false (.dic false []), .un, .un, .un, .un, .un, .un, .un] ⟨[], c, .un, .un, .un, .un, .un, .un, rfl, (fun _ h => nomatch h), h, .inl rfl, .inl rfl, .inl rfl, .inl rfl, .inl rfl, .inl rfl, rfl⟩ (fun i s ρ hs hI => by
      obtain ⟨A, c2, y2, y3, y4, y5, y6, y7, q1, q2, q3, r2, r3, r4, r5, r6, r7, rfl⟩ := hI
      obtain ⟨cs, c3, z4, z5, z6, z7, e3, d1, d2, d3, p3, f4, f5, f6, f7⟩ := axes_ex (X := .own false (.dic false (sA A))) (N := .val (.str s)) q3 r4 r5 r6 r7
      obtain ⟨t, c4, e4, ht, p4⟩ := cells_ex (X := .own false (.dic false (sA A))) (N := .val (.str s)) (a := z4) (x5 := z5) (x6 := z6) (x7 := z7) _ rfl p3 d1 d2 d3
      have hfresh : s ∉ A.map (·.1) := by
        rw [q1]
        intro hm
        obtain ⟨hlt, rfl⟩ := List.getElem?_eq_some_iff.mp hs
        obtain ⟨j, hj, ej⟩ := List.mem_take_iff_getElem.mp hm
        exact (List.pairwise_iff_getElem.mp hnd) j i (by omega) hlt (by omega) ej
      have hlen : (sA A).length < 1000000 := by
        have := congrArg List.length q1
        simp [sA] at *
        omega
      have e5 := setD_eq (i := 1) (fi := cVar 2) (s := s) e4 rfl (by simp) hlen
      rw [sA_new hfresh] at e5
      refine ⟨[.own true c2, .own false (.dic false (sA A)), .val (.str s), y3, y4, y5, y6, y7, .un], _, ?_, ?_, A ++ [(s, t)], c4, .val (.str s), .val (.lst (cs.map dc)), z4, z5, z6, z7, ?_, ?_, p4, .inr ⟨_, rfl⟩, .inr ⟨_, rfl⟩, f4, f5, f6, f7, rfl⟩
      · rcases r2 with rfl | ⟨_, rfl⟩ <;> simp
      · unfold nameB
        refine (sSeq_nx (ρ1 := [.own true c2, .own false (.dic false (sA A)), .val (.str s), .val (.lst [.tup []]), y4, y5, y6, y7, .un]) ?_).trans ?_
        · rcases r3 with rfl | ⟨_, rfl⟩ <;> simp
        refine (sSeq_nx e3).trans ?_
        exact e5
      · rw [List.map_append, q1, List.take_add_one, hs]
        rfl
      · intro p hp
        rcases List.mem_append.mp hp with hp | hp
        · exact q2 p hp
        · simp at hp; subst hp; exact ht)
  refine ⟨A, c', ?_, by rw [q1]; exact List.take_length, q2, q3⟩
  have hi : iSeq (cLst (aCons (cK (.str "x")) (aCons (cK (.str "y")) (aCons (cK (.str "ab")) (aCons (cK (.str "zzzzzz")) (aCons (cK (.str "more")) aNil)))))) [.own true c, .own false (.dic false []), .un, .un, .un, .un, .un, .un, .un] = some (nms5.map Dat.str, [.own true c, .own false (.dic false []), .un, .un, .un, .un, .un, .un, .un]) := rfl
  have b1 : b__law_arrays_drawn [.own true c, .un, .un, .un, .un, .un, .un, .un, .un] = some ([.own true c', .un, y2, y3, y4, y5, y6, y7, .un], .rn (.dic false (sA A))) := by
    unfold b__law_arrays_drawn
    refine (sSeq_nx (ρ1 := [.own true c, .own false (.dic false []), .un, .un, .un, .un, .un, .un, .un]) (by simp)).trans ?_
    refine (sSeq_nx (for_nx hi e)).trans ?_
    simp
  simp only [m__law_arrays_drawn, e_mP, e_runP, e_rhoP, e_rho0]
  simp [b1]
end Dl

set_option Elab.async false
set_option linter.all false
set_option maxRecDepth 100000
set_option maxHeartbeats 8000000
/-! NG: the worths are right. -/
namespace Dl
open PySem
theorem gSort_names {A : Ay} (h : A.map (·.1) = nms5) : ∃ L : List Str, gSort (.dic false (sA A)) = some (L.map Dat.str) ∧ L.Perm nms5 := by
  have e : (sA A).map (fun p => kd p.1) = nms5.map Dat.str := by
    rw [← h]
    unfold sA
    rw [List.map_map, List.map_map]
    exact List.map_congr_left fun p _ => rfl
  refine ⟨nms5.mergeSort fun a b => leD (.str a) (.str b), ?_, List.mergeSort_perm _ _⟩
  simp only [gSort, e]
  unfold sortD
  rw [if_pos]
  · congr 1
    exact (List.map_mergeSort (r := fun a b => leD (.str a) (.str b)) (s := leD) (f := Dat.str) (l := nms5) fun _ _ _ _ => rfl).symm
  · refine ⟨by decide, by decide +kernel, ?_, .inr rfl⟩
    simp [nms5, likeD, toPy, PySem.W.alike]
theorem gSort_lst {gs : List Gr} (hk : ∀ g ∈ gs, Gk g) (hl : gs.length < 100000) : gSort (.lst (gs.map dg)) = some ((srt gs).map dg) := by
  simp only [gSort]
  unfold sortD
  rw [if_pos]
  · congr 1
    exact (List.map_mergeSort (r := gle) (s := leD) (f := dg) (l := gs) fun _ _ _ _ => rfl).symm
  · refine ⟨by simp; omega, okDs_dg hk, ?_, .inl ?_⟩
    · simp [List.all_eq_true]
    · simp [List.all_eq_true, tupNe, dg]
theorem sA_nodup {A : Ay} (h : A.map (·.1) = nms5) : ((sA A).map (·.1)).Nodup := by
  have hnd : nms5.Nodup := by decide +kernel
  rw [← h] at hnd
  unfold sA List.Nodup at *
  rw [List.pairwise_map] at hnd
  rw [List.map_map, List.pairwise_map]
  exact hnd.imp fun {a b} hab he => hab (by cases a; cases b; cases he; rfl)
theorem look_sA {A : Ay} (h : A.map (·.1) = nms5) {p : Str × Ct} (hp : p ∈ A) : gIxA (.dic false (sA A)) (.str p.1) = some (.dil (sc p.2)) := by
  show lookD (sA A) (.text p.1) = _
  exact lookD_mem (sA_nodup h) (List.mem_map.mpr ⟨p, hp, rfl⟩)
theorem look_ct {t : Ct} (h : CtOk t) {p : List Int × Rat} (hp : p ∈ t) : gIxA (.dil (sc t)) (dc p.1) = some (nq p.2) := by
  have := look_sc h.nd hp
  simp [gIxA, gIxN, entN, this]
theorem name5_ok {s : Str} (h : s ∈ nms5) : PyData.strOk s = true ∧ s.cps.size ≤ 6 := by
  simp only [nms5, List.mem_cons, List.not_mem_nil, or_false] at h
  rcases h with rfl | rfl | rfl | rfl | rfl <;> exact ⟨by decide +kernel, by decide +kernel⟩
def nameC : FE := cLc (iDil (c2 gIxA (cVar 1) (cVar 3))) (gN 4) (cB (c2 gEq (cCallP 0 m__law_take (aCons (cK (.int 5)) aNil)) (cK (.int 0)))) (cTup (aCons (cVar 3) (aCons (cVar 4) aNil))) [4]
theorem nameC_ex {c inp : Dat} {s : Str} {t : Ct} {O x5 x6 x7 x8 x9 x10 : Slot} (h : PoolOk c) (hx : gIxA inp (.str s) = some (.dil (sc t))) (ht : CtOk t) :
    ∃ (cs : List (List Int)) (c' : Dat), nameC [.own true c, .val inp, O, .val (.str s), .un, x5, x6, x7, x8, x9, x10] = some (.new (.lst ((cs.map fun d => (s, d)).map dg)), [.own true c', .val inp, O, .val (.str s), .un, x5, x6, x7, x8, x9, x10]) ∧ cs.Sublist (t.map (·.1)) ∧ PoolOk c' := by
  obtain ⟨zs, z1, z2, ρ', z3, c', hc', rfl⟩ := lcp_ex (g := gN 4) (t := cB (c2 gEq (cCallP 0 m__law_take (aCons (cK (.int 5)) aNil)) (cK (.int 0)))) (f := cTup (aCons (cVar 3) (aCons (cVar 4) aNil))) (vs := [4]) dc
    (fun ρ => ∃ c', PoolOk c' ∧ ρ = [.own true c', .val inp, O, .val (.str s), .un, x5, x6, x7, x8, x9, x10]) (fun d x => x = dg (s, d)) (t.map (·.1)) [.own true c, .val inp, O, .val (.str s), .un, x5, x6, x7, x8, x9, x10] []
    ⟨c, h, rfl⟩ (fun d hd ρ hI => by
      obtain ⟨w1, hc1, rfl⟩ := hI
      obtain ⟨k, w2, e2, k0, k1, p2⟩ := take_ex (n := 5) hc1 (by decide) (by decide)
      by_cases hk0 : k = 0
      · subst hk0
        refine ⟨some (dg (s, d)), [.own true w2, .val inp, O, .val (.str s), .un, x5, x6, x7, x8, x9, x10], ?_, ⟨w2, p2, rfl⟩, fun x hx => by cases hx; rfl⟩
        simp [stL, e2, dg, dc]
      · refine ⟨none, [.own true w2, .val inp, O, .val (.str s), .un, x5, x6, x7, x8, x9, x10], ?_, ⟨w2, p2, rfl⟩, fun x hx => nomatch hx⟩
        simp [stL, e2, hk0]) (by have := ht.len; simp; omega)
  refine ⟨zs.map (·.1), c', ?_, z1, hc'⟩
  have he : zs.map (·.2) = ((zs.map (·.1)).map fun d => (s, d)).map dg := by
    rw [List.map_map, List.map_map]
    exact List.map_congr_left fun z hz => z2 z hz
  rw [he] at z3
  have hi : iDil (c2 gIxA (cVar 1) (cVar 3)) [.own true c, .val inp, O, .val (.str s), .un, x5, x6, x7, x8, x9, x10] = some ((t.map (·.1)).map dc, [.own true c, .val inp, O, .val (.str s), .un, x5, x6, x7, x8, x9, x10]) := by
    unfold iDil
    simp [hx, sc, kd_kc]
  unfold nameC
  rw [e_cLc, hi]
  simp only
  have hw : wipeR [.own true c, .val inp, O, .val (.str s), .un, x5, x6, x7, x8, x9, x10] [4] = [.own true c, .val inp, O, .val (.str s), .un, x5, x6, x7, x8, x9, x10] := rfl
  rw [hw, z3]
  rfl
theorem cExt_eq2 {f : FE} {i : Nat} {ρ ρ1 : Rho} {b : Bool} {xs ys : List Dat} (h0 : isL ρ i = true) (h : ρ1[i]? = some (.own b (.lst xs))) (hf : f ρ = some (.new (.lst ys), ρ1)) (hl : xs.length + ys.length < 1000000) :
    sEx (cExt i f) ρ = some (ρ1.set i (.own b (.lst (xs ++ ys))), .nx) := by
  have h2 : cExt i f ρ = some (.dat .non, ρ1.set i (.own b (.lst (xs ++ ys)))) := by
    unfold cExt
    rw [if_pos h0, hf]
    simp [h, hl]
  rw [e_sEx, h2]
/-- the weights of the grains, as the inputs tell them -/
theorem tell_W {inp : Dat} : ∀ gs : List Gr, (∀ g ∈ gs, ∃ q D, gIxA inp (.str g.1) = some D ∧ gIxA D (dc g.2) = some (nq q) ∧ Pn 1 q) →
    ∃ W : Tb, keys W = gs ∧ ∀ p ∈ W, Pn 1 p.2 ∧ ∃ D, gIxA inp (.str p.1.1) = some D ∧ gIxA D (dc p.1.2) = some (nq p.2)
  | [], _ => ⟨[], rfl, fun _ h => nomatch h⟩
  | g :: gs, h => by
    obtain ⟨q, D, d1, d2, hq⟩ := h g List.mem_cons_self
    obtain ⟨W, w1, w2⟩ := tell_W gs fun g hg => h g (List.mem_cons_of_mem _ hg)
    refine ⟨(g, q) :: W, by unfold keys at *; simp [w1], fun p hp => ?_⟩
    rcases List.mem_cons.mp hp with rfl | hp
    · exact ⟨hq, D, d1, d2⟩
    · exact w2 p hp
theorem wh_of {inp : Dat} {W l : Tb} {gs : List Gr} (w1 : keys W = gs) (w2 : ∀ p ∈ W, Pn 1 p.2 ∧ ∃ D, gIxA inp (.str p.1.1) = some D ∧ gIxA D (dc p.1.2) = some (nq p.2)) (h : ∀ g ∈ keys l, g ∈ gs) : Wh inp W l := by
  intro g hg
  have h1 : g ∈ keys W := by rw [w1]; exact h g hg
  have h2 := lk_mem (vl_some h1)
  exact (w2 _ h2).2
/-- the grains drawn from the inputs -/
theorem names_ex {c : Dat} {A : Ay} (h : PoolOk c) (hA : A.map (·.1) = nms5) (hC : ∀ p ∈ A, CtOk p.2) (inp : Dat) (hinp : inp = .dic false (sA A)) :
    ∃ (gs : List Gr) (c' : Dat) (y3 : Slot), sFor (iSeq (c1n gSort (cVar 1))) (gN 3) (sEx (cExt 2 nameC)) [.own true c, .val inp, .own false (.lst []), .un, .un, .un, .un, .un, .un, .un, .un] = some ([.own true c', .val inp, .own false (.lst (gs.map dg)), y3, .un, .un, .un, .un, .un, .un, .un], .nx) ∧
      gs.Nodup ∧ (∀ g ∈ gs, g.1 ∈ nms5 ∧ ∃ t, (g.1, t) ∈ A ∧ g.2 ∈ t.map (·.1)) ∧ gs.length ≤ 150 ∧ PoolOk c' := by
  obtain ⟨L, hL, hp⟩ := gSort_names hA
  have hnd : L.Nodup := hp.nodup_iff.mpr (by decide +kernel)
  have hlen : L.length = 5 := hp.length_eq
  obtain ⟨ρ', e, gs, c', y3, q1, q2, q3, q4, q5, rfl⟩ := lp_ix (g := gN 3) (b := sEx (cExt 2 nameC)) Dat.str L
    (fun i ρ => ∃ gs c' y3, gs.Nodup ∧ (∀ g ∈ gs, g.1 ∈ L.take i ∧ g.1 ∈ nms5 ∧ ∃ t, (g.1, t) ∈ A ∧ g.2 ∈ t.map (·.1)) ∧ gs.length ≤ 30 * i ∧ PoolOk c' ∧ fr y3 ∧ ρ = [.own true c', .val inp, .own false (.lst (gs.map dg)), y3, .un, .un, .un, .un, .un, .un, .un])
    [.own true c, .val inp, .own false (.lst []), .un, .un, .un, .un, .un, .un, .un, .un] ⟨[], c, .un, List.nodup_nil, (fun _ h => nomatch h), by simp, h, .inl rfl, rfl⟩ (fun i s ρ hs hI => by
      obtain ⟨gs, c2, y3, q1, q2, q3, q4, q5, rfl⟩ := hI
      have hsL : s ∈ L := List.mem_of_getElem? hs
      have hs5 : s ∈ nms5 := hp.mem_iff.mp hsL
      obtain ⟨hlt, hse⟩ := List.getElem?_eq_some_iff.mp hs
      have hsA : ∃ t, (s, t) ∈ A := by
        rw [← hA] at hs5
        obtain ⟨p, hp1, rfl⟩ := List.mem_map.mp hs5
        exact ⟨p.2, hp1⟩
      obtain ⟨t, htA⟩ := hsA
      have hx : gIxA inp (.str s) = some (.dil (sc t)) := by rw [hinp]; exact look_sA hA htA
      have htok := hC _ htA
      obtain ⟨cs, c3, e3, hcs, p3⟩ := nameC_ex (O := .own false (.lst (gs.map dg))) (x5 := .un) (x6 := .un) (x7 := .un) (x8 := .un) (x9 := .un) (x10 := .un) q4 hx htok
      have hcl : cs.length ≤ 30 := by
        have h1 := hcs.length_le
        have h2 : t.length ≤ 30 := htok.len
        simp at h1
        omega
      have hfresh : ∀ g ∈ gs, g.1 ≠ s := by
        intro g hg he
        have hm := (q2 g hg).1
        rw [he] at hm
        obtain ⟨j, hj, ej⟩ := List.mem_take_iff_getElem.mp hm
        exact (List.pairwise_iff_getElem.mp hnd) j i (by omega) hlt (by omega) (ej.trans hse.symm)
      have e4 := cExt_eq2 (i := 2) (ρ := [.own true c2, .val inp, .own false (.lst (gs.map dg)), .val (.str s), .un, .un, .un, .un, .un, .un, .un]) (xs := gs.map dg) (b := false) (by simp) rfl e3 (by simp; omega)
      rw [← List.map_append] at e4
      refine ⟨[.own true c2, .val inp, .own false (.lst (gs.map dg)), .val (.str s), .un, .un, .un, .un, .un, .un, .un], _, ?_, e4, gs ++ cs.map (fun d => (s, d)), c3, .val (.str s), ?_, ?_, ?_, p3, .inr ⟨_, rfl⟩, rfl⟩
      · rcases q5 with rfl | ⟨_, rfl⟩ <;> simp
      · rw [List.nodup_append]
        refine ⟨q1, ?_, ?_⟩
        · unfold List.Nodup
          rw [List.pairwise_map]
          exact (hcs.nodup htok.nd).imp fun {a b} hab he => hab (congrArg Prod.snd he)
        · intro a ha b hb hab
          subst hab
          obtain ⟨d, _, rfl⟩ := List.mem_map.mp hb
          exact hfresh _ ha rfl
      · intro g hg
        rcases List.mem_append.mp hg with hg | hg
        · refine ⟨?_, (q2 g hg).2⟩
          rw [List.take_add_one]
          exact List.mem_append_left _ (q2 g hg).1
        · obtain ⟨d, hd, rfl⟩ := List.mem_map.mp hg
          refine ⟨?_, hs5, t, htA, hcs.mem hd⟩
          rw [List.take_add_one, hs]
          simp
      · simp; omega)
  have hi : iSeq (c1n gSort (cVar 1)) [.own true c, .val inp, .own false (.lst []), .un, .un, .un, .un, .un, .un, .un, .un] = some (L.map Dat.str, [.own true c, .val inp, .own false (.lst []), .un, .un, .un, .un, .un, .un, .un, .un]) := by
    subst hinp; simp [hL]
  exact ⟨gs, c', y3, for_nx hi e, q1, fun g hg => (q2 g hg).2, by omega, q4⟩
theorem worths_ex {c : Dat} (h : PoolOk c) : ∃ c', m__law_worths_right c [] = some (.bl true, c') ∧ PoolOk c' := by
  obtain ⟨A, w1, e1, hA, hC, p1⟩ := arrays_ex h
  obtain ⟨inp, hinp⟩ : ∃ inp, inp = Dat.dic false (sA A) := ⟨_, rfl⟩
  rw [← hinp] at e1
  obtain ⟨gs, w2, y3, e2, gnd, gok, glen, p2⟩ := names_ex p1 hA hC inp hinp
  have hgk : ∀ g ∈ gs, Gk g := fun g hg => (name5_ok (gok g hg).1).1
  have hs := gSort_lst hgk (by omega)
  have hsl : (srt gs).length ≤ 1000 := by rw [(srt_perm gs).length_eq]; omega
  have hsk : ∀ g ∈ srt gs, Gk g := fun g hg => hgk g ((srt_perm gs).mem_iff.mp hg)
  obtain ⟨a, w3, e3, da, sa, p3⟩ := line_ex p2 (srt_asc gnd) hsk hsl
  obtain ⟨b, w4, e4, db, sb, p4⟩ := line_ex p3 (srt_asc gnd) hsk hsl
  obtain ⟨u, w5, e5, hu, p5⟩ := any_ex p4
  obtain ⟨v, w6, e6, hv, p6⟩ := any_ex p5
  obtain ⟨W, hW1, hW2⟩ := tell_W (inp := inp) gs fun g hg => by
    obtain ⟨_, t, ht, hg2⟩ := gok g hg
    obtain ⟨p, hp, he⟩ := List.mem_map.mp hg2
    refine ⟨p.2, .dil (sc t), ?_, ?_, (hC _ ht).pn p hp⟩
    · rw [hinp]; exact look_sA hA ht
    · rw [← he]; exact look_ct (hC _ ht) hp
  have hWn : (keys W).Nodup := by rw [hW1]; exact gnd
  have hWp : ∀ p ∈ W, Pn 1 p.2 := fun p hp => (hW2 p hp).1
  have ka : ∀ g ∈ keys a, g ∈ gs := fun g hg => (srt_perm gs).mem_iff.mp (sa.mem hg)
  have kb : ∀ g ∈ keys b, g ∈ gs := fun g hg => (srt_perm gs).mem_iff.mp (sb.mem hg)
  have kab : ∀ g ∈ keys (plusL a b), g ∈ gs := fun g hg => by
    rcases addT_keys b a g (keys_lnOf hg) with h | h
    · exact ka g h
    · exact kb g h
  have hal := da.len
  have hbl := db.len
  have hpl : (plusL a b).length ≤ 5000 := by
    have h1 := lnOf_length (addT a b)
    have h2 := addT_length b a
    show (lnOf (addT a b)).length ≤ _
    omega
  have ru : Rn 10 u := hu.toR.mono (by decide)
  have rv' : Rn 10 v := hv.toR.mono (by decide)
  have ruv : Rn 10 (u + v) := by
    have h1 : Rn (1 + 1) (u + v) := hu.toR.add hv.toR
    exact Rn.mono h1 (by decide)
  have m1 := m_worth_eq ru da.sz hWp (by omega) (by decide) (wh_of hW1 hW2 ka)
  have m2 := m_worth_eq rv' db.sz hWp (by omega) (by decide) (wh_of hW1 hW2 kb)
  have m3 := m_worth_eq ruv (plus_P2 da db) hWp hpl (by decide) (wh_of hW1 hW2 kab)
  rw [pairL_plus da.ln db.ln hWn] at m3
  have m4 : m_worth_of_form [.tup [.tup [.int 3, .int 4], .tup []], .dic true []] = some (.tup [.int 3, .int 4]) := by
    simp [m_worth_of_form, b_worth_of_form, lp]
  have m5 := m_form_plus_eq hu.b hv.b da.ok db.ok (by decide)
  have o1 := m_law_worth_eq ru da.sz hWp (by omega) (by decide) (wh_of hW1 hW2 ka)
  have o2 := m_law_worth_eq rv' db.sz hWp (by omega) (by decide) (wh_of hW1 hW2 kb)
  have z1 : Bg (u + pairL a W) := (ru.add (pair_sz da hWp)).bg (by decide)
  have z2 : Bg (v + pairL b W) := (rv'.add (pair_sz db hWp)).bg (by decide)
  have o3 := m_nr_plus_eq z1 z2
  have hr : (u + v) + (pairL a W + pairL b W) = (u + pairL a W) + (v + pairL b W) := by
    rw [Rat.add_assoc, Rat.add_assoc, Rat.add_left_comm v]
  rw [hr] at m3
  obtain ⟨q1, hq1⟩ : ∃ q, q = u + pairL a W := ⟨_, rfl⟩
  obtain ⟨q2, hq2⟩ : ∃ q, q = v + pairL b W := ⟨_, rfl⟩
  obtain ⟨q3, hq3⟩ : ∃ q, q = u + pairL a W + (v + pairL b W) := ⟨_, rfl⟩
  rw [← hq3] at m3 o3
  rw [← hq1] at m1 o1 o3
  rw [← hq2] at m2 o2 o3
  have r1 : m__law_same fuel [.lst [nq q1, nq q2, nq q3, .tup [.int 3, .int 4]], .lst [nq q1, nq q2, nq q3, .tup [.int 3, .int 4]]] = some (.bl true) := by
    have s2 := fun q => sok_nq (n := 7) q
    exact same_refl fuel _ (by simp [sok, soks, s2])
  refine ⟨w6, ?_, p6⟩
  have b1 : b__law_worths_right [.own true c, .un, .un, .un, .un, .un, .un, .un, .un, .un, .un] = some ([.own true w6, .val inp, .val (.lst (gs.map dg)), y3, .un, .val (dl a), .val (dl b), .val (fd u a), .val (fd v b), .val (.lst [nq q1, nq q2, nq q3, .tup [.int 3, .int 4]]), .val (.lst [nq q1, nq q2, nq q3, .tup [.int 3, .int 4]])], .rt (.bl true)) := by
    unfold b__law_worths_right
    refine (sSeq_nx (ρ1 := [.own true w1, .val inp, .own false (.lst []), .un, .un, .un, .un, .un, .un, .un, .un]) (by simp [e1])).trans ?_
    refine (sSeq_nx e2).trans ?_
    rw [e_sFz]
    simp only [List.getElem?_cons_succ, List.getElem?_cons_zero, List.set_cons_succ, List.set_cons_zero]
    refine (sSeq_nx (ρ1 := [.own true w4, .val inp, .val (.lst (gs.map dg)), y3, .un, .val (dl a), .val (dl b), .un, .un, .un, .un]) (by simp [hs, e3, e4])).trans ?_
    refine (sSeq_nx (ρ1 := [.own true w6, .val inp, .val (.lst (gs.map dg)), y3, .un, .val (dl a), .val (dl b), .val (fd u a), .val (fd v b), .un, .un]) (by simp [e5, e6, fd])).trans ?_
    refine (sSeq_nx (ρ1 := [.own true w6, .val inp, .val (.lst (gs.map dg)), y3, .un, .val (dl a), .val (dl b), .val (fd u a), .val (fd v b), .val (.lst [nq q1, nq q2, nq q3, .tup [.int 3, .int 4]]), .un]) (by simp [m1, m2, m5, m3, m4])).trans ?_
    refine (sSeq_nx (ρ1 := [.own true w6, .val inp, .val (.lst (gs.map dg)), y3, .un, .val (dl a), .val (dl b), .val (fd u a), .val (fd v b), .val (.lst [nq q1, nq q2, nq q3, .tup [.int 3, .int 4]]), .val (.lst [nq q1, nq q2, nq q3, .tup [.int 3, .int 4]])]) (by simp [o1, o2, o3])).trans ?_
    generalize (Dat.lst [nq q1, nq q2, nq q3, .tup [.int 3, .int 4]]) = D at *
    simp [r1]
  simp only [m__law_worths_right, e_mP, e_runP, e_rhoP, e_rho0]
  simp [b1]
end Dl

set_option Elab.async false
set_option linter.all false
set_option maxRecDepth 100000
set_option maxHeartbeats 8000000
/-! NH: what the judging defs tell. -/
namespace Dl
open PySem
inductive Nic : Dat → Prop
  | non : Nic .non
  | bl (b) : Nic (.bl b)
  | int (i) : Nic (.int i)
  | str (s : Str) : s.cps.size < 1000 → Nic (.str s)
  | tup (xs : List Dat) : xs.length < 10000 → (∀ x ∈ xs, Nic x) → Nic (.tup xs)
  | lst (xs : List Dat) : xs.length < 10000 → (∀ x ∈ xs, Nic x) → Nic (.lst xs)
  | dic (n : Bool) (kvs : List (NestedKey × Dat)) : Nic (.dic n kvs)
def wh : Dat → Bool
  | .int _ => true
  | _ => false
theorem m_is_whole_eq {d : Dat} (h : Nic d) : m_is_whole [d] = some (.bl (wh d)) := by
  cases h <;> simp [m_is_whole, b_is_whole, wh]
theorem m_law_is_whole_eq {d : Dat} (h : Nic d) : m__law_is_whole [d] = some (.bl (wh d)) := by
  cases h <;> simp [m__law_is_whole, b__law_is_whole, wh]
theorem blsOf_map {α : Type} (p : α → Bool) : ∀ xs : List α, blsOf (xs.map fun x => .bl (p x)) = some (xs.map p)
  | [] => rfl
  | x :: xs => by rw [List.map_cons]; simp [blsOf, blsOf_map p xs]
theorem gAll_map {α : Type} (p : α → Bool) (xs : List α) : gAll (.lst (xs.map fun x => .bl (p x))) = some (.bl (xs.all p)) := by
  simp [gAll, blsOf_map, List.all_map]
theorem all_eq {α : Type} {it : FI} {g : FG} {f : FE} {vs : List Nat} {ρ : Rho} {q : α → Dat} {ds : List α} (p : α → Bool) (hi : it ρ = some (ds.map q, ρ)) (hw : wipeR ρ vs = ρ) (hb : back ρ ρ vs = ρ)
    (hs : ∀ d ∈ ds, stL g tAll f vs (q d) ρ = some (some (.bl (p d)), ρ)) (hl : ds.length ≤ 100000) : c1 gAll (cLc it g tAll f vs) ρ = some (.dat (.bl (ds.all p)), ρ) := by
  have h := lcp_map (ρ := ρ) q (fun d => some (.bl (p d))) ds [] hs (by simpa using hl)
  have e : ([] : List Dat) ++ ds.filterMap (fun d => some (.bl (p d))) = ds.map fun d => .bl (p d) := by simp
  rw [e] at h
  rw [e_c1, e_cLc, hi]
  simp only
  rw [hw, h]
  simp only
  rw [hb]
  simp [gAll_map]
theorem gEq_nil (zs : List Dat) : gEq (.lst zs) (.lst []) = some (.bl zs.isEmpty) := by
  cases zs with
  | nil => simp [gEq, lenNe, okD, okDs, eqD, toPy, toPys, PyData.eqv, PyData.eqvAll]
  | cons z zs => simp [gEq, lenNe]
theorem gNe_nilL (zs : List Dat) : gNe (.lst zs) (.lst []) = some (.bl (!zs.isEmpty)) := by
  cases zs with
  | nil => simp [gNe, lenNe, okD, okDs, eqD, toPy, toPys, PyData.eqv, PyData.eqvAll]
  | cons z zs => simp [gNe, lenNe]
theorem fm_empty {α : Type} (p : α → Bool) (r : α → Dat) : ∀ ds : List α, (ds.filterMap fun d => if p d then none else some (r d)).isEmpty = ds.all p
  | [] => rfl
  | d :: ds => by
    rw [List.filterMap_cons, List.all_cons]
    cases e : p d with
    | false => simp
    | true => simpa using fm_empty p r ds
theorem none_eq {α : Type} {it : FI} {g : FG} {t : FT} {f : FE} {vs : List Nat} {ρ : Rho} {q : α → Dat} {ds : List α} (p : α → Bool) (r : α → Dat) (hi : it ρ = some (ds.map q, ρ)) (hw : wipeR ρ vs = ρ) (hb : back ρ ρ vs = ρ)
    (hs : ∀ d ∈ ds, stL g t f vs (q d) ρ = some (if p d then none else some (r d), ρ)) (hl : ds.length ≤ 100000) : c2 gEq (cLc it g t f vs) (cLst aNil) ρ = some (.dat (.bl (ds.all p)), ρ) := by
  have h := lcp_map (ρ := ρ) q (fun d => if p d then none else some (r d)) ds [] hs (by simpa using hl)
  rw [List.nil_append] at h
  rw [e_c2, e_cLc, hi]
  simp only
  rw [hw, h]
  simp only
  rw [hb]
  have e := gEq_nil (ds.filterMap fun d => if p d then none else some (r d))
  rw [fm_empty] at e
  generalize (ds.filterMap fun d => if p d then none else some (r d)) = Z at *
  simp [e]
theorem some_eq {α : Type} {it : FI} {g : FG} {t : FT} {f : FE} {vs : List Nat} {ρ : Rho} {q : α → Dat} {ds : List α} (p : α → Bool) (r : α → Dat) (hi : it ρ = some (ds.map q, ρ)) (hw : wipeR ρ vs = ρ) (hb : back ρ ρ vs = ρ)
    (hs : ∀ d ∈ ds, stL g t f vs (q d) ρ = some (if p d then none else some (r d), ρ)) (hl : ds.length ≤ 100000) : c2 gNe (cLc it g t f vs) (cLst aNil) ρ = some (.dat (.bl (!ds.all p)), ρ) := by
  have h := lcp_map (ρ := ρ) q (fun d => if p d then none else some (r d)) ds [] hs (by simpa using hl)
  rw [List.nil_append] at h
  rw [e_c2, e_cLc, hi]
  simp only
  rw [hw, h]
  simp only
  rw [hb]
  have e := gNe_nilL (ds.filterMap fun d => if p d then none else some (r d))
  rw [fm_empty] at e
  generalize (ds.filterMap fun d => if p d then none else some (r d)) = Z at *
  simp [e]
/-! numbers -/
def nmb : Dat → Bool
  | .tup [.int t, .int b] => decide (1 ≤ b) && decide (Int.gcd t b = 1)
  | _ => false
theorem gcd_cast (t b : Int) : decide (((Int.gcd t b : Nat) : Int) = 1) = decide (Int.gcd t b = 1) := by
  by_cases h : Int.gcd t b = 1
  · simp [h]
  · simp [h]; omega
theorem m_is_number_eq {d : Dat} (h : Nic d) : m_is_number [d] = some (.bl (nmb d)) := by
  cases h with
  | tup xs hl hx =>
    match xs, hl, hx with
    | [x, y], hl, hx =>
      have hx1 := hx x (by simp)
      have hy1 := hx y (by simp)
      have e := all_eq (it := iSeq (cVar 0)) (g := gN 1) (f := cCall m_is_whole (aCons (cVar 1) aNil)) (vs := [1]) (ρ := [.val (.tup [x, y]), .un, .un, .un]) (q := id) (ds := [x, y]) wh (by simp) rfl rfl
        (fun d hd => by
          have := m_is_whole_eq (hx d hd)
          simp [stL, this]) (by simp)
      have e1 : sIf (cOr (cNot (cB (c1 (gIsi "tuple") (cVar 0)))) (cOr (cB (c2 gNe (c1 gLen (cVar 0)) (cK (.int 2)))) (cNot (cB (c1 gAll (cLc (iSeq (cVar 0)) (gN 1) tAll (cCall m_is_whole (aCons (cVar 1) aNil)) [1])))))) (sRet (cK (.bl false))) sNil [.val (.tup [x, y]), .un, .un, .un] =
          if ([x, y].all wh) = true then some ([.val (.tup [x, y]), .un, .un, .un], .nx) else some ([.val (.tup [x, y]), .un, .un, .un], .rt (.bl false)) := by
        generalize ([x, y].all wh) = B at *
        cases B <;> simp [↓e]
      simp only [m_is_number, e_mA, e_runA, e_rho0, b_is_number]
      simp only [List.map_cons, List.map_nil, List.length_cons, List.length_nil, List.cons_append, List.nil_append, List.replicate]
      rw [e_sSeq, e1]
      cases hx1 with
      | int t =>
        cases hy1 with
        | int b =>
          have e2 := m_divisor_of_eq t b
          by_cases hb : 1 ≤ b
          · simp [wh, nmb, e2, hb, gcd_cast]
          · simp [wh, nmb, hb]
        | _ => simp [wh, nmb]
      | _ => simp [wh, nmb]
    | [], hl, hx => simp [m_is_number, b_is_number, nmb]
    | [x], hl, hx => simp [m_is_number, b_is_number, nmb]
    | x :: y :: z :: r, hl, hx =>
      have h2 : ¬ ((r.length : Int) + 1 + 1 + 1 = 2) := by omega
      simp [m_is_number, b_is_number, nmb, h2]
  | _ => simp [m_is_number, b_is_number, nmb]
theorem m_law_is_number_eq {d : Dat} (h : Nic d) : m__law_is_number_of [d] = some (.bl (nmb d)) := by
  cases h with
  | tup xs hl hx =>
    match xs, hl, hx with
    | [x, y], hl, hx =>
      have hx1 := m_law_is_whole_eq (hx x (by simp))
      have hy1 := m_law_is_whole_eq (hx y (by simp))
      have hx2 := hx x (by simp)
      have hy2 := hx y (by simp)
      cases hx2 with
      | int t =>
        cases hy2 with
        | int b =>
          have e2 := m_shared_eq t b
          by_cases hb : 1 ≤ b
          · simp [m__law_is_number_of, b__law_is_number_of, hx1, hy1, wh, nmb, e2, hb, gcd_cast]
          · simp [m__law_is_number_of, b__law_is_number_of, hx1, hy1, wh, nmb, hb]
        | _ => simp [m__law_is_number_of, b__law_is_number_of, hx1, hy1, wh, nmb]
      | _ => simp [m__law_is_number_of, b__law_is_number_of, hx1, hy1, wh, nmb]
    | [], hl, hx => simp [m__law_is_number_of, b__law_is_number_of, nmb]
    | [x], hl, hx => simp [m__law_is_number_of, b__law_is_number_of, nmb]
    | x :: y :: z :: r, hl, hx =>
      have h2 : ¬ ((r.length : Int) + 1 + 1 + 1 = 2) := by omega
      simp [m__law_is_number_of, b__law_is_number_of, nmb, h2]
  | _ => simp [m__law_is_number_of, b__law_is_number_of, nmb]
end Dl

set_option Elab.async false
set_option linter.all false
set_option maxRecDepth 100000
set_option maxHeartbeats 8000000
/-! NI: names, cells, grains. -/
namespace Dl
open PySem
def lets : List Nat := (("abcdefghijklmnopqrstuvwxyz" : Str)).cps.toList
def nam : Dat → Bool
  | .str s => (decide (1 ≤ (s.length : Int)) && decide ((s.length : Int) ≤ 6)) && s.cps.toList.all fun c => decide (c ∈ lets)
  | _ => false
theorem gInA_sign (c : Nat) : gInA (.str ⟨#[c]⟩) (.str "abcdefghijklmnopqrstuvwxyz") = some (.bl (decide (c ∈ lets))) := rfl
theorem gIn_sign (c : Nat) : gIn true (.str ⟨#[c]⟩) (.str "abcdefghijklmnopqrstuvwxyz") = some (.bl (!decide (c ∈ lets))) := rfl
theorem gLen_str {s : Str} (h : s.cps.size < 1000) : gLen (.str s) = some (.int s.length) := by
  have h2 : s.length < 1000000 := by
    show s.cps.size < 1000000
    omega
  simp [gLen, h2]
@[simp] theorem gLe_int (a b : Int) : gLe (.int a) (.int b) = some (.bl (decide (a ≤ b))) := rfl
theorem m_is_name_eq {d : Dat} (h : Nic d) : m_is_name [d] = some (.bl (nam d)) := by
  cases h with
  | str s hs =>
    have h1 := gLen_str hs
    have e := all_eq (it := iStrD (cVar 0)) (g := gN 1) (f := c2 gInA (cVar 1) (cK (.str "abcdefghijklmnopqrstuvwxyz"))) (vs := [1]) (ρ := [.val (.str s), .un]) (q := fun c => Dat.str ⟨#[c]⟩) (ds := s.cps.toList) (fun c => decide (c ∈ lets)) (by simp [iStrD]) rfl rfl
      (fun c hc => by simp [stL, gInA_sign]) (by simp; omega)
    generalize hB : (s.cps.toList.all fun c => decide (c ∈ lets)) = B at *
    by_cases h2 : 1 ≤ (s.length : Int)
    · by_cases h3 : (s.length : Int) ≤ 6
      · simp [m_is_name, b_is_name, h1, h2, h3, ↓e, nam, hB]
      · simp [m_is_name, b_is_name, h1, h2, h3, nam]
    · simp [m_is_name, b_is_name, h1, h2, nam]
  | _ => simp [m_is_name, b_is_name, nam]
theorem m_law_is_name_eq {d : Dat} (h : Nic d) : m__law_is_name_of [d] = some (.bl (nam d)) := by
  cases h with
  | str s hs =>
    have h1 := gLen_str hs
    have e := none_eq (it := iStrD (cVar 0)) (g := gN 1) (t := cB (c2 (gIn true) (cVar 1) (cK (.str "abcdefghijklmnopqrstuvwxyz")))) (f := cVar 1) (vs := [1]) (ρ := [.val (.str s), .un]) (q := fun c => Dat.str ⟨#[c]⟩) (ds := s.cps.toList) (fun c => decide (c ∈ lets)) (fun c => Dat.str ⟨#[c]⟩) (by simp [iStrD]) rfl rfl
      (fun c hc => by
        by_cases hm : c ∈ lets
        · simp [stL, gIn_sign, hm]
        · simp [stL, gIn_sign, hm]) (by simp; omega)
    generalize hB : (s.cps.toList.all fun c => decide (c ∈ lets)) = B at *
    by_cases h2 : 1 ≤ (s.length : Int)
    · by_cases h3 : (s.length : Int) ≤ 6
      · simp [m__law_is_name_of, b__law_is_name_of, h1, h2, h3, ↓e, nam, hB]
      · simp [m__law_is_name_of, b__law_is_name_of, h1, h2, h3, nam]
    · simp [m__law_is_name_of, b__law_is_name_of, h1, h2, nam]
  | _ => simp [m__law_is_name_of, b__law_is_name_of, nam]
def wnn : Dat → Bool
  | .int i => decide (0 ≤ i)
  | _ => false
def cel : Dat → Bool
  | .tup xs => decide ((xs.length : Int) ≤ 3) && xs.all wnn
  | _ => false
def gra : Dat → Bool
  | .tup [a, b] => nam a && cel b
  | _ => false
theorem m_law_cell_eq {d : Dat} (h : Nic d) : m__law_is_cell_form [d] = some (.bl (cel d)) := by
  cases h with
  | tup xs hl hx =>
    have e := none_eq (it := iSeq (cVar 0)) (g := gN 1) (t := cOr (cNot (cB (cCall m__law_is_whole (aCons (cVar 1) aNil)))) (cB (c2 gLt (cVar 1) (cK (.int 0))))) (f := cVar 1) (vs := [1]) (ρ := [.val (.tup xs), .un]) (q := id) (ds := xs) wnn id (by simp) rfl rfl
      (fun d hd => by
        have hw := m_law_is_whole_eq (hx d hd)
        have hn := hx d hd
        cases hn with
        | int i =>
          by_cases h0 : 0 ≤ i
          · have h1 : ¬ i < 0 := by omega
            simp [stL, hw, wh, wnn, h0, h1]
          · have h1 : i < 0 := by omega
            simp [stL, hw, wh, wnn, h0, h1]
        | _ => simp [stL, hw, wh, wnn]) (by omega)
    generalize hB : xs.all wnn = B at *
    by_cases h2 : (xs.length : Int) ≤ 3
    · simp [m__law_is_cell_form, b__law_is_cell_form, h2, ↓e, cel, hB]
    · simp [m__law_is_cell_form, b__law_is_cell_form, h2, cel]
  | _ => simp [m__law_is_cell_form, b__law_is_cell_form, cel]
theorem m_law_grain_eq {d : Dat} (h : Nic d) : m__law_is_grain_of [d] = some (.bl (gra d)) := by
  cases h with
  | tup xs hl hx =>
    match xs, hl, hx with
    | [x, y], hl, hx =>
      have h1 := m_law_is_name_eq (hx x (by simp))
      have h2 := m_law_cell_eq (hx y (by simp))
      cases hn : nam x <;> simp [m__law_is_grain_of, b__law_is_grain_of, h1, h2, gra, hn]
    | [], hl, hx => simp [m__law_is_grain_of, b__law_is_grain_of, gra]
    | [x], hl, hx => simp [m__law_is_grain_of, b__law_is_grain_of, gra]
    | x :: y :: z :: r, hl, hx =>
      have h2 : ¬ ((r.length : Int) + 1 + 1 + 1 = 2) := by omega
      simp [m__law_is_grain_of, b__law_is_grain_of, gra, h2]
  | _ => simp [m__law_is_grain_of, b__law_is_grain_of, gra]
theorem m_is_grain_eq {d : Dat} (h : Nic d) : m_is_grain [d] = some (.bl (gra d)) := by
  cases h with
  | tup xs hl hx =>
    match xs, hl, hx with
    | [x, y], hl, hx =>
      have h1 := m_is_name_eq (hx x (by simp))
      have hy := hx y (by simp)
      cases hn : nam x with
      | false => simp [m_is_grain, b_is_grain, h1, gra, hn]
      | true =>
        cases hy with
        | tup ys hyl hyx =>
          have e := all_eq (it := iSeq (c2 gIxA (cVar 0) (cK (.int 1)))) (g := gN 1) (f := cAndV (cCall m_is_whole (aCons (cVar 1) aNil)) (c2 gGe (cVar 1) (cK (.int 0)))) (vs := [1]) (ρ := [.val (.tup [x, .tup ys]), .un]) (q := id) (ds := ys) wnn (by simp) rfl rfl
            (fun d hd => by
              have hw := m_is_whole_eq (hyx d hd)
              have hn := hyx d hd
              cases hn <;> simp [stL, hw, wh, wnn]) (by omega)
          generalize hB : ys.all wnn = B at *
          by_cases h2 : (ys.length : Int) ≤ 3
          · have h3 : ¬ (3 : Int) < ys.length := by omega
            simp [m_is_grain, b_is_grain, h1, hn, h2, h3, ↓e, gra, cel, hB]
          · have h3 : (3 : Int) < ys.length := by omega
            simp [m_is_grain, b_is_grain, h1, hn, h2, h3, gra, cel]
        | _ => simp [m_is_grain, b_is_grain, h1, hn, gra, cel]
    | [], hl, hx => simp [m_is_grain, b_is_grain, gra]
    | [x], hl, hx => simp [m_is_grain, b_is_grain, gra]
    | x :: y :: z :: r, hl, hx =>
      have h2 : ¬ ((r.length : Int) + 1 + 1 + 1 = 2) := by omega
      simp [m_is_grain, b_is_grain, gra, h2]
  | _ => simp [m_is_grain, b_is_grain, gra]
end Dl

set_option Elab.async false
set_option linter.all false
set_option maxRecDepth 100000
set_option maxHeartbeats 8000000
/-! NJ: parts, lines, forms. -/
namespace Dl
open PySem
def nz : Dat → Bool
  | .tup [.int t, _] => decide (t ≠ 0)
  | _ => false
def prt : Dat → Bool
  | .tup [g, w] => gra g && (nmb w && nz w)
  | _ => false
theorem gNe_nu (t b : Int) : gNe (.tup [.int t, .int b]) (.tup [.int 0, .int 1]) = some (.bl (!(decide (t = 0) && decide (b = 1)))) := by
  simp [gNe, lenNe, okD, okDs, eqD, toPy, toPys, PyData.eqv, PyData.eqvAll, Bool.beq_eq_decide_eq]
theorem nmb_of {d : Dat} (h : nmb d = true) : ∃ t b : Int, d = .tup [.int t, .int b] ∧ 1 ≤ b ∧ Int.gcd t b = 1 := by
  unfold nmb at h
  split at h
  · simp at h
    exact ⟨_, _, rfl, h.1, h.2⟩
  · cases h
theorem m_is_part_eq {d : Dat} (h : Nic d) : m_is_part [d] = some (.bl (prt d)) := by
  cases h with
  | tup xs hl hx =>
    match xs, hl, hx with
    | [x, y], hl, hx =>
      have h1 := m_is_grain_eq (hx x (by simp))
      have h2 := m_is_number_eq (hx y (by simp))
      cases hn : gra x with
      | false => simp [m_is_part, b_is_part, h1, hn, prt]
      | true =>
        cases hm : nmb y with
        | false => simp [m_is_part, b_is_part, h1, h2, hn, hm, prt]
        | true =>
          obtain ⟨t, b, rfl, hb, hg⟩ := nmb_of hm
          have h3 := gNe_nu t b
          have h4 : (!(decide (t = 0) && decide (b = 1))) = decide (t ≠ 0) := by
            by_cases ht : t = 0
            · subst ht
              have : b = 1 := by rw [Int.gcd_zero_left] at hg; omega
              simp [this]
            · simp [ht]
          rw [h4] at h3
          simp [m_is_part, b_is_part, h1, h2, hn, hm, prt, h3, nz]
    | [], hl, hx => simp [m_is_part, b_is_part, prt]
    | [x], hl, hx => simp [m_is_part, b_is_part, prt]
    | x :: y :: z :: r, hl, hx =>
      have h2 : ¬ ((r.length : Int) + 1 + 1 + 1 = 2) := by omega
      simp [m_is_part, b_is_part, prt, h2]
  | _ => simp [m_is_part, b_is_part, prt]
/-! grains again -/
theorem ints_of : ∀ {xs : List Dat}, xs.all wnn = true → ∃ is : List Int, xs = is.map .int
  | [], _ => ⟨[], rfl⟩
  | x :: xs, h => by
    rw [List.all_cons, Bool.and_eq_true] at h
    obtain ⟨is, rfl⟩ := ints_of h.2
    have h1 := h.1
    unfold wnn at h1
    split at h1
    · exact ⟨_ :: is, rfl⟩
    · cases h1
theorem lets_ok : lets.all (fun c => decide (c < 0x110000)) = true := by decide +kernel
theorem gra_dg {g : Dat} (h : gra g = true) : ∃ r : Gr, g = dg r ∧ Gk r := by
  unfold gra at h
  split at h
  · rename_i a b
    rw [Bool.and_eq_true] at h
    obtain ⟨h1, h2⟩ := h
    unfold nam at h1
    split at h1
    · rename_i s
      unfold cel at h2
      split at h2
      · rename_i xs
        simp only [Bool.and_eq_true] at h1 h2
        obtain ⟨is, rfl⟩ := ints_of h2.2
        refine ⟨(s, is), rfl, ?_⟩
        have h4 : ∀ c ∈ s.cps.toList, c < 0x110000 := fun c hc => by
          have h5 := List.all_eq_true.mp h1.2 c hc
          have h6 := List.all_eq_true.mp lets_ok c (by simpa using h5)
          simpa using h6
        show PyData.strOk s = true
        unfold PyData.strOk
        rw [Array.all_eq_true]
        intro i hi
        have := h4 s.cps[i] (by simp)
        simpa using this
      · cases h2
    · cases h1
  · cases h
theorem gLt_dg {a b : Gr} (ha : Gk a) (hb : Gk b) : gLt (dg a) (dg b) = some (.bl (glt a b)) := by
  have h1 := okD_dg (n := 59) ha
  have h2 := okD_dg (n := 59) hb
  have h3 := likeD_dg a b
  unfold dg at h1 h2 h3 ⊢
  simp only [okD] at h1 h2
  simp only [gLt]
  rw [if_pos ⟨h1, h2, h3⟩]
  rfl
def ris : List Gr → Bool
  | a :: b :: r => glt a b && ris (b :: r)
  | _ => true
/-- the grains of a row of parts -/
theorem parts_of : ∀ {xs : List Dat}, xs.all prt = true → ∃ ps : List (Gr × Dat), xs = ps.map (fun p => .tup [dg p.1, p.2]) ∧ ∀ p ∈ ps, Gk p.1
  | [], _ => ⟨[], rfl, fun _ h => nomatch h⟩
  | x :: xs, h => by
    rw [List.all_cons, Bool.and_eq_true] at h
    obtain ⟨ps, rfl, hps⟩ := parts_of h.2
    have h1 := h.1
    unfold prt at h1
    split at h1
    · rename_i g w
      rw [Bool.and_eq_true] at h1
      obtain ⟨r, rfl, hr⟩ := gra_dg h1.1
      refine ⟨(r, w) :: ps, rfl, fun p hp => ?_⟩
      rcases List.mem_cons.mp hp with rfl | hp
      · exact hr
      · exact hps p hp
    · cases h1
/-- told by a match on the parts, so that both defs tell the same -/
def risD (xs : List Dat) : Bool := (xs.zip (xs.drop 1)).all fun p => match p.1, p.2 with
  | .tup [g, _], .tup [h, _] => ltD g h
  | _, _ => false
def lin : Dat → Bool
  | .tup xs => xs.all prt && risD xs
  | _ => false
theorem risD_ps : ∀ ps : List (Gr × Dat), risD (ps.map fun p => .tup [dg p.1, p.2]) = ris (ps.map (·.1))
  | [] => rfl
  | [p] => rfl
  | p :: q :: ps => by
    have ih := risD_ps (q :: ps)
    unfold risD at ih ⊢
    simp only [List.map_cons, List.drop_succ_cons, List.drop_zero, List.zip_cons_cons, List.all_cons, ris] at ih ⊢
    rw [← ih]
    rfl
theorem zipD_eq : ∀ xs ys : List Dat, zipD xs ys = (xs.zip ys).map fun p => .wtp [p.1, p.2]
  | [], _ => by simp [zipD]
  | _ :: _, [] => by simp [zipD]
  | x :: xs, y :: ys => by
    have ih := zipD_eq xs ys
    simp [zipD] at ih ⊢
    exact ih
theorem cut1 (xs : List Dat) : cutL xs (some 1) none = xs.drop 1 := by
  have h1 : HT.sIx xs.length 0 (some 1) = min 1 xs.length := HT.sIx_nat xs.length 0 1
  have h2 : HT.sIx xs.length xs.length none = xs.length := rfl
  unfold cutL
  rw [h1, h2]
  cases xs with
  | nil => rfl
  | cons x xs =>
    have h3 : min 1 (x :: xs).length = 1 := by simp
    rw [h3]
    simp
theorem m_is_line_eq {d : Dat} (h : Nic d) : m_is_line [d] = some (.bl (lin d)) := by
  cases h with
  | tup xs hl hx =>
    have e := all_eq (it := iSeq (cVar 0)) (g := gN 1) (f := cCall m_is_part (aCons (cVar 1) aNil)) (vs := [1]) (ρ := [.val (.tup xs), .un, .un, .un]) (q := id) (ds := xs) prt (by simp) rfl rfl
      (fun d hd => by
        have := m_is_part_eq (hx d hd)
        simp [stL, this]) (by omega)
    cases hB : xs.all prt with
    | false =>
      rw [hB] at e
      simp [m_is_line, b_is_line, ↓e, lin, hB]
    | true =>
      rw [hB] at e
      obtain ⟨ps, hps, hgk⟩ := parts_of hB
      have e2 := all_eq (it := iZip (aCons (cVar 0) (aCons (cSl (cVar 0) (oSome (cK (.int 1))) oNone) aNil))) (g := gT 2 (gCons' (gN 2) (gCons' (gN 3) gNil'))) (f := c2 gLt (c2 gIxA (cVar 2) (cK (.int 0))) (c2 gIxA (cVar 3) (cK (.int 0)))) (vs := [2, 3]) (ρ := [.val (.tup xs), .un, .un, .un])
        (q := fun p : Dat × Dat => .wtp [p.1, p.2]) (ds := xs.zip (xs.drop 1)) (fun p => match p.1, p.2 with | .tup [g, _], .tup [h, _] => ltD g h | _, _ => false) (by simp [iZip, gSl, cut1, zipD_eq]) rfl rfl
        (fun p hp => by
          obtain ⟨x, y⟩ := p
          have hx1 : x ∈ xs := (List.of_mem_zip hp).1
          have hy1 : y ∈ xs := List.mem_of_mem_drop (List.of_mem_zip hp).2
          rw [hps] at hx1 hy1
          obtain ⟨p, hp1, rfl⟩ := List.mem_map.mp hx1
          obtain ⟨q, hq1, rfl⟩ := List.mem_map.mp hy1
          have hlt := gLt_dg (hgk p hp1) (hgk q hq1)
          simp [stL, hlt, glt]) (by simp; omega)
      simp [m_is_line, b_is_line, ↓e, ↓e2, lin, hB, risD]
  | _ => simp [m_is_line, b_is_line, lin]
theorem m_is_form_eq {d : Dat} (h : Nic d) : ∃ b, m_is_form [d] = some (.bl b) ∧ b = match d with
    | .tup [c, l] => nmb c && lin l
    | _ => false := by
  cases h with
  | tup xs hl hx =>
    match xs, hl, hx with
    | [x, y], hl, hx =>
      have h1 := m_is_number_eq (hx x (by simp))
      have h2 := m_is_line_eq (hx y (by simp))
      refine ⟨nmb x && lin y, ?_, rfl⟩
      cases hn : nmb x <;> simp [m_is_form, b_is_form, h1, h2, hn]
    | [], hl, hx => exact ⟨false, by simp [m_is_form, b_is_form], rfl⟩
    | [x], hl, hx => exact ⟨false, by simp [m_is_form, b_is_form], rfl⟩
    | x :: y :: z :: r, hl, hx =>
      have h2 : ¬ ((r.length : Int) + 1 + 1 + 1 = 2) := by omega
      exact ⟨false, by simp [m_is_form, b_is_form, h2], rfl⟩
  | _ => exact ⟨false, by simp [m_is_form, b_is_form], rfl⟩
/-! the law's own -/
def rp (gs : List Gr) (i : Nat) : Bool := match gs[i]?, gs[i + 1]? with
  | some a, some b => glt a b
  | _, _ => true
theorem rp_all : ∀ gs : List Gr, (List.range (gs.length - 1)).all (rp gs) = ris gs
  | [] => rfl
  | [g] => rfl
  | a :: b :: r => by
    have ih := rp_all (b :: r)
    have e : (a :: b :: r).length - 1 = ((b :: r).length - 1) + 1 := by simp
    rw [e, List.range_succ_eq_map, List.all_cons, List.all_map, ris, ← ih]
    rfl
theorem ris_hr (L : List Dat) (hl : L.length < 10000) : iR2 (aCons (cK (.int 1)) (aCons (c1 gLen (cVar 0)) aNil)) [.val (.lst L), .un] = some ((List.range (L.length - 1)).map (fun i : Nat => Dat.int (1 + i)), [.val (.lst L), .un]) := by
  have h0 : -(2 ^ 62 : Int) ≤ 1 := by omega
  have h00 : (1 : Int) < 2 ^ 62 := by omega
  have h1 : -(2 ^ 62 : Int) ≤ (L.length : Int) := by omega
  have h2 : (L.length : Int) < 2 ^ 62 := by omega
  have h3 : ((L.length : Int) - 1).toNat = L.length - 1 := by omega
  have hf : aCons (cK (.int 1)) (aCons (c1 gLen (cVar 0)) aNil) [.val (.lst L), .un] = some ([.int 1, .int L.length], [.val (.lst L), .un]) := by simp
  unfold iR2
  rw [hf]
  simp only
  rw [if_pos ⟨h0, h00, h1, h2⟩, h3]
  rfl
theorem ris_st {L : List Dat} {a b : Dat} {i : Nat} {z : Bool} (x1 : gIxA (.lst L) (.int (1 + (i : Int) - 1)) = some a) (x2 : gIxA (.lst L) (.int (1 + (i : Int))) = some b) (x3 : gLt a b = some (.bl z)) :
    stL (gN 1) (cNot (cB (c2 gLt (c2 gIxA (cVar 0) (c2 gSub (cVar 1) (cK (.int 1)))) (c2 gIxA (cVar 0) (cVar 1))))) (cVar 1) [1] (.int (1 + (i : Int))) [.val (.lst L), .un] = some (if z then none else some (.int (1 + (i : Int))), [.val (.lst L), .un]) := by
  have hg : gN 1 (.int (1 + (i : Int))) [.val (.lst L), .un] = some [.val (.lst L), .val (.int (1 + (i : Int)))] := rfl
  unfold stL
  rw [hg]
  generalize hj : (1 + (i : Int)) = j at *
  cases z <;> simp [-e_gIxL, x1, x2, x3]
theorem ris_x {gs : List Gr} {i : Nat} (h : i < gs.length) : L2.atI (gs.map dg) (i : Int) = some (dg gs[i]) := by
  have h1 : i < (gs.map dg).length := by rw [List.length_map]; exact h
  rw [at_nat _ _ h1, List.getElem?_map, List.getElem?_eq_getElem h]
  rfl
theorem ris_step {gs : List Gr} (hk : ∀ g ∈ gs, Gk g) {i : Nat} (hi : i + 1 < gs.length) :
    stL (gN 1) (cNot (cB (c2 gLt (c2 gIxA (cVar 0) (c2 gSub (cVar 1) (cK (.int 1)))) (c2 gIxA (cVar 0) (cVar 1))))) (cVar 1) [1] (.int (1 + (i : Int))) [.val (.lst (gs.map dg)), .un] = some (if rp gs i then none else some (.int (1 + (i : Int))), [.val (.lst (gs.map dg)), .un]) := by
  have hi0 : i < gs.length := by omega
  have x1 : gIxA (.lst (gs.map dg)) (.int (1 + (i : Int) - 1)) = some (dg gs[i]) := by
    have e0 : (1 + (i : Int) - 1) = (i : Int) := by omega
    rw [e0]
    exact ris_x hi0
  have x2 : gIxA (.lst (gs.map dg)) (.int (1 + (i : Int))) = some (dg gs[i + 1]) := by
    have e0 : (1 + (i : Int)) = ((i + 1 : Nat) : Int) := by omega
    rw [e0]
    exact ris_x hi
  have m1 : gs[i] ∈ gs := List.getElem_mem hi0
  have m2 : gs[i + 1] ∈ gs := List.getElem_mem hi
  have x3 := gLt_dg (hk _ m1) (hk _ m2)
  have x4 : rp gs i = glt gs[i] gs[i + 1] := by unfold rp; rw [List.getElem?_eq_getElem hi0, List.getElem?_eq_getElem hi]
  rw [x4]
  exact ris_st x1 x2 x3
theorem ris_e {gs : List Gr} (hk : ∀ g ∈ gs, Gk g) (hl : gs.length < 10000) : c2 gEq (cLc (iR2 (aCons (cK (.int 1)) (aCons (c1 gLen (cVar 0)) aNil))) (gN 1) (cNot (cB (c2 gLt (c2 gIxA (cVar 0) (c2 gSub (cVar 1) (cK (.int 1)))) (c2 gIxA (cVar 0) (cVar 1))))) (cVar 1) [1]) (cLst aNil) [.val (.lst (gs.map dg)), .un] = some (.dat (.bl (ris gs)), [.val (.lst (gs.map dg)), .un]) := by
  have hl2 : (gs.map dg).length < 10000 := by rw [List.length_map]; exact hl
  have hr := ris_hr (gs.map dg) hl2
  rw [List.length_map] at hr
  have hl3 : (List.range (gs.length - 1)).length ≤ 100000 := by rw [List.length_range]; omega
  have e := none_eq (q := fun i : Nat => Dat.int (1 + i)) (ds := List.range (gs.length - 1)) (rp gs) (fun i : Nat => Dat.int (1 + i)) hr (vs := [1]) rfl rfl
    (fun i hi => ris_step hk (by have := List.mem_range.mp hi; omega)) hl3
  rw [rp_all] at e
  exact e
theorem sRet_of {f : FE} {ρ ρ1 : Rho} {d : Dat} (h : f ρ = some (.dat d, ρ1)) : sRet f ρ = some (ρ1, .rt d) := by rw [e_sRet, h]
theorem cCall_of {m : List Dat → Option Dat} {f : FA} {ρ ρ1 : Rho} {ds : List Dat} {d : Dat} (hf : f ρ = some (ds, ρ1)) (hm : m ds = some d) : cCall m f ρ = some (.dat d, ρ1) := by
  rw [e_cCall, hf]
  simp [hm]
theorem mA12 {b : FS} {x d : Dat} {ρ : Rho} (h : b [.val x, .un] = some (ρ, .rt d)) : mA 1 2 b [x] = some d := by simp [h]
theorem mA14 {b : FS} {x d : Dat} {ρ : Rho} (h : b [.val x, .un, .un, .un] = some (ρ, .rt d)) : mA 1 4 b [x] = some d := by simp [h, List.replicate]
theorem sSeq_rt {f g : FS} {ρ ρ1 : Rho} {d : Dat} (h : f ρ = some (ρ1, .rt d)) : sSeq f g ρ = some (ρ1, .rt d) := by rw [e_sSeq, h]
theorem if_rt {t : FT} {d : Dat} {ρ : Rho} (h : t ρ = some (true, ρ)) : sIf t (sRet (cK d)) sNil ρ = some (ρ, .rt d) := by
  rw [e_sIf, h]
  rfl
theorem m_rising_eq {gs : List Gr} (hk : ∀ g ∈ gs, Gk g) (hl : gs.length < 10000) : m__law_are_rising [.lst (gs.map dg)] = some (.bl (ris gs)) :=
  mA12 (b := b__law_are_rising) (sRet_of (ris_e hk hl))
def sh2 : Dat → Bool
  | .tup [_, _] => true
  | _ => false
theorem sh2_len {x : Dat} (h : Nic x) : sh2 x = match x with | .tup xs => decide ((xs.length : Int) = 2) | _ => false := by
  cases h with
  | tup xs hl hx =>
    match xs with
    | [] => rfl
    | [x] => rfl
    | [x, y] => rfl
    | x :: y :: z :: r =>
      have h2 : ¬ ((r.length : Int) + 1 + 1 + 1 = 2) := by omega
      simp [sh2, h2]
  | _ => rfl
theorem prt_sh2 {x : Dat} (h : prt x = true) : sh2 x = true := by
  unfold prt at h
  split at h
  · rfl
  · cases h
theorem sh2_of {x : Dat} (h : sh2 x = true) : ∃ g w, x = .tup [g, w] := by
  unfold sh2 at h
  split at h
  · exact ⟨_, _, rfl⟩
  · cases h
theorem nz_of {w : Dat} (h : nmb w = true) : ∃ t : Int, gIxA w (.int 0) = some (.int t) ∧ nz w = decide (t ≠ 0) := by
  obtain ⟨t, b, rfl, _, _⟩ := nmb_of h
  exact ⟨t, by simp, rfl⟩
theorem all_sh2 {xs : List Dat} (h : xs.all prt = true) : xs.all sh2 = true := by
  rw [List.all_eq_true] at *
  exact fun x hx => prt_sh2 (h x hx)
theorem all_prt_f {xs : List Dat} (h : xs.all sh2 = false) : xs.all prt = false := by
  cases e : xs.all prt with
  | false => rfl
  | true => rw [all_sh2 e] at h; cases h
theorem m_law_is_line_eq {d : Dat} (h : Nic d) : m__law_is_line_of [d] = some (.bl (lin d)) := by
  cases h with
  | tup xs hl hx =>
    have e := some_eq (it := iSeq (cVar 0)) (g := gN 1) (t := cOr (cNot (cB (c1 (gIsi "tuple") (cVar 1)))) (cB (c2 gNe (c1 gLen (cVar 1)) (cK (.int 2))))) (f := cVar 1) (vs := [1]) (ρ := [.val (.tup xs), .un, .un, .un]) (q := id) (ds := xs) sh2 id (by simp) rfl rfl
      (fun d hd => by
        have hn := hx d hd
        have hs := sh2_len hn
        cases hn with
        | tup ys hyl hyx =>
          simp only at hs
          by_cases h2 : (ys.length : Int) = 2
          · simp [stL, hs, h2]
          · simp [stL, hs, h2]
        | _ => simp [stL, hs]) (by omega)
    cases hB : xs.all sh2 with
    | false =>
      have hp := all_prt_f hB
      rw [hB] at e
      have hlin : lin (.tup xs) = false := by simp [lin, hp]
      rw [hlin]
      exact mA14 (b := b__law_is_line_of) (sSeq_rt (if_rt (by simp [↓e])))
    | true =>
      rw [hB] at e
      have e2 := some_eq (it := iSeq (cVar 0)) (g := gT 2 (gCons' (gN 2) (gCons' (gN 3) gNil'))) (t := cOr (cNot (cB (cCall m__law_is_grain_of (aCons (cVar 2) aNil)))) (cOr (cNot (cB (cCall m__law_is_number_of (aCons (cVar 3) aNil)))) (cB (c2 gEq (c2 gIxA (cVar 3) (cK (.int 0))) (cK (.int 0)))))) (f := cK (.int 1)) (vs := [2, 3]) (ρ := [.val (.tup xs), .un, .un, .un]) (q := id) (ds := xs) prt (fun _ => .int 1) (by simp) rfl rfl
        (fun d hd => by
          obtain ⟨g, w, rfl⟩ := sh2_of (List.all_eq_true.mp hB d hd)
          cases (hx _ hd) with
          | tup _ hl2 hx2 =>
            have h1 := m_law_grain_eq (hx2 g (by simp))
            have h2 := m_law_is_number_eq (hx2 w (by simp))
            cases hg : gra g with
            | false => simp [stL, h1, hg, prt]
            | true =>
              cases hw : nmb w with
              | false => simp [stL, h1, hg, h2, hw, prt]
              | true =>
                obtain ⟨t, t1, t2⟩ := nz_of hw
                by_cases ht : t = 0
                · simp [stL, h1, hg, h2, hw, prt, t1, t2, ht]
                · simp [stL, h1, hg, h2, hw, prt, t1, t2, ht]) (by omega)
      cases hC : xs.all prt with
      | false =>
        rw [hC] at e2
        have hlin : lin (.tup xs) = false := by simp [lin, hC]
        rw [hlin]
        exact mA14 (b := b__law_is_line_of) ((sSeq_nx (if_no (by simp [↓e]))).trans (sSeq_rt (if_rt (by simp [↓e2]))))
      | true =>
        rw [hC] at e2
        obtain ⟨ps, hps, hgk⟩ := parts_of hC
        have e3 := lcp_map (g := gT 2 (gCons' (gN 2) (gCons' (gN 3) gNil'))) (t := tAll) (f := cVar 2) (vs := [2, 3]) (ρ := [.val (.tup xs), .un, .un, .un]) (fun p : Gr × Dat => .tup [dg p.1, p.2]) (fun p => some (dg p.1)) ps []
          (fun p hp => by simp [stL]) (by have := congrArg List.length hps; simp at this ⊢; omega)
        have hm : ([] : List Dat) ++ ps.filterMap (fun p => some (dg p.1)) = (ps.map (·.1)).map dg := by simp
        rw [hm, ← hps] at e3
        have e4 := m_rising_eq (gs := ps.map (·.1)) (fun g hg => by
          obtain ⟨p, hp, rfl⟩ := List.mem_map.mp hg
          exact hgk p hp) (by have := congrArg List.length hps; simp at this ⊢; omega)
        have hr : risD xs = ris (ps.map (·.1)) := by rw [hps]; exact risD_ps ps
        clear hps
        generalize (ps.map (·.1)).map dg = L at *
        have hlin : lin (.tup xs) = ris (ps.map (·.1)) := by simp [lin, hC, hr]
        rw [hlin]
        exact mA14 (b := b__law_is_line_of) ((sSeq_nx (if_no (by simp [↓e]))).trans ((sSeq_nx (if_no (by simp [↓e2]))).trans (sRet_of (cCall_of (ρ1 := [.val (.tup xs), .un, .un, .un]) (by simp [e3]; rfl) e4))))
  | _ => simp [m__law_is_line_of, b__law_is_line_of, lin]
theorem m_law_is_form_eq {d : Dat} (h : Nic d) : ∃ b, m__law_is_form_of [d] = some (.bl b) ∧ b = match d with
    | .tup [c, l] => nmb c && lin l
    | _ => false := by
  cases h with
  | tup xs hl hx =>
    match xs, hl, hx with
    | [x, y], hl, hx =>
      have h1 := m_law_is_number_eq (hx x (by simp))
      have h2 := m_law_is_line_eq (hx y (by simp))
      refine ⟨nmb x && lin y, ?_, rfl⟩
      cases hn : nmb x <;> simp [m__law_is_form_of, b__law_is_form_of, h1, h2, hn]
    | [], hl, hx => exact ⟨false, by simp [m__law_is_form_of, b__law_is_form_of], rfl⟩
    | [x], hl, hx => exact ⟨false, by simp [m__law_is_form_of, b__law_is_form_of], rfl⟩
    | x :: y :: z :: r, hl, hx =>
      have h2 : ¬ ((r.length : Int) + 1 + 1 + 1 = 2) := by omega
      exact ⟨false, by simp [m__law_is_form_of, b__law_is_form_of, h2], rfl⟩
  | _ => exact ⟨false, by simp [m__law_is_form_of, b__law_is_form_of], rfl⟩
/-- both sides judge alike -/
theorem judge {d : Dat} (h : Nic d) : ∃ x y z : Bool, m_is_grain [d] = some (.bl x) ∧ m_is_line [d] = some (.bl y) ∧ m_is_form [d] = some (.bl z) ∧
    m__law_is_grain_of [d] = some (.bl x) ∧ m__law_is_line_of [d] = some (.bl y) ∧ m__law_is_form_of [d] = some (.bl z) := by
  obtain ⟨b, h1, h2⟩ := m_is_form_eq h
  obtain ⟨b', h3, h4⟩ := m_law_is_form_eq h
  rw [← h2] at h4
  subst h4
  exact ⟨_, _, _, m_is_grain_eq h, m_is_line_eq h, h1, m_law_grain_eq h, m_law_is_line_eq h, h3⟩
end Dl

set_option Elab.async false
set_option linter.all false
set_option maxRecDepth 100000
set_option maxHeartbeats 8000000
/-! NK: bent things. -/
namespace Dl
open PySem
def NicL (xs : List Dat) : Prop := ∀ x ∈ xs, Nic x
theorem NicL.nil : NicL [] := fun _ h => nomatch h
theorem NicL.cons {x : Dat} {xs : List Dat} (h : Nic x) (k : NicL xs) : NicL (x :: xs) := fun y hy => by
  rcases List.mem_cons.mp hy with rfl | hy
  · exact h
  · exact k y hy
theorem NicL.app {xs ys : List Dat} (h : NicL xs) (k : NicL ys) : NicL (xs ++ ys) := fun y hy => by
  rcases List.mem_append.mp hy with hy | hy
  · exact h y hy
  · exact k y hy
theorem nic_tup {xs : List Dat} (h : NicL xs) (hl : xs.length < 10000) : Nic (.tup xs) := .tup xs hl h
theorem nic_lst {xs : List Dat} (h : NicL xs) (hl : xs.length < 10000) : Nic (.lst xs) := .lst xs hl h
theorem nic_ints (is : List Int) : NicL (is.map .int) := fun x hx => by
  obtain ⟨i, _, rfl⟩ := List.mem_map.mp hx
  exact .int i
theorem nic_dg {g : Gr} (h : Go g) : Nic (dg g) := by
  obtain ⟨_, h2, h3⟩ := h
  exact nic_tup (.cons (.str _ (by omega)) (.cons (nic_tup (nic_ints _) (by simp; omega)) .nil)) (by simp)
theorem nic_nq (q : Rat) : Nic (nq q) := nic_tup (.cons (.int _) (.cons (.int _) .nil)) (by simp)
theorem nic_dp {p : Gr × Rat} (h : Go p.1) : Nic (dp p) := nic_tup (.cons (nic_dg h) (.cons (nic_nq _) .nil)) (by simp)
theorem nicL_dp {l : Tb} (h : ∀ g ∈ keys l, Go g) : NicL (l.map dp) := fun x hx => by
  obtain ⟨p, hp, rfl⟩ := List.mem_map.mp hx
  exact nic_dp (h _ (mem_keys hp))
theorem nic_dl {l : Tb} (h : ∀ g ∈ keys l, Go g) (hl : l.length ≤ 1000) : Nic (dl l) := nic_tup (nicL_dp h) (by simp; omega)
theorem bweight_ex {c : Dat} (h : PoolOk c) : ∃ (x c' : Dat), m__law_bent_weight c [] = some (x, c') ∧ Nic x ∧ PoolOk c' := by
  obtain ⟨x, c', e, hx, p⟩ := chosen_ex (xs := [.tup [.int 0, .int 1], .tup [.int 0, .int 2], .tup [.int 2, .int 4], .tup [.int 1, .int 0], .tup [.int 1, .int (-1)], .tup [.int (-2), .int (-4)], .tup [.bl true, .int 1], .tup [.int 1, .bl true], .int 1, .non, .bl true, .str "1", .lst [.int 1, .int 1], .tup [.int 1], .tup [.int 1, .int 1, .int 1], .tup [.str "1", .int 1]]) h (by simp) (by simp)
  refine ⟨x, c', by simp [m__law_bent_weight, b__law_bent_weight, e], ?_, p⟩
  revert x
  intro x e hx
  refine (show NicL _ from ?_) x hx
  repeat' first
    | exact NicL.nil
    | refine NicL.cons ?_ ?_
    | exact Nic.non
    | exact Nic.bl _
    | exact Nic.int _
    | exact Nic.str _ (by decide +kernel)
    | refine nic_tup ?_ (by simp)
    | refine nic_lst ?_ (by simp)
theorem bgrain_ex {c : Dat} {g : Gr} (h : PoolOk c) (hg : Go g) : ∃ (x c' : Dat), m__law_bent_grain c [dg g] = some (x, c') ∧ Nic x ∧ PoolOk c' := by
  obtain ⟨hk, h3, h6⟩ := hg
  obtain ⟨C, hC⟩ : ∃ C, C = g.2.map Dat.int := ⟨_, rfl⟩
  have hCl : C.length ≤ 3 := by rw [hC]; simpa using h3
  have hCn : NicL C := by rw [hC]; exact nic_ints _
  have hs : Nic (.str g.1) := .str _ (by omega)
  have hc1 : C.length + 1 < 1000000 := by omega
  obtain ⟨x, c', e, hx, p⟩ := chosen_ex (xs := [.tup [.str "", .tup C], .tup [.str "A", .tup C], .tup [.str "abcdefg", .tup C], .tup [.str "a1", .tup C], .tup [.str "a b", .tup C], .tup [.int 5, .tup C], .tup [.non, .tup C], .tup [.str g.1, .lst C], .tup [.str g.1, .int 0], .tup [.str g.1, .non],
    .tup [.str g.1, .tup (C ++ [.int (-1)])], .tup [.str g.1, .tup (C ++ [.bl true])], .tup [.str g.1, .tup [.int 0, .int 0, .int 0, .int 0]], .tup [.str g.1, .tup (C ++ [.str "0"])], .tup [.str g.1], .tup [.str g.1, .tup C, .int 0], .lst [.str g.1, .tup C], .str g.1, .tup C,
    .tup [.str g.1, .tup [.non]], .tup [.tup C, .str g.1], .tup [.str g.1, .tup (C ++ [.tup [.int 0]])]]) h (by simp) (by simp)
  have hdg : dg g = .tup [.str g.1, .tup C] := by rw [hC]; rfl
  refine ⟨x, c', ?_, ?_, p⟩
  · rw [hdg]
    simp [m__law_bent_grain, b__law_bent_grain, gAdd, hc1, gList, cExt, e]
  · refine (show NicL _ from ?_) x hx
    repeat' first
      | exact NicL.nil
      | exact hCn
      | exact hs
      | refine NicL.cons ?_ ?_
      | refine NicL.app ?_ ?_
      | exact Nic.non
      | exact Nic.bl _
      | exact Nic.int _
      | exact Nic.str _ (by decide +kernel)
      | refine nic_tup ?_ (by first | omega | (simp; done) | (simp; omega))
      | refine nic_lst ?_ (by first | omega | (simp; done) | (simp; omega))
theorem nic_eq {xs : List Dat} : NicL xs → ∀ x ∈ xs, Nic x := id
theorem nil_line {l : Tb} (h : ∀ g ∈ keys l, Go g) : gEq (dl l) (.tup []) = some (.bl l.isEmpty) := by
  have ok : okD 60 (dl l) = true := by
    have : okDs 59 (l.map dp) = true := by
      induction l with
      | nil => rfl
      | cons p l ih =>
        have h1 := okD_dg (n := 56) (h p.1 (mem_keys List.mem_cons_self)).1
        have h2 := okD_nq (n := 57) p.2
        rw [List.map_cons, okDs, ih fun g hg => h g (by unfold keys at *; exact List.mem_cons_of_mem _ hg)]
        simp [dp, okD, okDs, h1, h2]
    exact this
  have hl : lenNe (dl l) (.tup []) = false := rfl
  have ok2 : okD 60 (.tup []) = true := rfl
  unfold gEq
  rw [hl, if_neg (by simp), if_pos ⟨ok, ok2⟩]
  cases l with
  | nil => simp [dl, eqD, toPy, toPys, PyData.eqv, PyData.eqvAll]
  | cons p l => simp [dl, eqD, toPy, toPys, PyData.eqv, PyData.eqvAll]
theorem cut_mem {xs : List Dat} {lo hi : Option Int} (h : NicL xs) : NicL (cutL xs lo hi) := fun x hx => by
  unfold cutL at hx
  exact h x (List.mem_of_mem_drop (List.mem_of_mem_take hx))
theorem cut_len (xs : List Dat) (lo hi : Option Int) : (cutL xs lo hi).length ≤ xs.length := by
  unfold cutL
  rw [List.length_take, List.length_drop]
  omega
theorem nic_rev {xs : List Dat} (h : NicL xs) : NicL xs.reverse := fun x hx => h x (List.mem_reverse.mp hx)
theorem bline_ex {c : Dat} {l : Tb} (h : PoolOk c) (hg : ∀ g ∈ keys l, Go g) (hl : l.length ≤ 1000) : ∃ (x c' : Dat), m__law_bent_line c [dl l] = some (x, c') ∧ Nic x ∧ PoolOk c' := by
  have hn := nil_line hg
  cases l with
  | nil =>
    obtain ⟨x, c', e, hx, p⟩ := chosen_ex (xs := [.non, .lst [], .int 0, .tup [.tup []], .tup [.non], .str "", .dic true []]) h (by simp) (by simp)
    refine ⟨x, c', ?_, ?_, p⟩
    · simp only [List.isEmpty_nil] at hn
      rw [dl_nil] at hn ⊢
      simp [m__law_bent_line, b__law_bent_line, hn, e]
    · refine (show NicL _ from ?_) x hx
      repeat' first
        | exact NicL.nil
        | refine NicL.cons ?_ ?_
        | exact Nic.non
        | exact Nic.bl _
        | exact Nic.int _
        | exact Nic.dic _ _
        | exact Nic.str _ (by decide +kernel)
        | refine nic_tup ?_ (by first | omega | (simp; done) | (simp; omega))
        | refine nic_lst ?_ (by first | omega | (simp; done) | (simp; omega))
  | cons q r =>
    generalize hL : q :: r = l at *
    have hpos : 0 < l.length := by rw [← hL]; simp
    have hne : l.isEmpty = false := by rw [← hL]; rfl
    rw [hne] at hn
    clear hL hne
    obtain ⟨k, w1, e1, k0, k1, p1⟩ := take_ex (n := l.length) h (by omega) (by omega)
    obtain ⟨i, rfl⟩ := Int.eq_ofNat_of_zero_le k0
    have hi : i < l.length := by omega
    obtain ⟨p, hp⟩ : ∃ p, p = l[i] := ⟨_, rfl⟩
    have hpm : p ∈ l := by rw [hp]; exact List.getElem_mem hi
    have hgp := hg _ (mem_keys hpm)
    obtain ⟨x1, w2, e2, n1, p2⟩ := bweight_ex p1
    obtain ⟨x2, w3, e3, n2, p3⟩ := bgrain_ex p2 hgp
    have ndg := nic_dg hgp
    have nnq := nic_nq p.2
    obtain ⟨y, w4, e4, hy, p4⟩ := chosen_ex (xs := [.tup [dg p.1, x1], .tup [x2, nq p.2], .lst [dg p.1, nq p.2], .tup [dg p.1], .tup [dg p.1, nq p.2, nq p.2], .tup [nq p.2, dg p.1], dg p.1, .non]) p3 (by simp) (by simp)
    have ny : Nic y := by
      refine (show NicL _ from ?_) y hy
      repeat' first
        | exact NicL.nil
        | refine NicL.cons ?_ ?_
        | assumption
        | exact Nic.non
        | refine nic_tup ?_ (by first | omega | (simp; done) | (simp; omega))
        | refine nic_lst ?_ (by first | omega | (simp; done) | (simp; omega))
    obtain ⟨X, hX⟩ : ∃ X, X = l.map dp := ⟨_, rfl⟩
    have nX : NicL X := by rw [hX]; exact nicL_dp hg
    have lX : X.length ≤ 1000 := by rw [hX]; simpa using hl
    have hdl : dl l = .tup X := by rw [hX]; rfl
    have hat : L2.atI X (i : Int) = some (dp p) := by
      have h1 : i < X.length := by rw [hX]; simpa using hi
      rw [at_nat _ _ h1, hX, List.getElem?_map, List.getElem?_eq_getElem hi, ← hp]
      rfl
    have hlen : X.length = l.length := by rw [hX]; simp
    rw [← hlen] at e1
    have c1' := cut_len X none (some (i : Int))
    have c2' := cut_len X (some ((i : Int) + 1)) none
    have c3' := cut_len X (some (-1)) none
    have c4' := cut_len X none (some 1)
    have c5' := cut_len X (some 1) none
    have m1 : NicL (cutL X none (some (i : Int))) := cut_mem nX
    have m2 : NicL (cutL X (some ((i : Int) + 1)) none) := cut_mem nX
    have m3 : NicL (cutL X (some (-1)) none) := cut_mem nX
    have m4 : NicL (cutL X none (some 1)) := cut_mem nX
    have m5 : NicL (cutL X (some 1) none) := cut_mem nX
    have hdp : Nic (dp p) := nic_dp hgp
    generalize hA : cutL X none (some (i : Int)) = A1 at *
    generalize hB : cutL X (some ((i : Int) + 1)) none = A2 at *
    generalize hC : cutL X (some (-1)) none = A3 at *
    generalize hD : cutL X none (some 1) = A4 at *
    generalize hE : cutL X (some 1) none = A5 at *
    have s1 : A1.length + 1 < 1000000 := by omega
    have s2 : A1.length + 1 + A2.length < 1000000 := by omega
    have s3 : X.length + A3.length < 1000000 := by omega
    have s4 : A4.length + X.length < 1000000 := by omega
    have s5 : X.length + 1 < 1000000 := by omega
    have s6 : A5.length + A4.length < 1000000 := by omega
    obtain ⟨z, w5, e5, hz, p5⟩ := chosen_ex (xs := [.tup (A1 ++ [y] ++ A2), .tup (A1 ++ [y] ++ A2), .tup (A1 ++ [y] ++ A2), .tup X.reverse, .tup (X ++ A3), .tup (A4 ++ X), .lst X, .tup (X ++ [.non]), .tup (A5 ++ A4), dp p]) p4 (by simp) (by simp)
    refine ⟨z, w5, ?_, ?_, p5⟩
    · rw [hdl] at hn ⊢
      have b1 : b__law_bent_line [.own true c, .val (.tup X), .un, .un, .un, .un, .un] = some ([.own true w5, .val (.tup X), .val (.int i), .val (dg p.1), .val (nq p.2), .val (.lst [.tup [dg p.1, x1], .tup [x2, nq p.2], .lst [dg p.1, nq p.2], .tup [dg p.1], .tup [dg p.1, nq p.2, nq p.2], .tup [nq p.2, dg p.1], dg p.1, .non]), .val (.tup (A1 ++ [y] ++ A2))], .rt z) := by
        unfold b__law_bent_line
        refine (sSeq_nx (if_no (by simp [hn]))).trans ?_
        refine (sSeq_nx (ρ1 := [.own true w1, .val (.tup X), .val (.int i), .un, .un, .un, .un]) (by simp [e1])).trans ?_
        refine (sSeq_nx (ρ1 := [.own true w1, .val (.tup X), .val (.int i), .val (dg p.1), .val (nq p.2), .un, .un]) (by simp [hat])).trans ?_
        refine (sSeq_nx (ρ1 := [.own true w3, .val (.tup X), .val (.int i), .val (dg p.1), .val (nq p.2), .val (.lst [.tup [dg p.1, x1], .tup [x2, nq p.2], .lst [dg p.1, nq p.2], .tup [dg p.1], .tup [dg p.1, nq p.2, nq p.2], .tup [nq p.2, dg p.1], dg p.1, .non]), .un]) (by simp [e2, e3])).trans ?_
        generalize (Dat.lst [.tup [dg p.1, x1], .tup [x2, nq p.2], .lst [dg p.1, nq p.2], .tup [dg p.1], .tup [dg p.1, nq p.2, nq p.2], .tup [nq p.2, dg p.1], dg p.1, .non]) = SL at *
        refine (sSeq_nx (ρ1 := [.own true w4, .val (.tup X), .val (.int i), .val (dg p.1), .val (nq p.2), .val SL, .val (.tup (A1 ++ [y] ++ A2))]) (by simp [e4, gSl, hA, hB, gAdd, s1, s2])).trans ?_
        generalize hT : (Dat.tup (A1 ++ [y] ++ A2)) = TT at *
        simp [gRev, gSl, hC, hD, hE, gAdd, s3, s4, s5, s6, gList, hat, e5]
      simp only [m__law_bent_line, e_mP, e_runP, e_rhoP, e_rho0]
      simp [b1]
    · refine (show NicL _ from ?_) z hz
      have nr := nic_rev nX
      repeat' first
        | exact NicL.nil
        | assumption
        | refine NicL.cons ?_ ?_
        | refine NicL.app ?_ ?_
        | exact Nic.non
        | refine nic_tup ?_ (by first | omega | (simp; done) | (simp; omega))
        | refine nic_lst ?_ (by first | omega | (simp; done) | (simp; omega))
end Dl

set_option Elab.async false
set_option linter.all false
set_option maxRecDepth 100000
set_option maxHeartbeats 8000000
/-! NL: judged right. -/
namespace Dl
open PySem
theorem bform_ex {c : Dat} {u : Rat} {l : Tb} (h : PoolOk c) (hg : ∀ g ∈ keys l, Go g) (hl : l.length ≤ 1000) : ∃ (x c' : Dat), m__law_bent_form c [fd u l] = some (x, c') ∧ Nic x ∧ PoolOk c' := by
  obtain ⟨x1, w1, e1, n1, p1⟩ := bweight_ex h
  obtain ⟨x2, w2, e2, n2, p2⟩ := bline_ex p1 hg hl
  obtain ⟨x3, w3, e3, n3, p3⟩ := bline_ex p2 hg hl
  have nl := nic_dl hg hl
  have nu := nic_nq u
  obtain ⟨X, hX⟩ : ∃ X, X = l.map dp := ⟨_, rfl⟩
  have nX : NicL X := by rw [hX]; exact nicL_dp hg
  have lX : X.length ≤ 1000 := by rw [hX]; simpa using hl
  have hdl : dl l = .tup X := by rw [hX]; rfl
  obtain ⟨U, hU⟩ : ∃ U, U = nq u := ⟨_, rfl⟩
  have hfd : fd u l = .tup [U, .tup X] := by rw [hU, ← hdl]; rfl
  rw [hdl] at e2 e3 nl
  rw [← hU] at nu
  obtain ⟨z, w4, e4, hz, p4⟩ := chosen_ex (xs := [.tup [x1, .tup X], .tup [U, x2], .tup [U, x3], .lst [U, .tup X], .tup [U], .tup [U, .tup X, .int 0], .tup [.tup X, U], .tup X, U, .non, .tup [U, .lst X]]) p3 (by simp) (by simp)
  refine ⟨z, w4, ?_, ?_, p4⟩
  · rw [hfd]
    have b1 : b__law_bent_form [.own true c, .val (.tup [U, .tup X]), .un, .un, .un] = some ([.own true w4, .val (.tup [U, .tup X]), .val U, .val (.tup X), .val (.lst [.tup [x1, .tup X], .tup [U, x2], .tup [U, x3], .lst [U, .tup X], .tup [U], .tup [U, .tup X, .int 0]])], .rt z) := by
      unfold b__law_bent_form
      refine (sSeq_nx (ρ1 := [.own true c, .val (.tup [U, .tup X]), .val U, .val (.tup X), .un]) (by simp)).trans ?_
      refine (sSeq_nx (ρ1 := [.own true w3, .val (.tup [U, .tup X]), .val U, .val (.tup X), .val (.lst [.tup [x1, .tup X], .tup [U, x2], .tup [U, x3], .lst [U, .tup X], .tup [U], .tup [U, .tup X, .int 0]])]) (by simp [e1, e2, e3])).trans ?_
      simp [gAdd, gList, e4]
    simp only [m__law_bent_form, e_mP, e_runP, e_rhoP, e_rho0]
    simp [b1]
  · refine (show NicL _ from ?_) z hz
    repeat' first
      | exact NicL.nil
      | assumption
      | refine NicL.cons ?_ ?_
      | exact Nic.non
      | exact Nic.int _
      | refine nic_tup ?_ (by first | omega | (simp; done) | (simp; omega))
      | refine nic_lst ?_ (by first | omega | (simp; done) | (simp; omega))
def jB : FS := sSeq (sAsg (cTup (aCons (cCall m__law_is_grain_of (aCons (cVar 6) aNil)) (aCons (cCall m__law_is_line_of (aCons (cVar 6) aNil)) (aCons (cCall m__law_is_form_of (aCons (cVar 6) aNil)) aNil)))) (gN 7)) (sIf (cNot (cB (cCall (m__law_same fuel) (aCons (cTup (aCons (cCall m_is_grain (aCons (cVar 6) aNil)) (aCons (cCall m_is_line (aCons (cVar 6) aNil)) (aCons (cCall m_is_form (aCons (cVar 6) aNil)) aNil)))) (aCons (cVar 7) aNil))))) (sRet (cK (.bl false))) sNil)
theorem jB_eq {a b c d e f : Slot} {x : Dat} {y : Slot} (h : Nic x) (hy : fr y) : ∃ y', fr y' ∧ jB [a, b, c, d, e, f, .val x, y] = some ([a, b, c, d, e, f, .val x, y'], .nx) := by
  obtain ⟨p, q, r, h1, h2, h3, h4, h5, h6⟩ := judge h
  have hs : m__law_same fuel [.tup [.bl p, .bl q, .bl r], .tup [.bl p, .bl q, .bl r]] = some (.bl true) := same_refl fuel _ (by simp [sok, soks])
  refine ⟨.val (.tup [.bl p, .bl q, .bl r]), .inr ⟨_, rfl⟩, ?_⟩
  unfold jB
  refine (sSeq_nx (ρ1 := [a, b, c, d, e, f, .val x, .val (.tup [.bl p, .bl q, .bl r])]) ?_).trans ?_
  · rcases hy with rfl | ⟨_, rfl⟩ <;> simp [h4, h5, h6]
  · exact if_no (by simp [h1, h2, h3, hs])
def jA : FS := sEx (cExt 4 (cLst (aCons (cCallP 0 m__law_bent_grain (aCons (cCallP 0 m__law_chosen (aCons (cVar 1) aNil)) aNil)) (aCons (cCallP 0 m__law_bent_line (aCons (cVar 2) aNil)) (aCons (cCallP 0 m__law_bent_form (aCons (cVar 3) aNil)) aNil)))))
theorem judged_ex {c : Dat} {gs : List Gr} (h : PoolOk c) (ha : Asc gs) (hg : ∀ g ∈ gs, Go g) (h0 : 0 < gs.length) (hl : gs.length ≤ 8) :
    ∃ c', m__law_judged_right c [.lst (gs.map dg)] = some (.bl true, c') ∧ PoolOk c' := by
  obtain ⟨a, w1, e1, da, sa, p1⟩ := line_ex h ha (fun g h => (hg g h).1) (by omega)
  obtain ⟨u, w2, e2, hu, p2⟩ := any_ex p1
  have ga : ∀ g ∈ keys a, Go g := fun g h => hg g (sa.mem h)
  obtain ⟨g0, hg0⟩ : ∃ g0, g0 = gs[0] := ⟨_, rfl⟩
  have hg0m : g0 ∈ gs := by rw [hg0]; exact List.getElem_mem h0
  obtain ⟨G, hG⟩ : ∃ G, G = gs.map dg := ⟨_, rfl⟩
  have hGl : G.length = gs.length := by rw [hG]; simp
  rw [← hG] at e1 ⊢
  have hat : L2.atI G 0 = some (dg g0) := by
    have h1 : 0 < G.length := by omega
    have := at_nat G 0 h1
    rw [hG, List.getElem?_map, List.getElem?_eq_getElem h0, ← hg0] at this
    rw [hG]
    exact this
  have nfd : Nic (fd u a) := nic_tup (.cons (nic_nq u) (.cons (nic_dl ga da.len) .nil)) (by simp)
  have n0 : NicL [dg g0, dl a, .tup [.tup [.int 0, .int 1], .tup []], .tup [], .non, .bl true, .int 0, .str "x", .dic true [], fd u a] := by
    have n1 := nic_dg (hg g0 hg0m)
    have n2 := nic_dl ga da.len
    repeat' first
      | exact NicL.nil
      | assumption
      | refine NicL.cons ?_ ?_
      | exact Nic.non
      | exact Nic.bl _
      | exact Nic.int _
      | exact Nic.dic _ _
      | exact Nic.str _ (by decide +kernel)
      | refine nic_tup ?_ (by first | omega | (simp; done) | (simp; omega))
  have hr : iR1 (aCons (cK (.int 8)) aNil) [.own true w2, .val (.lst G), .val (dl a), .val (fd u a), .own false (.lst [dg g0, dl a, .tup [.tup [.int 0, .int 1], .tup []], .tup [], .non, .bl true, .int 0, .str "x", .dic true [], fd u a]), .un, .un, .un] =
      some (rngD 0 8, [.own true w2, .val (.lst G), .val (dl a), .val (fd u a), .own false (.lst [dg g0, dl a, .tup [.tup [.int 0, .int 1], .tup []], .tup [], .non, .bl true, .int 0, .str "x", .dic true [], fd u a]), .un, .un, .un]) := iR1_nat (n := 8) (by simp) (by decide)
  obtain ⟨ρ', e3, w3, ys, y5, p3, nys, lys, f5, rfl⟩ := lp_ix (g := gN 5) (b := jA) (fun i : Nat => Dat.int (0 + i)) (List.range 8)
    (fun i ρ => ∃ c' ys y5, PoolOk c' ∧ NicL ys ∧ ys.length ≤ 10 + 3 * i ∧ fr y5 ∧ ρ = [.own true c', .val (.lst G), .val (dl a), .val (fd u a), .own false (.lst ys), y5, .un, .un])
    [.own true w2, .val (.lst G), .val (dl a), .val (fd u a), .own false (.lst [dg g0, dl a, .tup [.tup [.int 0, .int 1], .tup []], .tup [], .non, .bl true, .int 0, .str "x", .dic true [], fd u a]), .un, .un, .un] ⟨w2, _, .un, p2, n0, by simp, .inl rfl, rfl⟩ (fun i j ρ hj hI => by
      obtain ⟨c1', ys, y5, q1, q2, q3, q4, rfl⟩ := hI
      have hi : i < 8 := by
        have := (List.getElem?_eq_some_iff.mp hj).1
        simpa using this
      obtain ⟨x0, c2', e0, hx0, r1⟩ := chosen_ex (xs := G) q1 (by omega) (by omega)
      obtain ⟨gx, hgx, rfl⟩ := List.mem_map.mp (hG ▸ hx0)
      obtain ⟨x1, c3', e1', n1, r2⟩ := bgrain_ex r1 (hg gx hgx)
      obtain ⟨x2, c4', e2', n2, r3⟩ := bline_ex r2 ga da.len
      obtain ⟨x3, c5', e3', n3, r4⟩ := bform_ex (u := u) r3 ga da.len
      have e6 := cExt_eq2 (i := 4) (f := cLst (aCons (cCallP 0 m__law_bent_grain (aCons (cCallP 0 m__law_chosen (aCons (cVar 1) aNil)) aNil)) (aCons (cCallP 0 m__law_bent_line (aCons (cVar 2) aNil)) (aCons (cCallP 0 m__law_bent_form (aCons (cVar 3) aNil)) aNil)))) (ρ := [.own true c1', .val (.lst G), .val (dl a), .val (fd u a), .own false (.lst ys), .val (.int j), .un, .un])
        (ρ1 := [.own true c5', .val (.lst G), .val (dl a), .val (fd u a), .own false (.lst ys), .val (.int j), .un, .un]) (xs := ys) (ys := [x1, x2, x3]) (b := false) (by simp) rfl (by simp [e0, e1', e2', e3']) (by simp; omega)
      refine ⟨[.own true c1', .val (.lst G), .val (dl a), .val (fd u a), .own false (.lst ys), .val (.int j), .un, .un], _, ?_, e6, c5', ys ++ [x1, x2, x3], .val (.int j), r4, q2.app (.cons n1 (.cons n2 (.cons n3 .nil))), by simp; omega, .inr ⟨_, rfl⟩, rfl⟩
      rcases q4 with rfl | ⟨_, rfl⟩ <;> simp)
  obtain ⟨ρ2, e4, y6, y7, _, _, rfl⟩ := lp_ix (g := gN 6) (b := jB) id ys
    (fun i ρ => ∃ y6 y7, fr y6 ∧ fr y7 ∧ ρ = [.own true w3, .val (.lst G), .val (dl a), .val (fd u a), .val (.lst ys), y5, y6, y7])
    [.own true w3, .val (.lst G), .val (dl a), .val (fd u a), .val (.lst ys), y5, .un, .un] ⟨.un, .un, .inl rfl, .inl rfl, rfl⟩ (fun i x ρ hx hI => by
      obtain ⟨y6, y7, q6, q7, rfl⟩ := hI
      obtain ⟨y7', q8, e8⟩ := jB_eq (a := .own true w3) (b := .val (.lst G)) (c := .val (dl a)) (d := .val (fd u a)) (e := .val (.lst ys)) (f := y5) (nys x (List.mem_of_getElem? hx)) q7
      refine ⟨[.own true w3, .val (.lst G), .val (dl a), .val (fd u a), .val (.lst ys), y5, .val x, y7], _, ?_, e8, .val x, y7', .inr ⟨_, rfl⟩, q8, rfl⟩
      rcases q6 with rfl | ⟨_, rfl⟩ <;> simp)
  rw [List.map_id] at e4
  refine ⟨w3, ?_, p3⟩
  have b1 : b__law_judged_right [.own true c, .val (.lst G), .un, .un, .un, .un, .un, .un] = some ([.own true w3, .val (.lst G), .val (dl a), .val (fd u a), .val (.lst ys), y5, y6, y7], .rt (.bl true)) := by
    unfold b__law_judged_right
    refine (sSeq_nx (ρ1 := [.own true w1, .val (.lst G), .val (dl a), .un, .un, .un, .un, .un]) (by simp [e1])).trans ?_
    refine (sSeq_nx (ρ1 := [.own true w2, .val (.lst G), .val (dl a), .val (fd u a), .own false (.lst [dg g0, dl a, .tup [.tup [.int 0, .int 1], .tup []], .tup [], .non, .bl true, .int 0, .str "x", .dic true []]), .un, .un, .un]) (by simp [e2, hat, fd])).trans ?_
    refine (sSeq_nx (ρ1 := [.own true w2, .val (.lst G), .val (dl a), .val (fd u a), .own false (.lst [dg g0, dl a, .tup [.tup [.int 0, .int 1], .tup []], .tup [], .non, .bl true, .int 0, .str "x", .dic true [], fd u a]), .un, .un, .un]) (by simp [cApp])).trans ?_
    refine (sSeq_nx (for_nx hr e3)).trans ?_
    rw [e_sFz]
    simp only [List.getElem?_cons_succ, List.getElem?_cons_zero, List.set_cons_succ, List.set_cons_zero]
    refine (sSeq_nx (for_nx (by simp) e4)).trans ?_
    simp
  simp only [m__law_judged_right, e_mP, e_runP, e_rhoP, e_rho0]
  simp [b1]
end Dl

set_option Elab.async false
set_option linter.all false
set_option maxRecDepth 100000
set_option maxHeartbeats 8000000
/-! NM: the pool at the start; the rounds. -/
namespace Dl
open PySem
theorem cut01 (X : List Dat) : cutL X (some 0) (some 1) = X.take 1 := by
  have h1 : HT.sIx X.length 0 (some 0) = min 0 X.length := HT.sIx_nat X.length 0 0
  have h2 : HT.sIx X.length X.length (some 1) = min 1 X.length := HT.sIx_nat X.length X.length 1
  unfold cutL
  rw [h1, h2]
  cases X with
  | nil => rfl
  | cons x X =>
    have h3 : min 1 (x :: X).length = 1 := by simp
    rw [h3]
    simp
theorem cell0 (ns : List Int) : ∃ (z : Int) (L : List Dat), gAdd (.lst (cutL (ns.map .int) (some 0) (some 1))) (.lst [.int 0]) = some (.lst L) ∧ L2.atI L 0 = some (.int z) := by
  rw [cut01]
  cases ns with
  | nil => exact ⟨0, [.int 0], rfl, by simp⟩
  | cons n ns => exact ⟨n, [.int n, .int 0], rfl, by simp⟩
theorem mulS1 (g : Int) (b : Bool) : gMulS (.int g) (.int (if b then 1 else 0)) = some (.int (g * (if b then 1 else 0))) := by
  cases b <;> simp [gMulS]
theorem pool_ex (ns : List Int) : ∃ c, m__law_pool [.scr ns, .int 0] = some c ∧ PoolOk c := by
  obtain ⟨z, L, e1, e2⟩ := cell0 ns
  obtain ⟨g, hg⟩ : ∃ g : Int, g = (if -1 - z > z then -1 - z else z) := ⟨_, rfl⟩
  have hmax : gMax (.int z) (.int (-1 - z)) = some (.int g) := by rw [hg]; rfl
  have r1 := fmod_rng g (n := 2147483629) (by decide)
  obtain ⟨m, hm⟩ : ∃ m : Int, m = g.fmod 2147483629 := ⟨_, rfl⟩
  rw [← hm] at r1
  obtain ⟨w, hw⟩ : ∃ w : Int, w = (m + 0 + 0 + 19) * 48271 := ⟨_, rfl⟩
  have r2 := fmod_rng w (n := 2147483647) (by decide)
  obtain ⟨s, hs⟩ : ∃ s : Int, s = w.fmod 2147483647 := ⟨_, rfl⟩
  rw [← hs] at r2
  have r3 := fmod_rng (s * s) (n := 2147483629) (by decide)
  have l1 : gMul (.int (m + 0 + 0 + 19)) (.int 48271) = some (.int w) := by
    have h1 := log_lt (i := m + 0 + 0 + 19) (by omega) (by omega)
    have h2 : Nat.log2 (48271 : Int).natAbs < 64 := by decide
    rw [e_gMul, if_pos (by omega), hw]
  have l2 : gMul (.int s) (.int s) = some (.int (s * s)) := by
    have h1 := log_lt (i := s) (by omega) (by omega)
    rw [e_gMul, if_pos (by omega)]
  have q1 : gMul (.int 7919) (.int 0) = some (.int 0) := rfl
  have q2 : gMul (.int 0) (.int 0) = some (.int 0) := rfl
  have q3 : gMul (.int 47) (.int 0) = some (.int 0) := rfl
  have hp : gPow (.int 10) (.int 18) = some (.int 1000000000000000000) := rfl
  have hmod : gMod (.int g) (.int 2147483629) = some (.int m) := by rw [e_gMod, if_pos (by decide), hm]
  have hmod2 : gMod (.int w) (.int 2147483647) = some (.int s) := by rw [e_gMod, if_pos (by decide), hs]
  have hsl : gSl (.scr ns) (some 0) (some 1) = some (.new (.lst (cutL (ns.map .int) (some 0) (some 1)))) := rfl
  have ha1 : gAdd (.int m) (.int 0) = some (.int (m + 0)) := rfl
  have ha2 : gAdd (.int (m + 0)) (.int 0) = some (.int (m + 0 + 0)) := rfl
  have ha3 : gAdd (.int (m + 0 + 0)) (.int 19) = some (.int (m + 0 + 0 + 19)) := rfl
  obtain ⟨P, hP⟩ : ∃ P : Int, gMulS (.int g) (.int (if 1000000000000000000 ≤ g then 1 else 0)) = some (.int P) := by
    split
    · exact ⟨g * 1, by simp [gMulS]⟩
    · exact ⟨g * 0, by simp [gMulS]⟩
  generalize cutL (ns.map Dat.int) (some 0) (some 1) = CL at *
  refine ⟨.lst [.int P, .int ((s * s).fmod 2147483629)], ?_, _, _, rfl, r3.1, by omega⟩
  have b1 : b__law_pool [.val (.scr ns), .val (.int 0), .un, .un, .un] = some ([.val (.scr ns), .val (.int 0), .val (.int z), .val (.int g), .val (.int s)], .rn (.lst [.int P, .int ((s * s).fmod 2147483629)])) := by
    unfold b__law_pool
    refine (sSeq_nx (ρ1 := [.val (.scr ns), .val (.int 0), .val (.int z), .un, .un]) (by simp [-e_gAdd, show gAdd (.int 0) (.int 1) = some (.int 1) from rfl, hsl, e1, e2])).trans ?_
    refine (sSeq_nx (ρ1 := [.val (.scr ns), .val (.int 0), .val (.int z), .val (.int g), .un]) (by simp [hmax])).trans ?_
    refine (sSeq_nx (ρ1 := [.val (.scr ns), .val (.int 0), .val (.int z), .val (.int g), .val (.int s)]) (by simp only [e_sAsg, e_cFz, e_c2, e_cVar, e_cK, List.getElem?_cons_succ, List.getElem?_cons_zero, Option.bind_some, e_rv0, q1, q2, q3, hmod, ha1, ha2, ha3, l1, hmod2, e_gN, e_free]; simp)).trans ?_
    have hge : gGe (.int g) (.int 1000000000000000000) = some (.bl (decide (1000000000000000000 ≤ g))) := rfl
    simp [-e_gMul, hp, hge, hP, l2]
  simp only [m__law_pool, e_mN, e_runN, e_rho0]
  simp [b1]
def roundB : FS := sSeq (sAsg (cCallP 1 m__law_grains_any aNil) (gN 3)) (sIf (cOr (cNot (cB (cCallP 1 m__law_sums_right (aCons (cVar 3) aNil)))) (cOr (cNot (cB (cCallP 1 m__law_worths_right aNil))) (cNot (cB (cCallP 1 m__law_judged_right (aCons (cVar 3) aNil)))))) (sRet (cK (.bl false))) sNil)
theorem round_ex {S : Slot} {c : Dat} {y2 y3 : Slot} (h : PoolOk c) (h3 : fr y3) : ∃ c' z3, roundB [S, .own false c, y2, y3, .un, .un, .un, .un, .un] = some ([S, .own false c', y2, z3, .un, .un, .un, .un, .un], .nx) ∧ PoolOk c' ∧ fr z3 := by
  obtain ⟨gs, w1, e1, g1, g2, g3, g4, p1⟩ := grains_ex h
  obtain ⟨w2, e2, p2⟩ := sums_ex p1 g1 g2 g4
  obtain ⟨w3, e3, p3⟩ := worths_ex p2
  obtain ⟨w4, e4, p4⟩ := judged_ex p3 g1 g2 g3 g4
  generalize Dat.lst (gs.map dg) = G at *
  refine ⟨w4, .val G, ?_, p4, .inr ⟨_, rfl⟩⟩
  unfold roundB
  refine (sSeq_nx (ρ1 := [S, .own false w1, y2, .val G, .un, .un, .un, .un, .un]) ?_).trans ?_
  · rcases h3 with rfl | ⟨_, rfl⟩ <;> simp [e1]
  · simp [e2, e3, e4]
end Dl

set_option Elab.async false
set_option linter.all false
set_option maxRecDepth 100000
set_option maxHeartbeats 8000000
/-! NO: the law. -/
namespace Dl
open PySem
def cg0 : Gr := ("x", [0])
def cg1 : Gr := ("x", [1])
def ca : Tb := [(cg0, 2), (cg1, 1)]
def cb : Tb := [(cg0, 1), (cg1, 1)]
theorem cgl : glt cg0 cg1 = true := by decide +kernel
theorem cne : ¬ cg0 = cg1 := by decide +kernel
theorem cgk0 : Gk cg0 := by unfold Gk; decide +kernel
theorem cgk1 : Gk cg1 := by unfold Gk; decide +kernel
theorem two_ln {x y : Rat} (hx : x ≠ 0) (hy : y ≠ 0) : IsLn [(cg0, x), (cg1, y)] := ⟨by simp [Asc, keys, cgl], by
  intro p hp
  simp at hp
  rcases hp with rfl | rfl
  · exact hx
  · exact hy⟩
theorem two_dr {x y : Int} (hx : (x : Rat) ≠ 0) (hy : (y : Rat) ≠ 0) (kx : x.natAbs < 2 ^ 100) (ky : y.natAbs < 2 ^ 100) : Dr [(cg0, (x : Rat)), (cg1, (y : Rat))] where
  ln := two_ln hx hy
  sz := by
    intro p hp
    simp at hp
    rcases hp with rfl | rfl
    · exact Pn.int kx
    · exact Pn.int ky
  gk := by
    intro g hg
    simp [keys] at hg
    rcases hg with rfl | rfl
    · exact cgk0
    · exact cgk1
  len := by simp
theorem c2i : ((2 : Int) : Rat) = 2 := rfl
theorem c1i : ((1 : Int) : Rat) = 1 := rfl
theorem dra : Dr ca := by
  have h := two_dr (x := 2) (y := 1) (by rw [c2i]; simp) (by rw [c1i]; simp) (by decide) (by decide)
  rw [c2i, c1i] at h
  exact h
theorem drb : Dr cb := by
  have h := two_dr (x := 1) (y := 1) (by rw [c1i]; simp) (by rw [c1i]; simp) (by decide) (by decide)
  rw [c1i] at h
  exact h
theorem ce_minus : plusL ca (timesL cb (-1)) = [(cg0, 1)] := by
  refine ln_ext (plusL_ln dra.ln) ⟨by simp [Asc, keys], by simp⟩ fun g => ?_
  rw [vl_plusL dra.ln (timesL_ln drb.ln _), vl_timesL]
  unfold ca cb
  simp only [vl_cons]
  have h0 : vl [] g = 0 := rfl
  by_cases h : cg0 = g
  · simp only [h, if_true]
    subst h
    decide +kernel
  · by_cases h1 : cg1 = g
    · simp only [h, h1, if_true, if_false, h0]
      decide +kernel
    · simp only [h, h1, if_false, h0]
      decide +kernel
theorem ce_pair : pairL ca cb = 3 := by decide +kernel
theorem ce_cut : cutG ca [cg1] = [(cg1, 1)] := by decide +kernel
def cW : Tb := [(cg0, 5), (cg1, 7)]
theorem ce_pairW : pairL ca cW = 17 := by decide +kernel
def cinp : Dat := .dic false [(.text "x", .dic true [(kc [0], nq 5), (kc [1], nq 7), (kc [2], nq 2)])]
theorem ce_wh : Wh cinp cW ca := by
  intro g hg
  have : g = cg0 ∨ g = cg1 := by simpa [keys, ca] using hg
  rcases this with rfl | rfl
  · refine ⟨.dic true [(kc [0], nq 5), (kc [1], nq 7), (kc [2], nq 2)], rfl, ?_⟩
    have h := tkey_dc [0]
    have : gIxA (.dic true [(kc [0], nq 5), (kc [1], nq 7), (kc [2], nq 2)]) (dc [0]) = some (nq 5) := by
      simp [gIxA, gIxN, entN, lookD]
    have hv : vl cW cg0 = 5 := by decide +kernel
    rw [hv]
    exact this
  · refine ⟨.dic true [(kc [0], nq 5), (kc [1], nq 7), (kc [2], nq 2)], rfl, ?_⟩
    have hk : ¬ kc [0] = kc [1] := fun e => by have := kc_inj e; simp at this
    have : gIxA (.dic true [(kc [0], nq 5), (kc [1], nq 7), (kc [2], nq 2)]) (dc [1]) = some (nq 7) := by
      simp [gIxA, gIxN, entN, lookD, hk]
    have hv : vl cW cg1 = 7 := by decide +kernel
    rw [hv]
    exact this
theorem ce_worth : m_worth_of_form [fd 0 ca, cinp] = some (nq 17) := by
  have h := m_worth_eq (c := 0) (inp := cinp) (W := cW) Rn.zero dra.sz (by
    intro p hp
    simp [cW] at hp
    rcases hp with rfl | rfl
    · have h := Pn.int (t := 5) (by decide)
      rw [show ((5 : Int) : Rat) = 5 from rfl] at h
      exact h
    · have h := Pn.int (t := 7) (by decide)
      rw [show ((7 : Int) : Rat) = 7 from rfl] at h
      exact h) (by simp [ca]) (by decide) ce_wh
  rw [ce_pairW] at h
  have : (0 : Rat) + 17 = 17 := by decide +kernel
  rwa [this] at h
theorem ce_form : m_form_minus [fd 0 ca, fd 0 cb] = some (fd 0 [(cg0, 1)]) := by
  have h := m_form_minus_eq (c := 0) (d := 0) p0 p0 dra drb
  rw [minus_self, ce_minus] at h
  exact h
theorem ce_paired : m_paired [dl ca, dl cb] = some (nq 3) := by
  have h := m_paired_eq dra.len drb.len drb.ln.asc.nodup dra.sz drb.sz (by decide) (by decide) (by decide)
  rwa [ce_pair] at h
theorem ce_cutd : m_cut [dl ca, .tup [dg cg1]] = some (dl [(cg1, 1)]) := by
  have h := m_cut_eq (gs := [cg1]) (.tup _) dra.len (by decide)
  rwa [ce_cut] at h
end Dl

set_option Elab.async false
set_option linter.all false
set_option maxRecDepth 100000
set_option maxHeartbeats 8000000
/-! NQ: the law is true. -/
namespace Dl
open PySem
theorem law_true (ns : List Int) : m_law [.scr ns] = some (.bl true) := by
  obtain ⟨c, e0, p0'⟩ := pool_ex ns
  obtain ⟨ρ', e, c', y2, y3, p1, h2, h3, rfl⟩ := lp_ix (g := gN 2) (b := roundB) (fun i : Nat => Dat.int (0 + i)) (List.range 3)
    (fun i ρ => ∃ c' y2 y3, PoolOk c' ∧ fr y2 ∧ fr y3 ∧ ρ = [.val (.scr ns), .own false c', y2, y3, .un, .un, .un, .un, .un])
    [.val (.scr ns), .own false c, .un, .un, .un, .un, .un, .un, .un] ⟨c, .un, .un, p0', .inl rfl, .inl rfl, rfl⟩ (fun i j ρ hj hI => by
      obtain ⟨c1, y2, y3, q1, q2, q3, rfl⟩ := hI
      obtain ⟨c2, z3, e2, r1, r2⟩ := round_ex (S := .val (.scr ns)) (y2 := .val (.int j)) q1 q3
      refine ⟨[.val (.scr ns), .own false c1, .val (.int j), y3, .un, .un, .un, .un, .un], _, ?_, e2, c2, .val (.int j), z3, r1, .inr ⟨_, rfl⟩, r2, rfl⟩
      rcases q2 with rfl | ⟨_, rfl⟩ <;> simp)
  have hr : iR1 (aCons (cK (.int 3)) aNil) [.val (.scr ns), .own false c, .un, .un, .un, .un, .un, .un, .un] = some (rngD 0 3, [.val (.scr ns), .own false c, .un, .un, .un, .un, .un, .un, .un]) := iR1_nat (n := 3) (by simp) (by decide)
  have l0 : (.tup [.str "x", .tup [.int 0]] : Dat) = dg cg0 := rfl
  have l1 : (.tup [.str "x", .tup [.int 1]] : Dat) = dg cg1 := rfl
  have la : (.tup [.tup [.int 0, .int 1], .tup [.tup [dg cg0, .tup [.int 2, .int 1]], .tup [dg cg1, .tup [.int 1, .int 1]]]] : Dat) = fd 0 ca := rfl
  have lb : (.tup [.tup [.int 0, .int 1], .tup [.tup [dg cg0, .tup [.int 1, .int 1]], .tup [dg cg1, .tup [.int 1, .int 1]]]] : Dat) = fd 0 cb := rfl
  have i1 : gIxA (fd 0 ca) (.int 1) = some (dl ca) := by simp [fd]
  have i2 : gIxA (fd 0 cb) (.int 1) = some (dl cb) := by simp [fd]
  have b1 : b_law [.val (.scr ns), .un, .un, .un, .un, .un, .un, .un, .un] = some ([.val (.scr ns), .own false c', y2, y3, .val (dg cg0), .val (dg cg1), .val (fd 0 ca), .val (fd 0 cb), .val (.tup [fd 0 [(cg0, 1)], nq 17, nq 3, dl [(cg1, 1)]])], .rt (.bl true)) := by
    unfold b_law
    refine (sSeq_nx (ρ1 := [.val (.scr ns), .own false c, .un, .un, .un, .un, .un, .un, .un]) (by simp [e0])).trans ?_
    refine (sSeq_nx (for_nx hr e)).trans ?_
    refine (sSeq_nx (ρ1 := [.val (.scr ns), .own false c', y2, y3, .val (dg cg0), .val (dg cg1), .un, .un, .un]) (by simp [l0, l1])).trans ?_
    refine (sSeq_nx (ρ1 := [.val (.scr ns), .own false c', y2, y3, .val (dg cg0), .val (dg cg1), .val (fd 0 ca), .val (fd 0 cb), .un]) (by simp [la, lb])).trans ?_
    refine (sSeq_nx (ρ1 := [.val (.scr ns), .own false c', y2, y3, .val (dg cg0), .val (dg cg1), .val (fd 0 ca), .val (fd 0 cb), .val (.tup [fd 0 [(cg0, 1)], nq 17, nq 3, dl [(cg1, 1)]])]) ?_).trans ?_
    · have hd : cDisK [((cK (.str "x")), (cDisN [((cTup (aCons (cK (.int 0)) aNil)), (cTup (aCons (cK (.int 5)) (aCons (cK (.int 1)) aNil)))), ((cTup (aCons (cK (.int 1)) aNil)), (cTup (aCons (cK (.int 7)) (aCons (cK (.int 1)) aNil)))), ((cTup (aCons (cK (.int 2)) aNil)), (cTup (aCons (cK (.int 2)) (aCons (cK (.int 1)) aNil))))]))] [.val (.scr ns), .own false c', y2, y3, .val (dg cg0), .val (dg cg1), .val (fd 0 ca), .val (fd 0 cb), .un] = some (.new cinp, [.val (.scr ns), .own false c', y2, y3, .val (dg cg0), .val (dg cg1), .val (fd 0 ca), .val (fd 0 cb), .un]) := by rfl
      simp [ce_form, hd, ce_worth, i1, i2, ce_paired, ce_cutd]
    have hs : m__law_same fuel [.tup [fd 0 [(cg0, 1)], nq 17, nq 3, dl [(cg1, 1)]], .tup [fd 0 [(cg0, 1)], nq 17, nq 3, dl [(cg1, 1)]]] = some (.bl true) := by
      have k0 : Cm [(cg0, 1)] := ⟨fun g hg => by simp [keys] at hg; subst hg; exact ⟨cgk0, by decide⟩, by simp⟩
      have k1 : Cm [(cg1, 1)] := ⟨fun g hg => by simp [keys] at hg; subst hg; exact ⟨cgk1, by decide⟩, by simp⟩
      have s1 := sok_fd (n := 3) (c := 0) k0
      have s2 := sok_dl (n := 4) k1
      have s3 := fun q => sok_nq (n := 7) q
      exact same_refl fuel _ (by simp [sok, soks, s1, s2, s3])
    have hlit : (.tup [.tup [.tup [.int 0, .int 1], .tup [.tup [dg cg0, .tup [.int 1, .int 1]]]], .tup [.int 17, .int 1], .tup [.int 3, .int 1], .tup [.tup [dg cg1, .tup [.int 1, .int 1]]]] : Dat) = .tup [fd 0 [(cg0, 1)], nq 17, nq 3, dl [(cg1, 1)]] := rfl
    generalize (Dat.tup [fd 0 [(cg0, 1)], nq 17, nq 3, dl [(cg1, 1)]]) = T at *
    simp [hlit, hs]
  simp only [m_law, e_mA, e_runA, e_rho0]
  simp [b1]
end Dl

set_option Elab.async false
set_option linter.all false
set_option maxRecDepth 100000
set_option maxHeartbeats 0
/-! the head (printed by hd.py) -/
namespace Dl
open PySem PySem.Spec PyProof.Rows L2
section
variable {P : Program} {w : World} {K : PySem.W.Frag} {mg : Str → Option Value} {base : Heap} {x : Str} {st : Stmt} {N ps : List Str} {k : Nat} {f : FS} {a0 : Addr} {fd : FuncData}
theorem mkAF (F : FnP K x st a0 fd) (S : FnScope N ps (defScope st)) (hn : ps.length ≤ N.length)
    (body : ∀ (a : Addr) (cdv : Value) (A : Around) (outer : List Env) (s : Shared) (H : Hp) (E : XK), Room k (A.deeper (envOfC x (defScope st) s.heap.objs.size a cdv)) →
      DSs (cxOf CX0 P w K mg base N x (defScope st) a cdv A outer s H E).nox (defBody st) f) : FnOk P w K mg base CX0 (k + 1) a0 fd ps (spA P w K (mA ps.length N.length f)) :=
  F.ok S (fun vs H Q E q => by
    obtain ⟨F, ds, d, _, r, e, _⟩ := q
    unfold mA at e
    split at e
    · rename_i hl; rw [r.length, hl]
    · cases e) fun cdv A outer s H vs Q E hr q => ⟨_, PSs.nox (body a0 cdv A outer s H E hr), by
    obtain ⟨F, ds, d, sb, r, e, kk⟩ := q
    unfold mA at e
    split at e
    · rename_i hl
      exact tS_A (E := E) (by rw [r.length, hl]; exact hn) ⟨F, ds, d, sb, r, e, kk⟩
    · cases e⟩
end
section
variable {P : Program} {w : World} {K : PySem.W.Frag} {mg : Str → Option Value} {base : Heap} {a0 : Addr} {fd : FuncData}
theorem c_lawF (G : Glo K mg) (F : FnP K "law" s_law a0 fd) : FnOk P w K mg base CX0 14 a0 fd ["script"] (spA P w K m_law) := by
  have C__law_grains_any : Cal P w K mg base "_law_grains_any" 3 (spP P w K m__law_grains_any) := c__law_grains_any G
  have C__law_judged_right : Cal P w K mg base "_law_judged_right" 13 (spP P w K m__law_judged_right) := c__law_judged_right G
  have C__law_pool : Cal P w K mg base "_law_pool" 1 (spN P w K m__law_pool) := c__law_pool G
  have C__law_same : Cal P w K mg base "_law_same" 12 (spA P w K (m__law_same fuel)) := c__law_same G fuel
  have C__law_sums_right : Cal P w K mg base "_law_sums_right" 13 (spP P w K m__law_sums_right) := c__law_sums_right G
  have C__law_worths_right : Cal P w K mg base "_law_worths_right" 13 (spP P w K m__law_worths_right) := c__law_worths_right G
  have C_cut : Cal P w K mg base "cut" 1 (spA P w K m_cut) := c_cut G
  have C_form_minus : Cal P w K mg base "form_minus" 6 (spA P w K m_form_minus) := c_form_minus G
  have C_paired : Cal P w K mg base "paired" 4 (spA P w K m_paired) := c_paired G
  have C_worth_of_form : Cal P w K mg base "worth_of_form" 4 (spA P w K m_worth_of_form) := c_worth_of_form G
  exact mkAF (k := 13) (f := b_law) F S_law (by decide)
    (fun a cdv A outer s H E hr => (dss_cons (down 1 S_law.nd (de_callN C__law_pool hr (by omega) (by rfl) (da_cons (nv 0) (da_cons de_int da_nil))))
    (dss_cons (ds_for PassesOwn.never rfl (di_r1 (by rfl) G.f_range (da_cons de_int da_nil)) (gv 2 S_law.nd) (dss_cons (dset 3 S_law.nd (de_callP (i := 1) C__law_grains_any hr (by omega) (by rfl) (nv 1) da_nil))
    (dss_one (ds_if (dt_w (dw_or (dt_not (dt_val (de_callP (i := 1) C__law_sums_right hr (by omega) (by rfl) (nv 1) (da_cons (nv 3) da_nil)))) (dw_or (dt_not (dt_val (de_callP (i := 1) C__law_worths_right hr (by omega) (by rfl) (nv 1) da_nil))) (dw_or1 (dt_not (dt_val (de_callP (i := 1) C__law_judged_right hr (by omega) (by rfl) (nv 1) (da_cons (nv 3) da_nil)))))))) (dss_one (ds_ret de_bl)) dss_nil))))
    (dss_cons (ds_asg (de_tup (da_cons (de_tup (da_cons de_str (da_cons (de_tup (da_cons de_int da_nil)) da_nil))) (da_cons (de_tup (da_cons de_str (da_cons (de_tup (da_cons de_int da_nil)) da_nil))) da_nil))) (dg_t rfl (dgs_cons (gv 4 S_law.nd) (dgs_cons (gv 5 S_law.nd) dgs_nil))))
    (dss_cons (ds_par2 rfl S_law.nd rfl rfl (by decide) rfl rfl (de_fz (de_tup (da_cons (de_tup (da_cons de_int (da_cons de_int da_nil))) (da_cons (de_tup (da_cons (de_tup (da_cons (nv 4) (da_cons (de_tup (da_cons de_int (da_cons de_int da_nil))) da_nil))) (da_cons (de_tup (da_cons (nv 5) (da_cons (de_tup (da_cons de_int (da_cons de_int da_nil))) da_nil))) da_nil))) da_nil)))) (de_fz (de_tup (da_cons (de_tup (da_cons de_int (da_cons de_int da_nil))) (da_cons (de_tup (da_cons (de_tup (da_cons (nv 4) (da_cons (de_tup (da_cons de_int (da_cons de_int da_nil))) da_nil))) (da_cons (de_tup (da_cons (nv 5) (da_cons (de_tup (da_cons de_int (da_cons de_int da_nil))) da_nil))) da_nil))) da_nil)))) (by rfl))
    (dss_cons (dset 8 S_law.nd (de_tup (da_cons (de_call C_form_minus hr (by omega) (by rfl) (da_cons (nv 6) (da_cons (nv 7) da_nil))) (da_cons (de_call C_worth_of_form hr (by omega) (by rfl) (da_cons (nv 6) (da_cons (de_disK (dp_cons de_str (de_disN (hu100 hr) (dp_cons (de_tup (da_cons de_int da_nil)) (de_tup (da_cons de_int (da_cons de_int da_nil))) (dp_cons (de_tup (da_cons de_int da_nil)) (de_tup (da_cons de_int (da_cons de_int da_nil))) (dp_cons (de_tup (da_cons de_int da_nil)) (de_tup (da_cons de_int (da_cons de_int da_nil))) dp_nil)))) dp_nil)) da_nil))) (da_cons (de_call C_paired hr (by omega) (by rfl) (da_cons (de_ix (dx_ixA (hu100 hr)) (nv 6) de_int (by intro _ _; rfl)) (da_cons (de_ix (dx_ixA (hu100 hr)) (nv 7) de_int (by intro _ _; rfl)) da_nil))) (da_cons (de_call C_cut hr (by omega) (by rfl) (da_cons (de_ix (dx_ixA (hu100 hr)) (nv 6) de_int (by intro _ _; rfl)) (da_cons (de_tup (da_cons (nv 5) da_nil)) da_nil))) da_nil))))))
    (dss_one (ds_ret (de_call C__law_same hr (by omega) (by rfl) (da_cons (nv 8) (da_cons (de_tup (da_cons (de_tup (da_cons (de_tup (da_cons de_int (da_cons de_int da_nil))) (da_cons (de_tup (da_cons (de_tup (da_cons (nv 4) (da_cons (de_tup (da_cons de_int (da_cons de_int da_nil))) da_nil))) da_nil)) da_nil))) (da_cons (de_tup (da_cons de_int (da_cons de_int da_nil))) (da_cons (de_tup (da_cons de_int (da_cons de_int da_nil))) (da_cons (de_tup (da_cons (de_tup (da_cons (nv 5) (da_cons (de_tup (da_cons de_int (da_cons de_int da_nil))) da_nil))) da_nil)) da_nil))))) da_nil)))))))))))
end
def d_is_whole : He.DefD := ⟨("is_whole", none), "is_whole", "is_whole", defArgs s_is_whole, defBody s_is_whole, defScope s_is_whole, [], []⟩
def d_divisor_of : He.DefD := ⟨("divisor_of", none), "divisor_of", "divisor_of", defArgs s_divisor_of, defBody s_divisor_of, defScope s_divisor_of, [], []⟩
def d_is_number : He.DefD := ⟨("is_number", none), "is_number", "is_number", defArgs s_is_number, defBody s_is_number, defScope s_is_number, [], []⟩
def d_lowest : He.DefD := ⟨("lowest", none), "lowest", "lowest", defArgs s_lowest, defBody s_lowest, defScope s_lowest, [], []⟩
def d_plus : He.DefD := ⟨("plus", none), "plus", "plus", defArgs s_plus, defBody s_plus, defScope s_plus, [], []⟩
def d_times : He.DefD := ⟨("times", none), "times", "times", defArgs s_times, defBody s_times, defScope s_times, [], []⟩
def d_is_name : He.DefD := ⟨("is_name", none), "is_name", "is_name", defArgs s_is_name, defBody s_is_name, defScope s_is_name, [], []⟩
def d_is_grain : He.DefD := ⟨("is_grain", none), "is_grain", "is_grain", defArgs s_is_grain, defBody s_is_grain, defScope s_is_grain, [], []⟩
def d_is_part : He.DefD := ⟨("is_part", none), "is_part", "is_part", defArgs s_is_part, defBody s_is_part, defScope s_is_part, [], []⟩
def d_is_line : He.DefD := ⟨("is_line", none), "is_line", "is_line", defArgs s_is_line, defBody s_is_line, defScope s_is_line, [], []⟩
def d_is_form : He.DefD := ⟨("is_form", none), "is_form", "is_form", defArgs s_is_form, defBody s_is_form, defScope s_is_form, [], []⟩
def d_as_dict : He.DefD := ⟨("as_dict", none), "as_dict", "as_dict", defArgs s_as_dict, defBody s_as_dict, defScope s_as_dict, [], []⟩
def d_as_line : He.DefD := ⟨("as_line", none), "as_line", "as_line", defArgs s_as_line, defBody s_as_line, defScope s_as_line, [], []⟩
def d_line_plus : He.DefD := ⟨("line_plus", none), "line_plus", "line_plus", defArgs s_line_plus, defBody s_line_plus, defScope s_line_plus, [], []⟩
def d_line_times : He.DefD := ⟨("line_times", none), "line_times", "line_times", defArgs s_line_times, defBody s_line_times, defScope s_line_times, [], []⟩
def d_cut : He.DefD := ⟨("cut", none), "cut", "cut", defArgs s_cut, defBody s_cut, defScope s_cut, [], []⟩
def d_weight_in : He.DefD := ⟨("weight_in", none), "weight_in", "weight_in", defArgs s_weight_in, defBody s_weight_in, defScope s_weight_in, [], []⟩
def d_paired : He.DefD := ⟨("paired", none), "paired", "paired", defArgs s_paired, defBody s_paired, defScope s_paired, [], []⟩
def d_form_plus : He.DefD := ⟨("form_plus", none), "form_plus", "form_plus", defArgs s_form_plus, defBody s_form_plus, defScope s_form_plus, [], []⟩
def d_form_times : He.DefD := ⟨("form_times", none), "form_times", "form_times", defArgs s_form_times, defBody s_form_times, defScope s_form_times, [], []⟩
def d_form_minus : He.DefD := ⟨("form_minus", none), "form_minus", "form_minus", defArgs s_form_minus, defBody s_form_minus, defScope s_form_minus, [], []⟩
def d_worth_of_form : He.DefD := ⟨("worth_of_form", none), "worth_of_form", "worth_of_form", defArgs s_worth_of_form, defBody s_worth_of_form, defScope s_worth_of_form, [], []⟩
def d__law_pool : He.DefD := ⟨("_law_pool", none), "_law_pool", "_law_pool", defArgs s__law_pool, defBody s__law_pool, defScope s__law_pool, [], []⟩
def d__law_take : He.DefD := ⟨("_law_take", none), "_law_take", "_law_take", defArgs s__law_take, defBody s__law_take, defScope s__law_take, [], []⟩
def d__law_is_whole : He.DefD := ⟨("_law_is_whole", none), "_law_is_whole", "_law_is_whole", defArgs s__law_is_whole, defBody s__law_is_whole, defScope s__law_is_whole, [], []⟩
def d__law_same : He.DefD := ⟨("_law_same", none), "_law_same", "_law_same", defArgs s__law_same, defBody s__law_same, defScope s__law_same, [], []⟩
def d__law_shared_part : He.DefD := ⟨("_law_shared_part", none), "_law_shared_part", "_law_shared_part", defArgs s__law_shared_part, defBody s__law_shared_part, defScope s__law_shared_part, [], []⟩
def d__law_is_number_of : He.DefD := ⟨("_law_is_number_of", none), "_law_is_number_of", "_law_is_number_of", defArgs s__law_is_number_of, defBody s__law_is_number_of, defScope s__law_is_number_of, [], []⟩
def d__law_is_name_of : He.DefD := ⟨("_law_is_name_of", none), "_law_is_name_of", "_law_is_name_of", defArgs s__law_is_name_of, defBody s__law_is_name_of, defScope s__law_is_name_of, [], []⟩
def d__law_is_cell_form : He.DefD := ⟨("_law_is_cell_form", none), "_law_is_cell_form", "_law_is_cell_form", defArgs s__law_is_cell_form, defBody s__law_is_cell_form, defScope s__law_is_cell_form, [], []⟩
def d__law_is_grain_of : He.DefD := ⟨("_law_is_grain_of", none), "_law_is_grain_of", "_law_is_grain_of", defArgs s__law_is_grain_of, defBody s__law_is_grain_of, defScope s__law_is_grain_of, [], []⟩
def d__law_are_rising : He.DefD := ⟨("_law_are_rising", none), "_law_are_rising", "_law_are_rising", defArgs s__law_are_rising, defBody s__law_are_rising, defScope s__law_are_rising, [], []⟩
def d__law_is_line_of : He.DefD := ⟨("_law_is_line_of", none), "_law_is_line_of", "_law_is_line_of", defArgs s__law_is_line_of, defBody s__law_is_line_of, defScope s__law_is_line_of, [], []⟩
def d__law_is_form_of : He.DefD := ⟨("_law_is_form_of", none), "_law_is_form_of", "_law_is_form_of", defArgs s__law_is_form_of, defBody s__law_is_form_of, defScope s__law_is_form_of, [], []⟩
def d__law_nr : He.DefD := ⟨("_law_nr", none), "_law_nr", "_law_nr", defArgs s__law_nr, defBody s__law_nr, defScope s__law_nr, [], []⟩
def d__law_nr_plus : He.DefD := ⟨("_law_nr_plus", none), "_law_nr_plus", "_law_nr_plus", defArgs s__law_nr_plus, defBody s__law_nr_plus, defScope s__law_nr_plus, [], []⟩
def d__law_nr_times : He.DefD := ⟨("_law_nr_times", none), "_law_nr_times", "_law_nr_times", defArgs s__law_nr_times, defBody s__law_nr_times, defScope s__law_nr_times, [], []⟩
def d__law_line_from : He.DefD := ⟨("_law_line_from", none), "_law_line_from", "_law_line_from", defArgs s__law_line_from, defBody s__law_line_from, defScope s__law_line_from, [], []⟩
def d__law_line_plus : He.DefD := ⟨("_law_line_plus", none), "_law_line_plus", "_law_line_plus", defArgs s__law_line_plus, defBody s__law_line_plus, defScope s__law_line_plus, [], []⟩
def d__law_line_times : He.DefD := ⟨("_law_line_times", none), "_law_line_times", "_law_line_times", defArgs s__law_line_times, defBody s__law_line_times, defScope s__law_line_times, [], []⟩
def d__law_line_cut : He.DefD := ⟨("_law_line_cut", none), "_law_line_cut", "_law_line_cut", defArgs s__law_line_cut, defBody s__law_line_cut, defScope s__law_line_cut, [], []⟩
def d__law_weight : He.DefD := ⟨("_law_weight", none), "_law_weight", "_law_weight", defArgs s__law_weight, defBody s__law_weight, defScope s__law_weight, [], []⟩
def d__law_line_pair : He.DefD := ⟨("_law_line_pair", none), "_law_line_pair", "_law_line_pair", defArgs s__law_line_pair, defBody s__law_line_pair, defScope s__law_line_pair, [], []⟩
def d__law_fm_plus : He.DefD := ⟨("_law_fm_plus", none), "_law_fm_plus", "_law_fm_plus", defArgs s__law_fm_plus, defBody s__law_fm_plus, defScope s__law_fm_plus, [], []⟩
def d__law_fm_times : He.DefD := ⟨("_law_fm_times", none), "_law_fm_times", "_law_fm_times", defArgs s__law_fm_times, defBody s__law_fm_times, defScope s__law_fm_times, [], []⟩
def d__law_fm_less : He.DefD := ⟨("_law_fm_less", none), "_law_fm_less", "_law_fm_less", defArgs s__law_fm_less, defBody s__law_fm_less, defScope s__law_fm_less, [], []⟩
def d__law_line_worth : He.DefD := ⟨("_law_line_worth", none), "_law_line_worth", "_law_line_worth", defArgs s__law_line_worth, defBody s__law_line_worth, defScope s__law_line_worth, [], []⟩
def d__law_fm_worth : He.DefD := ⟨("_law_fm_worth", none), "_law_fm_worth", "_law_fm_worth", defArgs s__law_fm_worth, defBody s__law_fm_worth, defScope s__law_fm_worth, [], []⟩
def d__law_chosen : He.DefD := ⟨("_law_chosen", none), "_law_chosen", "_law_chosen", defArgs s__law_chosen, defBody s__law_chosen, defScope s__law_chosen, [], []⟩
def d__law_number_drawn : He.DefD := ⟨("_law_number_drawn", none), "_law_number_drawn", "_law_number_drawn", defArgs s__law_number_drawn, defBody s__law_number_drawn, defScope s__law_number_drawn, [], []⟩
def d__law_factor_drawn : He.DefD := ⟨("_law_factor_drawn", none), "_law_factor_drawn", "_law_factor_drawn", defArgs s__law_factor_drawn, defBody s__law_factor_drawn, defScope s__law_factor_drawn, [], []⟩
def d__law_any_number : He.DefD := ⟨("_law_any_number", none), "_law_any_number", "_law_any_number", defArgs s__law_any_number, defBody s__law_any_number, defScope s__law_any_number, [], []⟩
def d__law_some_weight : He.DefD := ⟨("_law_some_weight", none), "_law_some_weight", "_law_some_weight", defArgs s__law_some_weight, defBody s__law_some_weight, defScope s__law_some_weight, [], []⟩
def d__law_grains_any : He.DefD := ⟨("_law_grains_any", none), "_law_grains_any", "_law_grains_any", defArgs s__law_grains_any, defBody s__law_grains_any, defScope s__law_grains_any, [], []⟩
def d__law_line_of : He.DefD := ⟨("_law_line_of", none), "_law_line_of", "_law_line_of", defArgs s__law_line_of, defBody s__law_line_of, defScope s__law_line_of, [], []⟩
def d__law_sums_right : He.DefD := ⟨("_law_sums_right", none), "_law_sums_right", "_law_sums_right", defArgs s__law_sums_right, defBody s__law_sums_right, defScope s__law_sums_right, [], []⟩
def d__law_arrays_drawn : He.DefD := ⟨("_law_arrays_drawn", none), "_law_arrays_drawn", "_law_arrays_drawn", defArgs s__law_arrays_drawn, defBody s__law_arrays_drawn, defScope s__law_arrays_drawn, [], []⟩
def d__law_worths_right : He.DefD := ⟨("_law_worths_right", none), "_law_worths_right", "_law_worths_right", defArgs s__law_worths_right, defBody s__law_worths_right, defScope s__law_worths_right, [], []⟩
def d__law_bent_grain : He.DefD := ⟨("_law_bent_grain", none), "_law_bent_grain", "_law_bent_grain", defArgs s__law_bent_grain, defBody s__law_bent_grain, defScope s__law_bent_grain, [], []⟩
def d__law_bent_weight : He.DefD := ⟨("_law_bent_weight", none), "_law_bent_weight", "_law_bent_weight", defArgs s__law_bent_weight, defBody s__law_bent_weight, defScope s__law_bent_weight, [], []⟩
def d__law_bent_line : He.DefD := ⟨("_law_bent_line", none), "_law_bent_line", "_law_bent_line", defArgs s__law_bent_line, defBody s__law_bent_line, defScope s__law_bent_line, [], []⟩
def d__law_bent_form : He.DefD := ⟨("_law_bent_form", none), "_law_bent_form", "_law_bent_form", defArgs s__law_bent_form, defBody s__law_bent_form, defScope s__law_bent_form, [], []⟩
def d__law_judged_right : He.DefD := ⟨("_law_judged_right", none), "_law_judged_right", "_law_judged_right", defArgs s__law_judged_right, defBody s__law_judged_right, defScope s__law_judged_right, [], []⟩
def d_law : He.DefD := ⟨("law", none), "law", "law", defArgs s_law, defBody s_law, defScope s_law, [], []⟩
def hdFn0 : List He.DefD := [d_is_whole, d_divisor_of, d_is_number, d_lowest, d_plus, d_times, d_is_name, d_is_grain, d_is_part, d_is_line, d_is_form, d_as_dict, d_as_line, d_line_plus, d_line_times, d_cut, d_weight_in, d_paired, d_form_plus, d_form_times, d_form_minus, d_worth_of_form, d__law_pool, d__law_take, d__law_is_whole, d__law_same, d__law_shared_part, d__law_is_number_of, d__law_is_name_of, d__law_is_cell_form]
def hdFn1 : List He.DefD := [d__law_is_grain_of, d__law_are_rising, d__law_is_line_of, d__law_is_form_of, d__law_nr, d__law_nr_plus, d__law_nr_times, d__law_line_from, d__law_line_plus, d__law_line_times, d__law_line_cut, d__law_weight, d__law_line_pair, d__law_fm_plus, d__law_fm_times, d__law_fm_less, d__law_line_worth, d__law_fm_worth, d__law_chosen, d__law_number_drawn, d__law_factor_drawn, d__law_any_number, d__law_some_weight, d__law_grains_any, d__law_line_of, d__law_sums_right, d__law_arrays_drawn, d__law_worths_right, d__law_bent_grain, d__law_bent_weight]
def hdFn2 : List He.DefD := [d__law_bent_line, d__law_bent_form, d__law_judged_right, d_law]
def hdFn : List He.DefD := hdFn0 ++ hdFn1 ++ hdFn2
def hdFa0 : List He.Fa := [.glo "is_whole", .glo "divisor_of", .glo "is_number", .glo "lowest", .glo "plus", .glo "times", .glo "is_name", .glo "is_grain", .glo "is_part", .glo "is_line", .glo "is_form", .glo "as_dict", .glo "as_line", .glo "line_plus", .glo "line_times", .glo "cut", .glo "weight_in", .glo "paired", .glo "form_plus", .glo "form_times", .glo "form_minus", .glo "worth_of_form", .glo "_law_pool", .glo "_law_take", .glo "_law_is_whole", .glo "_law_same", .glo "_law_shared_part", .glo "_law_is_number_of", .glo "_law_is_name_of", .glo "_law_is_cell_form"]
def hdFa1 : List He.Fa := [.glo "_law_is_grain_of", .glo "_law_are_rising", .glo "_law_is_line_of", .glo "_law_is_form_of", .glo "_law_nr", .glo "_law_nr_plus", .glo "_law_nr_times", .glo "_law_line_from", .glo "_law_line_plus", .glo "_law_line_times", .glo "_law_line_cut", .glo "_law_weight", .glo "_law_line_pair", .glo "_law_fm_plus", .glo "_law_fm_times", .glo "_law_fm_less", .glo "_law_line_worth", .glo "_law_fm_worth", .glo "_law_chosen", .glo "_law_number_drawn", .glo "_law_factor_drawn", .glo "_law_any_number", .glo "_law_some_weight", .glo "_law_grains_any", .glo "_law_line_of", .glo "_law_sums_right", .glo "_law_arrays_drawn", .glo "_law_worths_right", .glo "_law_bent_grain", .glo "_law_bent_weight"]
def hdFa2 : List He.Fa := [.glo "_law_bent_line", .glo "_law_bent_form", .glo "_law_judged_right", .glo "law", .free "abs", .free "all", .free "bool", .free "dict", .free "int", .free "isinstance", .free "len", .free "list", .free "max", .free "range", .free "sorted", .free "str", .free "tuple", .free "zip", .str "LETTERS" "abcdefghijklmnopqrstuvwxyz", .int "MOST_RANK" 3, .glo "NOUGHT", .glo "LESS_ONE"]
def hdFa : List He.Fa := hdFa0 ++ hdFa1 ++ hdFa2
abbrev Pl : Type := Str × List V
abbrev AlP : Type := He.AlD × Bool
def obsP (fa : List He.Fa) (fn : List He.DefD) (ps : List Pl) (K : PySem.W.Frag) : AlP := (He.obsD fa fn K, ps.all fun p => plB K p.1 p.2)
def valP (fn : List He.DefD) : AlP := (He.valD fn, true)
def obsPG (n : Nat) (fa : List He.Fa) (fn : List He.DefD) (ps : List Pl) (g : Addr → Option Obj) : AlP := obsP fa fn ps (He.frG g (He.asD g n))
def SaysP (fa : List He.Fa) (fn : List He.DefD) (ps : List Pl) (K : PySem.W.Frag) : Prop := obsP fa fn ps K = valP fn
def hookP (n : Nat) (fa : List He.Fa) (fn : List He.DefD) (ps : List Pl) : PySem.W.Hook where
  α := AlP
  obs := fun s => obsPG n fa fn ps s.heap.get?
  val := fun _ => valP fn
  says := fun _ h => ∃ K : PySem.W.Frag, K.In h ∧ SaysP fa fn ps K
  of := fun _ _ e => ⟨_, He.frG_in, e⟩
  keeps := fun _ _ _ ⟨K, hK, c⟩ k => ⟨K, PySem.W.Frag.In.keeps hK k, c⟩
theorem obsPG_eq {n : Nat} {fa : List He.Fa} {fn : List He.DefD} {ps : List Pl} {g : Addr → Option Obj} {s : Shared} (h : ∀ a, g a = s.heap.get? a) : obsPG n fa fn ps g = (hookP n fa fn ps).obs s := by
  have e : g = s.heap.get? := funext h
  rw [e] <;> rfl
theorem SaysP.d {fa : List He.Fa} {fn : List He.DefD} {ps : List Pl} {K : PySem.W.Frag} (c : SaysP fa fn ps K) : He.SaysD fa fn K := congrArg (fun z : AlP => z.1) c
theorem SaysP.p {fa : List He.Fa} {fn : List He.DefD} {ps : List Pl} {K : PySem.W.Frag} (c : SaysP fa fn ps K) {p : Pl} (h : p ∈ ps) : plB K p.1 p.2 = true := by
  have e : (ps.all fun p => plB K p.1 p.2) = true := congrArg (fun z : AlP => z.2) c
  exact List.all_eq_true.mp e p h
def hdPs : List Pl := [("NOUGHT", [V.int 0, V.int 1]), ("LESS_ONE", [V.int (-1), V.int 1])]
abbrev hdR : PySem.W.OpenRow := PySem.W.OpenLaw.row PySem.Challenge.rw_fewestsent_k02_lines_and_forms_reckoned
abbrev hdK : PySem.W.Hook := hookP 4 hdFa hdFn hdPs
def hdOb (s : PySem.W.SharedT) : AlP := obsPG 4 hdFa hdFn hdPs (HandSHeadRun.getT s)
theorem hdOb_eq (s : PySem.W.SharedT) : hdOb s = hdK.obs s.abs := obsPG_eq (HandSHeadRun.getT_eq s)
def hdNs0 : List PySem.Str := ["is_whole", "divisor_of", "is_number", "lowest", "plus", "times", "is_name", "is_grain", "is_part", "is_line", "is_form", "as_dict", "as_line", "line_plus", "line_times", "cut", "weight_in", "paired", "form_plus", "form_times", "form_minus", "worth_of_form", "_law_pool", "_law_take", "_law_is_whole", "_law_same", "_law_shared_part", "_law_is_number_of", "_law_is_name_of", "_law_is_cell_form"]
def hdNs1 : List PySem.Str := ["_law_is_grain_of", "_law_are_rising", "_law_is_line_of", "_law_is_form_of", "_law_nr", "_law_nr_plus", "_law_nr_times", "_law_line_from", "_law_line_plus", "_law_line_times", "_law_line_cut", "_law_weight", "_law_line_pair", "_law_fm_plus", "_law_fm_times", "_law_fm_less", "_law_line_worth", "_law_fm_worth", "_law_chosen", "_law_number_drawn", "_law_factor_drawn", "_law_any_number", "_law_some_weight", "_law_grains_any", "_law_line_of", "_law_sums_right", "_law_arrays_drawn", "_law_worths_right", "_law_bent_grain", "_law_bent_weight"]
def hdNs2 : List PySem.Str := ["_law_bent_line", "_law_bent_form", "_law_judged_right", "LETTERS", "MOST_RANK", "NOUGHT", "LESS_ONE"]
def hdNs : List PySem.Str := hdNs0 ++ hdNs1 ++ hdNs2
theorem hdRun (w : World) : HandSHeadRun.RunEq hdR (PySem.W.view hdR.prog [71]) hdK hdOb 4000 hdNs w := by
  intro os
  kernel_rfl
theorem hdGlo {K : PySem.W.Frag} {h : Heap} {mg : Str → Option Value} (X : K.In h) (G : h.Ns mainGlobals mg) (c : SaysP hdFa hdFn hdPs K) : Glo K mg where
  h_is_whole := by
    obtain ⟨fd, F⟩ := c.d.def_ 0 (d := d_is_whole) rfl
    exact ⟨_, fd, F, He.glo_ok X G (c.d.fact 0 (f := .glo "is_whole") rfl)⟩
  h_divisor_of := by
    obtain ⟨fd, F⟩ := c.d.def_ 1 (d := d_divisor_of) rfl
    exact ⟨_, fd, F, He.glo_ok X G (c.d.fact 1 (f := .glo "divisor_of") rfl)⟩
  h_is_number := by
    obtain ⟨fd, F⟩ := c.d.def_ 2 (d := d_is_number) rfl
    exact ⟨_, fd, F, He.glo_ok X G (c.d.fact 2 (f := .glo "is_number") rfl)⟩
  h_lowest := by
    obtain ⟨fd, F⟩ := c.d.def_ 3 (d := d_lowest) rfl
    exact ⟨_, fd, F, He.glo_ok X G (c.d.fact 3 (f := .glo "lowest") rfl)⟩
  h_plus := by
    obtain ⟨fd, F⟩ := c.d.def_ 4 (d := d_plus) rfl
    exact ⟨_, fd, F, He.glo_ok X G (c.d.fact 4 (f := .glo "plus") rfl)⟩
  h_times := by
    obtain ⟨fd, F⟩ := c.d.def_ 5 (d := d_times) rfl
    exact ⟨_, fd, F, He.glo_ok X G (c.d.fact 5 (f := .glo "times") rfl)⟩
  h_is_name := by
    obtain ⟨fd, F⟩ := c.d.def_ 6 (d := d_is_name) rfl
    exact ⟨_, fd, F, He.glo_ok X G (c.d.fact 6 (f := .glo "is_name") rfl)⟩
  h_is_grain := by
    obtain ⟨fd, F⟩ := c.d.def_ 7 (d := d_is_grain) rfl
    exact ⟨_, fd, F, He.glo_ok X G (c.d.fact 7 (f := .glo "is_grain") rfl)⟩
  h_is_part := by
    obtain ⟨fd, F⟩ := c.d.def_ 8 (d := d_is_part) rfl
    exact ⟨_, fd, F, He.glo_ok X G (c.d.fact 8 (f := .glo "is_part") rfl)⟩
  h_is_line := by
    obtain ⟨fd, F⟩ := c.d.def_ 9 (d := d_is_line) rfl
    exact ⟨_, fd, F, He.glo_ok X G (c.d.fact 9 (f := .glo "is_line") rfl)⟩
  h_is_form := by
    obtain ⟨fd, F⟩ := c.d.def_ 10 (d := d_is_form) rfl
    exact ⟨_, fd, F, He.glo_ok X G (c.d.fact 10 (f := .glo "is_form") rfl)⟩
  h_as_dict := by
    obtain ⟨fd, F⟩ := c.d.def_ 11 (d := d_as_dict) rfl
    exact ⟨_, fd, F, He.glo_ok X G (c.d.fact 11 (f := .glo "as_dict") rfl)⟩
  h_as_line := by
    obtain ⟨fd, F⟩ := c.d.def_ 12 (d := d_as_line) rfl
    exact ⟨_, fd, F, He.glo_ok X G (c.d.fact 12 (f := .glo "as_line") rfl)⟩
  h_line_plus := by
    obtain ⟨fd, F⟩ := c.d.def_ 13 (d := d_line_plus) rfl
    exact ⟨_, fd, F, He.glo_ok X G (c.d.fact 13 (f := .glo "line_plus") rfl)⟩
  h_line_times := by
    obtain ⟨fd, F⟩ := c.d.def_ 14 (d := d_line_times) rfl
    exact ⟨_, fd, F, He.glo_ok X G (c.d.fact 14 (f := .glo "line_times") rfl)⟩
  h_cut := by
    obtain ⟨fd, F⟩ := c.d.def_ 15 (d := d_cut) rfl
    exact ⟨_, fd, F, He.glo_ok X G (c.d.fact 15 (f := .glo "cut") rfl)⟩
  h_weight_in := by
    obtain ⟨fd, F⟩ := c.d.def_ 16 (d := d_weight_in) rfl
    exact ⟨_, fd, F, He.glo_ok X G (c.d.fact 16 (f := .glo "weight_in") rfl)⟩
  h_paired := by
    obtain ⟨fd, F⟩ := c.d.def_ 17 (d := d_paired) rfl
    exact ⟨_, fd, F, He.glo_ok X G (c.d.fact 17 (f := .glo "paired") rfl)⟩
  h_form_plus := by
    obtain ⟨fd, F⟩ := c.d.def_ 18 (d := d_form_plus) rfl
    exact ⟨_, fd, F, He.glo_ok X G (c.d.fact 18 (f := .glo "form_plus") rfl)⟩
  h_form_times := by
    obtain ⟨fd, F⟩ := c.d.def_ 19 (d := d_form_times) rfl
    exact ⟨_, fd, F, He.glo_ok X G (c.d.fact 19 (f := .glo "form_times") rfl)⟩
  h_form_minus := by
    obtain ⟨fd, F⟩ := c.d.def_ 20 (d := d_form_minus) rfl
    exact ⟨_, fd, F, He.glo_ok X G (c.d.fact 20 (f := .glo "form_minus") rfl)⟩
  h_worth_of_form := by
    obtain ⟨fd, F⟩ := c.d.def_ 21 (d := d_worth_of_form) rfl
    exact ⟨_, fd, F, He.glo_ok X G (c.d.fact 21 (f := .glo "worth_of_form") rfl)⟩
  h__law_pool := by
    obtain ⟨fd, F⟩ := c.d.def_ 22 (d := d__law_pool) rfl
    exact ⟨_, fd, F, He.glo_ok X G (c.d.fact 22 (f := .glo "_law_pool") rfl)⟩
  h__law_take := by
    obtain ⟨fd, F⟩ := c.d.def_ 23 (d := d__law_take) rfl
    exact ⟨_, fd, F, He.glo_ok X G (c.d.fact 23 (f := .glo "_law_take") rfl)⟩
  h__law_is_whole := by
    obtain ⟨fd, F⟩ := c.d.def_ 24 (d := d__law_is_whole) rfl
    exact ⟨_, fd, F, He.glo_ok X G (c.d.fact 24 (f := .glo "_law_is_whole") rfl)⟩
  h__law_same := by
    obtain ⟨fd, F⟩ := c.d.def_ 25 (d := d__law_same) rfl
    exact ⟨_, fd, F, He.glo_ok X G (c.d.fact 25 (f := .glo "_law_same") rfl)⟩
  h__law_shared_part := by
    obtain ⟨fd, F⟩ := c.d.def_ 26 (d := d__law_shared_part) rfl
    exact ⟨_, fd, F, He.glo_ok X G (c.d.fact 26 (f := .glo "_law_shared_part") rfl)⟩
  h__law_is_number_of := by
    obtain ⟨fd, F⟩ := c.d.def_ 27 (d := d__law_is_number_of) rfl
    exact ⟨_, fd, F, He.glo_ok X G (c.d.fact 27 (f := .glo "_law_is_number_of") rfl)⟩
  h__law_is_name_of := by
    obtain ⟨fd, F⟩ := c.d.def_ 28 (d := d__law_is_name_of) rfl
    exact ⟨_, fd, F, He.glo_ok X G (c.d.fact 28 (f := .glo "_law_is_name_of") rfl)⟩
  h__law_is_cell_form := by
    obtain ⟨fd, F⟩ := c.d.def_ 29 (d := d__law_is_cell_form) rfl
    exact ⟨_, fd, F, He.glo_ok X G (c.d.fact 29 (f := .glo "_law_is_cell_form") rfl)⟩
  h__law_is_grain_of := by
    obtain ⟨fd, F⟩ := c.d.def_ 30 (d := d__law_is_grain_of) rfl
    exact ⟨_, fd, F, He.glo_ok X G (c.d.fact 30 (f := .glo "_law_is_grain_of") rfl)⟩
  h__law_are_rising := by
    obtain ⟨fd, F⟩ := c.d.def_ 31 (d := d__law_are_rising) rfl
    exact ⟨_, fd, F, He.glo_ok X G (c.d.fact 31 (f := .glo "_law_are_rising") rfl)⟩
  h__law_is_line_of := by
    obtain ⟨fd, F⟩ := c.d.def_ 32 (d := d__law_is_line_of) rfl
    exact ⟨_, fd, F, He.glo_ok X G (c.d.fact 32 (f := .glo "_law_is_line_of") rfl)⟩
  h__law_is_form_of := by
    obtain ⟨fd, F⟩ := c.d.def_ 33 (d := d__law_is_form_of) rfl
    exact ⟨_, fd, F, He.glo_ok X G (c.d.fact 33 (f := .glo "_law_is_form_of") rfl)⟩
  h__law_nr := by
    obtain ⟨fd, F⟩ := c.d.def_ 34 (d := d__law_nr) rfl
    exact ⟨_, fd, F, He.glo_ok X G (c.d.fact 34 (f := .glo "_law_nr") rfl)⟩
  h__law_nr_plus := by
    obtain ⟨fd, F⟩ := c.d.def_ 35 (d := d__law_nr_plus) rfl
    exact ⟨_, fd, F, He.glo_ok X G (c.d.fact 35 (f := .glo "_law_nr_plus") rfl)⟩
  h__law_nr_times := by
    obtain ⟨fd, F⟩ := c.d.def_ 36 (d := d__law_nr_times) rfl
    exact ⟨_, fd, F, He.glo_ok X G (c.d.fact 36 (f := .glo "_law_nr_times") rfl)⟩
  h__law_line_from := by
    obtain ⟨fd, F⟩ := c.d.def_ 37 (d := d__law_line_from) rfl
    exact ⟨_, fd, F, He.glo_ok X G (c.d.fact 37 (f := .glo "_law_line_from") rfl)⟩
  h__law_line_plus := by
    obtain ⟨fd, F⟩ := c.d.def_ 38 (d := d__law_line_plus) rfl
    exact ⟨_, fd, F, He.glo_ok X G (c.d.fact 38 (f := .glo "_law_line_plus") rfl)⟩
  h__law_line_times := by
    obtain ⟨fd, F⟩ := c.d.def_ 39 (d := d__law_line_times) rfl
    exact ⟨_, fd, F, He.glo_ok X G (c.d.fact 39 (f := .glo "_law_line_times") rfl)⟩
  h__law_line_cut := by
    obtain ⟨fd, F⟩ := c.d.def_ 40 (d := d__law_line_cut) rfl
    exact ⟨_, fd, F, He.glo_ok X G (c.d.fact 40 (f := .glo "_law_line_cut") rfl)⟩
  h__law_weight := by
    obtain ⟨fd, F⟩ := c.d.def_ 41 (d := d__law_weight) rfl
    exact ⟨_, fd, F, He.glo_ok X G (c.d.fact 41 (f := .glo "_law_weight") rfl)⟩
  h__law_line_pair := by
    obtain ⟨fd, F⟩ := c.d.def_ 42 (d := d__law_line_pair) rfl
    exact ⟨_, fd, F, He.glo_ok X G (c.d.fact 42 (f := .glo "_law_line_pair") rfl)⟩
  h__law_fm_plus := by
    obtain ⟨fd, F⟩ := c.d.def_ 43 (d := d__law_fm_plus) rfl
    exact ⟨_, fd, F, He.glo_ok X G (c.d.fact 43 (f := .glo "_law_fm_plus") rfl)⟩
  h__law_fm_times := by
    obtain ⟨fd, F⟩ := c.d.def_ 44 (d := d__law_fm_times) rfl
    exact ⟨_, fd, F, He.glo_ok X G (c.d.fact 44 (f := .glo "_law_fm_times") rfl)⟩
  h__law_fm_less := by
    obtain ⟨fd, F⟩ := c.d.def_ 45 (d := d__law_fm_less) rfl
    exact ⟨_, fd, F, He.glo_ok X G (c.d.fact 45 (f := .glo "_law_fm_less") rfl)⟩
  h__law_line_worth := by
    obtain ⟨fd, F⟩ := c.d.def_ 46 (d := d__law_line_worth) rfl
    exact ⟨_, fd, F, He.glo_ok X G (c.d.fact 46 (f := .glo "_law_line_worth") rfl)⟩
  h__law_fm_worth := by
    obtain ⟨fd, F⟩ := c.d.def_ 47 (d := d__law_fm_worth) rfl
    exact ⟨_, fd, F, He.glo_ok X G (c.d.fact 47 (f := .glo "_law_fm_worth") rfl)⟩
  h__law_chosen := by
    obtain ⟨fd, F⟩ := c.d.def_ 48 (d := d__law_chosen) rfl
    exact ⟨_, fd, F, He.glo_ok X G (c.d.fact 48 (f := .glo "_law_chosen") rfl)⟩
  h__law_number_drawn := by
    obtain ⟨fd, F⟩ := c.d.def_ 49 (d := d__law_number_drawn) rfl
    exact ⟨_, fd, F, He.glo_ok X G (c.d.fact 49 (f := .glo "_law_number_drawn") rfl)⟩
  h__law_factor_drawn := by
    obtain ⟨fd, F⟩ := c.d.def_ 50 (d := d__law_factor_drawn) rfl
    exact ⟨_, fd, F, He.glo_ok X G (c.d.fact 50 (f := .glo "_law_factor_drawn") rfl)⟩
  h__law_any_number := by
    obtain ⟨fd, F⟩ := c.d.def_ 51 (d := d__law_any_number) rfl
    exact ⟨_, fd, F, He.glo_ok X G (c.d.fact 51 (f := .glo "_law_any_number") rfl)⟩
  h__law_some_weight := by
    obtain ⟨fd, F⟩ := c.d.def_ 52 (d := d__law_some_weight) rfl
    exact ⟨_, fd, F, He.glo_ok X G (c.d.fact 52 (f := .glo "_law_some_weight") rfl)⟩
  h__law_grains_any := by
    obtain ⟨fd, F⟩ := c.d.def_ 53 (d := d__law_grains_any) rfl
    exact ⟨_, fd, F, He.glo_ok X G (c.d.fact 53 (f := .glo "_law_grains_any") rfl)⟩
  h__law_line_of := by
    obtain ⟨fd, F⟩ := c.d.def_ 54 (d := d__law_line_of) rfl
    exact ⟨_, fd, F, He.glo_ok X G (c.d.fact 54 (f := .glo "_law_line_of") rfl)⟩
  h__law_sums_right := by
    obtain ⟨fd, F⟩ := c.d.def_ 55 (d := d__law_sums_right) rfl
    exact ⟨_, fd, F, He.glo_ok X G (c.d.fact 55 (f := .glo "_law_sums_right") rfl)⟩
  h__law_arrays_drawn := by
    obtain ⟨fd, F⟩ := c.d.def_ 56 (d := d__law_arrays_drawn) rfl
    exact ⟨_, fd, F, He.glo_ok X G (c.d.fact 56 (f := .glo "_law_arrays_drawn") rfl)⟩
  h__law_worths_right := by
    obtain ⟨fd, F⟩ := c.d.def_ 57 (d := d__law_worths_right) rfl
    exact ⟨_, fd, F, He.glo_ok X G (c.d.fact 57 (f := .glo "_law_worths_right") rfl)⟩
  h__law_bent_grain := by
    obtain ⟨fd, F⟩ := c.d.def_ 58 (d := d__law_bent_grain) rfl
    exact ⟨_, fd, F, He.glo_ok X G (c.d.fact 58 (f := .glo "_law_bent_grain") rfl)⟩
  h__law_bent_weight := by
    obtain ⟨fd, F⟩ := c.d.def_ 59 (d := d__law_bent_weight) rfl
    exact ⟨_, fd, F, He.glo_ok X G (c.d.fact 59 (f := .glo "_law_bent_weight") rfl)⟩
  h__law_bent_line := by
    obtain ⟨fd, F⟩ := c.d.def_ 60 (d := d__law_bent_line) rfl
    exact ⟨_, fd, F, He.glo_ok X G (c.d.fact 60 (f := .glo "_law_bent_line") rfl)⟩
  h__law_bent_form := by
    obtain ⟨fd, F⟩ := c.d.def_ 61 (d := d__law_bent_form) rfl
    exact ⟨_, fd, F, He.glo_ok X G (c.d.fact 61 (f := .glo "_law_bent_form") rfl)⟩
  h__law_judged_right := by
    obtain ⟨fd, F⟩ := c.d.def_ 62 (d := d__law_judged_right) rfl
    exact ⟨_, fd, F, He.glo_ok X G (c.d.fact 62 (f := .glo "_law_judged_right") rfl)⟩
  f_abs := He.free_ok X G (c.d.fact 64 (f := .free "abs") rfl)
  f_all := He.free_ok X G (c.d.fact 65 (f := .free "all") rfl)
  f_bool := He.free_ok X G (c.d.fact 66 (f := .free "bool") rfl)
  f_dict := He.free_ok X G (c.d.fact 67 (f := .free "dict") rfl)
  f_int := He.free_ok X G (c.d.fact 68 (f := .free "int") rfl)
  f_isinstance := He.free_ok X G (c.d.fact 69 (f := .free "isinstance") rfl)
  f_len := He.free_ok X G (c.d.fact 70 (f := .free "len") rfl)
  f_list := He.free_ok X G (c.d.fact 71 (f := .free "list") rfl)
  f_max := He.free_ok X G (c.d.fact 72 (f := .free "max") rfl)
  f_range := He.free_ok X G (c.d.fact 73 (f := .free "range") rfl)
  f_sorted := He.free_ok X G (c.d.fact 74 (f := .free "sorted") rfl)
  f_str := He.free_ok X G (c.d.fact 75 (f := .free "str") rfl)
  f_tuple := He.free_ok X G (c.d.fact 76 (f := .free "tuple") rfl)
  f_zip := He.free_ok X G (c.d.fact 77 (f := .free "zip") rfl)
  g_LETTERS := He.str_ok X G (c.d.fact 78 (f := .str "LETTERS" "abcdefghijklmnopqrstuvwxyz") rfl)
  g_MOST_RANK := He.int_ok X G (c.d.fact 79 (f := .int "MOST_RANK" 3) rfl)
  g_NOUGHT := ⟨He.glo_ok X G (c.d.fact 80 (f := .glo "NOUGHT") rfl), c.p (p := ("NOUGHT", [V.int 0, V.int 1])) (by simp [hdPs])⟩
  g_LESS_ONE := ⟨He.glo_ok X G (c.d.fact 81 (f := .glo "LESS_ONE") rfl), c.p (p := ("LESS_ONE", [V.int (-1), V.int 1])) (by simp [hdPs])⟩
theorem hdFacts {P : Program} {w : World} {K : PySem.W.Frag} {h : Heap} {mg : Str → Option Value} {f : Addr} (X : K.In h) (G : h.Ns mainGlobals mg) (hfa : mg ("law" : Str) = some (.ref f)) (c : SaysP hdFa hdFn hdPs K) :
    ∃ fd : FuncData, (∀ (s : Shared) (v : Value), BindsTo s fd ⟨[v], []⟩ [("script", v)]) ∧ ∀ base : Heap, K.In base → base.Ns mainGlobals mg → FnOk P w K mg base CX0 14 f fd ["script"] (spA P w K m_law) := by
  obtain ⟨fd, F⟩ := c.d.def_ 63 (d := d_law) rfl
  have e := hfa.symm.trans (He.glo_ok X G (c.d.fact 63 (f := .glo "law") rfl))
  cases e
  have b := FunD.bindsA (ps := ["script"]) F fun _ _ _ _ _ _ us hl => match us, hl with | [_], _ => rfl
  exact ⟨fd, fun s v => b s [v] rfl, fun base _ _ => c_lawF (hdGlo X G c) F⟩
end Dl
open PySem PySem.W PySem.Calls PyProof.Rows
theorem PySem.Challenge.cw_fewestsent_k02_lines_and_forms_reckoned_holds : PySem.Challenge.rw_fewestsent_k02_lines_and_forms_reckoned.Holds := by
  w_on; o_law
  refine HandSHeadRun.head_any (r := OpenLaw.row PySem.Challenge.rw_fewestsent_k02_lines_and_forms_reckoned) (q := view (OpenLaw.row PySem.Challenge.rw_fewestsent_k02_lines_and_forms_reckoned).prog [71]) (H := Dl.hdK) (ob := Dl.hdOb) (M := 4000) (loose := Dl.hdNs) (d := HandSHeadRun.topDef (OpenLaw.row PySem.Challenge.rw_fewestsent_k02_lines_and_forms_reckoned).prog 71) (kwd := []) Dl.hdOb_eq
    (by kernel_rfl) (fun s => by kernel_rfl) Dl.hdRun (by kernel_rfl) (by kernel_rfl) (by kernel_rfl) (by rfl) (by first | assumption | decide +kernel) (by decide +kernel) ⟨rfl, rfl, rfl, rfl, rfl, by decide +kernel⟩ ?hw ?hc
  case hw => w_witness2
  case hc =>
    refine L2.walk_ofE (l := PySem.Challenge.rw_fewestsent_k02_lines_and_forms_reckoned) (n := 63) (k := 14) (x := "script") (CX := L2.CX0) rfl (by decide) (by kernel_rfl) ⟨rfl, by decide, by decide⟩ ?F (fun _ _ _ _ z => z)
    intro w mg fa h Y G hmg0
    obtain ⟨K, KX, c⟩ := Y
    have hmg : mg ("law" : PySem.Str) = some (.ref fa) := by
      have e : (HandSHeadRun.topDef (OpenLaw.row PySem.Challenge.rw_fewestsent_k02_lines_and_forms_reckoned).prog 71).name = ("law" : PySem.Str) := by kernel_rfl
      rw [← e]
      exact hmg0
    obtain ⟨fd, hb, hF⟩ := Dl.hdFacts (P := (PySem.Challenge.rw_fewestsent_k02_lines_and_forms_reckoned).prog) (w := w) KX G hmg c
    refine ⟨K, fd, Dl.spA (PySem.Challenge.rw_fewestsent_k02_lines_and_forms_reckoned).prog w K Dl.m_law, KX, hb, fun H a ns hl _ hS => ⟨H, [.scr ns], .bl true, Dl.Sub.refl, .cons (.scr hS) .nil, Dl.law_true ns, fun v H' F' _ r => ?_⟩, hF⟩
    cases r
    rfl
