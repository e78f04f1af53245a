import PyProof.Rows.All
import Wide.All
import OpenK.AllK
import Wide.FinOn
import KE.KeyNested
import HandS.TupLen
import HandS.ForMost
import KE.KDictPairs
import KE.KDictDisplayH
import HandS.Conv
import HandS.ForExc
import HandS.Deep
import HandS.TupAny
import HandS.SortRule
import HandS.SortInts
import HandS.TupSets
import HandS.IsInst
import HandS.Zip
import HandS.Walk
import HandS.Head0
import HandS.Head1
import HandS.Head2
import HandS.HeadEnd
import HandS.HeadHook1
import HandS.HeadHook2
import HandS.Defaults
import HandS.Lambda
import HandS.TryMany
import HandS.TupMul
import KE.KTupSum
import HandS.Style
import KE.DataMinMax
import KE.SortData
import HandS.SortKw
import KE.DataEq
import HandS.Iter
import PyProof.Draws
import PyProof.EnumMake
import HandS.SetFor
import HandS.Sort
import HandS.More
import HandS.CallLocal
import HandS.HeadHook3
import HandS.HeadHook4
import HandS.HeadWalk
import KE.SortKeyHeap
import HandS.Ends
import HandS.Words
import PySem.Challenge.RW_tramforks_k02_whole_ways
set_option Elab.async false
set_option linter.all false
set_option maxRecDepth 100000
/-! dicts whose keys are tuples, nested (of ints and None) -/
namespace M
open PySem PySem.Spec PyProof.Rows L2
abbrev NK := PySem.NestedKey
mutual
/-- a key's hash, no text in it -/
def nh : NK → Int
  | .none => reduceHash 0xFCA86420
  | .num i => hashInt i
  | .text _ => 0
  | .tup ks => reduceHash (Builtin.Tuple.tupleHashOf (nhs ks))
def nhs : List NK → List Int
  | [] => []
  | k :: ks => nh k :: nhs ks
end
mutual
/-- a key as it lies -/
def Ky (H : Hp) : NK → V → Prop
  | .none, v => v = .non
  | .num i, v => v = .int i
  | .text _, _ => False
  | .tup ks, v => ∃ a xs, v = .ref a ∧ H a = some (.tup xs) ∧ Kys H ks xs
def Kys (H : Hp) : List NK → List V → Prop
  | [], xs => xs = []
  | k :: ks, xs => ∃ x r, xs = x :: r ∧ Ky H k x ∧ Kys H ks r
end
section
variable {P : Program} {w : World} {H H' : Hp} {h : Heap}
mutual
theorem nh_eq : ∀ (k : NK) (v : V), Ky H k v → k.hash w = nh k
  | .none, v, _ => by simp [PySem.NestedKey.hash, nh]
  | .num i, v, _ => by simp [PySem.NestedKey.hash, nh]
  | .text _, v, h => h.elim
  | .tup ks, v, h => by
    obtain ⟨a, xs, _, _, hk⟩ := h
    simp only [PySem.NestedKey.hash, nh, nhs_eq ks xs hk]
theorem nhs_eq : ∀ (ks : List NK) (vs : List V), Kys H ks vs → PySem.NestedKey.hashes w ks = nhs ks
  | [], vs, _ => by simp [PySem.NestedKey.hashes, nhs]
  | k :: ks, vs, h => by
    obtain ⟨x, r, _, h1, h2⟩ := h
    simp only [PySem.NestedKey.hashes, nhs, nh_eq k x h1, nhs_eq ks r h2]
end
mutual
theorem Ky.mono (t : ∀ a xs, H a = some (.tup xs) → H' a = some (.tup xs)) : ∀ (k : NK) (v : V), Ky H k v → Ky H' k v
  | .none, v, h => h
  | .num i, v, h => h
  | .text _, v, h => h
  | .tup ks, v, h => by
    obtain ⟨a, xs, e, ha, hk⟩ := h
    exact ⟨a, xs, e, t _ _ ha, Kys.mono t ks xs hk⟩
theorem Kys.mono (t : ∀ a xs, H a = some (.tup xs) → H' a = some (.tup xs)) : ∀ (ks : List NK) (vs : List V), Kys H ks vs → Kys H' ks vs
  | [], vs, h => h
  | k :: ks, vs, h => by
    obtain ⟨x, r, e, h1, h2⟩ := h
    exact ⟨x, r, e, Ky.mono t k x h1, Kys.mono t ks r h2⟩
end
mutual
theorem Ky.nested (ok : HOk P w H h) : ∀ (k : NK) (v : V) (u : Value), Ky H k v → RelV v u → NestedIs h k u
  | .none, v, u, hk, r => by
    obtain rfl : v = .non := hk
    obtain rfl : u = .none := r
    exact .none
  | .num i, v, u, hk, r => by
    obtain rfl : v = .int i := hk
    obtain ⟨t, rfl⟩ := (show ∃ t, u = Value.int i t from r)
    exact .int i t
  | .text _, v, u, hk, r => hk.elim
  | .tup ks, v, u, hk, r => by
    obtain ⟨a, xs, rfl, ha, hs⟩ := hk
    obtain rfl : u = .ref a := r
    obtain ⟨_, its, rv, o, ho, hc, n, hd⟩ := (show ObjOk P w H h a (.tup xs) from ok a _ ha)
    exact .tup ho hc hd (Kys.nested ok ks xs its hs rv)
theorem Kys.nested (ok : HOk P w H h) : ∀ (ks : List NK) (vs : List V) (us : List Value), Kys H ks vs → Vals vs us → NestedAll h ks us
  | [], vs, us, hk, r => by
    obtain rfl : vs = [] := hk
    cases r
    exact .nil
  | k :: ks, vs, us, hk, r => by
    obtain ⟨x, t, rfl, h1, h2⟩ := hk
    cases r with
    | cons r1 r2 => exact .cons (Ky.nested ok k x _ h1 r1) (Kys.nested ok ks t _ h2 r2)
end
end
/-! ### what stands at its address -/
abbrev NE := NK × Addr × V
abbrev NP : NE → NK × Addr × Value → Prop := fun p q => p.1 = q.1 ∧ p.2.1 = q.2.1 ∧ RelV p.2.2 q.2.2
abbrev nEnt (x : NK × Addr × Value) : DictEntry := ⟨nh x.1, .ref x.2.1, x.2.2⟩
def NeOk (h : Heap) (a : Addr) (xs : List (NK × Addr × Value)) : Prop := ∃ o ds ep, h.get? a = some o ∧ o.ExactDict ∧ o.data = .dict ds ep ∧ ds.toList = xs.map nEnt ∧ (xs.map (·.1)).Nodup
def ndO (a : Addr) (es : List NE) : HO := .ext fun h => es.length ≤ sizeLine ∧ (a == sysModules) = false ∧ ∃ xs, Paired NP es xs ∧ NeOk h a xs
/-- keys at places -/
def KyE (H : Hp) (e : NE) : Prop := e.1.depth ≤ 8 ∧ Ky H e.1 (.ref e.2.1)
def valE (es : List NE) (k : NK) : Option V := (es.find? fun e => decide (e.1 = k)).map (·.2.2)
def putE (es : List NE) (k : NK) (b : Addr) (y : V) : List NE := if (valE es k).isSome = true then es.map (fun e => if e.1 = k then (e.1, e.2.1, y) else e) else es ++ [(k, b, y)]
/-- a dict of such keys, or an empty one -/
def Nd (H : Hp) (a : Addr) (es : List NE) : Prop := (H a = some (ndO a es) ∧ ∀ e ∈ es, KyE H e) ∨ (es = [] ∧ H a = some (.dK []))
theorem NeOk.stay {h1 h2 : Heap} {a : Addr} {xs : List (NK × Addr × Value)} (x : NeOk h1 a xs) (k : ∀ o, h1.get? a = some o → h2.get? a = some o) : NeOk h2 a xs := by
  obtain ⟨o, ds, ep, ho, r⟩ := x
  exact ⟨o, ds, ep, k _ ho, r⟩
theorem nd_new {P : Program} {w : World} {H : Hp} {h : Heap} {a : Addr} {es : List NE} {xs : List (NK × Addr × Value)} (h1 : es.length ≤ sizeLine) (h2 : (a == sysModules) = false) (r : Paired NP es xs) (n : NeOk h a xs) : ObjOk P w H h a (ndO a es) := by
  refine ⟨⟨h1, h2, xs, r, n⟩, ?_, fun g1 g2 ⟨a1, a2, ys, a3, a4⟩ k => ⟨a1, a2, ys, a3, a4.stay k⟩⟩
  obtain ⟨o, _, _, ho, _⟩ := n
  exact ⟨o, ho⟩
section
variable {es : List NE} {xs : List (NK × Addr × Value)}
theorem np_val (r : Paired NP es xs) (k : NK) : RelO (valE es k) ((atKey xs k).map (·.2)) := by
  induction r with
  | nil => exact True.intro
  | @cons m n ms ns z zs ih =>
    unfold valE atKey at ih ⊢
    rw [List.find?_cons, List.find?_cons, ← z.1]
    cases decide (m.1 = k) with
    | true => exact z.2.2
    | false => exact ih
theorem np_repl (r : Paired NP es xs) (k : NK) {y : V} {u : Value} (ry : RelV y u) : Paired NP (es.map fun e => if e.1 = k then (e.1, e.2.1, y) else e) (xs.map (putAt k u)) := by
  induction r with
  | nil => exact .nil
  | @cons m n ms ns z zs ih =>
    refine Paired.cons ?_ ih
    show NP (if m.1 = k then (m.1, m.2.1, y) else m) (if n.1 = k then (n.1, n.2.1, u) else n)
    rw [← z.1]
    split
    · exact ⟨rfl, z.2.1, ry⟩
    · exact z
theorem np_put (r : Paired NP es xs) (k : NK) {b : Addr} {y : V} {u : Value} (ry : RelV y u) : Paired NP (putE es k b y) (storedH xs k b u) := by
  have e : (valE es k).isSome = (atKey xs k).isSome := by rw [(np_val r k).isSome_eq, Option.isSome_map]
  unfold putE storedH
  rw [e]
  split
  · exact np_repl r k ry
  · exact Paired.snoc r ⟨rfl, rfl, ry⟩
theorem putE_len (es : List NE) (k : NK) (b : Addr) (y : V) : (putE es k b y).length ≤ es.length + 1 := by
  unfold putE
  split
  · rw [List.length_map]; omega
  · rw [List.length_append]; exact Nat.le_refl _
theorem putE_ky {H : Hp} {k : NK} {b : Addr} {y : V} (h : ∀ e ∈ es, KyE H e) (hk : KyE H (k, b, y)) : ∀ e ∈ putE es k b y, KyE H e := by
  unfold putE
  split
  · intro e he
    obtain ⟨f, hf, rfl⟩ := List.mem_map.mp he
    split
    · exact h f hf
    · exact h f hf
  · intro e he
    rcases List.mem_append.mp he with he | he
    · exact h e he
    · rw [List.mem_singleton] at he
      rw [he]
      exact hk
end
section
variable {P : Program} {w : World} {H H' : Hp} {h : Heap} {a : Addr} {es : List NE}
theorem ky_is (ok : HOk P w H h) {k : NK} {b : Addr} {x : V} (hk : KyE H (k, b, x)) : (nestedKind P w).is h k b := ⟨Ky.nested ok k _ _ hk.2 rfl, hk.1⟩
theorem ents_eq (hk : ∀ e ∈ es, KyE H e) : ∀ {xs : List (NK × Addr × Value)}, Paired NP es xs → xs.map nEnt = xs.map (entryOfKey (nestedKind P w)) := by
  intro xs r
  induction r with
  | nil => rfl
  | @cons p q ps qs z t ih =>
    rw [List.map_cons, List.map_cons, ih fun e he => hk e (List.mem_cons_of_mem _ he)]
    congr 1
    have := nh_eq (w := w) p.1 _ (hk p List.mem_cons_self).2
    rw [z.1] at this
    show (⟨nh q.1, .ref q.2.1, q.2.2⟩ : DictEntry) = ⟨q.1.hash w, .ref q.2.1, q.2.2⟩
    rw [this]
theorem nd_of (ok : HOk P w H h) (n : Nd H a es) : es.length ≤ sizeLine ∧ (a == sysModules) = false ∧ ∃ xs, Paired NP es xs ∧ h.DictOfH (nestedKind P w) a xs := by
  rcases n with ⟨e, hk⟩ | ⟨rfl, e⟩
  · obtain ⟨⟨h1, h2, xs, r, o, ds, ep, q1, q2, q3, q4, q5⟩, _⟩ := (show ObjOk P w H h a (ndO a es) from ok a _ e)
    refine ⟨h1, h2, xs, r, o, ds, ep, q1, q2, q3, by rw [q4]; exact ents_eq hk r, fun x hx => ?_, q5⟩
    obtain ⟨i, hi⟩ := List.mem_iff_getElem?.mp hx
    have : ∀ {es : List NE} {xs : List (NK × Addr × Value)}, Paired NP es xs → ∀ x ∈ xs, ∃ e ∈ es, NP e x := by
      intro es xs r
      induction r with
      | nil => intro x hx; cases hx
      | cons z t ih =>
        intro x hx
        rcases List.mem_cons.mp hx with rfl | hx
        · exact ⟨_, List.mem_cons_self, z⟩
        · obtain ⟨e, he, q⟩ := ih x hx
          exact ⟨e, List.mem_cons_of_mem _ he, q⟩
    obtain ⟨e, he, z1, z2, _⟩ := this r x hx
    have k := ky_is ok (k := e.1) (b := e.2.1) (x := e.2.2) (hk e he)
    rw [← z1, ← z2]
    exact k
  · obtain ⟨_, h2, vs, r, d⟩ := (show ObjOk P w H h a (.dK []) from ok a _ e)
    cases r
    obtain ⟨o, ds, ep, q1, q2, q3, _, q4, _⟩ := d
    have q5 : ds.toList = [] := by
      cases hd : ds.toList with
      | nil => rfl
      | cons a b => rw [hd] at q4; cases q4
    exact ⟨Nat.zero_le _, h2, [], .nil, o, ds, ep, q1, q2, q3, q5, fun x hx => by (cases hx), List.nodup_nil⟩
theorem Nd.mut (n : Nd H a es) : Mut (H a) := by
  rcases n with ⟨e, _⟩ | ⟨_, e⟩ <;> rw [e] <;> exact True.intro
theorem Nd.no_tup (n : Nd H a es) : ∀ ys, H a ≠ some (.tup ys) := fun ys z => by
  rcases n with ⟨e, _⟩ | ⟨_, e⟩ <;> rw [e] at z <;> cases z
end
section
variable {X : Cx} {pins : List (Addr × Obj)} {σ : L2.St} {H : Hp} {s : Shared} {a b : Addr} {es : List NE} {k : NK} {v x : V} {r : Value} {A : Around} {E : Value → Shared → Prop}
theorem room9 (hu : A.units + 9 < cLine) : (nestedKind X.prog X.w).room A.in1 := by
  show A.units + 1 + 8 < cLine
  omega
theorem n_getItem {Q : Value → Shared → Prop} (hu : A.units + 9 < cLine) (I : Inv X pins σ H s) (n : Nd H a es) (hk : KyE H (k, b, x)) (l : valE es k = some v) (h : ∀ w' s', Inv X pins σ H s' → RelV v w' → Q w' s') : wpAny (model X.prog X.w) A (getItem (.ref a) (.ref b)) Q E s := by
  obtain ⟨z, hd, xs, rel, dd⟩ := nd_of I.hok n
  obtain ⟨w', hw, rw'⟩ := RelO.some_of (v := v) (o := (atKey xs k).map (·.2)) (by rw [← l]; exact np_val rel k)
  obtain ⟨pr, hp, hv⟩ := Option.map_eq_some_iff.mp hw
  refine wpAny_getItem_heap (room9 hu) (ky_is I.hok hk) dd hp ?_
  rw [hv]
  exact h w' _ (I.tok _) rw'
theorem n_in {Q : Value → Shared → Prop} (hu : A.units + 9 < cLine) (I : Inv X pins σ H s) (n : Nd H a es) (hk : KyE H (k, b, x)) (h : ∀ s', Inv X pins σ H s' → Q (.bool (valE es k).isSome) s') : wpAny (model X.prog X.w) A (compareOp .In (.ref b) (.ref a)) Q E s := by
  obtain ⟨z, hd, xs, rel, dd⟩ := nd_of I.hok n
  refine wpAny_in_heap (room9 hu) (ky_is I.hok hk) hd dd ?_
  have q := (np_val rel k).isSome_eq
  rw [Option.isSome_map] at q
  rw [← q]
  exact h _ (I.tok _)
theorem n_notIn {Q : Value → Shared → Prop} (hu : A.units + 9 < cLine) (I : Inv X pins σ H s) (n : Nd H a es) (hk : KyE H (k, b, x)) (h : ∀ s', Inv X pins σ H s' → Q (.bool (!(valE es k).isSome)) s') : wpAny (model X.prog X.w) A (compareOp .NotIn (.ref b) (.ref a)) Q E s := by
  obtain ⟨z, hd, xs, rel, dd⟩ := nd_of I.hok n
  refine wpAny_notIn_heap (room9 hu) (ky_is I.hok hk) hd dd ?_
  have q := (np_val rel k).isSome_eq
  rw [Option.isSome_map] at q
  rw [← q]
  exact h _ (I.tok _)
theorem neOk_of {P : Program} {w : World} {H' : Hp} {h' : Heap} {es' : List NE} {ys : List (NK × Addr × Value)} (hk : ∀ e ∈ es', KyE H' e) (rel : Paired NP es' ys) (dd : h'.DictOfH (nestedKind P w) a ys) : NeOk h' a ys := by
  obtain ⟨o, ds, ep, q1, q2, q3, q4, _, q5⟩ := dd
  exact ⟨o, ds, ep, q1, q2, q3, by rw [q4]; exact (ents_eq (P := P) (w := w) hk rel).symm, q5⟩
theorem n_setItem {Q : Unit → Shared → Prop} (hu : A.units + 9 < cLine) (I : Inv X pins σ H s) (n : Nd H a es) (hk : KyE H (k, b, x)) (hl : es.length < sizeLine) (rv : RelV v r) (h : ∀ s', Inv X pins σ (upd H a (ndO a (putE es k b v))) s' → Q () s') : wpAny (model X.prog X.w) A (setItem (.ref a) (.ref b) r) Q E s := by
  obtain ⟨z, hd, xs, rel, dd⟩ := nd_of I.hok n
  have hz : xs.length ≤ sizeLine := Paired.length rel ▸ z
  have hk' : ∀ e ∈ es, KyE H e := by
    rcases n with ⟨_, q⟩ | ⟨rfl, _⟩
    · exact q
    · intro e he; cases he
  refine wpAny_setItem_heap (hsz := hz) (room9 hu) (ky_is I.hok hk) dd fun h' dd' hs => h _ ?_
  have hl2 := putE_len es k b v
  have hn : NeOk h' a (storedH xs k b r) := neOk_of (putE_ky (y := v) hk' hk) (np_put rel k rv) dd'
  obtain ⟨q, ds, ep, hq, _⟩ := id hn
  exact d_write I n.mut hs ⟨q, hq⟩ (nd_new (by omega) hd (np_put rel k rv) hn)
theorem n_get1 {Q : Value → Shared → Prop} (hu : A.units + 9 < cLine) (I : Inv X pins σ H s) (n : Nd H a es) (hk : KyE H (k, b, x)) (h : ∀ w' s', Inv X pins σ H s' → RelV ((valE es k).getD .non) w' → Q w' s') : wpAny (model X.prog X.w) A (call (.builtin "dict.get") [.ref a, .ref b]) Q E s := by
  obtain ⟨z, hd, xs, rel, dd⟩ := nd_of I.hok n
  refine call_meetsIn PySem.F.slot_dict_get dd.typeIs PySem.F.entry_dict_get (PySem.F.args_dict_get_2 _ _) (meetsH_dict_get (nestedKind X.prog X.w) a b hd) ⟨room9 hu, k, xs, ky_is I.hok hk, dd, h _ _ (I.tok _) ?_⟩
  exact (np_val rel k).getD rfl
theorem n_get2 {d : V} {u : Value} {Q : Value → Shared → Prop} (hu : A.units + 9 < cLine) (I : Inv X pins σ H s) (n : Nd H a es) (hk : KyE H (k, b, x)) (rd : RelV d u) (h : ∀ w' s', Inv X pins σ H s' → RelV ((valE es k).getD d) w' → Q w' s') : wpAny (model X.prog X.w) A (call (.builtin "dict.get") [.ref a, .ref b, u]) Q E s := by
  obtain ⟨z, hd, xs, rel, dd⟩ := nd_of I.hok n
  refine call_meetsIn PySem.F.slot_dict_get dd.typeIs PySem.F.entry_dict_get (PySem.F.args_dict_get_3 _ _ _) (meetsH_dict_get_default (nestedKind X.prog X.w) a b hd u) ⟨room9 hu, k, xs, ky_is I.hok hk, dd, h _ _ (I.tok _) ?_⟩
  exact (np_val rel k).getD rd
theorem nd_typeIs (I : Inv X pins σ H s) (n : Nd H a es) : s.TypeIs (.ref a) "dict" ∧ (∀ b, Value.ref a = .ref b → ∃ ob, s.heap.get? b = some ob ∧ ob.dict = none) := by
  obtain ⟨z, hd, xs, rel, dd⟩ := nd_of I.hok n
  refine ⟨dd.typeIs, fun b q => ?_⟩
  cases q
  obtain ⟨ob, _, _, h1, h2, _⟩ := dd
  exact ⟨ob, h1, h2.2.1⟩
theorem n_len {Q : Value → Shared → Prop} (I : Inv X pins σ H s) (n : Nd H a es) (h : ∀ t s', Inv X pins σ H s' → Q (.int es.length t) s') : wpAny (model X.prog X.w) A (call (.builtin "len") [.ref a]) Q E s := by
  obtain ⟨z, hd, xs, rel, dd⟩ := nd_of I.hok n
  have hl : es.length = xs.length := Paired.length rel
  refine call_len_dictH hd dd (by rw [← hl]; rw [sizeLine_eq] at z; omega) ?_
  rw [← hl]
  exact h _ _ (I.tok _)
end
/-! ### the rules' forms -/
def NGet (H : Hp) (a : Addr) (y : V) (o : Option V) : Prop := ∃ es k b x, Nd H a es ∧ y = .ref b ∧ KyE H (k, b, x) ∧ o = valE es k
def NPut (H : Hp) (a : Addr) (y v : V) (H' : Hp) : Prop := ∃ es k b x, Nd H a es ∧ y = .ref b ∧ KyE H (k, b, x) ∧ es.length < sizeLine ∧ H' = upd H a (ndO a (putE es k b v))
section
variable {X : Cx}
theorem op_inN (hu : X.A.units + 9 < cLine) : OpR X (compareOp .In) (fun x y H Q => ∃ a o, y = .ref a ∧ NGet H a x o ∧ Q (.bl o.isSome) H) := by
  intro pn sh σ H x y v u Q I rx ry hyp
  obtain ⟨a, o, rfl, ⟨es, k, b, z, n, rfl, hk, rfl⟩, q⟩ := hyp
  obtain rfl : u = Value.ref a := ry
  obtain rfl : v = Value.ref b := rx
  exact n_in hu I n hk fun s3 I3 => ⟨.bl _, H, I3, rfl, q⟩
theorem op_notInN (hu : X.A.units + 9 < cLine) : OpR X (compareOp .NotIn) (fun x y H Q => ∃ a o, y = .ref a ∧ NGet H a x o ∧ Q (.bl (!o.isSome)) H) := by
  intro pn sh σ H x y v u Q I rx ry hyp
  obtain ⟨a, o, rfl, ⟨es, k, b, z, n, rfl, hk, rfl⟩, q⟩ := hyp
  obtain rfl : u = Value.ref a := ry
  obtain rfl : v = Value.ref b := rx
  exact n_notIn hu I n hk fun s3 I3 => ⟨.bl _, H, I3, rfl, q⟩
theorem call_lenN : CallR X (.builtin "len") (fun xs H Q => ∃ a es, xs = [.ref a] ∧ Nd H a es ∧ Q (.int es.length) H) := by
  intro pins s σ H xs us Q I r h
  obtain ⟨a, es, rfl, n, q⟩ := h
  obtain ⟨u, rfl, rx⟩ := vals1 r
  obtain rfl : u = .ref a := rx
  exact n_len I n fun t s' I' => ⟨.int es.length, H, I', ⟨_, rfl⟩, q⟩
end
def sPutX (td ty tv : TE) : TS := fun D σ H => tv σ H fun v H1 => td σ H1 fun x H2 => ty σ H2 fun y H3 => ∃ a H4, x = .ref a ∧ (DPut H3 a y v H4 ∨ NPut H3 a y v H4) ∧ D.nx σ H4
section
variable {X : Cx} {o i e f value : Expr} {pos pos' tpos apos cpos : Pos} {td ty tv tx : TE}
theorem ps_putX (hu : X.A.units + 9 < cLine) (ho : PE X o td) (hi : PE X i ty) (hv : PE X value tv) (hs : swapsWith value (some (.Subscript o i pos')) pos.line X.env = pure false) :
    PS X (.Assign [.Subscript o i pos'] value pos) (sPutX td ty tv) := by
  refine ⟨fun pn s σ H D I h => ?_⟩
  refine wpAny_Assign_Subscript (thn (hv.run pn s σ H _ I h) fun r z1 ⟨v, H1, J1, rv, w1⟩ => thn (ho.run pn z1 σ H1 _ J1 w1) fun u z2 ⟨x, H2, J2, rx, w2⟩ => thn (hi.run pn z2 σ H2 _ J2 w2) fun iv z3 ⟨y, H3, J3, ry, a, H4, ex, g, w3⟩ => ?_) hs
  subst ex
  obtain rfl : u = Value.ref a := rx
  rcases g with g | ⟨es, k, b, z, n, rfl, hk, hl, rfl⟩
  · exact d_setItem (by omega) J3 g ry rv fun z4 J4 => ⟨σ, H4, J4, w3⟩
  · obtain rfl : iv = Value.ref b := ry
    exact n_setItem hu J3 n hk hl rv fun z4 J4 => ⟨σ, _, J4, w3⟩
def IsDX (H : Hp) (a : Addr) : Prop := IsD H a ∨ ∃ es, Nd H a es
def tGet1X (td ty : TE) : TE := fun σ H Q => td σ H fun x H1 => ∃ a, x = .ref a ∧ IsDX H1 a ∧ ty σ H1 fun y H2 => ∃ o, (DGet H2 a y o ∨ NGet H2 a y o) ∧ Q (o.getD .non) H2
def tGet2X (td ty tx : TE) : TE := fun σ H Q => td σ H fun x H1 => ∃ a, x = .ref a ∧ IsDX H1 a ∧ ty σ H1 fun y H2 => tx σ H2 fun z H3 => ∃ o, (DGet H3 a y o ∨ NGet H3 a y o) ∧ Q (o.getD z) H3
theorem isDX_at {pins : List (Addr × Obj)} {σ : L2.St} {H : Hp} {s : Shared} {a : Addr} (I : Inv X pins σ H s) (d : IsDX H a) : s.TypeIs (.ref a) "dict" ∧ (∀ b, Value.ref a = .ref b → ∃ ob, s.heap.get? b = some ob ∧ ob.dict = none) := by
  rcases d with d | ⟨es, n⟩
  · obtain ⟨t1, t2, _⟩ := isD_at I d
    exact ⟨t1, t2⟩
  · exact nd_typeIs I n
theorem pe_get1X (hu : X.A.units + 9 < cLine) (ho : PE X o td) (he : PE X e ty) (m : M1 X o "get" apos e cpos) : PE X (.Call (.Attribute o "get" apos) [e] [] cpos) (tGet1X td ty) := by
  refine ⟨fun pn s σ H Q I h => ?_⟩
  refine wpAny_Call_method m.base m.few m.line PySem.F.plainAttrs_dict PySem.F.slot_dict_get PySem.F.type_dict_get (thn (ho.run pn s σ H _ I h) fun u z1 ⟨x, H1, J1, rx, a, ex, d, w1⟩ => ?_)
  subst ex
  obtain rfl : u = Value.ref a := rx
  obtain ⟨t1, t2⟩ := isDX_at J1 d
  refine ⟨t1, t2, ?_⟩
  rw [m.trees]
  refine Calls.callWith_builtin rfl (Calls.evalArgs_plain (Calls.spliced_cons (thn (he.run pn z1 σ H1 _ J1 w1) fun iv z2 ⟨y, H2, J2, ry, ov, g, w2⟩ => Calls.spliced_nil ?_)))
  rcases g with g | ⟨es, k, b, z, n, rfl, hk, rfl⟩
  · exact d_get1 (by omega) J2 g ry fun w' z3 J3 rw' => ⟨_, H2, J3, rw', w2⟩
  · obtain rfl : iv = Value.ref b := ry
    exact n_get1 hu J2 n hk fun w' z3 J3 rw' => ⟨_, H2, J3, rw', w2⟩
theorem pe_get2X (hu : X.A.units + 9 < cLine) (ho : PE X o td) (he : PE X e ty) (hf : PE X f tx) (m : M2 X o "get" apos e f cpos) : PE X (.Call (.Attribute o "get" apos) [e, f] [] cpos) (tGet2X td ty tx) := by
  refine ⟨fun pn s σ H Q I h => ?_⟩
  refine wpAny_Call_method m.base m.few m.line PySem.F.plainAttrs_dict PySem.F.slot_dict_get PySem.F.type_dict_get (thn (ho.run pn s σ H _ I h) fun u z1 ⟨x, H1, J1, rx, a, ex, d, w1⟩ => ?_)
  subst ex
  obtain rfl : u = Value.ref a := rx
  obtain ⟨t1, t2⟩ := isDX_at J1 d
  refine ⟨t1, t2, ?_⟩
  rw [m.trees]
  refine Calls.callWith_builtin rfl (Calls.evalArgs_plain (Calls.spliced_cons (thn (he.run pn z1 σ H1 _ J1 w1) fun iv z2 ⟨y, H2, J2, ry, w2⟩ =>
    Calls.spliced_cons (thn (hf.run pn z2 σ H2 _ J2 w2) fun fv z3 ⟨z, H3, J3, rz, ov, g, w3⟩ => Calls.spliced_nil ?_))))
  rcases g with g | ⟨es, k, b, z', n, rfl, hk, rfl⟩
  · exact d_get2 (by omega) J3 g ry rz fun w' z4 J4 rw' => ⟨_, H3, J4, rw', w3⟩
  · obtain rfl : iv = Value.ref b := ry
    exact n_get2 hu J3 n hk rz fun w' z4 J4 rw' => ⟨_, H3, J4, rw', w3⟩
end
end M

set_option Elab.async false
set_option linter.all false
set_option maxRecDepth 100000
/-! {k: v}, list(d), dict(pairs) with such keys -/
namespace M
open PySem PySem.Spec PyProof.Rows L2
/-! ### {k: v} -/
def tDisp1N (tk tv : TE) : TE := fun σ H Q => ∀ p, H p = none → tk σ (upd H p (.dK [])) fun x H1 => tv σ H1 fun y H2 => H2 p = some (.dK []) ∧ ∃ k b, x = .ref b ∧ KyE H2 (k, b, y) ∧ Q (.ref p) (upd H2 p (ndO p [(k, b, y)]))
theorem pe_disp1N {X : Cx} {k v : Expr} {pos : Pos} {tk tv : TE} (hu : X.A.units + 9 < cLine) (hk : PE X k tk) (hv : PE X v tv) : PE X (.Dict [some k] [v] pos) (tDisp1N tk tv) := by
  refine ⟨fun pn s σ H Q I hyp => ?_⟩
  have h0 := I.hok.fresh (Nat.le_refl s.heap.objs.size)
  have I0 : Inv X pn σ (upd H s.heap.objs.size (.dK [])) { s with heap := s.heap.push { cls := .type "dict", data := .dict #[] } } := I.laid (t' := s.toks) (fun _ _ e => Heap.get?_push_of_some _ e) (Nat.le_refl _) (dk_empty s.heap I.big)
  have hz := zip_pairTrees [some k] [v] X.env pos rfl rfl
  have hl := pairTrees_length [some k] [v] X.env pos rfl rfl
  have hne : pairTrees [some k] [v] X.env pos ≠ [] := fun z => by rw [z] at hl; cases hl
  rw [arm_eval_Dict, hz, dictDisplay_pairs _ hne (by rw [hl]; show 1 < 17; omega)]
  refine wpAny_bind (wpAny_standAt (wpAny_bind (wpAny_subDictH (knd := nestedKind X.prog X.w) (by show X.A.units + 8 < cLine; omega) (by rw [hl]; show 1 ≤ 15; omega) ?_)))
  refine pairTrees_cons_walk (thn (hk.run pn _ σ _ _ I0 (hyp _ h0)) fun u z1 ⟨x, H1, I1, rx, w1⟩ => thn (hv.run pn z1 σ H1 _ I1 w1) fun u2 z2 ⟨y, H2, I2, ry, e2, k', b, ex, ke, w2⟩ => pairTrees_nil_walk ?_)
  subst ex
  obtain rfl : u = Value.ref b := rx
  obtain ⟨a1, a2, xs, rel, dd⟩ := nd_of I2.hok (.inr ⟨rfl, e2⟩ : Nd H2 s.heap.objs.size [])
  cases rel
  refine ⟨[(k', b, u2)], ⟨rfl, rfl, ky_is I2.hok ke, True.intro⟩, dd, fun h' tk' dd' hs => wpAny_pure ⟨.ref s.heap.objs.size, _, ?_, rfl, w2⟩⟩
  have rel1 : Paired NP [(k', b, y)] [(k', b, u2)] := .cons ⟨rfl, rfl, ry⟩ .nil
  have dd1 : h'.DictOfH (nestedKind X.prog X.w) s.heap.objs.size [(k', b, u2)] := dd'
  have hn : NeOk h' s.heap.objs.size [(k', b, u2)] := neOk_of (H' := H2) (fun e he => by rw [List.mem_singleton] at he; rw [he]; exact ke) rel1 dd1
  obtain ⟨q, ds, ep, hq, _⟩ := id hn
  exact d_write I2 (by rw [e2]; exact True.intro) hs ⟨q, hq⟩ (nd_new (by rw [sizeLine_eq]; show 1 ≤ 16777216; omega) a2 rel1 hn)
/-! ### list(d) -/
theorem call_listN {X : Cx} (hc : X.calm = true) : CallR X (.type "list") (fun xs H Q => ∃ a es, xs = [V.ref a] ∧ Nd H a es ∧ ∀ p, H p = none → Q (.ref p) (upd H p (.lst (es.map fun e => V.ref e.2.1)))) := by
  intro pn s σ H xs us Q I r hyp
  obtain ⟨a, es, rfl, n, q⟩ := hyp
  obtain ⟨u, rfl, rx⟩ := r.one
  cases rx
  obtain ⟨z, hs, ks, rel, o, ds, ep, ho, hx, hd, he, his, hn⟩ := nd_of I.hok n
  have l1 : ds.size = ks.length := size_of_entries he
  have l2 : es.length = ks.length := Paired.length rel
  refine PySem.W.kdl_call (kdl_raw hs hx hd) (I.ok.hd hc) ho (by omega) fun h' tk acc c kp e it => ?_
  have key : acc.toList = ks.map fun x => Value.ref x.2.1 := by
    have hl : acc.toList.length = ks.length := by rw [Array.length_toList, it.1]; exact l1
    refine List.ext_getElem (by rw [hl, List.length_map]) fun j h1 h2 => ?_
    obtain ⟨en, hen, hv⟩ := it.2 j acc.toList[j] (by rw [← Array.getElem?_toList]; exact List.getElem?_eq_getElem h1)
    have hj : j < ks.length := by omega
    have qe := entry_at he j
    rw [hen, List.getElem?_eq_getElem hj] at qe
    have e2 := Option.some.inj qe
    rw [hv, e2, List.getElem_map]
    rfl
  have rv : Vals (es.map fun e => V.ref e.2.1) acc.toList := by
    rw [key]
    clear key it l1 l2 he his hn n q z
    induction rel with
    | nil => exact .nil
    | cons w t ih => exact .cons (show Value.ref _ = Value.ref _ by rw [w.2.1]) ih
  refine ⟨.ref s.heap.objs.size, _, I.laid (t' := tk) (o := .lst (es.map fun e => V.ref e.2.1)) kp (Nat.le_refl _) ?_, rfl, q _ (I.hok.fresh (Nat.le_refl _))⟩
  exact ⟨by rw [List.length_map]; exact z, acc.toList, c, rv, by rw [Array.toArray_toList]; exact e⟩
/-! ### dict(a list of pairs) -/
def mergeE (acc : List NE) (ks : List NE) : List NE := ks.foldl (fun acc q => putE acc q.1 q.2.1 q.2.2) acc
theorem np_merge {ks : List NE} {rs : List (NK × Addr × Value)} (t : Paired NP ks rs) : ∀ {acc : List NE} {xs : List (NK × Addr × Value)}, Paired NP acc xs → Paired NP (mergeE acc ks) (storedAllH xs rs) := by
  induction t with
  | nil => exact fun h => h
  | @cons q r qs rs z t ih =>
    intro acc xs h
    have e1 : Paired NP (putE acc q.1 q.2.1 q.2.2) (storedH xs r.1 r.2.1 r.2.2) := by
      have := np_put h q.1 (b := q.2.1) z.2.2
      rw [z.1, z.2.1] at this
      rw [z.1, z.2.1]
      exact this
    exact ih e1
theorem mergeE_len : ∀ (ks acc : List NE), (mergeE acc ks).length ≤ acc.length + ks.length
  | [], acc => Nat.le_refl _
  | q :: ks, acc => by
    have h1 := mergeE_len ks (putE acc q.1 q.2.1 q.2.2)
    have h2 := putE_len acc q.1 q.2.1 q.2.2
    show (mergeE (putE acc q.1 q.2.1 q.2.2) ks).length ≤ _
    rw [List.length_cons]
    omega
theorem mergeE_ky {H : Hp} : ∀ (ks acc : List NE), (∀ e ∈ acc, KyE H e) → (∀ e ∈ ks, KyE H e) → ∀ e ∈ mergeE acc ks, KyE H e
  | [], acc, h, _ => h
  | q :: ks, acc, h, h' => mergeE_ky ks _ (putE_ky h (h' q List.mem_cons_self)) fun e he => h' e (List.mem_cons_of_mem _ he)
section
variable {X : Cx}
theorem pairs_ofN {pins : List (Addr × Obj)} {σ : L2.St} {H : Hp} {s : Shared} (I : Inv X pins σ H s) {ps : List Addr} {ks : List NE} (h : Paired (fun p (q : NE) => SqT X.K H p [V.ref q.2.1, q.2.2] ∧ KyE H q) ps ks) :
    ∃ rs : List (NK × Addr × Value), Paired NP ks rs ∧ rs.length = ps.length ∧ ∀ (j : Nat) (r : NK × Addr × Value), rs[j]? = some r → ∃ b : Addr, ps[j]? = some b ∧ IsTup s.heap b #[.ref r.2.1, r.2.2] ∧ ∃ x, KyE H (r.1, r.2.1, x) := by
  induction h with
  | nil => exact ⟨[], .nil, rfl, fun j r e => by simp at e⟩
  | @cons p q ps qs z t ih =>
    obtain ⟨rs, r1, r2, r3⟩ := ih
    obtain ⟨z1, z2⟩ := z
    obtain ⟨its, rv, ht, _⟩ := I.tuple z1
    obtain ⟨u, y, ei, ru, ry⟩ := vals2 rv
    subst ei
    obtain rfl : u = Value.ref q.2.1 := ru
    refine ⟨(q.1, q.2.1, y) :: rs, .cons ⟨rfl, rfl, ry⟩ r1, by simp [r2], fun j r e => ?_⟩
    cases j with
    | zero =>
      cases Option.some.inj e
      exact ⟨p, rfl, ht, q.2.2, z2⟩
    | succ j =>
      obtain ⟨b, e1, e2, e3⟩ := r3 j r (by simpa using e)
      exact ⟨b, by simpa using e1, e2, e3⟩
theorem call_dictN (hcalm : X.calm = true) (hu : X.A.units + 11 < cLine) : CallR X (.type "dict") (fun xs H Q => ∃ (a : Addr) (ps : List Addr) (ks : List NE), xs = [.ref a] ∧ SqL X.K H a (ps.map V.ref) ∧ Paired (fun p (q : NE) => SqT X.K H p [V.ref q.2.1, q.2.2] ∧ KyE H q) ps ks ∧
    ∀ p, H p = none → Q (.ref p) (upd H p (ndO p (mergeE [] ks)))) := by
  intro pn s σ H xs us Q I r hyp
  obtain ⟨a, ps, ks, rfl, hq, hp, q⟩ := hyp
  obtain ⟨u, rfl, rx⟩ := vals1 r
  cases rx
  obtain ⟨its, rv, pl, hz⟩ := I.list hq
  obtain rfl := refs_at rv
  rw [List.length_map] at hz
  obtain ⟨rs, r1, r2, r3⟩ := pairs_ofN I hp
  obtain ⟨o, n, ho, hc, hd, hdat⟩ := pl
  have hkk : ∀ e ∈ ks, KyE H e := by
    clear hq q r1 r2 r3 rv hz hdat
    induction hp with
    | nil => intro e he; cases he
    | cons z t ih =>
      intro e he
      rcases List.mem_cons.mp he with rfl | he
      · exact z.2
      · exact ih e he
  have P := PairArg.list (prog := X.prog) (w := X.w) a (ps.map Value.ref).toArray (fun j => ps.getD j 0) (rs.map fun r => (Value.ref r.2.1, r.2.2))
  have get : ∀ {j : Nat} {kv : Value × Value}, (rs.map fun r => (Value.ref r.2.1, r.2.2))[j]? = some kv → ∃ r, rs[j]? = some r ∧ kv = (Value.ref r.2.1, r.2.2) := fun {j kv} e => by
    rw [List.getElem?_map] at e
    obtain ⟨r, e1, e2⟩ := Option.map_eq_some_iff.mp e
    exact ⟨r, e1, e2.symm⟩
  refine call_dict_pairsH (knd := nestedKind X.prog X.w) (ps := rs) P (I.ok.hd hcalm) (by show X.A.units + 1 + 1 + 8 < cLine; omega) ⟨⟨o, n, ho, hc, hd, hdat⟩, by simp [r2], fun j k v e => ?_⟩ ⟨by simp, fun i key v e => ?_⟩ (fun h' hk x hx => ?_) (by simpa [r2] using hz) fun h' tk hd' k => ?_
  · obtain ⟨r, er, e⟩ := get e
    cases e
    obtain ⟨b, e1, e2, _⟩ := r3 j r er
    have hg : ps.getD j 0 = b := by simp [List.getD_eq_getElem?_getD, e1]
    exact ⟨by simp [e1, hg], .inl (by show s.heap.IsTuple (ps.getD j 0) _; rw [hg]; exact e2)⟩
  · obtain ⟨r, er, e⟩ := get e
    cases e
    exact ⟨r.1, r.2.1, er, rfl⟩
  · obtain ⟨j, hj, rfl⟩ := List.getElem_of_mem hx
    obtain ⟨b, _, _, x, e3⟩ := r3 j _ (List.getElem?_eq_getElem hj)
    have hi := ky_is I.hok e3
    exact ⟨NestedIs.at (fun b ob vs m hb hc => hk _ _ (Nat.ne_of_lt (Heap.lt_size hb)) (by simp) hb) _ _ hi.1, hi.2⟩
  · have hm : (s.heap.objs.size == sysModules) = false := beq_eq_false_iff_ne.mpr (Nat.ne_of_gt I.big)
    have rel : Paired NP (mergeE [] ks) (storedAllH [] rs) := np_merge r1 .nil
    have hlen : (mergeE [] ks).length ≤ sizeLine := Nat.le_trans (mergeE_len ks []) (by
      have := Paired.length r1
      simp
      omega)
    have hn : NeOk h' s.heap.objs.size (storedAllH [] rs) := neOk_of (H' := H) (mergeE_ky ks [] (fun e he => by cases he) hkk) rel hd'
    exact ⟨.ref s.heap.objs.size, upd H s.heap.objs.size (ndO s.heap.objs.size (mergeE [] ks)), I.laid (t' := tk) (fun b o e => k b o (by simp) e) (Nat.le_refl _) (nd_new hlen hm rel hn), rfl, q _ (I.hok.fresh (Nat.le_refl _))⟩
end
end M

set_option Elab.async false
set_option linter.all false
set_option maxRecDepth 100000
/-! values as plain data, and how they lie on the heap -/
namespace M
open PySem PySem.Spec PyProof.Rows L2

inductive D where
  | non | bl (b : Bool) | int (i : Int) | str (x : Str) | tup (xs : List D) | lst (xs : List D) | dct (xs : List (Key × D)) | fn (x : Str) | pot | dcn (xs : List (NK × D))

/-- where the draws' state lies, and which tables of code objects there are -/
structure Pa where
  a : Addr
  tabs : List (Addr × Str)
instance : Coe Pa Addr := ⟨Pa.a⟩
/-- the draws' state -/
structure Pot where
  cells : List Int
  used : Int
  mix : Int
  great : Int

structure Pot.Ok (p : Pot) : Prop where
  cells : ∀ c ∈ p.cells, 0 ≤ c
  used : 0 ≤ p.used
  mix0 : 0 ≤ p.mix
  mix1 : p.mix < 2147483647
  great : 0 ≤ p.great
  few : p.cells.length ≤ 63

section
variable (mg : Str → Option Value) (pa : Pa) (F : Addr → Prop) (H : Hp)
mutual
def Is : D → V → Prop
  | .non, v => v = .non
  | .bl b, v => v = .bl b
  | .int i, v => v = .int i
  | .str x, v => v = .str x
  | .tup ds, v => ∃ a xs, v = .ref a ∧ H a = some (.tup xs) ∧ IsL ds xs
  | .lst ds, v => ∃ a xs, v = .ref a ∧ F a ∧ H a = some (.lst xs) ∧ IsL ds xs
  | .dct ds, v => ∃ a xs, v = .ref a ∧ F a ∧ H a = some (.dK xs) ∧ IsK ds xs
  | .fn x, v => ∃ a, mg x = some (.ref a) ∧ v = .ref a
  | .pot, v => v = .ref pa
  | .dcn ds, v => ∃ a es, v = .ref a ∧ F a ∧ H a = some (ndO a es) ∧ IsN ds es
def IsL : List D → List V → Prop
  | [], xs => xs = []
  | d :: ds, xs => ∃ x r, xs = x :: r ∧ Is d x ∧ IsL ds r
def IsK : List (Key × D) → List (Key × V) → Prop
  | [], xs => xs = []
  | (k, d) :: ds, xs => ∃ x r, xs = (k, x) :: r ∧ Is d x ∧ IsK ds r
def IsN : List (NK × D) → List NE → Prop
  | [], es => es = []
  | (k, d) :: ds, es => ∃ b x r, es = (k, b, x) :: r ∧ KyE H (k, b, x) ∧ Is d x ∧ IsN ds r
end
/-- what stands at an address -/
def At (a : Addr) : D → Prop
  | .lst ds => ∃ xs, H a = some (.lst xs) ∧ IsL mg pa F H ds xs
  | .dct ds => ∃ xs, H a = some (.dK xs) ∧ IsK mg pa F H ds xs
  | .dcn ds => ∃ es, H a = some (ndO a es) ∧ IsN mg pa F H ds es
  | _ => False
end

/-- all that a frozen thing leans on stays -/
structure Pres (F : Addr → Prop) (H : Hp) (F' : Addr → Prop) (H' : Hp) : Prop where
  fr : ∀ a, F a → F' a
  tup : ∀ a xs, H a = some (.tup xs) → H' a = some (.tup xs)
  keep : ∀ a o, F a → H a = some o → H' a = some o
theorem Pres.refl (F : Addr → Prop) (H : Hp) : Pres F H F H := ⟨fun _ h => h, fun _ _ h => h, fun _ _ _ h => h⟩
theorem Pres.trans {F F1 F2 : Addr → Prop} {H H1 H2 : Hp} (a : Pres F H F1 H1) (b : Pres F1 H1 F2 H2) : Pres F H F2 H2 :=
  ⟨fun x h => b.fr x (a.fr x h), fun x xs h => b.tup x xs (a.tup x xs h), fun x o f h => b.keep x o (a.fr x f) (a.keep x o f h)⟩

section
variable {mg : Str → Option Value} {pa : Pa} {F F' : Addr → Prop} {H H' : Hp}
mutual
theorem Is.mono (p : Pres F H F' H') : ∀ (d : D) (v : V), Is mg pa F H d v → Is mg pa F' H' d v
  | .non, v, h => h
  | .bl b, v, h => h
  | .int i, v, h => h
  | .str x, v, h => h
  | .tup ds, v, h => by
    obtain ⟨a, xs, e, ha, hl⟩ := h
    exact ⟨a, xs, e, p.tup _ _ ha, IsL.mono p ds xs hl⟩
  | .lst ds, v, h => by
    obtain ⟨a, xs, e, f, ha, hl⟩ := h
    exact ⟨a, xs, e, p.fr _ f, p.keep _ _ f ha, IsL.mono p ds xs hl⟩
  | .dct ds, v, h => by
    obtain ⟨a, xs, e, f, ha, hl⟩ := h
    exact ⟨a, xs, e, p.fr _ f, p.keep _ _ f ha, IsK.mono p ds xs hl⟩
  | .fn x, v, h => h
  | .pot, v, h => h
  | .dcn ds, v, h => by
    obtain ⟨a, es, e, f, ha, hl⟩ := h
    exact ⟨a, es, e, p.fr _ f, p.keep _ _ f ha, IsN.mono p ds es hl⟩
theorem IsL.mono (p : Pres F H F' H') : ∀ (ds : List D) (vs : List V), IsL mg pa F H ds vs → IsL mg pa F' H' ds vs
  | [], vs, h => h
  | d :: ds, vs, h => by
    obtain ⟨x, r, e, h1, h2⟩ := h
    exact ⟨x, r, e, Is.mono p d x h1, IsL.mono p ds r h2⟩
theorem IsK.mono (p : Pres F H F' H') : ∀ (ds : List (Key × D)) (vs : List (Key × V)), IsK mg pa F H ds vs → IsK mg pa F' H' ds vs
  | [], vs, h => h
  | (k, d) :: ds, vs, h => by
    obtain ⟨x, r, e, h1, h2⟩ := h
    exact ⟨x, r, e, Is.mono p d x h1, IsK.mono p ds r h2⟩
theorem IsN.mono (p : Pres F H F' H') : ∀ (ds : List (NK × D)) (es : List NE), IsN mg pa F H ds es → IsN mg pa F' H' ds es
  | [], es, h => h
  | (k, d) :: ds, es, h => by
    obtain ⟨b, x, r, e, hk, h1, h2⟩ := h
    exact ⟨b, x, r, e, ⟨hk.1, Ky.mono p.tup _ _ hk.2⟩, Is.mono p d x h1, IsN.mono p ds r h2⟩
end
theorem IsN.ky : ∀ {ds : List (NK × D)} {es : List NE}, IsN mg pa F H ds es → ∀ e ∈ es, KyE H e
  | [], es, h, e, he => by
    obtain rfl : es = [] := h
    cases he
  | (k, d) :: ds, es, h, e, he => by
    obtain ⟨b, x, r, rfl, hk, h1, h2⟩ := h
    rcases List.mem_cons.mp he with rfl | he
    · exact hk
    · exact IsN.ky h2 e he
theorem IsN.nd {a : Addr} {ds : List (NK × D)} {es : List NE} (h : IsN mg pa F H ds es) (e : H a = some (ndO a es)) : Nd H a es := .inl ⟨e, h.ky⟩
/-- no table of code objects -/
def NT (o : HO) : Prop := ∀ ps, o ≠ .tbl ps
theorem At.mono (p : Pres F H F' H') {a : Addr} {d : D} (hk : ∀ o, H a = some o → NT o → H' a = some o) (h : At mg pa F H a d) : At mg pa F' H' a d := by
  cases d with
  | lst ds =>
    obtain ⟨xs, e, l⟩ := h
    exact ⟨xs, hk _ e (fun ps z => by cases z), IsL.mono p _ _ l⟩
  | dct ds =>
    obtain ⟨xs, e, l⟩ := h
    exact ⟨xs, hk _ e (fun ps z => by cases z), IsK.mono p _ _ l⟩
  | dcn ds =>
    obtain ⟨es, e, l⟩ := h
    exact ⟨es, hk _ e (fun ps z => by cases z), IsN.mono p _ _ l⟩
  | _ => exact h.elim
theorem At.nt {a : Addr} {d : D} {o : HO} (h : At mg pa F H a d) (e : H a = some o) : NT o := by
  cases d with
  | lst ds =>
    obtain ⟨xs, q, l⟩ := h
    rw [e] at q
    cases q
    exact fun ps z => by cases z
  | dct ds =>
    obtain ⟨xs, q, l⟩ := h
    rw [e] at q
    cases q
    exact fun ps z => by cases z
  | dcn ds =>
    obtain ⟨es, q, l⟩ := h
    rw [e] at q
    cases q
    exact fun ps z => by cases z
  | _ => exact h.elim
theorem At.some {a : Addr} {d : D} (h : At mg pa F H a d) : ∃ o, H a = some o := by
  cases d with
  | lst ds => exact ⟨_, h.choose_spec.1⟩
  | dct ds => exact ⟨_, h.choose_spec.1⟩
  | dcn ds => exact ⟨_, h.choose_spec.1⟩
  | _ => exact h.elim
theorem IsL.length : ∀ {ds : List D} {vs : List V}, IsL mg pa F H ds vs → vs.length = ds.length
  | [], vs, h => by rw [show vs = [] from h] <;> rfl
  | d :: ds, vs, h => by
    obtain ⟨x, r, e, h1, h2⟩ := h
    subst e
    simp [IsL.length h2]
theorem IsL.get : ∀ {ds : List D} {vs : List V} {i : Nat} {d : D}, IsL mg pa F H ds vs → ds[i]? = some d → ∃ v, vs[i]? = some v ∧ Is mg pa F H d v
  | [], vs, i, d, h, e => by simp at e
  | d' :: ds, vs, 0, d, h, e => by
    obtain ⟨x, r, e', h1, h2⟩ := h
    subst e'
    simp at e
    subst e
    exact ⟨x, rfl, h1⟩
  | d' :: ds, vs, i + 1, d, h, e => by
    obtain ⟨x, r, e', h1, h2⟩ := h
    subst e'
    simp at e
    obtain ⟨v, a, b⟩ := IsL.get h2 e
    exact ⟨v, by simpa using a, b⟩
theorem IsL.get' : ∀ {ds : List D} {vs : List V} {i : Nat} {v : V}, IsL mg pa F H ds vs → vs[i]? = some v → ∃ d, ds[i]? = some d ∧ Is mg pa F H d v
  | [], vs, i, v, h, e => by
    obtain rfl : vs = [] := h
    simp at e
  | d' :: ds, vs, 0, v, h, e => by
    obtain ⟨x, r, e', h1, h2⟩ := h
    subst e'
    simp at e
    subst e
    exact ⟨d', rfl, h1⟩
  | d' :: ds, vs, i + 1, v, h, e => by
    obtain ⟨x, r, e', h1, h2⟩ := h
    subst e'
    simp at e
    obtain ⟨d, a, b⟩ := IsL.get' h2 e
    exact ⟨d, by simpa using a, b⟩
theorem IsL.append : ∀ {ds es : List D} {vs ws : List V}, IsL mg pa F H ds vs → IsL mg pa F H es ws → IsL mg pa F H (ds ++ es) (vs ++ ws)
  | [], es, vs, ws, h, h' => by
    obtain rfl : vs = [] := h
    exact h'
  | d :: ds, es, vs, ws, h, h' => by
    obtain ⟨x, r, e', h1, h2⟩ := h
    subst e'
    exact ⟨x, r ++ ws, rfl, h1, IsL.append h2 h'⟩
theorem IsL.one {d : D} {v : V} (h : Is mg pa F H d v) : IsL mg pa F H [d] [v] := ⟨v, [], rfl, h, rfl⟩
theorem IsL.take : ∀ {ds : List D} {vs : List V} (n : Nat), IsL mg pa F H ds vs → IsL mg pa F H (ds.take n) (vs.take n)
  | ds, vs, 0, h => by simp [IsL]
  | [], vs, n + 1, h => by
    obtain rfl : vs = [] := h
    simp [IsL]
  | d :: ds, vs, n + 1, h => by
    obtain ⟨x, r, e', h1, h2⟩ := h
    subst e'
    exact ⟨x, r.take n, rfl, h1, IsL.take n h2⟩
theorem IsL.drop : ∀ {ds : List D} {vs : List V} (n : Nat), IsL mg pa F H ds vs → IsL mg pa F H (ds.drop n) (vs.drop n)
  | ds, vs, 0, h => h
  | [], vs, n + 1, h => by
    obtain rfl : vs = [] := h
    simp [IsL]
  | d :: ds, vs, n + 1, h => by
    obtain ⟨x, r, e', h1, h2⟩ := h
    subst e'
    exact IsL.drop n h2
theorem IsL.set : ∀ {ds : List D} {vs : List V} {d : D} {v : V} (n : Nat), IsL mg pa F H ds vs → Is mg pa F H d v → IsL mg pa F H (ds.set n d) (vs.set n v)
  | [], vs, d, v, n, h, h' => by
    obtain rfl : vs = [] := h
    simp [IsL]
  | d0 :: ds, vs, d, v, 0, h, h' => by
    obtain ⟨x, r, e', h1, h2⟩ := h
    subst e'
    exact ⟨v, r, rfl, h', h2⟩
  | d0 :: ds, vs, d, v, n + 1, h, h' => by
    obtain ⟨x, r, e', h1, h2⟩ := h
    subst e'
    exact ⟨x, r.set n v, rfl, h1, IsL.set n h2 h'⟩
theorem IsL.eraseIdx : ∀ {ds : List D} {vs : List V} (n : Nat), IsL mg pa F H ds vs → IsL mg pa F H (ds.eraseIdx n) (vs.eraseIdx n)
  | [], vs, n, h => by
    obtain rfl : vs = [] := h
    simp [IsL]
  | d0 :: ds, vs, 0, h => by
    obtain ⟨x, r, e', h1, h2⟩ := h
    subst e'
    exact h2
  | d0 :: ds, vs, n + 1, h => by
    obtain ⟨x, r, e', h1, h2⟩ := h
    subst e'
    exact ⟨x, r.eraseIdx n, rfl, h1, IsL.eraseIdx n h2⟩
theorem IsL.dropLast : ∀ {ds : List D} {vs : List V}, IsL mg pa F H ds vs → IsL mg pa F H ds.dropLast vs.dropLast := fun {ds vs} h => by
  rw [List.dropLast_eq_take, List.dropLast_eq_take, h.length]
  exact h.take _
theorem IsL.rep {d : D} {v : V} (h : Is mg pa F H d v) : ∀ n, IsL mg pa F H (List.replicate n d) (List.replicate n v)
  | 0 => rfl
  | n + 1 => ⟨v, List.replicate n v, rfl, h, IsL.rep h n⟩
/-- of lists of ints -/
theorem IsL.ints : ∀ {ns : List Int} {vs : List V}, IsL mg pa F H (ns.map D.int) vs → vs = ns.map V.int
  | [], vs, h => h
  | n :: ns, vs, h => by
    obtain ⟨x, r, e', h1, h2⟩ := h
    subst e'
    rw [show x = V.int n from h1, IsL.ints h2]
    rfl
theorem isL_ints : ∀ (ns : List Int), IsL mg pa F H (ns.map D.int) (ns.map V.int)
  | [] => rfl
  | n :: ns => ⟨_, _, rfl, rfl, isL_ints ns⟩
theorem IsK.val : ∀ {ds : List (Key × D)} {vs : List (Key × V)} (k : Key), IsK mg pa F H ds vs → match (ds.find? fun kv => decide (kv.1 = k)).map (·.2) with
    | some d => ∃ v, valV vs k = some v ∧ Is mg pa F H d v
    | none => valV vs k = none
  | [], vs, k, h => by
    obtain rfl : vs = [] := h
    rfl
  | (k', d) :: ds, vs, k, h => by
    obtain ⟨x, r, e', h1, h2⟩ := h
    subst e'
    by_cases e : k' = k
    · rw [valV_pos (show ((k', x) : Key × V).1 = k from e)]
      rw [List.find?_cons, show decide (k' = k) = true from decide_eq_true e]
      exact ⟨x, rfl, h1⟩
    · rw [valV_neg (show ¬ ((k', x) : Key × V).1 = k from e)]
      rw [List.find?_cons, show decide (k' = k) = false from decide_eq_false e]
      exact IsK.val k h2
def lookN (kvs : List (NK × D)) (k : NK) : Option D := (kvs.find? fun kv => decide (kv.1 = k)).map (·.2)
theorem IsN.val : ∀ {ds : List (NK × D)} {es : List NE} (k : NK), IsN mg pa F H ds es → match lookN ds k with
    | some d => ∃ v, valE es k = some v ∧ Is mg pa F H d v
    | none => valE es k = none
  | [], es, k, h => by
    obtain rfl : es = [] := h
    rfl
  | (k', d) :: ds, es, k, h => by
    obtain ⟨b, x, r, rfl, hk, h1, h2⟩ := h
    by_cases e : k' = k
    · have a1 : valE ((k', b, x) :: r) k = some x := by simp [valE, List.find?_cons, e]
      have a2 : lookN ((k', d) :: ds) k = some d := by simp [lookN, List.find?_cons, e]
      rw [a1, a2]
      exact ⟨x, rfl, h1⟩
    · have a1 : valE ((k', b, x) :: r) k = valE r k := by simp [valE, List.find?_cons, e]
      have a2 : lookN ((k', d) :: ds) k = lookN ds k := by simp [lookN, List.find?_cons, e]
      rw [a1, a2]
      exact IsN.val k h2
theorem IsN.length : ∀ {ds : List (NK × D)} {es : List NE}, IsN mg pa F H ds es → es.length = ds.length
  | [], es, h => by rw [show es = [] from h] <;> rfl
  | (k, d) :: ds, es, h => by
    obtain ⟨b, x, r, rfl, hk, h1, h2⟩ := h
    simp [IsN.length h2]
theorem IsK.length : ∀ {ds : List (Key × D)} {vs : List (Key × V)}, IsK mg pa F H ds vs → vs.length = ds.length
  | [], vs, h => by rw [show vs = [] from h] <;> rfl
  | (k, d) :: ds, vs, h => by
    obtain ⟨x, r, e, h1, h2⟩ := h
    subst e
    simp [IsK.length h2]
theorem IsK.keys : ∀ {ds : List (Key × D)} {vs : List (Key × V)}, IsK mg pa F H ds vs → vs.map (·.1) = ds.map (·.1)
  | [], vs, h => by rw [show vs = [] from h] <;> rfl
  | (k, d) :: ds, vs, h => by
    obtain ⟨x, r, e, h1, h2⟩ := h
    subst e
    simp [IsK.keys h2]
end
end M

set_option Elab.async false
set_option linter.all false
set_option maxRecDepth 100000
/-! the state relation, the judgements over plain data -/
namespace M
open PySem PySem.Spec PyProof.Rows L2

inductive Sl where
  | val (d : D) | own (d : D) | bor (d : D)
abbrev En := List (Option Sl)
@[simp] def Sl.d : Sl → D
  | .val d => d | .own d => d | .bor d => d
/-- what comes of it -/
inductive Res (α : Type) where
  | ok (a : α) (p : Pot) | exc (c : Str) (p : Pot) | bad
def Res.bind {α β : Type} (r : Res α) (f : α → Pot → Res β) : Res β := match r with
  | .ok a p => f a p
  | .exc c p => .exc c p
  | .bad => .bad
theorem Res.bind_assoc {α β γ : Type} (r : Res α) (f : α → Pot → Res β) (g : β → Pot → Res γ) : (r.bind f).bind g = r.bind fun a p => (f a p).bind g := by
  cases r <;> rfl
def ofO {α : Type} (o : Option α) (p : Pot) : Res α := match o with
  | some a => .ok a p
  | none => .bad

structure PotAt (pa : Pa) (F : Addr → Prop) (H : Hp) (p : Pot) : Prop where
  ok : p.Ok
  nf : ¬ F pa
  at_ : ∃ ca, F ca ∧ H pa = some (.lst [.ref ca, .int p.used, .int p.mix, .int p.great]) ∧ H ca = some (.lst (p.cells.map V.int))
structure Gr (pa : Pa) (F : Addr → Prop) (H : Hp) (F' : Addr → Prop) (H' : Hp) : Prop where
  fr : ∀ a, F a → F' a
  keep : ∀ a o, H a = some o → a ≠ pa → NT o → H' a = some o
  tbl : ∀ a ps, H a = some (.tbl ps) → ∃ ps', H' a = some (.tbl ps')
  new : ∀ a, F' a → ¬ F a → H a = none
/-- a state: the pot lies there, all that is frozen is there -/
structure Base (pa : Pa) (F : Addr → Prop) (H : Hp) (p : Pot) : Prop where
  pot : PotAt pa F H p
  dom : ∀ a, F a → ∃ o, H a = some o ∧ NT o
  tabs : LamX.Tabs pa.tabs H
structure Stp (pa : Pa) (F : Addr → Prop) (H : Hp) (F' : Addr → Prop) (H' : Hp) (p' : Pot) : Prop where
  gr : Gr pa F H F' H'
  base : Base pa F' H' p'
section
variable {pa : Pa} {F F' F1 F2 : Addr → Prop} {H H' H1 H2 : Hp} {p p' p1 p2 : Pot}
theorem PotAt.some (h : PotAt pa F H p) : ∃ xs, H pa = some (.lst xs) := let ⟨_, _, e, _⟩ := h.at_; ⟨_, e⟩
theorem nt_lst {xs : List V} : NT (.lst xs) := fun ps z => by cases z
theorem nt_tup {xs : List V} : NT (.tup xs) := fun ps z => by cases z
theorem nt_dK {xs : List (Key × V)} : NT (.dK xs) := fun ps z => by cases z
theorem nt_or (o : HO) : NT o ∨ ∃ ps, o = .tbl ps := by
  cases o <;> first | exact .inr ⟨_, rfl⟩ | exact .inl fun ps z => by cases z
theorem Gr.refl : Gr pa F H F H := ⟨fun _ h => h, fun _ _ h _ _ => h, fun _ ps h => ⟨ps, h⟩, fun _ h n => absurd h n⟩
theorem Base.refl (b : Base pa F H p) : Stp pa F H F H p := ⟨Gr.refl, b⟩
theorem Gr.pres (g : Gr pa F H F' H') (b : Base pa F H p) : Pres F H F' H' where
  fr := g.fr
  tup := fun a xs h => g.keep a _ h (fun e => by
    obtain ⟨ys, q⟩ := b.pot.some
    rw [e, q] at h
    cases h) nt_tup
  keep := fun a o f h => g.keep a o h (fun e => b.pot.nf (e ▸ f)) (by
    obtain ⟨u, e1, e2⟩ := b.dom a f
    rw [h] at e1
    cases e1
    exact e2)
theorem Gr.there (g : Gr pa F H F' H') {a : Addr} {o : HO} (h : H a = some o) (hp : a ≠ pa) : ∃ o', H' a = some o' := by
  rcases nt_or o with n | ⟨ps, rfl⟩
  · exact ⟨o, g.keep a o h hp n⟩
  · obtain ⟨ps', e⟩ := g.tbl a ps h
    exact ⟨_, e⟩
theorem Gr.back (g : Gr pa F H F' H') {a : Addr} (h : H' a = none) (hp : a ≠ pa) : H a = none := by
  cases e : H a with
  | none => rfl
  | some o =>
    obtain ⟨o', e'⟩ := g.there e hp
    rw [e'] at h
    cases h
theorem Stp.trans (s : Stp pa F H F1 H1 p1) (t : Stp pa F1 H1 F2 H2 p2) : Stp pa F H F2 H2 p2 where
  gr := {
    fr := fun a h => t.gr.fr a (s.gr.fr a h)
    keep := fun a o h n z => t.gr.keep a o (s.gr.keep a o h n z) n z
    tbl := fun a ps h => by
      obtain ⟨ps1, e⟩ := s.gr.tbl a ps h
      exact t.gr.tbl a ps1 e
    new := fun a h n => by
      by_cases f : F1 a
      · exact s.gr.new a f n
      · have e := t.gr.new a h f
        refine s.gr.back e fun q => ?_
        obtain ⟨ys, z⟩ := s.base.pot.some
        rw [q, z] at e
        cases e }
  base := t.base
theorem Stp.pres (s : Stp pa F H F' H' p') (b : Base pa F H p) : Pres F H F' H' := s.gr.pres b
theorem tabs_laid {T : List (Addr × Str)} (t : LamX.Tabs T H) {a : Addr} {o : HO} (h : H a = none) : LamX.Tabs T (upd H a o) := t.ext fun b u e => by rw [upd_ne (ne_of_none e h)]; exact e
/-- a new object that is not frozen -/
theorem Base.laid (b : Base pa F H p) {a : Addr} {o : HO} (h : H a = none) : Stp pa F H F (upd H a o) p where
  gr := { fr := fun _ h => h, keep := fun x u e _ _ => by rw [upd_ne (ne_of_none e h)]; exact e, tbl := fun x ps e => ⟨ps, by rw [upd_ne (ne_of_none e h)]; exact e⟩, new := fun _ h n => absurd h n }
  base := {
    pot := ⟨b.pot.ok, b.pot.nf, by
      obtain ⟨ca, f, e1, e2⟩ := b.pot.at_
      exact ⟨ca, f, by rw [upd_ne (ne_of_none e1 h)]; exact e1, by rw [upd_ne (ne_of_none e2 h)]; exact e2⟩⟩
    dom := fun x f => by
      obtain ⟨u, e, n⟩ := b.dom x f
      exact ⟨u, by rw [upd_ne (ne_of_none e h)]; exact e, n⟩
    tabs := tabs_laid b.tabs h }
/-- a thing of ours is frozen -/
theorem Base.freeze (b : Base pa F H p) {a : Addr} {o : HO} (h : H a = some o) (n : a ≠ pa) (nt : NT o) : Base pa (fun x => F x ∨ x = a) H p where
  pot := ⟨b.pot.ok, fun f => f.elim b.pot.nf fun e => n e.symm, by
    obtain ⟨ca, f, e1, e2⟩ := b.pot.at_
    exact ⟨ca, .inl f, e1, e2⟩⟩
  dom := fun x f => f.elim (b.dom x) fun e => ⟨o, e ▸ h, nt⟩
  tabs := b.tabs
theorem Stp.freeze (s : Stp pa F H F' H' p') {a : Addr} {o : HO} (h : H' a = some o) (n : a ≠ pa) (hn : H a = none) (nt : NT o) : Stp pa F H (fun x => F' x ∨ x = a) H' p' where
  gr := { fr := fun x f => .inl (s.gr.fr x f), keep := s.gr.keep, tbl := s.gr.tbl, new := fun x f nf => f.elim (fun f => s.gr.new x f nf) fun e => e ▸ hn }
  base := s.base.freeze h n nt
theorem Pres.freeze {a : Addr} : Pres F H (fun x => F x ∨ x = a) H := ⟨fun _ h => .inl h, fun _ _ h => h, fun _ _ _ h => h⟩
theorem Pres.laid (b : ∀ a, F a → ∃ o, H a = some o ∧ NT o) {a : Addr} {o : HO} (h : H a = none) : Pres F H F (upd H a o) where
  fr := fun _ h => h
  tup := fun x xs e => by rw [upd_ne (ne_of_none e h)]; exact e
  keep := fun x u _ e => by rw [upd_ne (ne_of_none e h)]; exact e
end

section
variable (mg : Str → Option Value) (F0 : Addr → Prop) (H0 : Hp) (pa : Pa)
def SlOk (F : Addr → Prop) (H : Hp) : Sl → V → Prop
  | .val d, v => Is mg pa F H d v
  | .own d, v => ∃ a, v = .ref a ∧ ¬ F a ∧ H0 a = none ∧ At mg pa F H a d
  | .bor d, v => ∃ a, v = .ref a ∧ ¬ F a ∧ (∃ o, H0 a = some o) ∧ a ≠ pa ∧ At mg pa F H a d
structure Rel (F : Addr → Prop) (σ : L2.St) (H : Hp) (ρ : En) (p : Pot) : Prop where
  base : Base pa F H p
  gr : Gr pa F0 H0 F H
  len : σ.length = ρ.length
  slot : ∀ (i : Nat) (s : Sl), ρ[i]? = some (some s) → ∃ v, σ[i]? = some (some v) ∧ SlOk mg H0 pa F H s v
  apart : ∀ (i j : Nat) (d e : D) (a : Addr), i ≠ j → ρ[i]? = some (some (.own d)) → ρ[j]? = some (some (.own e)) → σ[i]? = some (some (.ref a)) → σ[j]? ≠ some (some (.ref a))
  b0 : ∃ p0, Base pa F0 H0 p0
/-- a value; a value that may be another's; a new list or dict of ours -/
def JV (H : Hp) (F' : Addr → Prop) (H' : Hp) (d : D) (v : V) : Prop := Is mg pa F' H' d v
def JB (H : Hp) (F' : Addr → Prop) (H' : Hp) (d : D) (v : V) : Prop := Is mg pa F' H' d v ∨ ∃ a, v = .ref a ∧ ¬ F' a ∧ a ≠ pa ∧ At mg pa F' H' a d
def JN (H : Hp) (F' : Addr → Prop) (H' : Hp) (d : D) (v : V) : Prop := ∃ a, v = .ref a ∧ H a = none ∧ ¬ F' a ∧ At mg pa F' H' a d
abbrev JT : Type := Hp → (Addr → Prop) → Hp → D → V → Prop
def JA (H : Hp) (F' : Addr → Prop) (H' : Hp) (s : Sl) (v : V) : Prop := match s with
  | .val d => Is mg pa F' H' d v
  | .bor d => ∃ a, v = .ref a ∧ ¬ F' a ∧ a ≠ pa ∧ At mg pa F' H' a d
  | .own _ => False
def JAs (F' : Addr → Prop) (H' : Hp) : List Sl → List V → Prop
  | [], vs => vs = []
  | s :: ss, vs => ∃ v r, vs = v :: r ∧ JA mg pa H' F' H' s v ∧ JAs F' H' ss r
/-- what an expression's outcome asks -/
def post {α β : Type} (J : Hp → (Addr → Prop) → Hp → α → β → Prop) (W : WX) (F : Addr → Prop) (σ : L2.St) (H : Hp) (r : Res α) (Q : β → Hp → Prop) : Prop := match r with
  | .ok d p' => ∀ v F' H', Stp pa F H F' H' p' → J H F' H' d v → Q v H'
  | .exc c p' => ∀ C F' H', mg c = some (.ref C) → Stp pa F H F' H' p' → W (.ref C) none σ H'
  | .bad => False
def tX {α β : Type} (J : Hp → (Addr → Prop) → Hp → α → β → Prop) (W : WX) (f : En → Pot → Res α) : L2.St → Hp → (β → Hp → Prop) → Prop := fun σ H Q =>
  ∃ F ρ p, Rel mg F0 H0 pa F σ H ρ p ∧ post mg pa J W F σ H (f ρ p) Q
end

section
variable {mg : Str → Option Value} {F0 : Addr → Prop} {H0 : Hp} {pa : Pa} {F F' : Addr → Prop} {H H' : Hp} {p p' : Pot} {σ : L2.St} {ρ : En}
theorem SlOk.step (b : Base pa F H p) (b0 : ∃ p0, Base pa F0 H0 p0) (s : Stp pa F H F' H' p') {x : Sl} {v : V} (h : SlOk mg H0 pa F H x v) : SlOk mg H0 pa F' H' x v := by
  have np : ∀ a, H0 a = none → a ≠ pa := fun a e z => by
    obtain ⟨p0, q⟩ := b0
    obtain ⟨ys, q⟩ := q.pot.some
    rw [z, q] at e
    cases e
  have nf : ∀ a o, ¬ F a → H a = some o → ¬ F' a := fun a o n e f => by
    rw [s.gr.new a f n] at e
    cases e
  cases x with
  | val d => exact Is.mono (s.pres b) _ _ h
  | own d =>
    obtain ⟨a, e, n, z, t⟩ := h
    obtain ⟨o, q⟩ := t.some
    exact ⟨a, e, nf a o n q, z, t.mono (s.pres b) fun u e => s.gr.keep a u e (np a z)⟩
  | bor d =>
    obtain ⟨a, e, n, z, m, t⟩ := h
    obtain ⟨o, q⟩ := t.some
    exact ⟨a, e, nf a o n q, z, m, t.mono (s.pres b) fun u e => s.gr.keep a u e m⟩
theorem Rel.step (r : Rel mg F0 H0 pa F σ H ρ p) (s : Stp pa F H F' H' p') : Rel mg F0 H0 pa F' σ H' ρ p' where
  base := s.base
  gr := by
    obtain ⟨p0, b0⟩ := r.b0
    exact (Stp.trans (p1 := p) ⟨r.gr, r.base⟩ s).gr
  len := r.len
  slot := fun i x e => by
    obtain ⟨v, a, b⟩ := r.slot i x e
    exact ⟨v, a, b.step r.base r.b0 s⟩
  apart := r.apart
  b0 := r.b0
theorem Rel.np (r : Rel mg F0 H0 pa F σ H ρ p) {a : Addr} (e : H a = none) : a ≠ pa := fun z => by
  obtain ⟨ys, q⟩ := r.base.pot.some
  rw [z, q] at e
  cases e
theorem Base.np (r : Base pa F H p) {a : Addr} (e : H a = none) : a ≠ pa := fun z => by
  obtain ⟨ys, q⟩ := r.pot.some
  rw [z, q] at e
  cases e
theorem JV.jb {H₁ : Hp} {d : D} {v : V} (h : JV mg pa H₁ F H d v) : JB mg pa H₁ F H d v := .inl h
theorem JB.step (b : Base pa F H p) (s : Stp pa F H F' H' p') {H₁ H₂ : Hp} {d : D} {v : V} (h : JB mg pa H₁ F H d v) : JB mg pa H₂ F' H' d v := by
  rcases h with h | ⟨a, e, n, m, t⟩
  · exact .inl (Is.mono (s.pres b) _ _ h)
  · obtain ⟨o, q⟩ := t.some
    exact .inr ⟨a, e, (fun f => by rw [s.gr.new a f n] at q; cases q), m, t.mono (s.pres b) fun u e => s.gr.keep a u e m⟩
theorem JV.step (b : Base pa F H p) (s : Stp pa F H F' H' p') {H₁ H₂ : Hp} {d : D} {v : V} (h : JV mg pa H₁ F H d v) : JV mg pa H₂ F' H' d v := Is.mono (s.pres b) _ _ h
theorem JA.step (b : Base pa F H p) (s : Stp pa F H F' H' p') {H₁ H₂ : Hp} {d : Sl} {v : V} (h : JA mg pa H₁ F H d v) : JA mg pa H₂ F' H' d v := by
  cases d with
  | val d => exact Is.mono (s.pres b) _ _ h
  | own d => exact h
  | bor d =>
    obtain ⟨a, e, n, m, t⟩ := h
    obtain ⟨o, q⟩ := t.some
    exact ⟨a, e, (fun f => by rw [s.gr.new a f n] at q; cases q), m, t.mono (s.pres b) fun u e => s.gr.keep a u e m⟩
theorem JA.jb {H₁ : Hp} {d : Sl} {v : V} (h : JA mg pa H₁ F H d v) : JB mg pa H₁ F H d.d v := by
  cases d with
  | val d => exact .inl h
  | own d => exact h.elim
  | bor d => exact .inr h

/-- weakening -/
theorem post.imp {α β : Type} {J J' : Hp → (Addr → Prop) → Hp → α → β → Prop} {W : WX} {r : Res α} {Q Q' : β → Hp → Prop} (h : post mg pa J W F σ H r Q)
    (hq : ∀ d p' v F' H', r = .ok d p' → Stp pa F H F' H' p' → J' H F' H' d v → (∀ v F' H', Stp pa F H F' H' p' → J H F' H' d v → Q v H') → Q' v H') : post mg pa J' W F σ H r Q' := by
  cases r with
  | ok d p' => exact fun v F' H' s j => hq d p' v F' H' rfl s j h
  | exc c p' => exact h
  | bad => exact h
end
section
variable {X : Cx}
theorem PEimp {e : Expr} {t t' : TE} (h : PE X e t) (i : ∀ σ H Q, t' σ H Q → t σ H Q) : PE X e t' := ⟨fun pins s σ H Q I q => h.run pins s σ H Q I (i σ H Q q)⟩
theorem PTimp {e : Expr} {t t' : TT} (h : PT X e t) (i : ∀ σ H Q, t' σ H Q → t σ H Q) : PT X e t' := ⟨fun pins s σ H Q I q => h.run pins s σ H Q I (i σ H Q q)⟩
theorem PAimp {e : List Expr} {t t' : TA} (h : PA X e t) (i : ∀ σ H Q, t' σ H Q → t σ H Q) : PA X e t' := ⟨fun pos pins s σ H Q I q => h.run pos pins s σ H Q I (i σ H Q q)⟩
theorem PSimp {e : Stmt} {t t' : TS} (h : PS X e t) (i : ∀ D σ H, t' D σ H → t D σ H) : PS X e t' := ⟨fun pins s σ H D I q => h.run pins s σ H D I (i D σ H q)⟩
theorem PSsimp {e : List Stmt} {t t' : TS} (h : PSs X e t) (i : ∀ D σ H, t' D σ H → t D σ H) : PSs X e t' := ⟨fun pins s σ H D I q => h.run pins s σ H D I (i D σ H q)⟩
theorem PGimp {e : Expr} {t t' : TG} (h : PG X e t) (i : ∀ v σ H Q, t' v σ H Q → t v σ H Q) : PG X e t' := ⟨fun pins s σ H v u Q I r q => h.run pins s σ H v u Q I r (i v σ H Q q)⟩
end
end M

set_option Elab.async false
set_option linter.all false
set_option maxRecDepth 100000
/-! expressions: rules over plain data -/
namespace M
open PySem PySem.Spec PyProof.Rows L2

section
variable {X : Cx} {F0 : Addr → Prop} {H0 : Hp} {pa : Pa} {W : WX}
/-- a wish that asks nothing of the slots -/
def wx (E : XK) : WX := fun c d _ H => E c d H
/-- an expression's meaning over plain data -/
def SE (X : Cx) (F0 : Addr → Prop) (H0 : Hp) (pa : Pa) (J : (Str → Option Value) → Pa → JT) (e : Expr) (f : En → Pot → Res D) : Prop := ∀ W : XK, Takes X (wx W) → PE X e (tX X.mg F0 H0 pa (J X.mg pa) (wx W) f)
abbrev SV (X : Cx) (F0 : Addr → Prop) (H0 : Hp) (pa : Pa) := SE X F0 H0 pa JV
abbrev SB (X : Cx) (F0 : Addr → Prop) (H0 : Hp) (pa : Pa) := SE X F0 H0 pa JB
abbrev SN (X : Cx) (F0 : Addr → Prop) (H0 : Hp) (pa : Pa) := SE X F0 H0 pa JN
theorem SV.sb {e : Expr} {f : En → Pot → Res D} (h : SV X F0 H0 pa e f) : SB X F0 H0 pa e f := fun W tk => PEimp (h W tk) fun σ H Q ⟨F, ρ, p, r, q⟩ =>
  ⟨F, ρ, p, r, q.imp fun d p' v F' H' _ s j k => k v F' H' s (.inl j)⟩
theorem SN.sv {e : Expr} {f : En → Pot → Res D} (h : SN X F0 H0 pa e f) : SV X F0 H0 pa e f := fun W tk => PEimp (h W tk) fun σ H Q ⟨F, ρ, p, r, q⟩ => by
  refine ⟨F, ρ, p, r, q.imp fun d p' v F' H' _ s j k => ?_⟩
  obtain ⟨a, rfl, n, nf, t⟩ := j
  obtain ⟨o, ho⟩ := t.some
  refine k (.ref a) (fun x => F' x ∨ x = a) H' (s.freeze ho (r.base.np n) n (t.nt ho)) ?_
  cases d with
  | lst ds =>
    obtain ⟨xs, e, l⟩ := t
    exact ⟨a, xs, rfl, .inr rfl, e, IsL.mono Pres.freeze _ _ l⟩
  | dct ds =>
    obtain ⟨xs, e, l⟩ := t
    exact ⟨a, xs, rfl, .inr rfl, e, IsK.mono Pres.freeze _ _ l⟩
  | dcn ds =>
    obtain ⟨xs, e, l⟩ := t
    exact ⟨a, xs, rfl, .inr rfl, e, IsN.mono Pres.freeze _ _ l⟩
  | _ => exact t.elim

/-- after an expression -/
def Back {α β : Type} (pa : Pa) (J : Hp → (Addr → Prop) → Hp → α → β → Prop) : Prop := ∀ (F : Addr → Prop) (H : Hp) (F1 : Addr → Prop) (H1 : Hp) (p1 : Pot) (F2 : Addr → Prop) (H2 : Hp) (d : α) (v : β), Stp pa F H F1 H1 p1 → J H1 F2 H2 d v → J H F2 H2 d v
theorem backV {mg : Str → Option Value} : Back pa (JV mg pa) := fun _ _ _ _ _ _ _ _ _ _ h => h
theorem backB {mg : Str → Option Value} : Back pa (JB mg pa) := fun _ _ _ _ _ _ _ _ _ _ h => h
theorem backN {mg : Str → Option Value} : Back pa (JN mg pa) := fun _ _ _ _ _ _ _ _ _ s ⟨a, e, n, nf, t⟩ => ⟨a, e, s.gr.back n (s.base.np n), nf, t⟩
theorem post.back {α β : Type} {mg : Str → Option Value} {J : Hp → (Addr → Prop) → Hp → α → β → Prop} (bk : Back pa J) {F F1 : Addr → Prop} {σ : L2.St} {H H1 : Hp} {p1 : Pot} {r : Res α} {Q : β → Hp → Prop} (s : Stp pa F H F1 H1 p1) (h : post mg pa J W F σ H r Q)
    (hW : ∀ C H', W (.ref C) none σ H' → W (.ref C) none σ H' := by exact fun _ _ h => h) : post mg pa J W F1 σ H1 r Q := by
  cases r with
  | ok d p' => exact fun v F2 H2 s2 j => h v F2 H2 (s.trans s2) (bk _ _ _ _ _ _ _ _ _ s j)
  | exc c p' => exact fun C F2 H2 hc s2 => h C F2 H2 hc (s.trans s2)
  | bad => exact h
theorem seqE {α β γ δ : Type} {mg : Str → Option Value} {J : Hp → (Addr → Prop) → Hp → α → β → Prop} {J' : Hp → (Addr → Prop) → Hp → γ → δ → Prop} {F : Addr → Prop} {σ : L2.St} {H : Hp} {ρ : En} {p : Pot} {f : En → Pot → Res α} {g : α → Pot → Res γ} {Q : δ → Hp → Prop}
    {k : β → Hp → Prop} (bk : Back pa J')
    (r : Rel mg F0 H0 pa F σ H ρ p) (h : post mg pa J' W F σ H ((f ρ p).bind g) Q)
    (hk : ∀ d p1 v F1 H1, Stp pa F H F1 H1 p1 → J H F1 H1 d v → Rel mg F0 H0 pa F1 σ H1 ρ p1 → post mg pa J' W F1 σ H1 (g d p1) Q → k v H1) : tX mg F0 H0 pa J W f σ H k := by
  refine ⟨F, ρ, p, r, ?_⟩
  cases e : f ρ p with
  | ok d p1 =>
    rw [e] at h
    have h : post mg pa J' W F σ H (g d p1) Q := h
    exact fun v F1 H1 s j => hk d p1 v F1 H1 s j (r.step s) (h.back bk s)
  | exc c p1 =>
    rw [e] at h
    exact h
  | bad =>
    rw [e] at h
    exact h

/-- constants -/
theorem s_const {e : Expr} {d : D} {v : V} (h : PE X e (tC v)) (hv : ∀ F H, Is X.mg pa F H d v) : SV X F0 H0 pa e fun _ p => .ok d p := fun W tk => PEimp h fun σ H Q ⟨F, ρ, p, r, q⟩ => q v F H r.base.refl (hv F H)
theorem s_int {i : Int} {j : Nat} {pos : Pos} : SV X F0 H0 pa (.Constant (.int i) j pos) fun _ p => .ok (.int i) p := s_const pe_int fun _ _ => rfl
theorem s_bl {b : Bool} {j : Nat} {pos : Pos} : SV X F0 H0 pa (.Constant (.bool b) j pos) fun _ p => .ok (.bl b) p := s_const pe_bl fun _ _ => rfl
theorem s_non {j : Nat} {pos : Pos} : SV X F0 H0 pa (.Constant .none j pos) fun _ p => .ok .non p := s_const pe_non fun _ _ => rfl
theorem s_str {x : Str} {j : Nat} {pos : Pos} : SV X F0 H0 pa (.Constant (.str x) j pos) fun _ p => .ok (.str x) p := s_const pe_str fun _ _ => rfl

/-- the name in slot i -/
@[simp] def rdV (ρ : En) (i : Nat) : Option D := match ρ[i]? with
  | some (some (.val d)) => some d
  | _ => none
@[simp] def rdB (ρ : En) (i : Nat) : Option D := match ρ[i]? with
  | some (some s) => some s.d
  | _ => none
theorem Rel.np0 {mg : Str → Option Value} {F : Addr → Prop} {σ : L2.St} {H : Hp} {ρ : En} {p : Pot} (r : Rel mg F0 H0 pa F σ H ρ p) {a : Addr} (e : H0 a = none) : a ≠ pa := fun z => by
  obtain ⟨p0, b⟩ := r.b0
  obtain ⟨ys, q⟩ := b.pot.some
  rw [z, q] at e
  cases e
theorem s_v {i : Nat} {x : Str} {pos : Pos} (hN : X.N[i]? = some x) (hv : Vis X.env.scope x) (hd : (x == ("__debug__" : Str)) = false) (hcd : (x == ("__classdict__" : Str)) = false) : SV X F0 H0 pa (.Name x pos) fun ρ p => ofO (rdV ρ i) p := fun W tk => PEimp (pe_var hN hv hd hcd) fun σ H Q ⟨F, ρ, p, r, q⟩ => by
  simp only [rdV] at q
  cases e : ρ[i]? with
  | none => rw [e] at q; exact q.elim
  | some o =>
    rw [e] at q
    cases o with
    | none => exact q.elim
    | some s =>
      cases s with
      | val d =>
        obtain ⟨v, h1, h2⟩ := r.slot i _ e
        exact ⟨v, h1, q v F H r.base.refl h2⟩
      | own d => exact q.elim
      | bor d => exact q.elim
theorem s_b {i : Nat} {x : Str} {pos : Pos} (hN : X.N[i]? = some x) (hv : Vis X.env.scope x) (hd : (x == ("__debug__" : Str)) = false) (hcd : (x == ("__classdict__" : Str)) = false) : SB X F0 H0 pa (.Name x pos) fun ρ p => ofO (rdB ρ i) p := fun W tk => PEimp (pe_var hN hv hd hcd) fun σ H Q ⟨F, ρ, p, r, q⟩ => by
  simp only [rdB] at q
  cases e : ρ[i]? with
  | none => rw [e] at q; exact q.elim
  | some o =>
    rw [e] at q
    cases o with
    | none => exact q.elim
    | some s =>
      obtain ⟨v, h1, h2⟩ := r.slot i _ e
      refine ⟨v, h1, q v F H r.base.refl ?_⟩
      cases s with
      | val d => exact .inl h2
      | own d =>
        obtain ⟨a, e1, e2, e3, e4⟩ := h2
        exact .inr ⟨a, e1, e2, r.np0 e3, e4⟩
      | bor d =>
        obtain ⟨a, e1, e2, e3, e4, e5⟩ := h2
        exact .inr ⟨a, e1, e2, e4, e5⟩

/-- an operator's meaning -/
def Op2 (X : Cx) (pa : Pa) (J : (Str → Option Value) → Pa → JT) (r : R2) (h : D → D → Option D) : Prop :=
  ∀ (F : Addr → Prop) (H : Hp) (p : Pot) (x y : V) (dx dy d : D) (Q : VK), Base pa F H p → JB X.mg pa H F H dx x → JB X.mg pa H F H dy y → h dx dy = some d → (∀ v F' H', Stp pa F H F' H' p → J X.mg pa H F' H' d v → Q v H') → r x y H Q
@[simp] def d2 (f g : En → Pot → Res D) (h : D → D → Option D) : En → Pot → Res D := fun ρ p => (f ρ p).bind fun d1 p1 => (g ρ p1).bind fun d2 p2 => ofO (h d1 d2) p2
theorem s_tOp {r : R2} {J : (Str → Option Value) → Pa → JT} {ta tb : TE} {f g : En → Pot → Res D} {h : D → D → Option D} (bk : Back pa (J X.mg pa)) (ho : Op2 X pa J r h) (ia : ∀ σ H Q, tX X.mg F0 H0 pa (JB X.mg pa) W f σ H Q → ta σ H Q) (ib : ∀ σ H Q, tX X.mg F0 H0 pa (JB X.mg pa) W g σ H Q → tb σ H Q) :
    ∀ σ H Q, tX X.mg F0 H0 pa (J X.mg pa) W (d2 f g h) σ H Q → tOp r ta tb σ H Q := fun σ H Q ⟨F, ρ, p, rel, q⟩ => by
  refine ia σ H _ (seqE (J := JB X.mg pa) (g := fun d1 p1 => (g ρ p1).bind fun d2 p2 => ofO (h d1 d2) p2) bk rel q (fun d1 p1 v1 F1 H1 s1 j1 r1 q1 => ?_))
  refine ib σ H1 _ (seqE (J := JB X.mg pa) (g := fun d2 p2 => ofO (h d1 d2) p2) bk r1 q1 (fun d2 p2 v2 F2 H2 s2 j2 r2 q2 => ?_))
  cases e : h d1 d2 with
  | none => rw [e] at q2; exact q2.elim
  | some d =>
    rw [e] at q2
    exact ho F2 H2 p2 v1 v2 d1 d2 d Q r2.base (j1.step r1.base s2) j2 e q2
theorem s_bin {r : R2} {J : (Str → Option Value) → Pa → JT} {op : Operator} {a b : Expr} {pos : Pos} {f g : En → Pot → Res D} {h : D → D → Option D} (bk : Back pa (J X.mg pa)) (ho : OpR X (binaryOp op) r) (hm : Op2 X pa J r h) (ha : SB X F0 H0 pa a f) (hb : SB X F0 H0 pa b g) : SE X F0 H0 pa J (.BinOp a op b pos) (d2 f g h) :=
  fun W tk => PEimp (pe_op ho (ha W tk) (hb W tk)) (s_tOp bk hm (fun _ _ _ h => h) fun _ _ _ h => h)
theorem s_cmp {r : R2} {J : (Str → Option Value) → Pa → JT} {op : CmpOp} {a b : Expr} {pos : Pos} {f g : En → Pot → Res D} {h : D → D → Option D} (bk : Back pa (J X.mg pa)) (ho : OpR X (compareOp op) r) (hm : Op2 X pa J r h) (ha : SB X F0 H0 pa a f) (hb : SB X F0 H0 pa b g) (hmark : behindInMarks op b = false) :
    SE X F0 H0 pa J (.Compare a [op] [b] pos) (d2 f g h) := fun W tk => PEimp (pe_cmpR ho (ha W tk) (hb W tk) hmark) (s_tOp bk hm (fun _ _ _ h => h) fun _ _ _ h => h)
end
end M

set_option Elab.async false
set_option linter.all false
set_option maxRecDepth 100000
/-! a tuple times a number -/
namespace M
open PySem PySem.Spec PyProof.Rows L2
theorem tuple_mul1 (l : Addr) (items : Array Value) (n : Nat) (dd : Option Addr) (sl : Array (Option Value)) (u : Tok) :
    Meets (Builtin.«tuple.__mul__» ⟨[.ref l, .int 1 u], []⟩) (fun _ R s => s.heap.get? l = some { cls := .type "tuple", dict := dd, data := .seq items n, slots := sl } ∧ R (.ok (.ret (.ref l))) s) :=
  .of_wp fun prog w A R s h => by
    obtain ⟨hp, g, d, tk, os⟩ := s
    obtain ⟨hl, h⟩ := h
    have f1 := AutoSeq1.idx_int
    wp_walk using wpAny_loadPart' hl
    repeat (first
      | (refine wpAny_ite_false (decide_eq_false (by decide)) ?_; wp_walk using wpAny_loadPart' hl)
      | (refine wpAny_ite_true (decide_eq_true (by simp)) ?_; wp_walk using wpAny_loadPart' hl))
    exact ⟨_, rfl, h⟩
theorem tuple_mul0 (l : Addr) (items : Array Value) (n : Nat) (dd : Option Addr) (sl : Array (Option Value)) (x : Int) (u : Tok) (hx : x ≤ 0) (hx2 : -1000 ≤ x) (hne : items.isEmpty = false) :
    Meets (Builtin.«tuple.__mul__» ⟨[.ref l, .int x u], []⟩) (fun _ R s => s.heap.get? l = some { cls := .type "tuple", dict := dd, data := .seq items n, slots := sl } ∧
      R (.ok (.ret (Value.ref s.heap.objs.size))) { s with heap := s.heap.push { cls := Value.type "tuple", data := Data.seq #[] }, toks := s.toks }) :=
  .of_wp fun prog w A R s h => by
    obtain ⟨hp, g, d, tk, os⟩ := s
    obtain ⟨hl, h⟩ := h
    have f1 := AutoSeq1.idx_int
    wp_walk using wpAny_loadPart' hl
    have c0 : (decide (x < -(2 ^ 63)) || decide (x ≥ 2 ^ 63)) = false := by
      rw [decide_eq_false (by omega), decide_eq_false (by omega)] <;> rfl
    have c1 : (items.isEmpty || x == 1) = false := by
      rw [hne, Bool.false_or]
      exact beq_eq_false_iff_ne.mpr (by omega)
    have c2 : (decide (x ≤ 0) || items.isEmpty) = true := by
      rw [decide_eq_true hx, Bool.true_or]
    repeat (first
      | (refine wpAny_ite_false (decide_eq_false (by rw [c0]; exact Bool.false_ne_true)) ?_; wp_walk using wpAny_loadPart' hl)
      | (refine wpAny_ite_false (decide_eq_false (by rw [c1]; exact Bool.false_ne_true)) ?_; wp_walk using wpAny_loadPart' hl)
      | (refine wpAny_ite_true (decide_eq_true c2) ?_; wp_walk using wpAny_loadPart' hl))
    exact ⟨_, rfl, h⟩
def rRepT0 (K : PySem.W.Frag) : R2 := fun x y H Q => ∃ l k xs, x = .ref l ∧ y = .int k ∧ SqT K H l xs ∧ xs ≠ [] ∧ -1000 ≤ k ∧ k ≤ 1 ∧ (k = 1 → Q (.ref l) H) ∧ (k ≤ 0 → ∀ p, H p = none → Q (.ref p) (upd H p (.tup [])))
section
variable {X : Cx}
theorem op_repT0 : OpR X (binaryOp .Mult) (rRepT0 X.K) := by
  intro pins s σ H x y v u Q I rx ry h
  obtain ⟨l, k, xs, rfl, rfl, hT, hne, h1, h2, q1, q0⟩ := h
  cases rx
  obtain ⟨t, rfl⟩ := ry
  obtain ⟨its, r, ⟨⟨cls, dd, data, sl⟩, ho, hc, n, hd⟩, hs⟩ := I.tuple hT
  simp only at hc hd
  subst hc hd
  have hle : its.length = xs.length := r.length.symm
  have hi : its.toArray.isEmpty = false := by
    cases its with
    | nil => exact absurd (List.eq_nil_of_length_eq_zero hle.symm) hne
    | cons a b => rfl
  by_cases h0 : k = 1
  · subst h0
    exact wpAny_binaryOp_repeat_ref (T := "tuple") (U := "int") (by decide) ⟨_, ho, rfl⟩ (fun s' => typeIs_int s' 1 t) noFill_tuple_mul F.fills_int_mul F.slot_int_rmul repeat_tuple F.slot_int_index.lookup
      (call_meets F.slot_int_rmul (typeIs_int s 1 t) F.entry_int_rmul (F.args_int_rmul_2 _ _) (int_rmul_tuple 1 t l its.toArray n dd sl)
        ⟨ho, rfl, ⟨_, ho, rfl⟩, call_meets F.slot_tuple_mul ⟨_, ho, rfl⟩ F.entry_tuple_mul (F.args_tuple_mul_2 _ _) (tuple_mul1 l its.toArray n dd sl t) ⟨ho, ⟨.ref l, H, I, rfl, q1 rfl⟩⟩⟩)
  · refine wpAny_binaryOp_repeat_ref (T := "tuple") (U := "int") (by decide) ⟨_, ho, rfl⟩ (fun s' => typeIs_int s' k t) noFill_tuple_mul F.fills_int_mul F.slot_int_rmul repeat_tuple F.slot_int_index.lookup
      (call_meets F.slot_int_rmul (typeIs_int s k t) F.entry_int_rmul (F.args_int_rmul_2 _ _) (int_rmul_tuple k t l its.toArray n dd sl)
        ⟨ho, rfl, ⟨_, ho, rfl⟩, call_meets F.slot_tuple_mul ⟨_, ho, rfl⟩ F.entry_tuple_mul (F.args_tuple_mul_2 _ _) (tuple_mul0 l its.toArray n dd sl k t (by omega) h1 hi) ⟨ho, ?_⟩⟩)
    refine ⟨.ref s.heap.objs.size, _, I.laid (t' := s.toks) (o := .tup []) (fun b ob q => Heap.get?_push_of_some _ q) (Nat.le_refl _) ?_, rfl, q0 (by omega) _ (I.hok.fresh (Nat.le_refl _))⟩
    exact ⟨Nat.zero_le _, _, .nil, IsTup.new _ _⟩
def rSumT (K : PySem.W.Frag) : List V → Hp → VK → Prop := fun vs H Q => ∃ (a : Addr) (ns : List Int), vs = [V.ref a] ∧ SqT K H a (ns.map V.int) ∧ Q (.int ns.sum) H
theorem cr_sumT (hc : X.calm = true) : CallR X (.builtin "sum") (rSumT X.K) := by
  intro pins s σ H vs us Q I r h
  obtain ⟨a, ns, rfl, hs, q⟩ := h
  obtain ⟨its, rv, hl, _⟩ := I.tuple hs
  rw [Vals.ref1 r]
  have hi := rv.ints
  have hl : s.heap.IsTuple a its.toArray := hl
  obtain ⟨xs, e⟩ := hi.allInts.items
  have hn : numsOf (intItems xs).toList = ns := by rw [← e]; exact hi.numsOf
  rw [nums_intItems] at hn
  rw [e] at hl
  refine PySem.W.ktm_sumG (I.ok.hd hc) hl fun h' tk t' hk => ?_
  rw [preSum_eq, List.take_of_length_le (by simp), hn]
  exact ⟨.int _, H, I.kept hk, ⟨_, rfl⟩, q⟩
end
end M

set_option Elab.async false
set_option linter.all false
set_option maxRecDepth 100000
/-! operators over plain data -/
namespace M
open PySem PySem.Spec PyProof.Rows L2

section
variable {mg : Str → Option Value} {pa : Pa} {F : Addr → Prop} {H H1 : Hp} {p : Pot} {x : V}
theorem JB.int {i : Int} (h : JB mg pa H1 F H (.int i) x) : x = .int i := h.elim (fun h => h) fun ⟨_, _, _, _, t⟩ => t.elim
theorem JB.bl {i : Bool} (h : JB mg pa H1 F H (.bl i) x) : x = .bl i := h.elim (fun h => h) fun ⟨_, _, _, _, t⟩ => t.elim
theorem JB.str {i : Str} (h : JB mg pa H1 F H (.str i) x) : x = .str i := h.elim (fun h => h) fun ⟨_, _, _, _, t⟩ => t.elim
theorem JB.non (h : JB mg pa H1 F H .non x) : x = .non := h.elim (fun h => h) fun ⟨_, _, _, _, t⟩ => t.elim
theorem JB.tup {ds : List D} (h : JB mg pa H1 F H (.tup ds) x) : ∃ a xs, x = .ref a ∧ H a = some (.tup xs) ∧ IsL mg pa F H ds xs := h.elim (fun h => h) fun ⟨_, _, _, _, t⟩ => t.elim
theorem JB.lst {ds : List D} (h : JB mg pa H1 F H (.lst ds) x) : ∃ a xs, x = .ref a ∧ H a = some (.lst xs) ∧ IsL mg pa F H ds xs :=
  h.elim (fun ⟨a, xs, e, _, h, l⟩ => ⟨a, xs, e, h, l⟩) fun ⟨a, e, _, _, xs, h, l⟩ => ⟨a, xs, e, h, l⟩
theorem JB.dct {ds : List (Key × D)} (h : JB mg pa H1 F H (.dct ds) x) : ∃ a xs, x = .ref a ∧ H a = some (.dK xs) ∧ IsK mg pa F H ds xs :=
  h.elim (fun ⟨a, xs, e, _, h, l⟩ => ⟨a, xs, e, h, l⟩) fun ⟨a, e, _, _, xs, h, l⟩ => ⟨a, xs, e, h, l⟩
theorem JB.dcn {ds : List (NK × D)} (h : JB mg pa H1 F H (.dcn ds) x) : ∃ a es, x = .ref a ∧ H a = some (ndO a es) ∧ IsN mg pa F H ds es :=
  h.elim (fun ⟨a, xs, e, _, h, l⟩ => ⟨a, xs, e, h, l⟩) fun ⟨a, e, _, _, xs, h, l⟩ => ⟨a, xs, e, h, l⟩
theorem Base.nf (b : Base pa F H p) {q : Addr} (h : H q = none) : ¬ F q := fun f => by
  obtain ⟨o, e, _⟩ := b.dom q f
  rw [h] at e
  cases e
theorem new_tup (b : Base pa F H p) {q : Addr} (h : H q = none) {ds : List D} {xs : List V} (l : IsL mg pa F H ds xs) : Stp pa F H F (upd H q (.tup xs)) p ∧ Is mg pa F (upd H q (.tup xs)) (.tup ds) (.ref q) :=
  ⟨b.laid h, q, xs, rfl, upd_same, IsL.mono (Pres.laid b.dom h) _ _ l⟩
theorem new_lst (b : Base pa F H p) {q : Addr} (h : H q = none) {ds : List D} {xs : List V} (l : IsL mg pa F H ds xs) : Stp pa F H F (upd H q (.lst xs)) p ∧ JN mg pa H F (upd H q (.lst xs)) (.lst ds) (.ref q) :=
  ⟨b.laid h, q, rfl, h, b.nf h, xs, upd_same, IsL.mono (Pres.laid b.dom h) _ _ l⟩
theorem new_dct (b : Base pa F H p) {q : Addr} (h : H q = none) {ds : List (Key × D)} {xs : List (Key × V)} (l : IsK mg pa F H ds xs) : Stp pa F H F (upd H q (.dK xs)) p ∧ JN mg pa H F (upd H q (.dK xs)) (.dct ds) (.ref q) :=
  ⟨b.laid h, q, rfl, h, b.nf h, xs, upd_same, IsK.mono (Pres.laid b.dom h) _ _ l⟩
theorem new_dcn (b : Base pa F H p) {q : Addr} (h : H q = none) {ds : List (NK × D)} {es : List NE} (l : IsN mg pa F H ds es) : Stp pa F H F (upd H q (ndO q es)) p ∧ JN mg pa H F (upd H q (ndO q es)) (.dcn ds) (.ref q) :=
  ⟨b.laid h, q, rfl, h, b.nf h, es, upd_same, IsN.mono (Pres.laid b.dom h) _ _ l⟩
/-- a new thing, frozen at once -/
theorem JN.frz {F' : Addr → Prop} {H' : Hp} {p' : Pot} (b : Base pa F H p) (s : Stp pa F H F' H' p') {d : D} {v : V} (j : JN mg pa H F' H' d v) : ∃ F2, Stp pa F H F2 H' p' ∧ Is mg pa F2 H' d v := by
  obtain ⟨a, rfl, n, nf, t⟩ := j
  obtain ⟨o, ho⟩ := t.some
  refine ⟨fun x => F' x ∨ x = a, s.freeze ho (b.np n) n (t.nt ho), ?_⟩
  cases d with
  | lst ds =>
    obtain ⟨xs, e, l⟩ := t
    exact ⟨a, xs, rfl, .inr rfl, e, IsL.mono Pres.freeze _ _ l⟩
  | dct ds =>
    obtain ⟨xs, e, l⟩ := t
    exact ⟨a, xs, rfl, .inr rfl, e, IsK.mono Pres.freeze _ _ l⟩
  | dcn ds =>
    obtain ⟨xs, e, l⟩ := t
    exact ⟨a, xs, rfl, .inr rfl, e, IsN.mono Pres.freeze _ _ l⟩
  | _ => exact t.elim
end

section
variable {X : Cx} {pa : Pa}
theorem Op2.v {r : R2} {h : D → D → Option D} (o : Op2 X pa JN r h) : Op2 X pa JV r h := fun F H p x y dx dy d Q b hx hy e k => o F H p x y dx dy d Q b hx hy e fun v F' H' s j => by
  obtain ⟨F2, s2, i⟩ := JN.frz b s j
  exact k v F2 H' s2 i
theorem Op2.or {J : (Str → Option Value) → Pa → JT} {r r' : R2} {h h' g : D → D → Option D} (a : Op2 X pa J r h) (b : Op2 X pa J r' h') (e : ∀ x y d, g x y = some d → h x y = some d ∨ h' x y = some d) : Op2 X pa J (fun x y H Q => r x y H Q ∨ r' x y H Q) g :=
  fun F H p x y dx dy d Q bs hx hy z k => (e dx dy d z).elim (fun z => .inl (a F H p x y dx dy d Q bs hx hy z k)) fun z => .inr (b F H p x y dx dy d Q bs hx hy z k)
/-- of ints -/
@[simp] def iiD (C : Int → Int → Bool) (g : Int → Int → D) : D → D → Option D
  | .int i, .int j => if C i j = true then some (g i j) else none
  | _, _ => none
theorem iiD_some {C : Int → Int → Bool} {g : Int → Int → D} {x y d : D} (h : iiD C g x y = some d) : ∃ i j, x = .int i ∧ y = .int j ∧ C i j = true ∧ d = g i j := by
  unfold iiD at h
  split at h
  · split at h
    · rename_i i j c
      exact ⟨i, j, rfl, rfl, c, (Option.some.inj h).symm⟩
    · cases h
  · cases h
theorem o_ii {P : Int → Int → Prop} {g : Int → Int → V} {C : Int → Int → Bool} {gd : Int → Int → D} (hc : ∀ i j, C i j = true → P i j) (hg : ∀ i j F H, Is X.mg pa F H (gd i j) (g i j)) : Op2 X pa JV (rI P g) (iiD C gd) := fun F H p x y dx dy d Q b hx hy e k => by
  obtain ⟨i, j, rfl, rfl, c, rfl⟩ := iiD_some e
  exact ⟨i, j, hx.int, hy.int, hc i j c, k _ F H b.refl (hg i j F H)⟩
theorem o_ii0 {g : Int → Int → V} {gd : Int → Int → D} (hg : ∀ i j F H, Is X.mg pa F H (gd i j) (g i j)) : Op2 X pa JV (rI0 g) (iiD (fun _ _ => true) gd) := fun F H p x y dx dy d Q b hx hy e k => by
  obtain ⟨i, j, rfl, rfl, c, rfl⟩ := iiD_some e
  exact ⟨i, j, hx.int, hy.int, k _ F H b.refl (hg i j F H)⟩

/-! ### + -/
@[simp] def addD : D → D → Option D
  | .int i, .int j => some (.int (i + j))
  | .str x, .str y => if x.length + y.length ≤ sizeLine then some (.str (x ++ y)) else none
  | .tup xs, .tup ys => if xs.length + ys.length ≤ sizeLine then some (.tup (xs ++ ys)) else none
  | .lst xs, .lst ys => if xs.length + ys.length ≤ sizeLine then some (.lst (xs ++ ys)) else none
  | _, _ => none
def ssAdd : D → D → Option D
  | .str x, .str y => if x.length + y.length ≤ sizeLine then some (.str (x ++ y)) else none
  | _, _ => none
def ttAdd : D → D → Option D
  | .tup xs, .tup ys => if xs.length + ys.length ≤ sizeLine then some (.tup (xs ++ ys)) else none
  | _, _ => none
def llAdd : D → D → Option D
  | .lst xs, .lst ys => if xs.length + ys.length ≤ sizeLine then some (.lst (xs ++ ys)) else none
  | _, _ => none
theorem o_ssAdd : Op2 X pa JV (fun x y H Q => ∃ i j, x = .str i ∧ y = .str j ∧ i.length + j.length ≤ sizeLine ∧ Q (.str (i ++ j)) H) ssAdd := fun F H p x y dx dy d Q b hx hy e k => by
  unfold ssAdd at e
  split at e
  · split at e
    · cases e
      exact ⟨_, _, hx.str, hy.str, by assumption, k _ F H b.refl rfl⟩
    · cases e
  · cases e
theorem o_ttAdd : Op2 X pa JV (rCatA X.K) ttAdd := fun F H p x y dx dy d Q b hx hy e k => by
  unfold ttAdd at e
  split at e
  · rename_i xs ys
    split at e
    · rename_i hz
      cases e
      obtain ⟨a, us, rfl, ha, la⟩ := hx.tup
      obtain ⟨c, ws, rfl, hc, lc⟩ := hy.tup
      refine ⟨a, c, us, ws, rfl, rfl, SqT.of ha, SqT.of hc, by rw [la.length, lc.length]; exact hz, fun q => ?_, fun q q2 => ?_, fun q q2 t ht => ?_⟩
      · subst q
        have e0 : xs = [] := List.eq_nil_of_length_eq_zero (by rw [← la.length] <;> rfl)
        subst e0
        exact k _ F H b.refl ⟨c, ws, rfl, hc, lc⟩
      · subst q2
        have e0 : ys = [] := List.eq_nil_of_length_eq_zero (by rw [← lc.length] <;> rfl)
        subst e0
        refine k _ F H b.refl ⟨a, us, rfl, ha, ?_⟩
        rw [List.append_nil]
        exact la
      · obtain ⟨s, i⟩ := new_tup b ht (la.append lc)
        exact k _ F _ s i
    · cases e
  · cases e
theorem o_llAdd : Op2 X pa JN rCat llAdd := fun F H p x y dx dy d Q b hx hy e k => by
  unfold llAdd at e
  split at e
  · rename_i xs ys
    split at e
    · rename_i hz
      cases e
      obtain ⟨a, us, rfl, ha, la⟩ := hx.lst
      obtain ⟨c, ws, rfl, hc, lc⟩ := hy.lst
      refine ⟨a, c, us, ws, rfl, rfl, ha, hc, by rw [la.length, lc.length]; exact hz, fun t ht => ?_⟩
      obtain ⟨s, i⟩ := new_lst b ht (la.append lc)
      exact k _ F _ s i
    · cases e
  · cases e
theorem o_add : ∃ r, OpR X (binaryOp .Add) r ∧ Op2 X pa JV r addD := by
  refine ⟨_, L2.op_add.or (op_add_str.or (op_catA.or op_cat)), Op2.or (o_ii0 (gd := fun i j => .int (i + j)) fun _ _ _ _ => rfl) (Op2.or (g := fun x y => (ssAdd x y).or ((ttAdd x y).or (llAdd x y))) o_ssAdd (Op2.or (g := fun x y => (ttAdd x y).or (llAdd x y)) o_ttAdd o_llAdd.v fun x y d h => ?_) fun x y d h => ?_) fun x y d h => ?_⟩
  · cases q : ttAdd x y with
    | none => rw [q] at h; exact .inr h
    | some z => rw [q] at h; exact .inl h
  · cases q : ssAdd x y with
    | none => rw [q] at h; exact .inr h
    | some z => rw [q] at h; exact .inl h
  · cases x <;> cases y <;> first | (cases h; done) | exact .inl h | exact .inr h | (right; simp only [ssAdd, ttAdd, llAdd, Option.or_none, Option.none_or]; exact h)
/-! ### -, *, //, %, ** -/
@[simp] def subD : D → D → Option D := iiD (fun _ _ => true) fun i j => .int (i - j)
theorem o_sub : Op2 X pa JV (rI0 fun i j => .int (i - j)) subD := o_ii0 fun _ _ _ _ => rfl
@[simp] def fdivD : D → D → Option D := iiD (fun i j => decide (j ≠ 0 ∧ j.natAbs < 1073741824)) fun i j => .int (i.fdiv j)
theorem o_fdiv : Op2 X pa JV (rI CDivN fun i j => .int (i.fdiv j)) fdivD := o_ii (fun i j h => of_decide_eq_true (p := j ≠ 0 ∧ j.natAbs < 1073741824) h) fun _ _ _ _ => rfl
@[simp] def modD : D → D → Option D := iiD (fun i j => decide (j ≠ 0)) fun i j => .int (i.fmod j)
theorem o_mod : Op2 X pa JV (rI (fun _ j => j ≠ 0) fun i j => .int (i.fmod j)) modD := o_ii (fun i j h => of_decide_eq_true h) fun _ _ _ _ => rfl
def powD : D → D → Option D := iiD (fun i j => decide (0 ≤ j ∧ j ≤ 1000000 ∧ i.natAbs < 2 ^ 64)) fun i j => .int (i ^ j.toNat)
theorem o_pow : Op2 X pa JV (rI CPow fun i j => .int (i ^ j.toNat)) powD := o_ii (fun i j h => of_decide_eq_true (p := 0 ≤ j ∧ j ≤ 1000000 ∧ i.natAbs < 2 ^ 64) h) fun _ _ _ _ => rfl
/-- within m, told so that no literal is ever taken apart -/
def bnd (m : Nat) (i : Int) : Bool := Nat.ble i.natAbs m
theorem bnd_le {m : Nat} {i : Int} (h : bnd m i = true) : i.natAbs ≤ m := Nat.le_of_ble_eq_true h
theorem bnd_of {m : Nat} {i : Int} (h : i.natAbs ≤ m) : bnd m i = true := Nat.ble_eq_true_of_le h
def imulD : D → D → Option D := iiD (fun i j => bnd 18446744073709551615 i || bnd 18446744073709551615 j) fun i j => .int (i * j)
theorem o_imul : Op2 X pa JV (rI CMul fun i j => .int (i * j)) imulD := o_ii (fun i j h => by
  rcases Bool.or_eq_true_iff.mp h with z | z
  · exact .inl (by have := bnd_le z; omega)
  · exact .inr (by have := bnd_le z; omega)) fun _ _ _ _ => rfl
def repD : D → D → Option D
  | .lst xs, .int k => if bnd 9223372036854775807 k = true ∧ xs.length * k.toNat ≤ sizeLine then some (.lst (List.replicate k.toNat xs).flatten) else none
  | _, _ => none
theorem IsL.reps {mg : Str → Option Value} {F : Addr → Prop} {H : Hp} {ds : List D} {vs : List V} (h : IsL mg pa F H ds vs) : ∀ n, IsL mg pa F H (List.replicate n ds).flatten (List.replicate n vs).flatten
  | 0 => rfl
  | n + 1 => by
    simp only [List.replicate_succ, List.flatten_cons]
    exact h.append (IsL.reps h n)
theorem o_rep : Op2 X pa JN rRep repD := fun F H p x y dx dy d Q b hx hy e k => by
  unfold repD at e
  split at e
  · rename_i xs n
    split at e
    · rename_i hz
      cases e
      obtain ⟨a, us, rfl, ha, la⟩ := hx.lst
      have hb := bnd_le hz.1
      refine ⟨a, n, us, rfl, hy.int, ha, by omega, by omega, by rw [la.length]; exact hz.2, fun t ht => ?_⟩
      obtain ⟨s, i⟩ := new_lst b ht (la.reps n.toNat)
      exact k _ F _ s i
    · cases e
  · cases e
def repT : D → D → Option D
  | .tup xs, .int k => if xs ≠ [] ∧ -1000 ≤ k ∧ k ≤ 1000 ∧ xs.length ≤ 1000 then some (.tup (List.replicate k.toNat xs).flatten) else none
  | _, _ => none
theorem o_repT : Op2 X pa JV (fun x y H Q => rRepT X.K x y H Q ∨ rRepT0 X.K x y H Q) repT := fun F H p x y dx dy d Q b hx hy e k => by
  unfold repT at e
  split at e
  · rename_i xs n
    split at e
    · rename_i hz
      cases e
      obtain ⟨a, us, rfl, ha, la⟩ := hx.tup
      have hne : us ≠ [] := fun e => hz.1 (List.eq_nil_of_length_eq_zero (by rw [← la.length, e]; rfl))
      by_cases h2 : 2 ≤ n
      · refine .inl ⟨a, n, us, rfl, hy.int, SqT.of ha, hne, h2, hz.2.2.1, by rw [la.length]; exact hz.2.2.2, fun t ht => ?_⟩
        obtain ⟨s, i⟩ := new_tup b ht (la.reps n.toNat)
        exact k _ F _ s i
      · refine .inr ⟨a, n, us, rfl, hy.int, SqT.of ha, hne, hz.2.1, by omega, fun h1 => ?_, fun h0 t ht => ?_⟩
        · subst h1
          refine k _ F H b.refl ⟨a, us, rfl, ha, ?_⟩
          simpa using la
        · have e0 : n.toNat = 0 := by omega
          rw [e0] at k
          obtain ⟨s, i⟩ := new_tup (ds := []) (xs := []) (mg := X.mg) b ht rfl
          exact k _ F _ s i
    · cases e
  · cases e
def mulD : D → D → Option D := fun x y => (imulD x y).or ((repD x y).or (repT x y))
theorem o_mul : ∃ r, OpR X (binaryOp .Mult) r ∧ Op2 X pa JV r mulD := by
  refine ⟨_, L2.op_mul.or (op_rep.or (op_repT.or op_repT0)), Op2.or (g := mulD) o_imul (Op2.or (g := fun x y => (repD x y).or (repT x y)) o_rep.v o_repT fun x y d h => ?_) fun x y d h => ?_⟩
  · cases q : repD x y with
    | none => rw [q] at h; exact .inr h
    | some z => rw [q] at h; exact .inl h
  · unfold mulD at h
    cases q : imulD x y with
    | none => rw [q] at h; exact .inr h
    | some z => rw [q] at h; exact .inl h

/-! ### ==, != -/
mutual
def toPy : D → PyData
  | .non => .none
  | .bl b => .bool b
  | .int i => .int i
  | .str x => .str x
  | .tup xs => .tuple (toPys xs)
  | .lst xs => .list (toPys xs)
  | _ => .dict []
def toPys : List D → List PyData
  | [] => []
  | x :: xs => toPy x :: toPys xs
end
mutual
/-- data of depth n at most -/
def dat : Nat → D → Bool
  | _, .non => true
  | _, .bl _ => true
  | _, .int _ => true
  | _, .str x => PyData.strOk x
  | n + 1, .tup xs => dats n xs
  | n + 1, .lst xs => dats n xs
  | _, _ => false
def dats : Nat → List D → Bool
  | _, [] => true
  | n, x :: xs => dat n x && dats n xs
end
mutual
def eqb : D → D → Bool
  | .non, .non => true
  | .bl a, .bl b => a == b
  | .bl a, .int j => (if a then 1 else 0) == j
  | .int i, .bl b => i == (if b then 1 else 0)
  | .int i, .int j => i == j
  | .str x, .str y => x == y
  | .lst xs, .lst ys => eqbs xs ys
  | .tup xs, .tup ys => eqbs xs ys
  | _, _ => false
def eqbs : List D → List D → Bool
  | [], [] => true
  | x :: xs, y :: ys => eqb x y && eqbs xs ys
  | _, _ => false
end
mutual
theorem eqv_toPy : ∀ x y : D, PyData.eqv (toPy x) (toPy y) = eqb x y
  | .lst xs, .lst ys => by simp only [toPy, PyData.eqv, eqb]; exact eqvs_toPy xs ys
  | .tup xs, .tup ys => by simp only [toPy, PyData.eqv, eqb]; exact eqvs_toPy xs ys
  | .lst xs, .non | .lst xs, .bl _ | .lst xs, .int _ | .lst xs, .str _ | .lst xs, .tup _ | .lst xs, .dct _ | .lst xs, .fn _ | .lst xs, .pot | .lst xs, .dcn _ => by simp [toPy, PyData.eqv, eqb]
  | .tup xs, .non | .tup xs, .bl _ | .tup xs, .int _ | .tup xs, .str _ | .tup xs, .lst _ | .tup xs, .dct _ | .tup xs, .fn _ | .tup xs, .pot | .tup xs, .dcn _ => by simp [toPy, PyData.eqv, eqb]
  | .non, y | .bl _, y | .int _, y | .str _, y | .dct _, y | .fn _, y | .pot, y | .dcn _, y => by cases y <;> simp [toPy, PyData.eqv, eqb]
theorem eqvs_toPy : ∀ xs ys : List D, PyData.eqvAll (toPys xs) (toPys ys) = eqbs xs ys
  | [], [] => by simp [toPys, PyData.eqvAll, eqbs]
  | [], _ :: _ => by simp [toPys, PyData.eqvAll, eqbs]
  | _ :: _, [] => by simp [toPys, PyData.eqvAll, eqbs]
  | x :: xs, y :: ys => by simp only [toPys, PyData.eqvAll, eqbs]; rw [eqv_toPy x y, eqvs_toPy xs ys]
end
mutual
theorem dat_shape : ∀ (n : Nat) (d : D), dat n d = true → (toPy d).canLay0 = true ∧ (toPy d).depth ≤ n
  | n, .non, h => by simp [toPy, PyData.canLay0, PyData.depth]
  | n, .bl _, h => by simp [toPy, PyData.canLay0, PyData.depth]
  | n, .int _, h => by simp [toPy, PyData.canLay0, PyData.depth]
  | n, .str x, h => by
    have h : PyData.strOk x = true := by cases n <;> simpa [dat] using h
    simp [toPy, PyData.canLay0, PyData.depth, h]
  | n + 1, .tup xs, h => by
    have h : dats n xs = true := by simpa [dat] using h
    have := dats_shape n xs h
    simp only [toPy, PyData.canLay0, PyData.depth]
    exact ⟨this.1, Nat.succ_le_succ this.2⟩
  | n + 1, .lst xs, h => by
    have h : dats n xs = true := by simpa [dat] using h
    have := dats_shape n xs h
    simp only [toPy, PyData.canLay0, PyData.depth]
    exact ⟨this.1, Nat.succ_le_succ this.2⟩
  | 0, .tup xs, h => by simp [dat] at h
  | 0, .lst xs, h => by simp [dat] at h
  | n, .dct _, h => by cases n <;> simp [dat] at h
  | n, .dcn _, h => by cases n <;> simp [dat] at h
  | n, .fn _, h => by cases n <;> simp [dat] at h
  | n, .pot, h => by cases n <;> simp [dat] at h
theorem dats_shape : ∀ (n : Nat) (ds : List D), dats n ds = true → PyData.canLayAll0 (toPys ds) = true ∧ PyData.depthAll (toPys ds) ≤ n
  | n, [], h => by simp [toPys, PyData.canLayAll0, PyData.depthAll]
  | n, x :: xs, h => by
    have h : dat n x = true ∧ dats n xs = true := by simpa [dats] using h
    have a := dat_shape n x h.1
    have b := dats_shape n xs h.2
    simp only [toPys, PyData.canLayAll0, PyData.depthAll]
    exact ⟨by rw [a.1, b.1] <;> rfl, Nat.max_le.mpr ⟨a.2, b.2⟩⟩
end
theorem dat_shaped {d : D} (h : dat 64 d = true) : SeqAt.shaped (toPy d) = true := by
  have := dat_shape 64 d h
  unfold SeqAt.shaped
  rw [this.1, decide_eq_true this.2]
  rfl
section
variable {K : PySem.W.Frag} {mg : Str → Option Value} {F : Addr → Prop} {H : Hp}
mutual
theorem dp_of : ∀ (n : Nat) (d : D) (v : V), dat n d = true → Is mg pa F H d v → Dp K H v (toPy d)
  | n, .non, v, h, i => by rw [show v = .non from i]; simp only [toPy]; exact .non
  | n, .bl b, v, h, i => by rw [show v = .bl b from i]; simp only [toPy]; exact .bl b
  | n, .int b, v, h, i => by rw [show v = .int b from i]; simp only [toPy]; exact .int b
  | n, .str b, v, h, i => by rw [show v = .str b from i]; simp only [toPy]; exact .str b
  | n + 1, .tup xs, v, h, i => by
    have h : dats n xs = true := by simpa [dat] using h
    obtain ⟨a, vs, rfl, ha, l⟩ := i
    simp only [toPy]
    exact .tup (SqT.of ha) (dps_of n xs vs h l)
  | n + 1, .lst xs, v, h, i => by
    have h : dats n xs = true := by simpa [dat] using h
    obtain ⟨a, vs, rfl, _, ha, l⟩ := i
    simp only [toPy]
    exact .lst (SqL.of ha) (dps_of n xs vs h l)
  | 0, .tup xs, v, h, i => by simp [dat] at h
  | 0, .lst xs, v, h, i => by simp [dat] at h
  | n, .dct _, v, h, i => by cases n <;> simp [dat] at h
  | n, .dcn _, v, h, i => by cases n <;> simp [dat] at h
  | n, .fn _, v, h, i => by cases n <;> simp [dat] at h
  | n, .pot, v, h, i => by cases n <;> simp [dat] at h
theorem dps_of : ∀ (n : Nat) (ds : List D) (vs : List V), dats n ds = true → IsL mg pa F H ds vs → DpAll K H vs (toPys ds)
  | n, [], vs, h, l => by rw [show vs = [] from l]; simp only [toPys]; exact .nil
  | n, d :: ds, vs, h, l => by
    have h : dat n d = true ∧ dats n ds = true := by simpa [dats] using h
    obtain ⟨x, r, rfl, h1, h2⟩ := l
    simp only [toPys]
    exact .cons (dp_of n d x h.1 h1) (dps_of n ds r h.2 h2)
end
theorem dp_ofB {H1 : Hp} {n : Nat} {d : D} {v : V} (h : dat n d = true) (i : JB mg pa H1 F H d v) : Dp K H v (toPy d) := by
  rcases i with i | ⟨a, rfl, _, _, t⟩
  · exact dp_of n d v h i
  · cases d with
    | lst ds =>
      obtain ⟨xs, e, l⟩ := t
      cases n with
      | zero => simp [dat] at h
      | succ n =>
        simp only [toPy]
        exact .lst (SqL.of e) (dps_of n ds xs (by simpa [dat] using h) l)
    | dct ds => cases n <;> simp [dat] at h
    | dcn ds => cases n <;> simp [dat] at h
    | _ => exact t.elim
end
def eqD (x y : D) : Option D := if dat 64 x = true ∧ dat 64 y = true then some (.bl (eqb x y)) else none
def neD (x y : D) : Option D := if dat 64 x = true ∧ dat 64 y = true then some (.bl (!eqb x y)) else none
theorem o_eq : Op2 X pa JV (rEqD X.K) eqD := fun F H p x y dx dy d Q b hx hy e k => by
  unfold eqD at e
  split at e
  · rename_i h
    cases e
    refine ⟨toPy dx, toPy dy, dp_ofB h.1 hx, dp_ofB h.2 hy, dat_shaped h.1, dat_shaped h.2, ?_⟩
    rw [eqv_toPy]
    exact k _ F H b.refl rfl
  · cases e
theorem o_ne : Op2 X pa JV (rNeD X.K) neD := fun F H p x y dx dy d Q b hx hy e k => by
  unfold neD at e
  split at e
  · rename_i h
    cases e
    refine ⟨toPy dx, toPy dy, dp_ofB h.1 hx, dp_ofB h.2 hy, dat_shaped h.1, dat_shaped h.2, ?_⟩
    rw [eqv_toPy]
    exact k _ F H b.refl rfl
  · cases e
/-! ### <, <=, >, >= -/
def intsOf : List D → Option (List Int)
  | [] => some []
  | .int i :: r => (intsOf r).map (i :: ·)
  | _ => none
theorem intsOf_some : ∀ {ds : List D} {ns : List Int}, intsOf ds = some ns → ds = ns.map D.int
  | [], ns, h => by cases h; rfl
  | .int i :: r, ns, h => by
    unfold intsOf at h
    cases e : intsOf r with
    | none => rw [e] at h; cases h
    | some ms =>
      rw [e] at h
      cases h
      rw [intsOf_some e]
      rfl
  | .non :: r, ns, h | .bl _ :: r, ns, h | .str _ :: r, ns, h | .tup _ :: r, ns, h | .lst _ :: r, ns, h | .dct _ :: r, ns, h | .fn _ :: r, ns, h | .pot :: r, ns, h | .dcn _ :: r, ns, h => by simp [intsOf] at h
theorem intsOf_map (ns : List Int) : intsOf (ns.map D.int) = some ns := by
  induction ns with
  | nil => rfl
  | cons n r ih => simp [intsOf, ih]
def ttLt : D → D → Option D
  | .tup xs, .tup ys => (intsOf xs).bind fun ns => (intsOf ys).map fun ms => .bl (HT.lexLt ns ms)
  | _, _ => none
theorem o_ttLt : Op2 X pa JV (rLtT X.K) ttLt := fun F H p x y dx dy d Q b hx hy e k => by
  unfold ttLt at e
  split at e
  · rename_i xs ys
    cases e1 : intsOf xs with
    | none => rw [e1] at e; cases e
    | some ns =>
      cases e2 : intsOf ys with
      | none => rw [e1, e2] at e; cases e
      | some ms =>
        rw [e1, e2] at e
        cases e
        obtain ⟨a, us, rfl, ha, la⟩ := hx.tup
        obtain ⟨c, ws, rfl, hc, lc⟩ := hy.tup
        rw [intsOf_some e1] at la
        rw [intsOf_some e2] at lc
        rw [la.ints] at ha
        rw [lc.ints] at hc
        exact ⟨a, c, ns, ms, rfl, rfl, SqT.of ha, SqT.of hc, k _ F H b.refl rfl⟩
  · cases e
@[simp] def ltD : D → D → Option D
  | .int i, .int j => some (.bl (decide (i < j)))
  | .tup xs, .tup ys => ttLt (.tup xs) (.tup ys)
  | _, _ => none
theorem o_lt (hu : X.A.units < cLine) : ∃ r, OpR X (compareOp .Lt) r ∧ Op2 X pa JV r ltD := by
  refine ⟨_, L2.op_lt.or (op_ltT hu), Op2.or (o_ii0 (gd := fun i j => .bl (decide (i < j))) fun _ _ _ _ => rfl) o_ttLt fun x y d h => ?_⟩
  cases x <;> cases y <;> first | (cases h; done) | exact .inl h | exact .inr h
@[simp] def leD : D → D → Option D := iiD (fun _ _ => true) fun i j => .bl (decide (i ≤ j))
theorem o_le : Op2 X pa JV (rI0 fun i j => .bl (decide (i ≤ j))) leD := o_ii0 fun _ _ _ _ => rfl
@[simp] def gtD : D → D → Option D := iiD (fun _ _ => true) fun i j => .bl (decide (j < i))
theorem o_gt : Op2 X pa JV (rI0 fun i j => .bl (decide (j < i))) gtD := o_ii0 fun _ _ _ _ => rfl
@[simp] def geD : D → D → Option D := iiD (fun _ _ => true) fun i j => .bl (decide (j ≤ i))
theorem o_ge : Op2 X pa JV (rI0 fun i j => .bl (decide (j ≤ i))) geD := o_ii0 fun _ _ _ _ => rfl
end
end M

set_option Elab.async false
set_option linter.all false
set_option maxRecDepth 100000
/-! in, is, subscripts, slices, displays, calls of built-ins over plain data -/
namespace M
open PySem PySem.Spec PyProof.Rows L2

/-! ### in -/
def flatD : D → Bool
  | .non | .bl _ | .int _ | .str _ => true
  | _ => false
section
variable {mg : Str → Option Value} {pa : Pa} {F : Addr → Prop} {H H1 : Hp} {p : Pot} {x : V}
theorem flat_is {d : D} {v : V} (h : flatD d = true) (i : Is mg pa F H d v) : flatV v = true ∧ ∀ e w, flatD e = true → Is mg pa F H e w → eqV v w = eqb d e := by
  cases d <;> first | (cases h; done) | skip
  all_goals
    have i := i
    simp only [Is] at i
    subst i
    refine ⟨rfl, fun e w he iw => ?_⟩
    cases e <;> first | (cases he; done) | skip
    all_goals
      simp only [Is] at iw
      subst iw
      simp [eqV, eqb]
theorem flat_isB {d : D} (h : flatD d = true) (i : JB mg pa H1 F H d x) : Is mg pa F H d x := by
  cases d <;> first | (cases h; done) | exact i.elim id fun ⟨_, _, _, _, t⟩ => t.elim
theorem flats_is {d : D} {v : V} (hd : flatD d = true) (i : Is mg pa F H d v) : ∀ {ds : List D} {vs : List V}, ds.all flatD = true → IsL mg pa F H ds vs → vs.all flatV = true ∧ inV v vs = ds.any fun z => eqb z d
  | [], vs, _, l => by
    obtain rfl : vs = [] := l
    exact ⟨rfl, rfl⟩
  | e :: ds, vs, h, l => by
    obtain ⟨w, r, rfl, h1, h2⟩ := l
    have h : flatD e = true ∧ ds.all flatD = true := by simpa using h
    obtain ⟨a, b⟩ := flats_is hd i h.2 h2
    obtain ⟨c, k⟩ := flat_is h.1 h1
    refine ⟨by simp [c, a], ?_⟩
    have b : (r.any fun y => eqV y v) = ds.any fun z => eqb z d := b
    show (eqV w v || r.any fun y => eqV y v) = (eqb e d || ds.any fun z => eqb z d)
    rw [k d v hd i, b]
end
@[simp] def keyOf : D → Option Key
  | .int i => some (.inl i)
  | .str x => some (.inr x)
  | _ => none
def look (kvs : List (Key × D)) (k : Key) : Option D := (kvs.find? fun kv => decide (kv.1 = k)).map (·.2)
mutual
/-- a nested key -/
def nkey : D → Option NK
  | .non => some .none
  | .int i => some (.num i)
  | .tup ds => (nkeys ds).map .tup
  | _ => none
def nkeys : List D → Option (List NK)
  | [] => some []
  | d :: ds => match nkey d, nkeys ds with
    | some k, some ks => some (k :: ks)
    | _, _ => none
end
/-- a tuple as a key -/
def keyT : D → Option NK
  | .tup ds => match nkeys ds with
    | some ks => if (PySem.NestedKey.tup ks).depth ≤ 8 then some (.tup ks) else none
    | none => none
  | _ => none
def inD (x : D) : D → Option Bool
  | .lst ys => if flatD x = true ∧ ys.all flatD = true then some (ys.any fun z => eqb z x) else if dat 64 x = true ∧ dats 63 ys = true then some (ys.any fun z => eqb z x) else none
  | .tup ys => if flatD x = true ∧ ys.all flatD = true then some (ys.any fun z => eqb z x) else none
  | .dct kvs => match keyOf x with
    | some k => some (look kvs k).isSome
    | none => if kvs.isEmpty = true then (keyT x).map fun _ => false else none
  | .dcn kvs => (keyT x).map fun k => (lookN kvs k).isSome
  | _ => none
def inO (x y : D) : Option D := (inD x y).map .bl
def notInO (x y : D) : Option D := (inD x y).map fun b => .bl (!b)
section
variable {X : Cx} {pa : Pa}
theorem op_inDct (hu : X.A.units + 1 < cLine) : OpR X (compareOp .In) (fun x y H Q => ∃ a o, y = .ref a ∧ DGet H a x o ∧ Q (.bl o.isSome) H) := by
  intro pins s σ H x y v u Q I rx ry h
  obtain ⟨a, o, rfl, g, q⟩ := h
  obtain rfl : u = Value.ref a := ry
  exact d_in hu I g rx fun s3 I3 => ⟨.bl o.isSome, H, I3, rfl, q⟩
theorem op_notInDct (hu : X.A.units + 1 < cLine) : OpR X (compareOp .NotIn) (fun x y H Q => ∃ a o, y = .ref a ∧ DGet H a x o ∧ Q (.bl (!o.isSome)) H) := by
  intro pins s σ H x y v u Q I rx ry h
  obtain ⟨a, o, rfl, g, q⟩ := h
  obtain rfl : u = Value.ref a := ry
  exact d_notIn hu I g rx fun s3 I3 => ⟨.bl (!o.isSome), H, I3, rfl, q⟩
theorem JB.key {mg : Str → Option Value} {F : Addr → Prop} {H H1 : Hp} {d : D} {k : Key} {x : V} (h : keyOf d = some k) (j : JB mg pa H1 F H d x) : x = kV k := by
  cases d <;> first | (cases h; done) | skip
  · cases h; exact j.int
  · cases h; exact j.str
section
variable {mg : Str → Option Value} {pa : Pa} {F : Addr → Prop} {H H1 : Hp}
mutual
theorem nkey_is : ∀ (d : D) (k : NK) (v : V), nkey d = some k → Is mg pa F H d v → Ky H k v
  | .non, k, v, h, i => by
    simp only [nkey, Option.some.injEq] at h
    subst h
    exact i
  | .int z, k, v, h, i => by
    simp only [nkey, Option.some.injEq] at h
    subst h
    exact i
  | .tup ds, k, v, h, i => by
    simp only [nkey] at h
    cases e : nkeys ds with
    | none => rw [e] at h; cases h
    | some ks =>
      rw [e] at h
      cases h
      obtain ⟨a, xs, rfl, ha, l⟩ := i
      exact ⟨a, xs, rfl, ha, nkeys_is ds ks xs e l⟩
  | .bl _, k, v, h, i => by simp [nkey] at h
  | .str _, k, v, h, i => by simp [nkey] at h
  | .lst _, k, v, h, i => by simp [nkey] at h
  | .dct _, k, v, h, i => by simp [nkey] at h
  | .fn _, k, v, h, i => by simp [nkey] at h
  | .pot, k, v, h, i => by simp [nkey] at h
  | .dcn _, k, v, h, i => by simp [nkey] at h
theorem nkeys_is : ∀ (ds : List D) (ks : List NK) (vs : List V), nkeys ds = some ks → IsL mg pa F H ds vs → Kys H ks vs
  | [], ks, vs, h, l => by
    simp only [nkeys, Option.some.injEq] at h
    subst h
    exact l
  | d :: ds, ks, vs, h, l => by
    simp only [nkeys] at h
    cases e1 : nkey d with
    | none => rw [e1] at h; cases h
    | some k =>
      cases e2 : nkeys ds with
      | none => rw [e1, e2] at h; cases h
      | some ks' =>
        rw [e1, e2] at h
        cases h
        obtain ⟨x, r, rfl, h1, h2⟩ := l
        exact ⟨x, r, rfl, nkey_is d k x e1 h1, nkeys_is ds ks' r e2 h2⟩
end
theorem JB.keyT {d : D} {k : NK} {x : V} (h : keyT d = some k) (j : JB mg pa H1 F H d x) : ∃ b, x = .ref b ∧ ∀ z, KyE H (k, b, z) := by
  cases d with
  | tup ds =>
    simp only [M.keyT] at h
    cases e : nkeys ds with
    | none => rw [e] at h; cases h
    | some ks =>
      rw [e] at h
      simp only at h
      split at h
      · rename_i hd
        cases h
        obtain ⟨a, xs, rfl, ha, l⟩ := j.tup
        exact ⟨a, rfl, fun z => ⟨hd, a, xs, rfl, ha, nkeys_is ds ks xs e l⟩⟩
      · cases h
  | _ => cases h
end
theorem any_eqv_toPys (e : D) : ∀ ds : List D, ((toPys ds).any fun z => PyData.eqv z (toPy e)) = ds.any fun z => eqb z e
  | [] => rfl
  | d :: ds => by simp only [toPys, List.any_cons, eqv_toPy, any_eqv_toPys e ds]
theorem dats_dat {ds : List D} (h : dats 63 ds = true) : dat 64 (.lst ds) = true := by simpa [dat] using h
/-- what in asks, the answer -/
theorem in_ask {neg : Bool} {F : Addr → Prop} {H : Hp} {p : Pot} {x y : V} {dx dy : D} {r : Bool} {Q : VK} (b : Base pa F H p) (hx : JB X.mg pa H F H dx x) (hy : JB X.mg pa H F H dy y) (e : inD dx dy = some r) (q : Q (.bl (if neg then !r else r)) H) :
    rIn X.K neg x y H Q ∨ (∃ d ds, Dp X.K H x d ∧ Dp X.K H y (.list ds) ∧ SeqAt.shaped d = true ∧ SeqAt.shaped (.list ds) = true ∧ Q (.bl (if neg then !(ds.any fun z => PyData.eqv z d) else ds.any fun z => PyData.eqv z d)) H) ∨ (∃ a o, y = .ref a ∧ DGet H a x o ∧ Q (.bl (if neg then !o.isSome else o.isSome)) H) ∨ (∃ a o, y = .ref a ∧ NGet H a x o ∧ Q (.bl (if neg then !o.isSome else o.isSome)) H) := by
  cases dy with
  | lst ys =>
    simp only [inD] at e
    split at e
    · rename_i h
      cases e
      obtain ⟨a, us, rfl, ha, la⟩ := hy.lst
      obtain ⟨k1, k2⟩ := flats_is h.1 (flat_isB h.1 hx) h.2 la
      refine .inl ⟨a, us, rfl, .inl (SqL.of ha), (flat_is h.1 (flat_isB h.1 hx)).1, k1, ?_⟩
      rw [k2]
      cases neg <;> exact q
    · split at e
      · rename_i h
        cases e
        have hl : dat 64 (D.lst ys) = true := dats_dat h.2
        have e1 : toPy (.lst ys) = .list (toPys ys) := by simp only [toPy]
        have h3 := dp_ofB (K := X.K) hl hy
        have h4 := dat_shaped hl
        rw [e1] at h3 h4
        refine .inr (.inl ⟨toPy dx, toPys ys, dp_ofB h.1 hx, h3, dat_shaped h.1, h4, ?_⟩)
        rw [any_eqv_toPys]
        cases neg <;> exact q
      · cases e
  | tup ys =>
    simp only [inD] at e
    split at e
    · rename_i h
      cases e
      obtain ⟨a, us, rfl, ha, la⟩ := hy.tup
      obtain ⟨k1, k2⟩ := flats_is h.1 (flat_isB h.1 hx) h.2 la
      refine .inl ⟨a, us, rfl, .inr (SqT.of ha), (flat_is h.1 (flat_isB h.1 hx)).1, k1, ?_⟩
      rw [k2]
      cases neg <;> exact q
    · cases e
  | dct kvs =>
    simp only [inD] at e
    obtain ⟨a, us, rfl, ha, la⟩ := hy.dct
    cases hk : keyOf dx with
    | none =>
      rw [hk] at e
      simp only at e
      split at e
      · rename_i hn
        obtain rfl : kvs = [] := by simpa using hn
        obtain rfl : us = [] := la
        cases ht : keyT dx with
        | none => rw [ht] at e; cases e
        | some k =>
          rw [ht] at e
          cases e
          obtain ⟨b', rfl, hb⟩ := hx.keyT ht
          refine .inr (.inr (.inr ⟨a, none, rfl, ⟨[], k, b', .non, .inr ⟨rfl, ha⟩, rfl, hb _, rfl⟩, ?_⟩))
          cases neg <;> exact q
      · cases e
    | some k =>
      rw [hk] at e
      cases e
      have z := IsK.val k la
      refine .inr (.inr (.inl ⟨a, valV us k, rfl, ?_, ?_⟩))
      · rw [hx.key hk]
        exact DGet.k ha
      · simp only [look] at q
        split at z
        · rename_i d hd
          obtain ⟨v, z, _⟩ := z
          rw [z]
          rw [hd] at q
          cases neg <;> exact q
        · rename_i hd
          rw [z]
          rw [hd] at q
          cases neg <;> exact q
  | dcn kvs =>
    simp only [inD] at e
    cases ht : keyT dx with
    | none => rw [ht] at e; cases e
    | some k =>
      rw [ht] at e
      cases e
      obtain ⟨a, es, rfl, ha, la⟩ := hy.dcn
      obtain ⟨b', rfl, hb⟩ := hx.keyT ht
      have z := IsN.val k la
      refine .inr (.inr (.inr ⟨a, valE es k, rfl, ⟨es, k, b', .non, la.nd ha, rfl, hb _, rfl⟩, ?_⟩))
      have q : Q (V.bl (if neg = true then !(lookN kvs k).isSome else (lookN kvs k).isSome)) H := q
      split at z
      · rename_i d hd
        obtain ⟨v, z, _⟩ := z
        rw [z]
        rw [hd] at q
        cases neg <;> exact q
      · rename_i hd
        rw [z]
        rw [hd] at q
        cases neg <;> exact q
  | _ => cases e
theorem o_in (hu : X.A.units + 65 < cLine) : ∃ r, OpR X (compareOp .In) r ∧ Op2 X pa JV r inO :=
  ⟨_, op_in_seq.or ((op_inD hu).or ((op_inDct (by omega)).or (op_inN (by omega)))), fun F H p x y dx dy d Q b hx hy e k => by
    unfold inO at e
    cases q : inD dx dy with
    | none => rw [q] at e; cases e
    | some r =>
      rw [q] at e
      cases e
      exact in_ask (neg := false) b hx hy q (k _ F H b.refl rfl)⟩
theorem o_notIn (hu : X.A.units + 65 < cLine) : ∃ r, OpR X (compareOp .NotIn) r ∧ Op2 X pa JV r notInO :=
  ⟨_, op_notIn_seq.or ((op_notInD hu).or ((op_notInDct (by omega)).or (op_notInN (by omega)))), fun F H p x y dx dy d Q b hx hy e k => by
    unfold notInO at e
    cases q : inD dx dy with
    | none => rw [q] at e; cases e
    | some r =>
      rw [q] at e
      cases e
      exact in_ask (neg := true) b hx hy q (k _ F H b.refl rfl)⟩
/-! ### is, is not -/
def isNon : D → Bool
  | .non => true
  | _ => false
def isD : D → D → Option Bool
  | d, .non => some (isNon d)
  | .bl a, .bl b => some (decide (a = b))
  | _, _ => none
def isO (x y : D) : Option D := (isD x y).map .bl
def isNotO (x y : D) : Option D := (isD x y).map fun b => .bl (!b)
theorem JB.isNon {mg : Str → Option Value} {F : Addr → Prop} {H H1 : Hp} {d : D} {x : V} (j : JB mg pa H1 F H d x) : decide (x = .non) = isNon d := by
  cases d with
  | non => rw [j.non] <;> rfl
  | bl b => rw [j.bl] <;> rfl
  | int b => rw [j.int] <;> rfl
  | str b => rw [j.str] <;> rfl
  | tup b => obtain ⟨a, xs, rfl, _⟩ := j.tup; rfl
  | lst b => obtain ⟨a, xs, rfl, _⟩ := j.lst; rfl
  | dct b => obtain ⟨a, xs, rfl, _⟩ := j.dct; rfl
  | dcn b => obtain ⟨a, xs, rfl, _⟩ := j.dcn; rfl
  | fn b => obtain ⟨a, _, rfl⟩ := j.elim id fun ⟨_, _, _, _, t⟩ => t.elim; rfl
  | pot => obtain rfl := j.elim id fun ⟨_, _, _, _, t⟩ => t.elim; rfl
theorem o_is : ∃ r, OpR X (compareOp .Is) r ∧ Op2 X pa JV r isO := ⟨_, op_isN.or op_isBl, fun F H p x y dx dy d Q b hx hy e k => by
  cases dy with
  | non =>
    have e : some (D.bl (isNon dx)) = some d := by cases dx <;> exact e
    cases e
    refine .inl ⟨hy.non, ?_⟩
    rw [hx.isNon]
    exact k _ F H b.refl rfl
  | bl c =>
    cases dx with
    | bl a =>
      cases e
      exact .inr ⟨a, c, hx.bl, hy.bl, k _ F H b.refl rfl⟩
    | _ => cases e
  | _ => cases dx <;> cases e⟩
theorem o_isNot : ∃ r, OpR X (compareOp .IsNot) r ∧ Op2 X pa JV r isNotO := ⟨_, op_notN.or op_notBl, fun F H p x y dx dy d Q b hx hy e k => by
  cases dy with
  | non =>
    have e : some (D.bl (!isNon dx)) = some d := by cases dx <;> exact e
    cases e
    refine .inl ⟨hy.non, ?_⟩
    rw [hx.isNon]
    exact k _ F H b.refl rfl
  | bl c =>
    cases dx with
    | bl a =>
      cases e
      exact .inr ⟨a, c, hx.bl, hy.bl, k _ F H b.refl rfl⟩
    | _ => cases e
  | _ => cases dx <;> cases e⟩
/-! ### a[i] -/
theorem ix_dct (hu : X.A.units + 1 < cLine) : IxR X (fun x y H Q => ∃ a v, x = .ref a ∧ DGet H a y (some v) ∧ Q v H) := by
  intro value slice pins s σ H x y v u Q I rx ry h hs
  obtain ⟨a, w, rfl, g, q⟩ := h
  obtain rfl : v = Value.ref a := rx
  exact tail_any (dict_typeIs I g) PySem.F.slot_dict_getitem.lookup (d_getItem hu I g ry fun w' s3 I3 rw' => ⟨w, H, I3, rw', q⟩) hs
theorem ix_nd (hu : X.A.units + 9 < cLine) : IxR X (fun x y H Q => ∃ a v, x = .ref a ∧ NGet H a y (some v) ∧ Q v H) := by
  intro value slice pins s σ H x y v u Q I rx ry h hs
  obtain ⟨a, w, rfl, ⟨es, k, b, z, n, rfl, hk, hv⟩, q⟩ := h
  obtain rfl : v = Value.ref a := rx
  obtain rfl : u = Value.ref b := ry
  exact tail_any (nd_typeIs I n).1 PySem.F.slot_dict_getitem.lookup (n_getItem hu I n hk hv.symm fun w' s3 I3 rw' => ⟨w, H, I3, rw', q⟩) hs
def ixD : D → D → Option D
  | .lst xs, .int i => atI xs i
  | .tup xs, .int i => atI xs i
  | .str z, .int i => if z.length ≤ sizeLine then (atI z.cps.toList i).map fun c => .str ⟨#[c]⟩ else none
  | .dct kvs, y => (keyOf y).bind fun k => look kvs k
  | .dcn kvs, y => (keyT y).bind fun k => lookN kvs k
  | _, _ => none
theorem IsL.atI {mg : Str → Option Value} {F : Addr → Prop} {H : Hp} {ds : List D} {vs : List V} {i : Int} {d : D} (l : IsL mg pa F H ds vs) (h : L2.atI ds i = some d) : ∃ v, L2.atI vs i = some v ∧ Is mg pa F H d v := by
  unfold L2.atI at h ⊢
  rw [l.length]
  cases e : ixN ds.length i with
  | none => rw [e] at h; cases h
  | some j =>
    rw [e] at h
    exact l.get h
theorem o_ix (hu : X.A.units + 9 < cLine) : ∃ r, IxR X r ∧ Op2 X pa JV r ixD := ⟨_, ix_seq.or ((ix_dct (by omega)).or (ix_nd hu)), fun F H p x y dx dy d Q b hx hy e k => by
  cases dx with
  | lst xs =>
    cases dy with
    | int i =>
      obtain ⟨a, us, rfl, ha, la⟩ := hx.lst
      obtain ⟨v, h1, h2⟩ := la.atI e
      exact .inl (.inl ⟨a, us, i, v, rfl, hy.int, SqL.of ha, h1, k v F H b.refl h2⟩)
    | _ => cases e
  | tup xs =>
    cases dy with
    | int i =>
      obtain ⟨a, us, rfl, ha, la⟩ := hx.tup
      obtain ⟨v, h1, h2⟩ := la.atI e
      exact .inl (.inr (.inl ⟨a, us, i, v, rfl, hy.int, SqT.of ha, h1, k v F H b.refl h2⟩))
    | _ => cases e
  | str z =>
    cases dy with
    | int i =>
      simp only [ixD] at e
      split at e
      · rename_i hz
        cases h : L2.atI z.cps.toList i with
        | none => rw [h] at e; cases e
        | some c =>
          rw [h] at e
          cases e
          exact .inl (.inr (.inr ⟨z, i, c, hx.str, hy.int, hz, h, k _ F H b.refl rfl⟩))
      · cases e
    | _ => cases e
  | dct kvs =>
    have e : ((keyOf dy).bind fun k => look kvs k) = some d := by cases dy <;> exact e
    cases hk : keyOf dy with
    | none => rw [hk] at e; cases e
    | some key =>
      rw [hk] at e
      have e : look kvs key = some d := e
      obtain ⟨a, us, rfl, ha, la⟩ := hx.dct
      have z := IsK.val key la
      unfold look at e
      rw [e] at z
      obtain ⟨v, z1, z2⟩ := z
      refine .inr (.inl ⟨a, v, rfl, ?_, k v F H b.refl z2⟩)
      rw [hy.key hk, ← z1]
      exact DGet.k ha
  | dcn kvs =>
    have e : ((keyT dy).bind fun k => lookN kvs k) = some d := by cases dy <;> exact e
    cases hk : keyT dy with
    | none => rw [hk] at e; cases e
    | some key =>
      rw [hk] at e
      have e : lookN kvs key = some d := e
      obtain ⟨a, us, rfl, ha, la⟩ := hx.dcn
      have z := IsN.val key la
      rw [e] at z
      obtain ⟨v, z1, z2⟩ := z
      obtain ⟨b', rfl, hb⟩ := hy.keyT hk
      exact .inr (.inr ⟨a, v, rfl, ⟨us, key, b', .non, la.nd ha, rfl, hb _, z1.symm⟩, k v F H b.refl z2⟩)
  | _ => cases e⟩
theorem s_ix {F0 : Addr → Prop} {H0 : Hp} {a b : Expr} {pos : Pos} {f g : En → Pot → Res D} (hu : X.A.units + 9 < cLine) (ha : SB X F0 H0 pa a f) (hb : SB X F0 H0 pa b g) (hs : PlainIx b) : SV X F0 H0 pa (.Subscript a b pos) (d2 f g ixD) := by
  obtain ⟨r, h1, h2⟩ := o_ix (X := X) (pa := pa) hu
  exact fun W tk => PEimp (pe_ix h1 (ha W tk) (hb W tk) hs) (s_tOp backV h2 (fun _ _ _ h => h) fun _ _ _ h => h)
/-! ### slices -/
def cutG {α : Type} (xs : List α) (lo hi : Option Int) : List α := (xs.drop (HT.sIx xs.length 0 lo)).take (HT.sIx xs.length xs.length hi - HT.sIx xs.length 0 lo)
def slTL : D → Option Int → Option Int → Option D
  | .tup xs, lo, hi => some (.tup (cutG xs lo hi))
  | _, _, _ => none
def slLst : D → Option Int → Option Int → Option D
  | .lst xs, lo, hi => some (.lst (cutG xs lo hi))
  | _, _, _ => none
def slD : D → Option Int → Option Int → Option D
  | .tup xs, lo, hi => some (.tup (cutG xs lo hi))
  | .lst xs, lo, hi => some (.lst (cutG xs lo hi))
  | .str z, lo, hi => if z.length ≤ sizeLine then some (.str (cutS z lo hi)) else none
  | _, _, _ => none
theorem IsL.cut {mg : Str → Option Value} {F : Addr → Prop} {H : Hp} {ds : List D} {vs : List V} {lo hi : Option Int} (l : IsL mg pa F H ds vs) : IsL mg pa F H (cutG ds lo hi) (cutV vs lo hi) := by
  unfold cutG cutV
  rw [l.length]
  exact (l.drop _).take _
theorem cut_whole {α : Type} {xs : List α} {lo hi : Option Int} (h : HT.sIx xs.length 0 lo = 0 ∧ HT.sIx xs.length xs.length hi = xs.length) : cutG xs lo hi = xs := by
  unfold cutG
  rw [h.1, h.2]
  simp
def Sl3 (X : Cx) (pa : Pa) (J : (Str → Option Value) → Pa → JT) (r : V → Option Int → Option Int → Hp → VK → Prop) (h : D → Option Int → Option Int → Option D) : Prop :=
  ∀ (F : Addr → Prop) (H : Hp) (p : Pot) (x : V) (dx d : D) (lo hi : Option Int) (Q : VK), Base pa F H p → JB X.mg pa H F H dx x → h dx lo hi = some d → (∀ v F' H', Stp pa F H F' H' p → J X.mg pa H F' H' d v → Q v H') → r x lo hi H Q
theorem o_slL : ∃ r, SlR X r ∧ Sl3 X pa JN r slLst := ⟨_, sl_list, fun F H p x dx d lo hi Q b hx e k => by
  cases dx with
  | lst xs =>
    cases e
    obtain ⟨a, us, rfl, ha, la⟩ := hx.lst
    refine ⟨a, us, rfl, SqL.of ha, fun t ht => ?_⟩
    obtain ⟨s, i⟩ := new_lst b ht (la.cut (lo := lo) (hi := hi))
    exact k _ F _ s i
  | _ => cases e⟩
theorem o_sl : ∃ r, SlR X r ∧ Sl3 X pa JV r slD := ⟨_, sl_tupA.or (sl_list.or sl_str), fun F H p x dx d lo hi Q b hx e k => by
  cases dx with
  | tup xs =>
    cases e
    obtain ⟨a, us, rfl, ha, la⟩ := hx.tup
    refine .inl ⟨a, us, rfl, SqT.of ha, fun hw => ?_, fun hw t ht => ?_⟩
    · rw [la.length] at hw
      refine k _ F H b.refl ?_
      rw [cut_whole hw]
      exact ⟨a, us, rfl, ha, la⟩
    · obtain ⟨s, i⟩ := new_tup b ht (la.cut (lo := lo) (hi := hi))
      exact k _ F _ s i
  | lst xs =>
    cases e
    obtain ⟨a, us, rfl, ha, la⟩ := hx.lst
    refine .inr (.inl ⟨a, us, rfl, SqL.of ha, fun t ht => ?_⟩)
    obtain ⟨s, i⟩ := new_lst b ht (la.cut (lo := lo) (hi := hi))
    obtain ⟨F2, s2, j⟩ := JN.frz b s i
    exact k _ F2 _ s2 j
  | str z =>
    simp only [slD] at e
    split at e
    · rename_i hz
      cases e
      exact .inr (.inr ⟨z, hx.str, hz, k _ F H b.refl rfl⟩)
    · cases e
  | _ => cases e⟩
end
end M

set_option Elab.async false
set_option linter.all false
set_option maxRecDepth 100000
/-! arguments, displays, calls of built-ins over plain data -/
namespace M
open PySem PySem.Spec PyProof.Rows L2
section
variable {X : Cx} {F0 : Addr → Prop} {H0 : Hp} {pa : Pa}
/-- one argument, all of them -/
def SA1 (X : Cx) (F0 : Addr → Prop) (H0 : Hp) (pa : Pa) (e : Expr) (f : En → Pot → Res Sl) : Prop := ∀ W : XK, Takes X (wx W) → PE X e (tX X.mg F0 H0 pa (JA X.mg pa) (wx W) f)
def JAs' (mg : Str → Option Value) (pa : Pa) : Hp → (Addr → Prop) → Hp → List Sl → List V → Prop := fun _ F' H' => JAs mg pa F' H'
def SA (X : Cx) (F0 : Addr → Prop) (H0 : Hp) (pa : Pa) (es : List Expr) (f : En → Pot → Res (List Sl)) : Prop := ∀ W : XK, Takes X (wx W) → PA X es (tX X.mg F0 H0 pa (JAs' X.mg pa) (wx W) f)
theorem backAs {mg : Str → Option Value} : Back pa (JAs' mg pa) := fun _ _ _ _ _ _ _ _ _ _ h => h
theorem JAs.step {mg : Str → Option Value} {F F' : Addr → Prop} {H H' : Hp} {p p' : Pot} (b : Base pa F H p) (s : Stp pa F H F' H' p') : ∀ {ss : List Sl} {vs : List V}, JAs mg pa F H ss vs → JAs mg pa F' H' ss vs
  | [], vs, h => h
  | x :: ss, vs, h => by
    obtain ⟨v, r, e, h1, h2⟩ := h
    exact ⟨v, r, e, JA.step b s h1, JAs.step b s h2⟩
@[simp] def aVal (f : En → Pot → Res D) : En → Pot → Res Sl := fun ρ p => (f ρ p).bind fun d p => .ok (.val d) p
@[simp] def aBor (i : Nat) : En → Pot → Res Sl := fun ρ p => match ρ[i]? with
  | some (some (.val d)) => .ok (.val d) p
  | some (some s) => .ok (.bor s.d) p
  | _ => .bad
@[simp] def aCons (a : En → Pot → Res Sl) (as : En → Pot → Res (List Sl)) : En → Pot → Res (List Sl) := fun ρ p => (a ρ p).bind fun s p1 => (as ρ p1).bind fun ss p2 => .ok (s :: ss) p2
@[simp] def aNil : En → Pot → Res (List Sl) := fun _ p => .ok [] p
theorem sa_val {e : Expr} {f : En → Pot → Res D} (h : SV X F0 H0 pa e f) : SA1 X F0 H0 pa e (aVal f) := fun W tk => PEimp (h W tk) fun σ H Q ⟨F, ρ, p, r, q⟩ => by
  refine ⟨F, ρ, p, r, ?_⟩
  simp only [aVal] at q
  cases e : f ρ p with
  | ok d p' => rw [e] at q; exact q
  | exc c p' => rw [e] at q; exact q
  | bad => rw [e] at q; exact q
theorem sa_bor {i : Nat} {x : Str} {pos : Pos} (hN : X.N[i]? = some x) (hv : Vis X.env.scope x) (hd : (x == ("__debug__" : Str)) = false) (hcd : (x == ("__classdict__" : Str)) = false) : SA1 X F0 H0 pa (.Name x pos) (aBor i) := fun W tk => PEimp (pe_var hN hv hd hcd) fun σ H Q ⟨F, ρ, p, r, q⟩ => by
  simp only [aBor] at q
  cases e : ρ[i]? with
  | none => rw [e] at q; exact q.elim
  | some o =>
    rw [e] at q
    cases o with
    | none => exact q.elim
    | some s =>
      obtain ⟨v, h1, h2⟩ := r.slot i _ e
      refine ⟨v, h1, ?_⟩
      cases s with
      | val d => exact q v F H r.base.refl h2
      | own d =>
        obtain ⟨a, e1, e2, e3, e4⟩ := h2
        exact q v F H r.base.refl ⟨a, e1, e2, r.np0 e3, e4⟩
      | bor d =>
        obtain ⟨a, e1, e2, e3, e4, e5⟩ := h2
        exact q v F H r.base.refl ⟨a, e1, e2, e4, e5⟩
theorem sa_nil : SA X F0 H0 pa [] aNil := fun W tk => PAimp pa_nil fun σ H Q ⟨F, ρ, p, r, q⟩ => q [] F H r.base.refl rfl
theorem sa_cons {e : Expr} {es : List Expr} {f : En → Pot → Res Sl} {g : En → Pot → Res (List Sl)} (h1 : SA1 X F0 H0 pa e f) (h2 : SA X F0 H0 pa es g) (hs : starEach (e :: es) X.env = (false, eval e X.env) :: starEach es X.env) : SA X F0 H0 pa (e :: es) (aCons f g) :=
  fun W tk => PAimp (pa_cons (h1 W tk) (h2 W tk) hs) fun σ H Q ⟨F, ρ, p, r, q⟩ => by
    refine seqE (J := JA X.mg pa) (g := fun s p1 => (g ρ p1).bind fun ss p2 => .ok (s :: ss) p2) backAs r q fun s p1 v F1 H1 s1 j1 r1 q1 => ?_
    refine seqE (J := JAs' X.mg pa) (g := fun ss p2 => .ok (s :: ss) p2) backAs r1 q1 fun ss p2 vs F2 H2 s2 j2 r2 q2 => ?_
    exact q2 (v :: vs) F2 H2 r2.base.refl ⟨v, vs, rfl, JA.step r1.base s2 j1, j2⟩

/-- a call's meaning by its arguments -/
def CallM (X : Cx) (pa : Pa) (J : (Str → Option Value) → Pa → JT) (r : List V → Hp → VK → Prop) (h : List D → Option D) : Prop :=
  ∀ (F : Addr → Prop) (H : Hp) (p : Pot) (vs : List V) (ss : List Sl) (d : D) (Q : VK), Base pa F H p → JAs X.mg pa F H ss vs → h (ss.map Sl.d) = some d → (∀ v F' H', Stp pa F H F' H' p → J X.mg pa H F' H' d v → Q v H') → r vs H Q
@[simp] def dCall (as : En → Pot → Res (List Sl)) (h : List D → Option D) : En → Pot → Res D := fun ρ p => (as ρ p).bind fun ss p1 => ofO (h (ss.map Sl.d)) p1
theorem s_tCB {J : (Str → Option Value) → Pa → JT} {r : List V → Hp → VK → Prop} {h : List D → Option D} {t : TA} {W : WX} {as : En → Pot → Res (List Sl)} (bk : Back pa (J X.mg pa)) (hm : CallM X pa J r h) (ia : ∀ σ H Q, tX X.mg F0 H0 pa (JAs' X.mg pa) W as σ H Q → t σ H Q) :
    ∀ σ H Q, tX X.mg F0 H0 pa (J X.mg pa) W (dCall as h) σ H Q → tCB r t σ H Q := fun σ H Q ⟨F, ρ, p, rel, q⟩ => by
  refine ia σ H _ (seqE (J := JAs' X.mg pa) (g := fun ss p1 => ofO (h (ss.map Sl.d)) p1) bk rel q fun ss p1 vs F1 H1 s1 j1 r1 q1 => ?_)
  cases e : h (ss.map Sl.d) with
  | none => rw [e] at q1; exact q1.elim
  | some d => rw [e] at q1; exact hm F1 H1 p1 vs ss d Q r1.base j1 e q1
theorem s_callB {J : (Str → Option Value) → Pa → JT} {r : List V → Hp → VK → Prop} {h : List D → Option D} {as : En → Pot → Res (List Sl)} {x : Str} {id : String} {e : Expr} {es : List Expr} {p pos : Pos} (bk : Back pa (J X.mg pa)) (hc : CallR X (.builtin id) r) (hm : CallM X pa J r h)
    (hg : Gl X x) (hx : X.mg x = none) (hv : bootBuiltins x = some (.builtin id)) (ha : SA X F0 H0 pa (e :: es) as) (hn : x ≠ "__name__") (hdb : (x == ("__debug__" : Str)) = false)
    (he : starEach (e :: es) X.env = (false, eval e X.env) :: starEach es X.env) (hpl : (backTo pos (starEach es X.env)).any (·.1) = false) : SE X F0 H0 pa J (.Call (.Name x p) (e :: es) [] pos) (dCall as h) :=
  fun W tk => PEimp (pe_callB hc hg hx hv (ha W tk) hn hdb he hpl) (s_tCB bk hm fun _ _ _ h => h)
theorem s_callTy {J : (Str → Option Value) → Pa → JT} {r : List V → Hp → VK → Prop} {h : List D → Option D} {as : En → Pot → Res (List Sl)} {x : Str} {T : String} {e : Expr} {es : List Expr} {p pos : Pos} (bk : Back pa (J X.mg pa)) (hc : CallR X (.type T) r) (hm : CallM X pa J r h)
    (hg : Gl X x) (hx : X.mg x = none) (hv : bootBuiltins x = some (.type T)) (ha : SA X F0 H0 pa (e :: es) as) (hn : x ≠ "__name__") (hdb : (x == ("__debug__" : Str)) = false)
    (he : starEach (e :: es) X.env = (false, eval e X.env) :: starEach es X.env) (hpl : (backTo pos (starEach es X.env)).any (·.1) = false) : SE X F0 H0 pa J (.Call (.Name x p) (e :: es) [] pos) (dCall as h) :=
  fun W tk => PEimp (pe_callTy hc hg hx hv (ha W tk) hn hdb he hpl) (s_tCB bk hm fun _ _ _ h => h)
theorem CallM.v {r : List V → Hp → VK → Prop} {h : List D → Option D} (o : CallM X pa JN r h) : CallM X pa JV r h := fun F H p vs ss d Q b hx e k => o F H p vs ss d Q b hx e fun v F' H' s j => by
  obtain ⟨F2, s2, i⟩ := JN.frz b s j
  exact k v F2 H' s2 i
theorem CallM.or {J : (Str → Option Value) → Pa → JT} {r r' : List V → Hp → VK → Prop} {h h' g : List D → Option D} (a : CallM X pa J r h) (b : CallM X pa J r' h') (e : ∀ x d, g x = some d → h x = some d ∨ h' x = some d) : CallM X pa J (fun x H Q => r x H Q ∨ r' x H Q) g :=
  fun F H p vs ss d Q bs hx z k => (e (ss.map Sl.d) d z).elim (fun z => .inl (a F H p vs ss d Q bs hx z k)) fun z => .inr (b F H p vs ss d Q bs hx z k)
theorem JAs.one {mg : Str → Option Value} {F : Addr → Prop} {H : Hp} {ss : List Sl} {vs : List V} {d : D} (j : JAs mg pa F H ss vs) (e : ss.map Sl.d = [d]) : ∃ v, vs = [v] ∧ JB mg pa H F H d v := by
  cases ss with
  | nil => cases e
  | cons s r =>
    cases r with
    | nil =>
      obtain ⟨v, r, h, h1, h2⟩ := j
      obtain rfl : r = [] := h2
      have e0 : s.d = d := (List.cons.inj e).1
      subst e0
      exact ⟨v, h, h1.jb⟩
    | cons s' r' =>
      have := congrArg List.length e
      simp at this
theorem JAs.two {mg : Str → Option Value} {F : Addr → Prop} {H : Hp} {ss : List Sl} {vs : List V} {d e : D} (j : JAs mg pa F H ss vs) (q : ss.map Sl.d = [d, e]) : ∃ v w, vs = [v, w] ∧ JB mg pa H F H d v ∧ JB mg pa H F H e w := by
  cases ss with
  | nil => cases q
  | cons s r =>
    cases r with
    | nil =>
      have := congrArg List.length q
      simp at this
    | cons s' r' =>
      cases r' with
      | nil =>
        obtain ⟨v, r, h, h1, w, r', h', h1', h2⟩ := j
        obtain rfl : r' = [] := h2
        have q0 := List.cons.inj q
        have e0 : s.d = d := q0.1
        have e1 : s'.d = e := (List.cons.inj q0.2).1
        subst e0 e1 h'
        exact ⟨v, w, h, h1.jb, h1'.jb⟩
      | cons s'' r'' =>
        have := congrArg List.length q
        simp at this
/-- of one argument -/
@[simp] def d1 (g : D → Option D) : List D → Option D
  | [d] => g d
  | _ => none
theorem d1_some {g : D → Option D} {l : List D} {d : D} (h : d1 g l = some d) : ∃ x, l = [x] ∧ g x = some d := by
  match l, h with
  | [x], h => exact ⟨x, rfl, h⟩
@[simp] def dd2 (g : D → D → Option D) : List D → Option D
  | [d, e] => g d e
  | _ => none
theorem dd2_some {g : D → D → Option D} {l : List D} {d : D} (h : dd2 g l = some d) : ∃ x y, l = [x, y] ∧ g x y = some d := by
  match l, h with
  | [x, y], h => exact ⟨x, y, rfl, h⟩
/-! ### len, abs, min, max of two, int, tuple, list, all, any, sum, str -/
@[simp] def lenD : D → Option D
  | .lst xs => some (.int xs.length)
  | .tup xs => some (.int xs.length)
  | .dct xs => some (.int xs.length)
  | .dcn xs => some (.int xs.length)
  | .str z => if z.length ≤ sizeLine then some (.int z.length) else none
  | _ => none
theorem call_lenDct : CallR X (.builtin "len") (fun xs H Q => ∃ a kvs, xs = [.ref a] ∧ Rd H a (.dK kvs) ∧ Q (.int kvs.length) H) := by
  intro pins s σ H xs us Q I r h
  obtain ⟨a, kvs, rfl, e, q⟩ := h
  rw [Vals.ref1 r]
  exact d_len I e fun t s' I' => ⟨.int kvs.length, H, I', ⟨_, rfl⟩, q⟩
theorem c_len : ∃ r, CallR X (.builtin "len") r ∧ CallM X pa JV r (d1 lenD) := ⟨_, call_len.or (call_lenDct.or call_lenN), fun F H p vs ss d Q b j e k => by
  obtain ⟨x, e1, e2⟩ := d1_some e
  obtain ⟨v, rfl, jv⟩ := j.one e1
  cases x with
  | lst xs =>
    cases e2
    obtain ⟨a, us, rfl, ha, la⟩ := jv.lst
    refine .inl ⟨_, us.length, rfl, .inl ⟨us, SqL.of ha, rfl⟩, ?_⟩
    rw [la.length]
    exact k _ F H b.refl rfl
  | tup xs =>
    cases e2
    obtain ⟨a, us, rfl, ha, la⟩ := jv.tup
    refine .inl ⟨_, us.length, rfl, .inr ⟨us, SqT.of ha, rfl⟩, ?_⟩
    rw [la.length]
    exact k _ F H b.refl rfl
  | dct xs =>
    cases e2
    obtain ⟨a, us, rfl, ha, la⟩ := jv.dct
    refine .inr (.inl ⟨a, us, rfl, .inl ha, ?_⟩)
    rw [la.length]
    exact k _ F H b.refl rfl
  | dcn xs =>
    cases e2
    obtain ⟨a, us, rfl, ha, la⟩ := jv.dcn
    refine .inr (.inr ⟨a, us, rfl, la.nd ha, ?_⟩)
    rw [la.length]
    exact k _ F H b.refl rfl
  | str z =>
    simp only [lenD] at e2
    split at e2
    · rename_i hz
      cases e2
      exact .inl ⟨_, z.length, rfl, by rw [jv.str]; exact ⟨hz, rfl⟩, k _ F H b.refl rfl⟩
    · cases e2
  | _ => cases e2⟩
@[simp] def absD : D → Option D
  | .int i => some (.int (if i < 0 then -i else i))
  | _ => none
theorem c_abs : ∃ r, CallR X (.builtin "abs") r ∧ CallM X pa JV r (d1 absD) := ⟨_, call_abs, fun F H p vs ss d Q b j e k => by
  obtain ⟨x, e1, e2⟩ := d1_some e
  obtain ⟨v, rfl, jv⟩ := j.one e1
  cases x with
  | int i =>
    cases e2
    exact ⟨i, by rw [jv.int], k _ F H b.refl rfl⟩
  | _ => cases e2⟩
@[simp] def min2D : D → D → Option D := iiD (fun _ _ => true) fun i j => .int (if j < i then j else i)
@[simp] def max2D : D → D → Option D := iiD (fun _ _ => true) fun i j => .int (if j > i then j else i)
theorem c_min2 (hc : X.calm = true) : ∃ r, CallR X (.builtin "min") r ∧ CallM X pa JV r (dd2 min2D) := ⟨_, call_min2 hc, fun F H p vs ss d Q b j e k => by
  obtain ⟨x, y, e1, e2⟩ := dd2_some e
  obtain ⟨v, w, rfl, jv, jw⟩ := j.two e1
  obtain ⟨i, l, rfl, rfl, _, rfl⟩ := iiD_some e2
  exact ⟨i, l, by rw [jv.int, jw.int], k _ F H b.refl rfl⟩⟩
theorem c_max2 (hc : X.calm = true) : ∃ r, CallR X (.builtin "max") r ∧ CallM X pa JV r (dd2 max2D) := ⟨_, call_max2 hc, fun F H p vs ss d Q b j e k => by
  obtain ⟨x, y, e1, e2⟩ := dd2_some e
  obtain ⟨v, w, rfl, jv, jw⟩ := j.two e1
  obtain ⟨i, l, rfl, rfl, _, rfl⟩ := iiD_some e2
  exact ⟨i, l, by rw [jv.int, jw.int], k _ F H b.refl rfl⟩⟩
@[simp] def intD : D → Option D
  | .int i => some (.int i)
  | .bl b => some (.int (if b then 1 else 0))
  | _ => none
theorem c_int : ∃ r, CallR X (.type "int") r ∧ CallM X pa JV r (d1 intD) := ⟨_, call_int1, fun F H p vs ss d Q b j e k => by
  obtain ⟨x, e1, e2⟩ := d1_some e
  obtain ⟨v, rfl, jv⟩ := j.one e1
  cases x with
  | int i =>
    cases e2
    exact .inl ⟨i, by rw [jv.int], k _ F H b.refl rfl⟩
  | bl i =>
    cases e2
    exact .inr ⟨i, by rw [jv.bl], k _ F H b.refl rfl⟩
  | _ => cases e2⟩
@[simp] def tupleD : D → Option D
  | .lst xs => some (.tup xs)
  | .tup xs => some (.tup xs)
  | _ => none
theorem c_tuple : ∃ r, CallR X (.type "tuple") r ∧ CallM X pa JV r (d1 tupleD) := ⟨_, call_tuple_of, fun F H p vs ss d Q b j e k => by
  obtain ⟨x, e1, e2⟩ := d1_some e
  obtain ⟨v, rfl, jv⟩ := j.one e1
  cases x with
  | lst xs =>
    cases e2
    obtain ⟨a, us, rfl, ha, la⟩ := jv.lst
    refine ⟨a, us, rfl, .inl ⟨SqL.of ha, fun t ht => ?_⟩⟩
    obtain ⟨s, i⟩ := new_tup b ht la
    exact k _ F _ s i
  | tup xs =>
    cases e2
    obtain ⟨a, us, rfl, ha, la⟩ := jv.tup
    exact ⟨a, us, rfl, .inr ⟨SqT.of ha, k _ F H b.refl ⟨a, us, rfl, ha, la⟩⟩⟩
  | _ => cases e2⟩
@[simp] def listD : D → Option D
  | .lst xs => some (.lst xs)
  | .tup xs => some (.lst xs)
  | _ => none
theorem c_list : ∃ r, CallR X (.type "list") r ∧ CallM X pa JN r (d1 listD) := ⟨_, call_list_of, fun F H p vs ss d Q b j e k => by
  obtain ⟨x, e1, e2⟩ := d1_some e
  obtain ⟨v, rfl, jv⟩ := j.one e1
  cases x with
  | lst xs =>
    cases e2
    obtain ⟨a, us, rfl, ha, la⟩ := jv.lst
    refine ⟨a, us, rfl, .inl (SqL.of ha), fun t ht => ?_⟩
    obtain ⟨s, i⟩ := new_lst b ht la
    exact k _ F _ s i
  | tup xs =>
    cases e2
    obtain ⟨a, us, rfl, ha, la⟩ := jv.tup
    refine ⟨a, us, rfl, .inr (SqT.of ha), fun t ht => ?_⟩
    obtain ⟨s, i⟩ := new_lst b ht la
    exact k _ F _ s i
  | _ => cases e2⟩
def blsOf : List D → Option (List Bool)
  | [] => some []
  | .bl i :: r => (blsOf r).map (i :: ·)
  | _ => none
theorem blsOf_some : ∀ {ds : List D} {ns : List Bool}, blsOf ds = some ns → ds = ns.map D.bl
  | [], ns, h => by cases h; rfl
  | .bl i :: r, ns, h => by
    unfold blsOf at h
    cases e : blsOf r with
    | none => rw [e] at h; cases h
    | some ms =>
      rw [e] at h
      cases h
      rw [blsOf_some e]
      rfl
  | .non :: r, ns, h | .int _ :: r, ns, h | .str _ :: r, ns, h | .tup _ :: r, ns, h | .lst _ :: r, ns, h | .dct _ :: r, ns, h | .fn _ :: r, ns, h | .pot :: r, ns, h | .dcn _ :: r, ns, h => by simp [blsOf] at h
theorem blsOf_map (ns : List Bool) : blsOf (ns.map D.bl) = some ns := by
  induction ns with
  | nil => rfl
  | cons n r ih => simp [blsOf, ih]
theorem IsL.bls {mg : Str → Option Value} {F : Addr → Prop} {H : Hp} : ∀ {ns : List Bool} {vs : List V}, IsL mg pa F H (ns.map D.bl) vs → vs = ns.map V.bl
  | [], vs, h => h
  | n :: ns, vs, h => by
    obtain ⟨x, r, e', h1, h2⟩ := h
    subst e'
    rw [show x = V.bl n from h1, IsL.bls h2]
    rfl
def allD : D → Option D
  | .lst xs => (blsOf xs).map fun bs => .bl (bs.all id)
  | _ => none
def anyD : D → Option D
  | .lst xs => (blsOf xs).map fun bs => .bl (bs.any id)
  | _ => none
theorem c_all (hc : X.calm = true) : ∃ r, CallR X (.builtin "all") r ∧ CallM X pa JV r (d1 allD) := ⟨_, cr_all hc, fun F H p vs ss d Q b j e k => by
  obtain ⟨x, e1, e2⟩ := d1_some e
  obtain ⟨v, rfl, jv⟩ := j.one e1
  cases x with
  | lst xs =>
    simp only [allD] at e2
    cases q : blsOf xs with
    | none => rw [q] at e2; cases e2
    | some bs =>
      rw [q] at e2
      cases e2
      obtain ⟨a, us, rfl, ha, la⟩ := jv.lst
      rw [blsOf_some q] at la
      rw [la.bls] at ha
      exact ⟨a, bs, rfl, SqL.of ha, k _ F H b.refl rfl⟩
  | _ => cases e2⟩
theorem c_any (hc : X.calm = true) : ∃ r, CallR X (.builtin "any") r ∧ CallM X pa JV r (d1 anyD) := ⟨_, cr_any hc, fun F H p vs ss d Q b j e k => by
  obtain ⟨x, e1, e2⟩ := d1_some e
  obtain ⟨v, rfl, jv⟩ := j.one e1
  cases x with
  | lst xs =>
    simp only [anyD] at e2
    cases q : blsOf xs with
    | none => rw [q] at e2; cases e2
    | some bs =>
      rw [q] at e2
      cases e2
      obtain ⟨a, us, rfl, ha, la⟩ := jv.lst
      rw [blsOf_some q] at la
      rw [la.bls] at ha
      exact ⟨a, bs, rfl, SqL.of ha, k _ F H b.refl rfl⟩
  | _ => cases e2⟩
def sumD : D → Option D
  | .lst xs => (intsOf xs).map fun ns => .int ns.sum
  | .tup xs => (intsOf xs).map fun ns => .int ns.sum
  | _ => none
theorem c_sum (hc : X.calm = true) : ∃ r, CallR X (.builtin "sum") r ∧ CallM X pa JV r (d1 sumD) := ⟨_, (cr_sum hc).or (cr_sumT hc), fun F H p vs ss d Q b j e k => by
  obtain ⟨x, e1, e2⟩ := d1_some e
  obtain ⟨v, rfl, jv⟩ := j.one e1
  cases x with
  | lst xs =>
    simp only [sumD] at e2
    cases q : intsOf xs with
    | none => rw [q] at e2; cases e2
    | some bs =>
      rw [q] at e2
      cases e2
      obtain ⟨a, us, rfl, ha, la⟩ := jv.lst
      rw [intsOf_some q] at la
      rw [la.ints] at ha
      exact .inl ⟨a, bs, rfl, SqL.of ha, k _ F H b.refl rfl⟩
  | tup xs =>
    simp only [sumD] at e2
    cases q : intsOf xs with
    | none => rw [q] at e2; cases e2
    | some bs =>
      rw [q] at e2
      cases e2
      obtain ⟨a, us, rfl, ha, la⟩ := jv.tup
      rw [intsOf_some q] at la
      rw [la.ints] at ha
      exact .inr ⟨a, bs, rfl, SqT.of ha, k _ F H b.refl rfl⟩
  | _ => cases e2⟩
def strD : D → Option D
  | .int i => if i.natAbs.log2 < 1920 then some (.str (toString i)) else none
  | _ => none
theorem c_str : ∃ r, CallR X (.type "str") r ∧ CallM X pa JV r (d1 strD) := ⟨_, call_str_int, fun F H p vs ss d Q b j e k => by
  obtain ⟨x, e1, e2⟩ := d1_some e
  obtain ⟨v, rfl, jv⟩ := j.one e1
  cases x with
  | int i =>
    simp only [strD] at e2
    split at e2
    · rename_i hz
      cases e2
      exact ⟨i, by rw [jv.int], hz, k _ F H b.refl rfl⟩
    · cases e2
  | _ => cases e2⟩
/-! ### isinstance -/
inductive Ty where
  | int | bool | str | tuple | list | dict
  deriving DecidableEq
def Ty.nm : Ty → String
  | .int => "int" | .bool => "bool" | .str => "str" | .tuple => "tuple" | .list => "list" | .dict => "dict"
@[simp] def isTy : Ty → D → Option Bool
  | .int, .int _ => some true
  | .int, .bl _ => some true
  | .bool, .bl _ => some true
  | .str, .str _ => some true
  | .tuple, .tup _ => some true
  | .list, .lst _ => some true
  | .dict, .dct _ => some true
  | _, .fn _ => none
  | _, .pot => none
  | _, .dcn _ => none
  | _, _ => some false
def tyNm : D → Option String
  | .non => some "NoneType"
  | .bl _ => some "bool"
  | .int _ => some "int"
  | .str _ => some "str"
  | .tup _ => some "tuple"
  | .lst _ => some "list"
  | .dct _ => some "dict"
  | _ => none
theorem ty_of {mg : Str → Option Value} {F : Addr → Prop} {H H1 : Hp} {d : D} {v : V} {K : PySem.W.Frag} (j : JB mg pa H1 F H d v) {n : String} (h : tyNm d = some n) : TyX K H v (.type n) := by
  cases d with
  | non => cases h; rw [j.non]; exact .base .non
  | bl b => cases h; rw [j.bl]; exact .base (.bl b)
  | int b => cases h; rw [j.int]; exact .base (.int b)
  | str b => cases h; rw [j.str]; exact .base (.str b)
  | tup b => cases h; obtain ⟨a, xs, rfl, e, _⟩ := j.tup; exact .base (.tup e)
  | lst b => cases h; obtain ⟨a, xs, rfl, e, _⟩ := j.lst; exact .base (.lst e)
  | dct b => cases h; obtain ⟨a, xs, rfl, e, _⟩ := j.dct; exact .base (.dK e)
  | _ => cases h
theorem kit_isTy (K : PySem.W.Frag) {t : Ty} {d : D} {b : Bool} (h : isTy t d = some b) : ∃ n, tyNm d = some n ∧ PySem.W.kitOne K (.type n) (.type t.nm) = some b := by
  cases t <;> cases d <;> first | (cases h; done) | (cases h; exact ⟨_, rfl, kit_ty (by decide +kernel)⟩)
def isTys : List Ty → D → Option Bool
  | [], _ => some false
  | t :: ts, d => match isTy t d with
    | some true => some true
    | some false => isTys ts d
    | none => none
theorem kit_isTys (K : PySem.W.Frag) {d : D} : ∀ {ts : List Ty} {b : Bool} {n : String}, tyNm d = some n → isTys ts d = some b → PySem.W.kitAny K (.type n) (ts.map fun t => .type t.nm) = some b
  | [], b, n, _, h => h
  | t :: ts, b, n, hn, h => by
    unfold isTys at h
    cases e : isTy t d with
    | none => rw [e] at h; cases h
    | some c =>
      rw [e] at h
      obtain ⟨m, h1, h2⟩ := kit_isTy K e
      rw [hn] at h1
      cases h1
      simp only [List.map_cons]
      unfold PySem.W.kitAny
      rw [h2]
      cases c with
      | true => exact h
      | false => exact kit_isTys K hn h
@[simp] def d1' (f : En → Pot → Res D) (h : D → Option D) : En → Pot → Res D := fun ρ p => (f ρ p).bind fun d p1 => ofO (h d) p1
/-- isinstance(e, T) -/
theorem s_isi {a : Expr} {t : Ty} {x : Str} {f : En → Pot → Res D} {p p2 pos : Pos} (hg : Gl X "isinstance") (hx : X.mg "isinstance" = none) (hgt : Gl X x) (hxt : X.mg x = none) (hv : bootBuiltins x = some (.type t.nm)) (ha : SB X F0 H0 pa a f) (hn : x ≠ "__name__") (hdb : (x == ("__debug__" : Str)) = false)
    (he : starEach (a :: [.Name x p2]) X.env = (false, eval a X.env) :: starEach [.Name x p2] X.env) : SV X F0 H0 pa (.Call (.Name "isinstance" p) [a, .Name x p2] [] pos) (d1' f fun d => (isTy t d).map .bl) := fun W tk => by
  refine PEimp (pe_callB call_isi hg hx (by decide +kernel) (pa_cons (ha W tk) (pa_cons (pe_bltn hgt hxt hv (v := .ty t.nm) rfl hn hdb) pa_nil (by rfl)) he) (by decide) (by decide) he (by rfl)) fun σ H Q ⟨F, ρ, p, rel, q⟩ => ?_
  refine seqE (J := JB X.mg pa) (g := fun d p1 => ofO ((isTy t d).map .bl) p1) backV rel q fun d p1 v F1 H1 s1 j1 r1 q1 => ?_
  cases e : isTy t d with
  | none => rw [e] at q1; exact q1.elim
  | some b =>
    rw [e] at q1
    obtain ⟨n, h1, h2⟩ := kit_isTy X.K e
    exact ⟨v, .ty t.nm, .type n, .type t.nm, b, rfl, .ty _, ty_of j1 h1, h2, q1 _ F1 H1 r1.base.refl rfl⟩
/-! ### displays -/
@[simp] def valsOf : List Sl → Option (List D)
  | [] => some []
  | .val d :: r => (valsOf r).map (d :: ·)
  | _ => none
theorem valsOf_some {mg : Str → Option Value} {F : Addr → Prop} {H : Hp} : ∀ {ss : List Sl} {ds : List D} {vs : List V}, valsOf ss = some ds → JAs mg pa F H ss vs → IsL mg pa F H ds vs
  | [], ds, vs, h, j => by cases h; exact j
  | .val d :: r, ds, vs, h, j => by
    unfold valsOf at h
    cases e : valsOf r with
    | none => rw [e] at h; cases h
    | some es =>
      rw [e] at h
      cases h
      obtain ⟨v, r', rfl, h1, h2⟩ := j
      exact ⟨v, r', rfl, h1, valsOf_some e h2⟩
  | .own _ :: _, ds, vs, h, j => by cases h
  | .bor _ :: _, ds, vs, h, j => by cases h
@[simp] def dTup (as : En → Pot → Res (List Sl)) : En → Pot → Res D := fun ρ p => (as ρ p).bind fun ss p1 => match valsOf ss with
  | some ds => if ds.length ≤ sizeLine then .ok (.tup ds) p1 else .bad
  | none => .bad
@[simp] def dLst (as : En → Pot → Res (List Sl)) : En → Pot → Res D := fun ρ p => (as ρ p).bind fun ss p1 => match valsOf ss with
  | some ds => if ds.length ≤ sizeLine then .ok (.lst ds) p1 else .bad
  | none => .bad
theorem s_tup {es : List Expr} {as : En → Pot → Res (List Sl)} {k : Nat} {pos : Pos} (ha : SA X F0 H0 pa es as) : SV X F0 H0 pa (.Tuple es k pos) (dTup as) := fun W tk => PEimp (pe_tup (ha W tk)) fun σ H Q ⟨F, ρ, p, rel, q⟩ => by
  refine seqE (J := JAs' X.mg pa) (g := fun ss p1 => match valsOf ss with
    | some ds => if ds.length ≤ sizeLine then .ok (.tup ds) p1 else .bad
    | none => .bad) backV rel q fun ss p1 vs F1 H1 s1 j1 r1 q1 => ?_
  cases e : valsOf ss with
  | none => rw [e] at q1; exact q1.elim
  | some ds =>
    rw [e] at q1
    dsimp only at q1
    split at q1
    · rename_i hz
      have l := valsOf_some e j1
      refine ⟨by rw [l.length]; exact hz, fun t ht => ?_⟩
      obtain ⟨s, i⟩ := new_tup r1.base ht l
      exact q1 _ F1 _ s i
    · exact q1.elim
theorem s_lst {es : List Expr} {as : En → Pot → Res (List Sl)} {pos : Pos} (ha : SA X F0 H0 pa es as) : SN X F0 H0 pa (.List es pos) (dLst as) := fun W tk => PEimp (pe_lst (ha W tk)) fun σ H Q ⟨F, ρ, p, rel, q⟩ => by
  refine seqE (J := JAs' X.mg pa) (g := fun ss p1 => match valsOf ss with
    | some ds => if ds.length ≤ sizeLine then .ok (.lst ds) p1 else .bad
    | none => .bad) backN rel q fun ss p1 vs F1 H1 s1 j1 r1 q1 => ?_
  cases e : valsOf ss with
  | none => rw [e] at q1; exact q1.elim
  | some ds =>
    rw [e] at q1
    dsimp only at q1
    split at q1
    · rename_i hz
      have l := valsOf_some e j1
      refine ⟨by rw [l.length]; exact hz, fun t ht => ?_⟩
      obtain ⟨s, i⟩ := new_lst r1.base ht l
      exact q1 _ F1 _ s i
    · exact q1.elim
end
end M

set_option Elab.async false
set_option linter.all false
set_option maxRecDepth 100000
/-! sorted, max, min of data; isinstance with a tuple of types -/
namespace M
open PySem PySem.Spec PyProof.Rows L2
/-! ### alike data -/
@[simp] def alksD (ds : List D) : Bool := ds.all fun a => ds.all fun b => PySem.W.alike (toPy a) (toPy b)

@[simp] def tupB : D → Bool
  | .tup (_ :: _) => true
  | _ => false
@[simp] def plnB : D → Bool
  | .bl _ | .int _ | .str _ | .lst _ => true
  | _ => false
theorem toPys_map : ∀ ds : List D, toPys ds = ds.map toPy
  | [] => by simp [toPys]
  | d :: ds => by simp [toPys, toPys_map ds]
theorem dats_all {n : Nat} : ∀ {ds : List D}, dats n ds = true → ∀ d ∈ ds, dat n d = true
  | d :: ds, h, e, he => by
    have h : dat n d = true ∧ dats n ds = true := by simpa [dats] using h
    rcases List.mem_cons.mp he with rfl | he
    · exact h.1
    · exact dats_all h.2 e he
mutual
theorem toPy_inj : ∀ (n m : Nat) (d e : D), dat n d = true → dat m e = true → toPy d = toPy e → d = e
  | n, m, .tup xs, e, h, h', q => by
    cases e with
    | tup ys =>
      cases n with
      | zero => simp [dat] at h
      | succ n =>
        cases m with
        | zero => simp [dat] at h'
        | succ m =>
          simp only [toPy, PyData.tuple.injEq] at q
          rw [toPys_inj n m xs ys (by simpa [dat] using h) (by simpa [dat] using h') q]
    | _ => simp [toPy] at q
  | n, m, .lst xs, e, h, h', q => by
    cases e with
    | lst ys =>
      cases n with
      | zero => simp [dat] at h
      | succ n =>
        cases m with
        | zero => simp [dat] at h'
        | succ m =>
          simp only [toPy, PyData.list.injEq] at q
          rw [toPys_inj n m xs ys (by simpa [dat] using h) (by simpa [dat] using h') q]
    | _ => simp [toPy] at q
  | n, m, .non, e, h, h', q => by cases e <;> simp [toPy] at q <;> rfl
  | n, m, .bl _, e, h, h', q => by cases e <;> simp [toPy] at q; rw [q]
  | n, m, .int _, e, h, h', q => by cases e <;> simp [toPy] at q; rw [q]
  | n, m, .str _, e, h, h', q => by cases e <;> simp [toPy] at q; rw [q]
  | n, m, .dct _, e, h, h', q => by cases n <;> simp [dat] at h
  | n, m, .dcn _, e, h, h', q => by cases n <;> simp [dat] at h
  | n, m, .fn _, e, h, h', q => by cases n <;> simp [dat] at h
  | n, m, .pot, e, h, h', q => by cases n <;> simp [dat] at h
theorem toPys_inj : ∀ (n m : Nat) (ds es : List D), dats n ds = true → dats m es = true → toPys ds = toPys es → ds = es
  | n, m, [], es, _, _, q => by cases es <;> simp [toPys] at q; rfl
  | n, m, d :: ds, es, h, h', q => by
    cases es with
    | nil => simp [toPys] at q
    | cons e es =>
      simp only [toPys, List.cons.injEq] at q
      have h : dat n d = true ∧ dats n ds = true := by simpa [dats] using h
      have h' : dat m e = true ∧ dats m es = true := by simpa [dats] using h'
      rw [toPy_inj n m d e h.1 h'.1 q.1, toPys_inj n m ds es h.2 h'.2 q.2]
end
theorem allAlike_of {ds : List D} (h : alksD ds = true) : PySem.W.AllAlike (toPys ds) := by
  intro d hd d' hd'
  rw [toPys_map] at hd hd'
  obtain ⟨a, ha, rfl⟩ := List.mem_map.mp hd
  obtain ⟨b, hb, rfl⟩ := List.mem_map.mp hd'
  exact List.all_eq_true.mp (List.all_eq_true.mp h a ha) b hb
def sortB (ds : List D) : Bool := dats 63 ds && alksD ds && (ds.all tupB || ds.all plnB) && decide (ds.length ≤ sizeLine)
theorem sortable_of {ds : List D} (h : (ds.all tupB || ds.all plnB) = true) : PySem.W.Sortable (toPys ds) := by
  rw [toPys_map]
  rcases Bool.or_eq_true_iff.mp h with h | h
  · refine .inl fun d hd => ?_
    obtain ⟨a, ha, rfl⟩ := List.mem_map.mp hd
    have := List.all_eq_true.mp h a ha
    unfold tupB at this
    split at this
    · simp only [toPy, toPys]; exact ⟨_, _, rfl⟩
    · cases this
  · refine .inr fun d hd => ?_
    obtain ⟨a, ha, rfl⟩ := List.mem_map.mp hd
    have := List.all_eq_true.mp h a ha
    cases a <;> simp [plnB] at this <;> simp [toPy]
/-! ### sorted -/
section
variable {X : Cx} {pins : List (Addr × Obj)} {σ : L2.St} {H : Hp} {s : Shared}
theorem each_rel : ∀ {bs : List (V × D)} {us : List Value}, Vals (bs.map (·.1)) us → PySem.W.EachIs (fun u (b : V × D) => RelV b.1 u) us bs
  | [], _, r => by cases r; exact .nil
  | b :: bs, _, r => by
    cases r with
    | cons h t => exact .cons h (each_rel t)
theorem rel_each : ∀ {bs : List (V × D)} {us : List Value}, PySem.W.EachIs (fun u (b : V × D) => RelV b.1 u) us bs → Vals (bs.map (·.1)) us
  | [], _, r => by cases r; exact .nil
  | b :: bs, _, r => by
    cases r with
    | cons h t => exact .cons h (rel_each t)
theorem each_reads (I : Inv X pins σ H s) : ∀ {bs : List (V × D)} {us : List Value}, Vals (bs.map (·.1)) us → (∀ b ∈ bs, Dp X.K H b.1 (toPy b.2)) → PySem.W.EachIs (fun u (b : V × D) => ∃ as, Reads s.heap u (toPy b.2) as) us bs
  | [], _, r, _ => by cases r; exact .nil
  | b :: bs, _, r, h => by
    cases r with
    | cons h1 t => exact .cons (Dp.reads I _ _ _ (h b List.mem_cons_self) h1) (each_reads I t fun c hc => h c (List.mem_cons_of_mem _ hc))
/-- sorted's end -/
theorem sorted_end {rev : Bool} {its : List Value} {bs : List (V × D)} {Q : VK} (I : Inv X pins σ H s) (hz : bs.length ≤ sizeLine) (q : ∀ p, H p = none → Q (.ref p) (upd H p (.lst ((bs.mergeSort (PySem.W.dataLe rev fun b => toPy b.2)).map (·.1)))))
    (out : List Value) (ho : out.length = bs.length) (eo : PySem.W.EachIs (fun u (b : V × D) => RelV b.1 u) out (bs.mergeSort (PySem.W.dataLe rev fun b => toPy b.2))) : EP X pins σ Q (.ref (s.heap.objs.size + 1)) { s with heap := sortedAll s.heap its (List.toArray out) } := by
  obtain ⟨ep, he'⟩ := PyProof.Rows.sortedAll_at s.heap its out.toArray
  have hlen : ((bs.mergeSort (PySem.W.dataLe rev fun b => toPy b.2)).map (·.1)).length ≤ sizeLine := by
    rw [List.length_map, List.length_mergeSort]
    exact hz
  exact ⟨.ref _, upd H (s.heap.objs.size + 1) (.lst _), I.laid (t' := s.toks) (fun _ _ => PyProof.Rows.sortedAll_old) (Nat.le_succ _) ⟨hlen, out, ep, rel_each eo, he'⟩, rfl, q _ (I.hok.fresh (Nat.le_succ _))⟩
def rSrt (rev : Bool) (X : Cx) (xs : List V) (H : Hp) (Q : VK) : Prop := ∃ (a : Addr) (bs : List (V × D)), xs = [.ref a] ∧ SqL X.K H a (bs.map (·.1)) ∧ (∀ b ∈ bs, Dp X.K H b.1 (toPy b.2)) ∧ sortB (bs.map (·.2)) = true ∧
  ∀ p, H p = none → Q (.ref p) (upd H p (.lst ((bs.mergeSort (PySem.W.dataLe rev fun b => toPy b.2)).map (·.1))))
theorem sortB_un {bs : List (V × D)} (h : sortB (bs.map (·.2)) = true) : PySem.W.AllAlike (bs.map fun b => toPy b.2) ∧ PySem.W.Sortable (bs.map fun b => toPy b.2) ∧ bs.length ≤ sizeLine ∧ ∀ b ∈ bs, (toPy b.2).depth ≤ 63 := by
  simp only [sortB, Bool.and_eq_true, decide_eq_true_eq] at h
  obtain ⟨⟨⟨h1, h2⟩, h3⟩, h4⟩ := h
  have e : (bs.map fun b => toPy b.2) = toPys (bs.map (·.2)) := by rw [toPys_map, List.map_map]; rfl
  refine ⟨?_, ?_, by simpa using h4, fun b hb => (dat_shape 63 b.2 (dats_all h1 b.2 (List.mem_map.mpr ⟨b, hb, rfl⟩))).2⟩
  · rw [e]; exact allAlike_of h2
  · rw [e]; exact sortable_of h3
theorem call_srt (hu : X.A.units + 65 < cLine) : CallR X (.builtin "sorted") (rSrt false X) := by
  intro pins s σ H xs us Q I r h
  obtain ⟨a, bs, rfl, hs, hd, hb, q⟩ := h
  obtain rfl := Vals.ref1 r
  obtain ⟨its, rv, hl, hz⟩ := I.list hs
  obtain ⟨k1, k2, k3, k4⟩ := sortB_un hb
  exact PySem.W.sorted_data (enc := fun b : V × D => toPy b.2) hl.isList (each_rel rv) (each_reads I rv hd) k1 k2 k3 (fun b hb => by have := k4 b hb; omega) fun out ho eo => sorted_end I k3 q out ho eo
theorem call_srtR (hu : X.A.units + 65 < cLine) : CallRK X (.builtin "sorted") [Str.ofString "reverse"] (fun xs zs H Q => zs = [.bl true] ∧ rSrt true X xs H Q) := by
  intro pins s σ H xs zs us ws Q I r rz h
  obtain ⟨rfl, a, bs, rfl, hs, hd, hb, q⟩ := h
  obtain rfl := Vals.ref1 r
  obtain ⟨w1, rfl, e1⟩ := vals1 rz
  obtain rfl : w1 = Value.bool true := e1
  obtain ⟨its, rv, hl, hz⟩ := I.list hs
  obtain ⟨k1, k2, k3, k4⟩ := sortB_un hb
  exact PySem.W.sorted_rev_data (enc := fun b : V × D => toPy b.2) hl.isList (each_rel rv) (each_reads I rv hd) k1 k2 k3 (fun b hb => by have := k4 b hb; omega) fun out ho eo => sorted_end I k3 q out ho eo
end
def srtD (rev : Bool) : D → Option D
  | .lst ds => if sortB ds = true then some (.lst (ds.mergeSort (PySem.W.dataLe rev toPy))) else none
  | _ => none
section
variable {X : Cx} {pa : Pa} {F : Addr → Prop} {H : Hp} {mg : Str → Option Value}
theorem isL_zip : ∀ {ds : List D} {vs : List V}, IsL mg pa F H ds vs → (vs.zip ds).map (·.1) = vs ∧ (vs.zip ds).map (·.2) = ds ∧ ∀ b ∈ vs.zip ds, Is mg pa F H b.2 b.1
  | [], vs, l => by rw [show vs = [] from l]; exact ⟨rfl, rfl, fun b hb => by cases hb⟩
  | d :: ds, vs, l => by
    obtain ⟨v, r, rfl, h1, h2⟩ := l
    obtain ⟨a, b, c⟩ := isL_zip h2
    refine ⟨by simp [a], by simp [b], fun p hp => ?_⟩
    rcases List.mem_cons.mp hp with rfl | hp
    · exact h1
    · exact c p hp
theorem isL_of : ∀ {bs : List (V × D)}, (∀ b ∈ bs, Is mg pa F H b.2 b.1) → IsL mg pa F H (bs.map (·.2)) (bs.map (·.1))
  | [], _ => rfl
  | b :: bs, h => ⟨b.1, bs.map (·.1), rfl, h b List.mem_cons_self, isL_of fun c hc => h c (List.mem_cons_of_mem _ hc)⟩
theorem srt_m {rev : Bool} {p : Pot} {x : V} {dx d : D} {Q : VK} (b : Base pa F H p) (hx : JB X.mg pa H F H dx x) (e : srtD rev dx = some d) (k : ∀ v F' H', Stp pa F H F' H' p → JN X.mg pa H F' H' d v → Q v H') : rSrt rev X [x] H Q := by
  cases dx with
  | lst ds =>
    simp only [srtD] at e
    split at e
    · rename_i hb
      cases e
      obtain ⟨a, us, rfl, ha, la⟩ := hx.lst
      obtain ⟨z1, z2, z3⟩ := isL_zip la
      have hb' := hb
      simp only [sortB, Bool.and_eq_true, decide_eq_true_eq] at hb'
      refine ⟨a, us.zip ds, rfl, by rw [z1]; exact SqL.of ha, fun q hq => dp_of 63 q.2 q.1 (dats_all hb'.1.1.1 q.2 (by rw [← z2]; exact List.mem_map.mpr ⟨q, hq, rfl⟩)) (z3 q hq), by rw [z2]; exact hb, fun q hq => ?_⟩
      have e2 : ds.mergeSort (PySem.W.dataLe rev toPy) = ((us.zip ds).mergeSort (PySem.W.dataLe rev fun b => toPy b.2)).map (·.2) := by
        rw [List.map_mergeSort (f := fun b : V × D => b.2) (r := PySem.W.dataLe rev fun b : V × D => toPy b.2) (s := PySem.W.dataLe rev toPy) (fun a _ b _ => rfl), z2]
      obtain ⟨s, i⟩ := new_lst (mg := X.mg) b hq (isL_of (bs := (us.zip ds).mergeSort (PySem.W.dataLe rev fun b => toPy b.2)) fun c hc => z3 c ((List.mergeSort_perm _ _).mem_iff.mp hc))
      rw [← e2] at i
      exact k _ F _ s i
    · cases e
  | _ => cases e
theorem c_srt (hu : X.A.units + 65 < cLine) : ∃ r, CallR X (.builtin "sorted") r ∧ CallM X pa JN r (d1 (srtD false)) := ⟨_, call_srt hu, fun F H p vs ss d Q b j e k => by
  obtain ⟨x, e1, e2⟩ := d1_some e
  obtain ⟨v, rfl, jv⟩ := j.one e1
  exact srt_m b jv e2 k⟩
end
/-! ### max, min of a list -/
def mxD : D → List D → D := fun x xs => xs.foldl (fun a y => if PySem.W.dataLt (toPy a) (toPy y) then y else a) x
def mnD : D → List D → D := fun x xs => xs.foldl (fun a y => if PySem.W.dataLt (toPy y) (toPy a) then y else a) x
theorem toPy_mx : ∀ (xs : List D) (x : D), toPy (mxD x xs) = PySem.W.maxD (toPy x) (toPys xs)
  | [], x => by simp [mxD, toPys, PySem.W.maxD]
  | y :: ys, x => by
    have := toPy_mx ys (if PySem.W.dataLt (toPy x) (toPy y) then y else x)
    simp only [mxD, toPys, PySem.W.maxD, List.foldl_cons] at this ⊢
    rw [this]
    congr 1
    split <;> rfl
theorem toPy_mn : ∀ (xs : List D) (x : D), toPy (mnD x xs) = PySem.W.minD (toPy x) (toPys xs)
  | [], x => by simp [mnD, toPys, PySem.W.minD]
  | y :: ys, x => by
    have := toPy_mn ys (if PySem.W.dataLt (toPy y) (toPy x) then y else x)
    simp only [mnD, toPys, PySem.W.minD, List.foldl_cons] at this ⊢
    rw [this]
    congr 1
    split <;> rfl
theorem mx_mem : ∀ (xs : List D) (x : D), mxD x xs ∈ x :: xs
  | [], x => by simp [mxD]
  | y :: ys, x => by
    have := mx_mem ys (if PySem.W.dataLt (toPy x) (toPy y) then y else x)
    simp only [mxD, List.foldl_cons] at this ⊢
    rcases List.mem_cons.mp this with h | h
    · rw [h]; split <;> simp
    · exact List.mem_cons_of_mem _ (List.mem_cons_of_mem _ h)
theorem mn_mem : ∀ (xs : List D) (x : D), mnD x xs ∈ x :: xs
  | [], x => by simp [mnD]
  | y :: ys, x => by
    have := mn_mem ys (if PySem.W.dataLt (toPy y) (toPy x) then y else x)
    simp only [mnD, List.foldl_cons] at this ⊢
    rcases List.mem_cons.mp this with h | h
    · rw [h]; split <;> simp
    · exact List.mem_cons_of_mem _ (List.mem_cons_of_mem _ h)
def mxB (ds : List D) : Bool := dats 63 ds && alksD ds && ds.all (fun d => match d with
  | .non => false
  | _ => true)
theorem mxB_un {ds : List D} (h : mxB ds = true) : dats 63 ds = true ∧ PySem.W.AlikeAll (toPys ds) ∧ PyData.depthAll (toPys ds) ≤ 63 := by
  simp only [mxB, Bool.and_eq_true] at h
  obtain ⟨⟨h1, h2⟩, h3⟩ := h
  refine ⟨h1, ⟨fun x hx y hy => allAlike_of h2 x hx y hy, fun x hx e => ?_⟩, (dats_shape 63 ds h1).2⟩
  rw [toPys_map] at hx
  obtain ⟨a, ha, rfl⟩ := List.mem_map.mp hx
  have q1 := List.all_eq_true.mp h3 a ha
  have q2 := dats_all h1 a ha
  cases a <;> simp [toPy] at e <;> simp at q1
section
variable {X : Cx} {pins : List (Addr × Obj)} {σ : L2.St} {H : Hp} {s : Shared}
/-- which one it is -/
theorem pick_at {ds : List D} {vs : List V} {its : List Value} {i : Nat} {u : Value} {m : D} {h' : Heap} {bs : List Addr} (I : Inv X pins σ H s) (kh : ∀ b o, s.heap.get? b = some o → h'.get? b = some o) (hd : dats 63 ds = true) (hm : m ∈ ds) (ha : DpAll X.K H vs (toPys ds)) (rv : Vals vs its) (hi : its[i]? = some u) (hr : Reads h' u (toPy m) bs) :
    ∃ v, vs[i]? = some v ∧ RelV v u ∧ ds[i]? = some m := by
  have go : ∀ (ds : List D) (vs : List V) (its : List Value) (i : Nat), dats 63 ds = true → DpAll X.K H vs (toPys ds) → Vals vs its → its[i]? = some u → ∃ v e, vs[i]? = some v ∧ RelV v u ∧ ds[i]? = some e ∧ dat 63 e = true ∧ Dp X.K H v (toPy e) := by
    intro ds
    induction ds with
    | nil =>
      intro vs its i _ ha rv hi
      simp only [toPys] at ha
      cases ha
      cases rv
      cases hi
    | cons d ds ih =>
      intro vs its i hd ha rv hi
      have hd : dat 63 d = true ∧ dats 63 ds = true := by simpa [dats] using hd
      simp only [toPys] at ha
      cases ha with
      | cons h1 h2 =>
        cases rv with
        | cons r1 r2 =>
          cases i with
          | zero =>
            cases hi
            exact ⟨_, d, rfl, r1, rfl, hd.1, h1⟩
          | succ i => exact ih _ _ i hd.2 h2 r2 hi
  obtain ⟨v, e, h1, h2, h3, h4, h5⟩ := go ds vs its i hd ha rv hi
  obtain ⟨as, r⟩ := Dp.reads I _ _ _ h5 h2
  have r' := PyProof.Rows.Reads.keeps kh r
  have hm' := dats_all hd m hm
  have := PySem.SeqAt.plain_unique _ _ u _ _ (PyData.plain_of_canLay0 _ (dat_shape 63 e h4).1) r' hr
  have e2 := toPy_inj 63 63 e m h4 hm' this
  exact ⟨v, h1, h2, e2 ▸ h3⟩
def rMx (f : D → List D → D) (X : Cx) (xs : List V) (H : Hp) (Q : VK) : Prop := ∃ (a : Addr) (vs : List V) (d : D) (ds : List D), xs = [.ref a] ∧ (SqL X.K H a vs ∨ SqT X.K H a vs) ∧ DpAll X.K H vs (toPys (d :: ds)) ∧ mxB (d :: ds) = true ∧
  ∀ (i : Nat) (v : V), vs[i]? = some v → (d :: ds)[i]? = some (f d ds) → Q v H
theorem tup_of {h : Heap} {a : Addr} {l : Array Value} (x : ∃ o, h.get? a = some o ∧ o.cls = .type "tuple" ∧ ∃ n, o.data = .seq l n) : h.IsTuple a l := x
theorem call_mx (hc : X.calm = true) (hu : X.A.units + 65 < cLine) : CallR X (.builtin "max") (rMx mxD X) := by
  intro pins s σ H xs us Q I r h
  obtain ⟨a, vs, d, ds, rfl, hs, ha, hb, q⟩ := h
  obtain rfl := Vals.ref1 r
  obtain ⟨b1, b2, b3⟩ := mxB_un hb
  have e0 : toPys (d :: ds) = toPy d :: toPys ds := by simp only [toPys]
  rw [e0] at b2 b3
  rcases hs with hs | hs
  · obtain ⟨its, rv, hl, hz⟩ := I.list hs
    obtain ⟨as, hr⟩ := Dp.readsAll I _ _ _ ha rv
    rw [e0] at hr
    refine PySem.W.max_list_data (I.ok.hd hc) hl.isList (vs := its.toArray) hr b2 (by omega) fun i v h' tk bs hi hrd kh => ?_
    rw [← toPy_mx] at hrd
    obtain ⟨v', k1, k2, k3⟩ := pick_at I kh b1 (mx_mem ds d) ha rv (by simpa using hi) hrd
    exact ⟨v', H, I.kept kh, k2, q i v' k1 k3⟩
  · obtain ⟨its, rv, hl, hz⟩ := I.tuple hs
    obtain ⟨as, hr⟩ := Dp.readsAll I _ _ _ ha rv
    rw [e0] at hr
    refine PySem.W.max_tuple_data (I.ok.hd hc) (tup_of hl) (vs := its.toArray) hr b2 (by omega) fun i v h' tk bs hi hrd kh => ?_
    rw [← toPy_mx] at hrd
    obtain ⟨v', k1, k2, k3⟩ := pick_at I kh b1 (mx_mem ds d) ha rv (by simpa using hi) hrd
    exact ⟨v', H, I.kept kh, k2, q i v' k1 k3⟩
theorem call_mn (hc : X.calm = true) (hu : X.A.units + 65 < cLine) : CallR X (.builtin "min") (rMx mnD X) := by
  intro pins s σ H xs us Q I r h
  obtain ⟨a, vs, d, ds, rfl, hs, ha, hb, q⟩ := h
  obtain rfl := Vals.ref1 r
  obtain ⟨b1, b2, b3⟩ := mxB_un hb
  have e0 : toPys (d :: ds) = toPy d :: toPys ds := by simp only [toPys]
  rw [e0] at b2 b3
  rcases hs with hs | hs
  · obtain ⟨its, rv, hl, hz⟩ := I.list hs
    obtain ⟨as, hr⟩ := Dp.readsAll I _ _ _ ha rv
    rw [e0] at hr
    refine PySem.W.min_list_data (I.ok.hd hc) hl.isList (vs := its.toArray) hr b2 (by omega) fun i v h' tk bs hi hrd kh => ?_
    rw [← toPy_mn] at hrd
    obtain ⟨v', k1, k2, k3⟩ := pick_at I kh b1 (mn_mem ds d) ha rv (by simpa using hi) hrd
    exact ⟨v', H, I.kept kh, k2, q i v' k1 k3⟩
  · obtain ⟨its, rv, hl, hz⟩ := I.tuple hs
    obtain ⟨as, hr⟩ := Dp.readsAll I _ _ _ ha rv
    rw [e0] at hr
    refine PySem.W.min_tuple_data (I.ok.hd hc) (tup_of hl) (vs := its.toArray) hr b2 (by omega) fun i v h' tk bs hi hrd kh => ?_
    rw [← toPy_mn] at hrd
    obtain ⟨v', k1, k2, k3⟩ := pick_at I kh b1 (mn_mem ds d) ha rv (by simpa using hi) hrd
    exact ⟨v', H, I.kept kh, k2, q i v' k1 k3⟩
/-- with default=z, of a list -/
def rMxD (f : D → List D → D) (X : Cx) (xs zs : List V) (H : Hp) (Q : VK) : Prop := ∃ (a : Addr) (vs : List V) (ds : List D) (z : V), xs = [.ref a] ∧ zs = [z] ∧ SqL X.K H a vs ∧ DpAll X.K H vs (toPys ds) ∧ mxB ds = true ∧
  (ds = [] → Q z H) ∧ ∀ (d : D) (r : List D) (i : Nat) (v : V), ds = d :: r → vs[i]? = some v → (d :: r)[i]? = some (f d r) → Q v H
theorem call_mxD (hc : X.calm = true) (hu : X.A.units + 65 < cLine) : CallRK X (.builtin "max") [Str.ofString "default"] (rMxD mxD X) := by
  intro pins s σ H xs zs us ws Q I r rz h
  obtain ⟨a, vs, ds, z, rfl, rfl, hs, ha, hb, q0, q⟩ := h
  obtain rfl := Vals.ref1 r
  obtain ⟨w1, rfl, e1⟩ := vals1 rz
  obtain ⟨b1, b2, b3⟩ := mxB_un hb
  obtain ⟨its, rv, hl, hz⟩ := I.list hs
  obtain ⟨as, hr⟩ := Dp.readsAll I _ _ _ ha rv
  refine PySem.W.max_list_default (I.ok.hd hc) hl.isList (vs := its.toArray) hr b2 (by omega) (fun e h' tk kh => ?_) fun y ys i v h' tk bs e hi hrd kh => ?_
  · cases ds with
    | nil => exact ⟨z, H, I.kept kh, e1, q0 rfl⟩
    | cons d ds => simp [toPys] at e
  · cases ds with
    | nil => simp [toPys] at e
    | cons d ds =>
      simp only [toPys, List.cons.injEq] at e
      obtain ⟨rfl, rfl⟩ := e
      rw [← toPy_mx] at hrd
      obtain ⟨v', k1, k2, k3⟩ := pick_at I kh b1 (mx_mem ds d) ha rv (by simpa using hi) hrd
      exact ⟨v', H, I.kept kh, k2, q d ds i v' rfl k1 k3⟩
theorem call_mnD (hc : X.calm = true) (hu : X.A.units + 65 < cLine) : CallRK X (.builtin "min") [Str.ofString "default"] (rMxD mnD X) := by
  intro pins s σ H xs zs us ws Q I r rz h
  obtain ⟨a, vs, ds, z, rfl, rfl, hs, ha, hb, q0, q⟩ := h
  obtain rfl := Vals.ref1 r
  obtain ⟨w1, rfl, e1⟩ := vals1 rz
  obtain ⟨b1, b2, b3⟩ := mxB_un hb
  obtain ⟨its, rv, hl, hz⟩ := I.list hs
  obtain ⟨as, hr⟩ := Dp.readsAll I _ _ _ ha rv
  refine PySem.W.min_list_default (I.ok.hd hc) hl.isList (vs := its.toArray) hr b2 (by omega) (fun e h' tk kh => ?_) fun y ys i v h' tk bs e hi hrd kh => ?_
  · cases ds with
    | nil => exact ⟨z, H, I.kept kh, e1, q0 rfl⟩
    | cons d ds => simp [toPys] at e
  · cases ds with
    | nil => simp [toPys] at e
    | cons d ds =>
      simp only [toPys, List.cons.injEq] at e
      obtain ⟨rfl, rfl⟩ := e
      rw [← toPy_mn] at hrd
      obtain ⟨v', k1, k2, k3⟩ := pick_at I kh b1 (mn_mem ds d) ha rv (by simpa using hi) hrd
      exact ⟨v', H, I.kept kh, k2, q d ds i v' rfl k1 k3⟩
end
def mx1 (f : D → List D → D) : D → Option D
  | .lst (d :: ds) => if mxB (d :: ds) = true then some (f d ds) else none
  | .tup (d :: ds) => if mxB (d :: ds) = true then some (f d ds) else none
  | _ => none
def mx2 (f : D → List D → D) : D → D → Option D
  | .lst ds, z => if mxB ds = true then some (match ds with
    | [] => z
    | d :: r => f d r) else none
  | _, _ => none
section
variable {X : Cx} {pa : Pa} {F0 : Addr → Prop} {H0 : Hp}
theorem isL_get {mg : Str → Option Value} {F : Addr → Prop} {H : Hp} : ∀ {ds : List D} {vs : List V} {i : Nat} {v : V} {d : D}, IsL mg pa F H ds vs → vs[i]? = some v → ds[i]? = some d → Is mg pa F H d v
  | [], vs, i, v, d, l, _, h => by cases h
  | e :: ds, vs, i, v, d, l, h1, h2 => by
    obtain ⟨x, r, rfl, a, b⟩ := l
    cases i with
    | zero => cases h1; cases h2; exact a
    | succ i => exact isL_get b h1 h2
theorem mx_m {f : D → List D → D} : CallM X pa JV (rMx f X) (d1 (mx1 f)) := fun F H p vs ss d Q b j e k => by
  obtain ⟨x, e1, e2⟩ := d1_some e
  obtain ⟨v, rfl, jv⟩ := j.one e1
  unfold mx1 at e2
  split at e2
  · split at e2
    · rename_i ds hb
      cases e2
      obtain ⟨a, us, rfl, ha, la⟩ := jv.lst
      exact ⟨a, us, _, _, rfl, .inl (SqL.of ha), dps_of 63 _ us (mxB_un hb).1 la, hb, fun i v h1 h2 => k v F H b.refl (isL_get la h1 h2)⟩
    · cases e2
  · split at e2
    · rename_i ds hb
      cases e2
      obtain ⟨a, us, rfl, ha, la⟩ := jv.tup
      exact ⟨a, us, _, _, rfl, .inr (SqT.of ha), dps_of 63 _ us (mxB_un hb).1 la, hb, fun i v h1 h2 => k v F H b.refl (isL_get la h1 h2)⟩
    · cases e2
  · cases e2
theorem c_max1 (hc : X.calm = true) (hu : X.A.units + 65 < cLine) : ∃ r, CallR X (.builtin "max") r ∧ CallM X pa JV r (d1 (mx1 mxD)) := ⟨_, call_mx hc hu, mx_m⟩
theorem c_min1 (hc : X.calm = true) (hu : X.A.units + 65 < cLine) : ∃ r, CallR X (.builtin "min") r ∧ CallM X pa JV r (d1 (mx1 mnD)) := ⟨_, call_mn hc hu, mx_m⟩
/-- max(e, default=z) -/
theorem s_mxD {x y : Str} {id : String} {f : D → List D → D} {e z : Expr} {p kp pos : Pos} {a b : En → Pot → Res D} (hc : CallRK X (.builtin id) [y] (rMxD f X)) (hg : Gl X x) (hx : X.mg x = none) (hv : bootBuiltins x = some (.builtin id)) (hn : x ≠ "__name__") (hdb : (x == ("__debug__" : Str)) = false)
    (ha : SB X F0 H0 pa e a) (hb : SV X F0 H0 pa z b) (hs : starEach [e] X.env = [(false, eval e X.env)]) : SV X F0 H0 pa (.Call (.Name x p) [e] [⟨some y, z, kp⟩] pos) (d2 a b (mx2 f)) := fun W tk => by
  refine PEimp (pe_callBK hc hg hx hv (pa_cons (ha W tk) pa_nil hs) (pk_cons (hb W tk) pk_nil) hn hdb (by rw [hs]; rfl) (by rw [hs]; rfl) (by rfl) (by rfl) (by rfl)) fun σ H Q ⟨F, ρ, p, rel, q⟩ => ?_
  refine seqE (J := JB X.mg pa) (g := fun d p1 => (b ρ p1).bind fun e p2 => ofO (mx2 f d e) p2) backV rel q fun d p1 v F1 H1 s1 j1 r1 q1 => ?_
  refine seqE (J := JV X.mg pa) (g := fun e p2 => ofO (mx2 f d e) p2) backV r1 q1 fun e' p2 w F2 H2 s2 j2 r2 q2 => ?_
  cases e : mx2 f d e' with
  | none => rw [e] at q2; exact q2.elim
  | some m =>
    rw [e] at q2
    have j1' := j1.step (H₂ := H) r1.base s2
    cases d with
    | lst ds =>
      simp only [mx2] at e
      split at e
      · rename_i hb
        obtain ⟨a', us, rfl, ha', la⟩ := j1'.lst
        refine ⟨a', us, ds, w, rfl, rfl, SqL.of ha', dps_of 63 _ us (mxB_un hb).1 la, hb, fun e0 => ?_, fun d r i v e0 h1 h2 => ?_⟩
        · subst e0
          cases e
          exact q2 w F2 H2 r2.base.refl j2
        · subst e0
          cases e
          exact q2 v F2 H2 r2.base.refl (isL_get la h1 h2)
      · cases e
    | _ => cases e
/-- sorted(e, reverse=True) -/
theorem s_srtR {e : Expr} {p kp pos : Pos} {j : Nat} {pc : Pos} {a : En → Pot → Res D} (hu : X.A.units + 65 < cLine) (hg : Gl X "sorted") (hx : X.mg "sorted" = none)
    (ha : SB X F0 H0 pa e a) (hs : starEach [e] X.env = [(false, eval e X.env)]) : SN X F0 H0 pa (.Call (.Name "sorted" p) [e] [⟨some (Str.ofString "reverse"), .Constant (.bool true) j pc, kp⟩] pos) (d1' a (srtD true)) := fun W tk => by
  refine PEimp (pe_callBK (call_srtR hu) hg hx (by decide +kernel) (pa_cons (ha W tk) pa_nil hs) (pk_cons pe_bl pk_nil) (by decide) (by decide) (by rw [hs]; rfl) (by rw [hs]; rfl) (by rfl) (by rfl) (by rfl)) fun σ H Q ⟨F, ρ, p, rel, q⟩ => ?_
  refine seqE (J := JB X.mg pa) (g := fun d p1 => ofO (srtD true d) p1) backN rel q fun d p1 v F1 H1 s1 j1 r1 q1 => ?_
  cases e : srtD true d with
  | none => rw [e] at q1; exact q1.elim
  | some m =>
    rw [e] at q1
    exact ⟨rfl, srt_m r1.base j1 e fun v F' H' s j => q1 v F' H' s j⟩
/-- isinstance(e, (T, T')) -/
theorem tys_vals : ∀ {ts : List Ty}, Paired ClsV (ts.map fun t => V.ty t.nm) (ts.map fun t => Value.type t.nm)
  | [] => .nil
  | t :: ts => .cons (.ty _) tys_vals
theorem s_isiT2 {a : Expr} {t t' : Ty} {x x' : Str} {f : En → Pot → Res D} {p p2 p3 pt pos : Pos} {kt} (hg : Gl X "isinstance") (hx : X.mg "isinstance" = none) (hgt : Gl X x) (hxt : X.mg x = none) (hv : bootBuiltins x = some (.type t.nm)) (hgt' : Gl X x') (hxt' : X.mg x' = none) (hv' : bootBuiltins x' = some (.type t'.nm))
    (ha : SB X F0 H0 pa a f) (hn : x ≠ "__name__") (hdb : (x == ("__debug__" : Str)) = false) (hn' : x' ≠ "__name__") (hdb' : (x' == ("__debug__" : Str)) = false)
    (he : starEach (a :: [.Tuple [.Name x p2, .Name x' p3] kt pt]) X.env = (false, eval a X.env) :: starEach [.Tuple [.Name x p2, .Name x' p3] kt pt] X.env) : SV X F0 H0 pa (.Call (.Name "isinstance" p) [a, .Tuple [.Name x p2, .Name x' p3] kt pt] [] pos) (d1' f fun d => (isTys [t, t'] d).map .bl) := fun W tk => by
  refine PEimp (pe_callB call_isiT hg hx (by decide +kernel) (pa_cons (ha W tk) (pa_cons (pe_tup (pa_cons (pe_bltn hgt hxt hv (v := .ty t.nm) rfl hn hdb) (pa_cons (pe_bltn hgt' hxt' hv' (v := .ty t'.nm) rfl hn' hdb') pa_nil (by rfl)) (by rfl))) pa_nil (by rfl)) he) (by decide) (by decide) he (by rfl)) fun σ H Q ⟨F, ρ, p, rel, q⟩ => ?_
  refine seqE (J := JB X.mg pa) (g := fun d p1 => ofO ((isTys [t, t'] d).map .bl) p1) backV rel q fun d p1 v F1 H1 s1 j1 r1 q1 => ?_
  cases e : isTys [t, t'] d with
  | none => rw [e] at q1; exact q1.elim
  | some b =>
    rw [e] at q1
    refine ⟨by show 2 ≤ sizeLine; decide, fun tp htp => ?_⟩
    have st : Stp pa F1 H1 F1 (upd H1 tp (.tup [.ty t.nm, .ty t'.nm])) p1 := r1.base.laid htp
    have j2 := j1.step (H₂ := H) r1.base st
    have hn : ∃ n, tyNm d = some n := by
      cases h : isTy t d with
      | none => exfalso; unfold isTys at e; rw [h] at e; cases e
      | some c => obtain ⟨n, h1, _⟩ := kit_isTy X.K h; exact ⟨n, h1⟩
    obtain ⟨n, hn⟩ := hn
    exact ⟨v, tp, _, .type n, _, b, rfl, upd_same, tys_vals (ts := [t, t']), ty_of j2 hn, kit_isTys X.K hn e, q1 _ F1 _ st rfl⟩
end
end M

set_option Elab.async false
set_option linter.all false
set_option maxRecDepth 100000
/-! enumerate of a tuple -/
namespace M
open PySem PySem.Spec PyProof.Rows L2
theorem tupIter_ne {h : Heap} {it l : Addr} {i : Nat} {items : Array Value} (hi : h.IsTupleIter it l i) (hl : h.IsTuple l items) : it ≠ l := by
  obtain ⟨o, ho, hc, _⟩ := hi
  obtain ⟨o', ho', hc', _⟩ := hl
  rintro rfl
  rw [ho] at ho'
  cases ho'
  rw [hc] at hc'
  injection hc' with q
  exact absurd q (by decide)
theorem tupIter_at {h h' : Heap} {it l : Addr} {i : Nat} (x : h.IsTupleIter it l i) (k : ∀ o, h.get? it = some o → h'.get? it = some o) : h'.IsTupleIter it l i := let ⟨o, ho, r⟩ := x; ⟨o, k o ho, r⟩
theorem tup_at {h h' : Heap} {l : Addr} {items : Array Value} (x : h.IsTuple l items) (k : ∀ o, h.get? l = some o → h'.get? l = some o) : h'.IsTuple l items := let ⟨o, ho, r⟩ := x; ⟨o, k o ho, r⟩
theorem draws_tuple {prog : Program} {w : World} {A : Around} (hh : A.handled = none) (it l : Addr) (items : Array Value) : Draws prog w A it [it, l] items.size (fun i x => items[i]? = some x) (fun i h => h.IsTupleIter it l i ∧ h.IsTuple l items) where
  live := fun i h st => let ⟨⟨o, ho, _⟩, _⟩ := st; ⟨o, ho⟩
  frame := fun i h h' st k => ⟨tupIter_at st.1 fun o q => k it (by simp) o q, tup_at st.2 fun o q => k l (by simp) o q⟩
  item := fun i s Q E hi st hQ => by
    have hx : items[i]? = some items[i] := Array.getElem?_eq_getElem hi
    refine RZ.nextOf_tuple_item st.1 st.2 hx fun h' hit' hs => hQ _ _ _ hx ⟨hit', tup_at st.2 fun o q => (hs.2 l (Ne.symm (tupIter_ne st.1 st.2))).trans q⟩ hs
  done := fun s Q E st hE => RZ.nextOf_tuple_end hh st.1 st.2 (by simp) hE
theorem meets_enumerate_newT (l : Addr) (items : Array Value) :
    Meets (Builtin.«enumerate.__new__» ⟨[.type "enumerate", .ref l], []⟩) (fun _ R s => s.heap.IsTuple l items ∧
      R (.ok (.ret (.ref (s.heap.push { cls := .type "tuple_iterator", data := .fields #[.ref l, .int 0 0] }).objs.size)))
        { s with heap := (s.heap.push { cls := .type "tuple_iterator", data := .fields #[.ref l, .int 0 0] }).push { cls := .type "enumerate", data := .fields #[.none, .bool false, .ref s.heap.objs.size, rawInt 0, .none, .none] } }) :=
  .of_wp fun prog w A R s h => by
    obtain ⟨hp, g, d, tk, os⟩ := s; obtain ⟨hl, h⟩ := h
    have hsub := sub_enumerate
    have hL : Heap.IsTuple (Shared.heap ⟨hp, g, d, tk, os⟩) l items := hl
    wp_walk
    refine wpAny_stack_any fun st => wpAny_pure ?_
    split
    · rename_i c _ _ _ _ _
      cases (c == Value.type "enumerate")
      · wp_walk using wpAny_pyIter_tuple hL
        exact ⟨_, rfl, h⟩
      · wp_walk using wpAny_pyIter_tuple hL
        exact ⟨_, rfl, h⟩
    · wp_walk using wpAny_pyIter_tuple hL
      exact ⟨_, rfl, h⟩
section
variable {prog : Program} {w : World} {A : Around} {E : Value → Shared → Prop} {s : Shared}
theorem call_enumerate_tuple {l : Addr} {items : Array Value} {Q : Value → Shared → Prop} (hL : s.heap.IsTuple l items)
    (h : ∀ h', IsEnum h' (s.heap.objs.size + 1) s.heap.objs.size 0 .none → h'.IsTupleIter s.heap.objs.size l 0 → h'.objs.size = s.heap.objs.size + 2 →
      (∀ b o, s.heap.get? b = some o → h'.get? b = some o) → Q (.ref (s.heap.objs.size + 1)) { s with heap := h' }) :
    wpAny (model prog w) A (call (.type "enumerate") [.ref l]) Q E s := by
  refine callType_new F.called_enumerate (by decide) (F.typeCall_enumerate_1 _) (F.newCall_enumerate_1 _) (fun obj => F.args_object_init_2 obj _) F.entry_enumerate_new
    (meets_enumerate_newT l items) ⟨hL, ?_⟩
  have hz : (s.heap.push { cls := .type "tuple_iterator", data := .fields #[.ref l, .int 0 0] }).objs.size = s.heap.objs.size + 1 := Heap.size_push ..
  show _ ∧ _
  rw [hz]
  have he : IsEnum ((s.heap.push { cls := .type "tuple_iterator", data := .fields #[.ref l, .int 0 0] }).push
      { cls := .type "enumerate", data := .fields #[.none, .bool false, .ref s.heap.objs.size, rawInt 0, .none, .none] }) (s.heap.objs.size + 1) s.heap.objs.size 0 .none := by
    have := Heap.get?_push_size (s.heap.push { cls := .type "tuple_iterator", data := .fields #[.ref l, .int 0 0] })
      (o := { cls := .type "enumerate", data := .fields #[.none, .bool false, .ref s.heap.objs.size, rawInt 0, .none, .none] }) rfl
    rw [hz] at this; exact this
  refine ⟨⟨_, he, rfl⟩, h _ he ⟨_, Heap.get?_push_of_some _ (Heap.get?_push_size _ rfl), rfl, rfl⟩ (by rw [Heap.size_push, hz]) fun b o x => Heap.get?_push_of_some _ (Heap.get?_push_of_some _ x)⟩
theorem pyNext_enumT_end {e it l : Addr} {i : Nat} {items : Array Value} {old : Value} {Q : Option Value → Shared → Prop} (hh : A.handled = none)
    (he : IsEnum s.heap e it i old) (hit : s.heap.IsTupleIter it l i) (hl : s.heap.IsTuple l items) (hx : items[i]? = none)
    (hQ : ∀ h', Heap.ExtBut it s.heap h' → Q none { s with heap := h' }) : wpAny (model prog w) A (pyNext (.ref e)) Q E s := by
  have hT : s.TypeIs (.ref e) "enumerate" := ⟨_, he, rfl⟩
  unfold pyNext
  refine wpAny_bind (wpAny_attempt (wpAny_callSpecial?_slot (name := Str.ofString "__next__") hT F.slot_enumerate_next
    (wpAny_call_entry F.slot_enumerate_next hT F.entry_enumerate_next ?_ (F.args_enumerate_next_1 _))))
  show wpAny _ _ (field (.ref e) 2 >>= _) _ _ _
  refine wpAny_bind (wpAny_field he rfl (x := .ref it) rfl ?_)
  refine wpAny_bind (RZ.nextOf_tuple_end hh hit hl hx fun h' x he' hx' => ?_)
  obtain ⟨o, ho, hc⟩ := hx'
  refine wpAny_bind (wpAny_isInstance (T := "StopIteration") (b := true) ⟨o, ho, hc⟩ isSubtype_stop ?_)
  exact wpAny_pure (hQ _ he')
end
theorem enum_ne_tup {h : Heap} {e it a : Addr} {i : Int} {old : Value} {its : Array Value} (he : IsEnum h e it i old) (p : h.IsTuple a its) : e ≠ a := by
  obtain ⟨o, ho, hc, _⟩ := p
  rintro rfl
  have he' : h.get? e = some _ := he
  rw [ho] at he'
  cases he'
  injection hc with q
  exact absurd q (by decide)
def IteT (K : PySem.W.Frag) (a : Addr) : It :=
  ⟨fun i H => ∃ (xs : List V) (x : V), SqT K H a xs ∧ xs[i]? = some x, fun i H v H' => ∃ T x, v = .ref T ∧ H T = none ∧ H' = upd H T (.tup [.int (i : Nat), x]) ∧ ∀ xs, SqT K H a xs → xs[i]? = some x, fun i H => ∃ xs : List V, SqT K H a xs ∧ xs.length ≤ i⟩
theorem turn_enumT {P : Program} {w : World} {K : PySem.W.Frag} {elts : List Expr} {kk : Nat} {tpos : Pos} (a e it : Addr) :
    Turn P w K (.Tuple elts kk tpos) (IteT K a) [e, it] e (fun i h => (∃ old, IsEnum h e it ((i : Nat) : Int) old) ∧ h.IsTupleIter it a i ∧ e ≠ it) where
  mem := by simp
  obj := fun i h st b hb => by
    obtain ⟨⟨old, he⟩, ⟨o, ho, hc, hd⟩, _⟩ := st
    have e' : b = e ∨ b = it := by simpa using hb
    rcases e' with z | z
    · rw [z]; exact ⟨_, he, fun v q => nomatch q⟩
    · rw [z]; exact ⟨o, ho, fun v q => by rw [hd] at q; cases q⟩
  keep := fun i h h' st k => let ⟨⟨old, he⟩, hi, hne⟩ := st; ⟨⟨old, k e (by simp) _ he⟩, tupIter_at hi fun o q => k it (by simp) o q, hne⟩
  item := by
    intro X hP hw hK hc i pins s σ H E I hf st hg
    subst hP hw hK
    obtain ⟨⟨old, he⟩, hit, hne⟩ := st
    obtain ⟨xs, x, hq, hx⟩ := hg
    obtain ⟨its, rv, p, hz⟩ := I.tuple hq
    obtain ⟨u, hu, ru⟩ := rv.get hx
    have p' : s.heap.IsTuple a its.toArray := p
    have hel : e < s.heap.objs.size := Heap.lt_size he
    have hil : it < s.heap.objs.size := by obtain ⟨_, q, _⟩ := hit; exact Heap.lt_size q
    have hea := enum_ne_tup he p'
    have hlt : i < its.toArray.size := by
      have := (List.getElem?_eq_some_iff.mp hu).1
      simpa using this
    refine wpAny_pyNext_enum_itemD (draws_tuple (A := X.A.in1) (I.ok.hd hc) it a its.toArray) he ⟨hit, p'⟩ hlt hne (by simp [hne, hea]) fun y h' tk hy ho hit' hT hsz hk => ?_
    have hy : y = u := by
      have : its.toArray[i]? = some u := by simpa using hu
      rw [this] at hy
      exact (Option.some.inj hy).symm
    subst hy
    refine ⟨_, rfl, wpAny_letOwnedTupleGo_enum (s := { s with heap := h', toks := tk + 1 }) ho fun h'' he' sb => ?_⟩
    have hT2 : h''.get? s.heap.objs.size = some { cls := .type "tuple", data := .seq #[.int i tk, y] } := (sb.2 _ (Nat.ne_of_gt hel)).trans hT
    have new : ObjOk X.prog X.w (upd H s.heap.objs.size (.tup [.int (i : Nat), x])) h'' s.heap.objs.size (.tup [.int (i : Nat), x]) :=
      ⟨by show 2 ≤ sizeLine; decide, [.int i tk, y], .cons ⟨_, rfl⟩ (.cons ru .nil), ⟨_, hT2, rfl, _, rfl⟩⟩
    have I1 : Inv X pins σ (upd H s.heap.objs.size (.tup [.int (i : Nat), x])) { s with heap := h'', toks := tk + 1 } :=
      I.turnedNew (ch := [e, it]) (fun b ob hb q => (sb.2 b (fun z => hb (by simp [z]))).trans (hk b ob (fun z => hb (by simp [z])) (fun z => hb (by simp [z])) q)) hf (Nat.le_refl _) new
    refine ⟨.ref s.heap.objs.size, _, I1, rfl, ⟨_, x, rfl, I.hok.fresh (Nat.le_refl _), rfl, fun ys hy => by rw [I.tuple_inj hy hq]; exact hx⟩, ⟨⟨y, ?_⟩, tupIter_at hit'.1 fun o q => (sb.2 it (Ne.symm hne)).trans q, hne⟩, fun b hb => ?_⟩
    · have e1 : ((i + 1 : Nat) : Int) = (i : Int) + 1 := by omega
      rw [e1]; exact he'
    · have hb' : b < s.heap.objs.size := by
        have e' : b = e ∨ b = it := by simpa using hb
        rcases e' with z | z
        · rw [z]; exact hel
        · rw [z]; exact hil
      rw [upd_ne (Nat.ne_of_lt hb')]
      exact (hf b hb).1
  done := by
    intro X hP hw hK hc i pins s σ H E I hf st hg
    subst hP hw hK
    obtain ⟨⟨old, he⟩, hit, hne⟩ := st
    obtain ⟨xs, hq, hx⟩ := hg
    obtain ⟨its, rv, p, hz⟩ := I.tuple hq
    obtain ⟨f0, f1, f2, f3, f4, f5⟩ := hf it (by simp)
    have hl := rv.length
    have p' : s.heap.IsTuple a its.toArray := p
    exact pyNext_enumT_end (I.ok.hd hc) he hit p' (by simp; omega) fun h' eb => ⟨rfl, I.turned (t' := s.toks) (fun b o hb q => eb b o hb q) f0 f1 f3 f4 f5⟩
  self := fun A i s Q E st h => let ⟨⟨_, he⟩, _⟩ := st; wpAny_pyIter_enum he h
def iEnumA (K : PySem.W.Frag) (ta : TA) : TI := fun σ H R => ta σ H fun vs H1 => ∃ a xs, vs = [.ref a] ∧ ((SqL K H1 a xs ∧ R (Ite K a) H1) ∨ (SqT K H1 a xs ∧ R (IteT K a) H1))
theorem pi_enumA {X : Cx} {e : Expr} {ta : TA} {p pos tpos : Pos} {elts : List Expr} {kk : Nat} (hg : Gl X "enumerate") (hm : X.mg "enumerate" = none) (ha : PA X [e] ta) (hs : starEach [e] X.env = [(false, eval e X.env)]) :
    PI X (.Tuple elts kk tpos) (.Call (.Name "enumerate" p) [e] [] pos) (iEnumA X.K ta) := by
  refine ⟨fun pins s σ H R I h => ?_⟩
  refine Call_ (ld_blt I hg hm boot_enumerate (PyProof.Rows.callWith_type1 (thn (ha.run pos pins s σ H _ I h) fun us s1 ⟨vs, H1, I1, r1, q1⟩ => ?_) hs rfl))
  obtain ⟨a, xs, ex, q⟩ := q1
  subst ex
  cases r1 with
  | cons r rr =>
    cases rr
    cases r
    have fresh2 : ∀ b ∈ [s1.heap.objs.size + 1, s1.heap.objs.size], FpOk X pins H1 b := fun b hb => by
      have e' : b = s1.heap.objs.size + 1 ∨ b = s1.heap.objs.size := by simpa using hb
      have hle : s1.heap.objs.size ≤ b := by
        rcases e' with z | z
        · rw [z]; exact Nat.le_add_right _ _
        · rw [z]; exact Nat.le_refl _
      exact I1.fpOk hle (I1.hok.fresh hle)
    rcases q with ⟨hq, q⟩ | ⟨hq, q⟩
    · obtain ⟨its, rv, p', hz⟩ := I1.list hq
      refine call_enumerate_list p'.isList fun h' he hit hsz hk => wpAny_pyIter_enum he ?_
      have I2 : Inv X pins σ H1 { s1 with heap := h' } := I1.kept (t' := s1.toks) hk
      exact ⟨s1.heap.objs.size + 1, [s1.heap.objs.size + 1, s1.heap.objs.size], _, _, H1, rfl, I2, turn_enum a (s1.heap.objs.size + 1) s1.heap.objs.size, ⟨⟨.none, he⟩, hit, Nat.succ_ne_self _⟩, fresh2, q⟩
    · obtain ⟨its, rv, p', hz⟩ := I1.tuple hq
      refine call_enumerate_tuple (show s1.heap.IsTuple a its.toArray from p') fun h' he hit hsz hk => wpAny_pyIter_enum he ?_
      have I2 : Inv X pins σ H1 { s1 with heap := h' } := I1.kept (t' := s1.toks) hk
      exact ⟨s1.heap.objs.size + 1, [s1.heap.objs.size + 1, s1.heap.objs.size], _, _, H1, rfl, I2, turn_enumT a (s1.heap.objs.size + 1) s1.heap.objs.size, ⟨⟨.none, he⟩, hit, Nat.succ_ne_self _⟩, fresh2, q⟩
end M

set_option Elab.async false
set_option linter.all false
set_option maxRecDepth 100000
/-! sorted(set(xs)), xs a list of pairs of small numbers -/
namespace M
open PySem PySem.Spec PyProof.Rows L2
def prI (q : Int × Int) : D := .tup [.int q.1, .int q.2]
def toL (q : Int × Int) : List Int := [q.1, q.2]
def pairsI : List D → Option (List (Int × Int))
  | [] => some []
  | .tup [.int x, .int y] :: r => (pairsI r).map ((x, y) :: ·)
  | _ => none
theorem pairsI_some : ∀ {ds : List D} {ps : List (Int × Int)}, pairsI ds = some ps → ds = ps.map prI
  | [], ps, h => by cases h; rfl
  | d :: r, ps, h => by
    unfold pairsI at h
    split at h
    · rename_i h0; cases h0
    · rename_i x y r' h0
      cases h0
      cases e : pairsI r with
      | none => rw [e] at h; cases h
      | some qs =>
        rw [e] at h
        cases h
        rw [pairsI_some e]
        rfl
    · cases h
theorem pairsI_map : ∀ ps : List (Int × Int), pairsI (ps.map prI) = some ps
  | [] => rfl
  | q :: ps => by simp [prI, pairsI, pairsI_map ps]
def inB (q : Int × Int) : Bool := decide (0 ≤ q.1 ∧ q.1 < 64) && decide (0 ≤ q.2 ∧ q.2 < 64)
def ltQ (q r : Int × Int) : Prop := q.1 < r.1 ∨ (q.1 = r.1 ∧ q.2 < r.2)
instance (q r : Int × Int) : Decidable (ltQ q r) := inferInstanceAs (Decidable (_ ∨ _))
def insP (x : Int × Int) : List (Int × Int) → List (Int × Int)
  | [] => [x]
  | y :: r => if x = y then y :: r else if ltQ x y then x :: y :: r else y :: insP x r
def ssP (l : List (Int × Int)) : List (Int × Int) := l.foldr insP []
theorem ltQ_tri {x y : Int × Int} (h : x ≠ y) (h2 : ¬ ltQ x y) : ltQ y x := by
  unfold ltQ at *
  rcases Int.lt_trichotomy x.1 y.1 with a | a | a
  · exact (h2 (.inl a)).elim
  · rcases Int.lt_trichotomy x.2 y.2 with b | b | b
    · exact (h2 (.inr ⟨a, b⟩)).elim
    · exact (h (Prod.ext a b)).elim
    · exact .inr ⟨a.symm, b⟩
  · exact .inl a
theorem ltQ_trans {x y z : Int × Int} (h : ltQ x y) (h2 : ltQ y z) : ltQ x z := by
  unfold ltQ at *
  omega
theorem ltQ_irrefl (x : Int × Int) : ¬ ltQ x x := by
  unfold ltQ
  omega
theorem mem_insP {x z : Int × Int} : ∀ {l : List (Int × Int)}, z ∈ insP x l ↔ z = x ∨ z ∈ l
  | [] => by simp [insP]
  | y :: r => by
    unfold insP
    split
    · rename_i e
      subst e
      simp
    · split
      · simp
      · rw [List.mem_cons, mem_insP (l := r), List.mem_cons]
        constructor
        · rintro (h | h | h)
          · exact .inr (.inl h)
          · exact .inl h
          · exact .inr (.inr h)
        · rintro (h | h | h)
          · exact .inr (.inl h)
          · exact .inl h
          · exact .inr (.inr h)
theorem up_insP {x : Int × Int} : ∀ {l : List (Int × Int)}, l.Pairwise ltQ → (insP x l).Pairwise ltQ
  | [], _ => by simp [insP]
  | y :: r, h => by
    unfold insP
    rw [List.pairwise_cons] at h
    split
    · exact List.pairwise_cons.mpr h
    · split
      · rename_i hl
        exact List.pairwise_cons.mpr ⟨fun z hz => by
          rcases List.mem_cons.mp hz with rfl | hz
          · exact hl
          · exact ltQ_trans hl (h.1 z hz), List.pairwise_cons.mpr h⟩
      · rename_i hne hl
        refine List.pairwise_cons.mpr ⟨fun z hz => ?_, up_insP h.2⟩
        rcases mem_insP.mp hz with rfl | hz
        · exact ltQ_tri hne hl
        · exact h.1 z hz
theorem mem_ssP {z : Int × Int} : ∀ {l : List (Int × Int)}, z ∈ ssP l ↔ z ∈ l
  | [] => by simp [ssP]
  | x :: l => by
    show z ∈ insP x (ssP l) ↔ _
    rw [mem_insP, mem_ssP (l := l), List.mem_cons]
theorem up_ssP : ∀ (l : List (Int × Int)), (ssP l).Pairwise ltQ
  | [] => .nil
  | x :: l => up_insP (up_ssP l)
theorem strict_uniq : ∀ {l m : List (Int × Int)}, l.Pairwise ltQ → m.Pairwise ltQ → (∀ x, x ∈ l ↔ x ∈ m) → l = m
  | [], [], _, _, _ => rfl
  | [], b :: m, _, _, h => by have := (h b).mpr List.mem_cons_self; cases this
  | a :: l, [], _, _, h => by have := (h a).mp List.mem_cons_self; cases this
  | a :: l, b :: m, h1, h2, h => by
    rw [List.pairwise_cons] at h1 h2
    have e : a = b := by
      rcases List.mem_cons.mp ((h a).mp List.mem_cons_self) with e | x
      · exact e
      · rcases List.mem_cons.mp ((h b).mpr List.mem_cons_self) with e | y
        · exact e.symm
        · exact (ltQ_irrefl _ (ltQ_trans (h1.1 b y) (h2.1 a x))).elim
    subst e
    rw [strict_uniq h1.2 h2.2 fun x => ?_]
    have := h x
    rw [List.mem_cons, List.mem_cons] at this
    constructor
    · intro hx
      rcases this.mp (.inr hx) with e | y
      · subst e; exact (ltQ_irrefl _ (h1.1 _ hx)).elim
      · exact y
    · intro hx
      rcases this.mpr (.inr hx) with e | y
      · subst e; exact (ltQ_irrefl _ (h2.1 _ hx)).elim
      · exact y
def sstD : D → Option D
  | .lst ds => (pairsI ds).bind fun ps => if (ps.all inB && decide (ps.length < 64)) = true then some (.lst ((ssP ps).map prI)) else none
  | _ => none
section
variable {mg : Str → Option Value} {pa : Pa} {F : Addr → Prop} {H : Hp}
theorem ks_of : ∀ {ps : List (Int × Int)} {us : List V}, IsL mg pa F H (ps.map prI) us → ∃ ks : List (Addr × List Int), us = (ks.map fun p => V.ref p.1) ∧ ks.map (·.2) = ps.map toL ∧ ∀ k ∈ ks, H k.1 = some (.tup (k.2.map V.int))
  | [], us, l => ⟨[], by rw [show us = [] from l]; rfl, rfl, fun k hk => by cases hk⟩
  | q :: ps, us, l => by
    obtain ⟨v, r, rfl, h1, h2⟩ := l
    obtain ⟨ks, rfl, e, h⟩ := ks_of h2
    obtain ⟨a, xs, rfl, ha, hl⟩ := h1
    obtain ⟨x, r1, rfl, i1, y, r2, rfl, i2, i3⟩ := hl
    obtain rfl : x = .int q.1 := i1
    obtain rfl : y = .int q.2 := i2
    obtain rfl : r2 = [] := i3
    refine ⟨(a, toL q) :: ks, rfl, by simp [e], fun k hk => ?_⟩
    rcases List.mem_cons.mp hk with rfl | hk
    · exact ha
    · exact h k hk
theorem isL_tups : ∀ {L : List (Addr × List Int)}, (∀ k ∈ L, H k.1 = some (.tup (k.2.map V.int))) → IsL mg pa F H (L.map fun k => D.tup (k.2.map D.int)) (L.map fun k => V.ref k.1)
  | [], _ => rfl
  | k :: L, h => by
    refine ⟨.ref k.1, L.map fun k => V.ref k.1, rfl, ⟨k.1, k.2.map V.int, rfl, h k List.mem_cons_self, ?_⟩, isL_tups fun c hc => h c (List.mem_cons_of_mem _ hc)⟩
    have : ∀ ns : List Int, IsL mg pa F H (ns.map D.int) (ns.map V.int) := by
      intro ns
      induction ns with
      | nil => rfl
      | cons n ns ih => exact ⟨.int n, ns.map V.int, rfl, rfl, ih⟩
    exact this k.2
theorem exists_toL : ∀ {l : List (List Int)}, (∀ x ∈ l, ∃ q, x = toL q ∧ inB q = true) → ∃ qs : List (Int × Int), l = qs.map toL ∧ ∀ q ∈ qs, inB q = true
  | [], _ => ⟨[], rfl, fun q h => by cases h⟩
  | x :: l, h => by
    obtain ⟨q, rfl, hq⟩ := h x List.mem_cons_self
    obtain ⟨qs, rfl, hqs⟩ := exists_toL fun y hy => h y (List.mem_cons_of_mem _ hy)
    exact ⟨q :: qs, rfl, fun r hr => by
      rcases List.mem_cons.mp hr with rfl | hr
      · exact hq
      · exact hqs r hr⟩
end
theorem toL_inj {q r : Int × Int} (h : toL q = toL r) : q = r := by
  unfold toL at h
  injection h with h1 h2
  injection h2 with h2 _
  exact Prod.ext h1 h2
/-- what sorted leaves is the list -/
theorem sst_eq {ps : List (Int × Int)} {ks L L' : List (Addr × List Int)} (hk : ks.map (·.2) = ps.map toL) (hB : ∀ q ∈ ps, inB q = true) (h1 : ∀ p ∈ L, p ∈ ks) (h2 : ∀ p ∈ ks, p.2 ∈ L.map (·.2)) (hp : L'.Perm L) (hn : (L'.map (·.2)).Nodup) (hs : L'.Pairwise fun q r => TS.code 64 q.2 ≤ TS.code 64 r.2) :
    L'.map (·.2) = (ssP ps).map toL := by
  have mem : ∀ x, x ∈ L'.map (·.2) ↔ x ∈ ps.map toL := fun x => by
    rw [← hk]
    constructor
    · intro h
      obtain ⟨p, hp', rfl⟩ := List.mem_map.mp h
      exact List.mem_map.mpr ⟨p, h1 p (hp.mem_iff.mp hp'), rfl⟩
    · intro h
      obtain ⟨p, hp', rfl⟩ := List.mem_map.mp h
      obtain ⟨p2, h3, e⟩ := List.mem_map.mp (h2 p hp')
      exact List.mem_map.mpr ⟨p2, hp.mem_iff.mpr h3, e⟩
  obtain ⟨qs, e, hq⟩ := exists_toL (l := L'.map (·.2)) fun x hx => by
    obtain ⟨q, hq, rfl⟩ := List.mem_map.mp ((mem x).mp hx)
    exact ⟨q, rfl, hB q hq⟩
  rw [e]
  congr 1
  refine strict_uniq ?_ (up_ssP ps) fun x => ?_
  · have a1 : (qs.map toL).Pairwise fun q r => TS.code 64 q ≤ TS.code 64 r := by rw [← e, List.pairwise_map]; exact hs
    rw [List.pairwise_map] at a1
    have a2 : (qs.map toL).Nodup := by rw [← e]; exact hn
    have a2 := List.pairwise_map.mp a2
    refine (a1.and a2).imp_of_mem fun {x y} hx hy h => ?_
    have b1 := hq x hx
    have b2 := hq y hy
    simp only [inB, Bool.and_eq_true, decide_eq_true_eq] at b1 b2
    exact pair_lt h.1 h.2 b1.1 b1.2 b2.1 b2.2
  · rw [mem_ssP]
    have := mem (toL x)
    rw [e] at this
    constructor
    · intro h
      obtain ⟨r, hr, er⟩ := List.mem_map.mp (this.mp (List.mem_map.mpr ⟨x, h, rfl⟩))
      rw [← toL_inj er]
      exact hr
    · intro h
      obtain ⟨r, hr, er⟩ := List.mem_map.mp (this.mpr (List.mem_map.mpr ⟨x, h, rfl⟩))
      rw [← toL_inj er]
      exact hr
section
variable {X : Cx} {pa : Pa} {F0 : Addr → Prop} {H0 : Hp}
/-- sorted(set(e)) -/
theorem s_sst {e : Expr} {p p2 q pos : Pos} {a : En → Pot → Res D} (hc : X.calm = true) (hu : X.A.units + 64 < cLine) (hg : Gl X "sorted") (hx : X.mg "sorted" = none) (hg2 : Gl X "set") (hx2 : X.mg "set" = none)
    (ha : SB X F0 H0 pa e a) (hs : starEach [e] X.env = [(false, eval e X.env)]) : SN X F0 H0 pa (.Call (.Name "sorted" p) [.Call (.Name "set" p2) [e] [] q] [] pos) (d1' a sstD) := fun W tk => by
  refine PEimp (pe_callB (cr_sortedT hc) hg hx (by decide +kernel) (pa_cons (pe_callTy (cr_setOfT hc hu) hg2 hx2 (by decide +kernel) (pa_cons (ha W tk) pa_nil hs) (by decide) (by decide) hs (by rfl)) pa_nil (by rfl)) (by decide) (by decide) (by rfl) (by rfl)) fun σ H Q ⟨F, ρ, p, rel, q⟩ => ?_
  refine seqE (J := JB X.mg pa) (g := fun d p1 => ofO (sstD d) p1) backN rel q fun d p1 v F1 H1 s1 j1 r1 q1 => ?_
  cases e : sstD d with
  | none => rw [e] at q1; exact q1.elim
  | some m =>
    rw [e] at q1
    cases d with
    | lst ds =>
      simp only [sstD] at e
      cases hp : pairsI ds with
      | none => rw [hp] at e; cases e
      | some ps =>
        rw [hp] at e
        have e : (if (ps.all inB && decide (ps.length < 64)) = true then some (D.lst ((ssP ps).map prI)) else none) = some m := e
        split at e
        · rename_i hb
          cases e
          simp only [Bool.and_eq_true, decide_eq_true_eq] at hb
          obtain ⟨a', us, rfl, ha', la⟩ := j1.lst
          rw [pairsI_some hp] at la
          obtain ⟨ks, rfl, ek, hk⟩ := ks_of la
          have hB : ∀ q ∈ ps, inB q = true := List.all_eq_true.mp hb.1
          have kl : ks.length = ps.length := by have := congrArg List.length ek; simpa using this
          refine ⟨a', ks, rfl, SqL.of ha', fun k hk' => SqT.of (hk k hk'), by omega, fun st L hst hL1 hL2 => ?_⟩
          have hL : ∀ k ∈ L, (upd H1 st (SetTO X.prog X.w st L)) k.1 = some (.tup (k.2.map V.int)) := fun k hkL => by
            have h1 := hk k (hL1 k hkL)
            rw [upd_ne (fun z => by rw [z, hst] at h1; cases h1)]
            exact h1
          have hin : ∀ k ∈ ks, ∃ q ∈ ps, k.2 = toL q := fun k hk' => by
            have : k.2 ∈ ps.map toL := by rw [← ek]; exact List.mem_map.mpr ⟨k, hk', rfl⟩
            obtain ⟨q, hq, eq⟩ := List.mem_map.mp this
            exact ⟨q, hq, eq.symm⟩
          refine ⟨st, L, 2, 64, rfl, upd_same, fun k hkL => SqT.of (hL k hkL), by decide, fun k hkL => ?_, fun L' t hpm hnd _ hpw ht => ?_⟩
          · obtain ⟨q, hq, eq⟩ := hin k (hL1 k hkL)
            have hb2 := hB q hq
            simp only [inB, Bool.and_eq_true, decide_eq_true_eq] at hb2
            rw [eq]
            refine ⟨rfl, fun m hm => ?_⟩
            simp only [toL, List.mem_cons, List.not_mem_nil, or_false] at hm
            rcases hm with rfl | rfl
            · exact hb2.1
            · exact hb2.2
          · have s2 : Stp pa F1 H1 F1 (upd H1 st (SetTO X.prog X.w st L)) p1 := r1.base.laid hst
            have eq := sst_eq ek hB hL1 hL2 hpm hnd hpw
            have ed : (ssP ps).map prI = L'.map fun k => D.tup (k.2.map D.int) := by
              have : (L'.map fun k => D.tup (k.2.map D.int)) = (L'.map (·.2)).map fun ns => D.tup (ns.map D.int) := by rw [List.map_map]; rfl
              rw [this, eq, List.map_map]
              rfl
            have la2 : IsL X.mg pa F1 (upd H1 st (SetTO X.prog X.w st L)) ((ssP ps).map prI) (L'.map fun k => V.ref k.1) := by
              rw [ed]
              exact isL_tups fun k hkL => hL k (hpm.mem_iff.mp hkL)
            obtain ⟨s3, a3, e3, n3, f3, t3⟩ := new_lst (mg := X.mg) s2.base ht la2
            have ne : a3 ≠ st := fun z => by rw [z, upd_same] at n3; cases n3
            rw [upd_ne ne] at n3
            exact q1 _ F1 _ (s2.trans s3) ⟨a3, e3, n3, f3, t3⟩
        · cases e
    | _ => cases e
end
end M

set_option Elab.async false
set_option linter.all false
set_option maxRecDepth 100000
/-! sorted(a tuple), upwards and downwards; xs.count(k) of ints -/
namespace M
section
open PySem PySem.W PySem.Calls PyProof.Rows
variable {prog : Program} {w : World} {A : Around} {E : Value → Shared → Prop} {s : Shared}
theorem collect_tuple {l : Addr} {vs : List Value} {Q : List Value → Shared → Prop} (hl : s.heap.IsTuple l vs.toArray) (hsz : vs.length ≤ sizeLine)
    (h : Q vs { s with heap := (s.heap.push (seqObj "list" #[] 0)).update s.heap.objs.size (Obj.mapSeq (· ++ vs.toArray)) }) : wpAny (model prog w) A (collect (.ref l)) Q E s := by
  obtain ⟨o, ho, hc, n, hd⟩ := id hl
  have hp : ∀ {b : Addr} {o : Obj}, s.heap.get? b = some o → (s.heap.push (seqObj "list" #[] 0)).get? b = some o := fun e => Heap.get?_push_of_some _ e
  have hnew : (s.heap.push (seqObj "list" #[] 0)).get? s.heap.objs.size = some (seqObj "list" #[] 0) := Heap.get?_push_size _ rfl
  have e0 : ((#[] : Array Value) ++ vs.toArray).toList = vs := by simp
  have e1 : (#[] ++ vs.toArray : Array Value).size ≤ sizeLine + 1 := by
    rw [Array.size_append, List.size_toArray]
    exact Nat.le_trans (Nat.le_of_eq (Nat.zero_add _)) (Nat.le_succ_of_le hsz)
  unfold collect
  refine wpAny_bind (wpAny_runValue (codeAny_builtin entry_proto_collect' ?_))
  show wpAny _ _ (do again (.builtin "list.__iadd__" ⟨[← newList [], .ref l], []⟩)) _ _ s
  refine wpAny_bind (wpAny_newList (wpAny_pure ⟨Code.quiet_builtin _ (by decide +kernel), codeAny_builtin entry_list_iadd' ?_⟩))
  show wpAny _ _ (Builtin.List.listExtendWith (.ref s.heap.objs.size) (.ref l) (.ref s.heap.objs.size)) _ _ { s with heap := s.heap.push (seqObj "list" #[] 0) }
  unfold Builtin.List.listExtendWith
  refine wpAny_bind (wpAny_typeOf (T := "tuple") ⟨o, hp ho, hc⟩ ?_)
  rw [if_pos (by rw [show (Value.type "tuple" == Value.type "tuple") = true by rfl]; simp)]
  refine wpAny_bind (listItems_at (hp ho) hd (wpAny_bind (listItems_at (xs := #[]) (n := 0) hnew rfl ?_)))
  rw [if_neg (by simp)]
  refine wpAny_bind (listUpdate_at (xs := #[]) (n := 0) hnew rfl (wpAny_pure ?_) (Nat.zero_le _) e1)
  show wpAny (model prog w) A (do
      let o ← load s.heap.objs.size
      match o.data with
      | .seq xs _ => pure xs.toList
      | _ => unsupported "internal:collect") Q E _
  refine wpAny_bind (wpAny_load (get?_update_seq hnew _) ?_)
  show wpAny _ _ (pure ((#[] : Array Value) ++ vs.toArray).toList) Q E _
  rw [e0]
  exact wpAny_pure h
theorem sorted_of_tup {l : Addr} {vs : List Value} {kw : List (Str × Value)} {Q : Value → Shared → Prop} (hl : s.heap.IsTuple l vs.toArray) (hL : vs.length ≤ sizeLine) (ha1 : argsOk "sorted" ⟨[.ref l], kw⟩) (ha2 : ∀ x, argsOk "list.sort" ⟨[.ref x], kw⟩)
    (body : ∀ E' : Value → Shared → Prop, wpAny (model prog w) A.in1.in1 (Builtin.«list.sort» ⟨[.ref (s.heap.objs.size + 1)], kw⟩) (fun f s' => f = .done (.ret .none) ∧ Q (.ref (s.heap.objs.size + 1)) s') E' { s with heap := copyHeap s.heap vs }) :
    wpAny (model prog w) A (call (.builtin "sorted") [.ref l] kw) Q E s := by
  have hsz : ((s.heap.push (seqObj "list" #[] 0)).update s.heap.objs.size (Obj.mapSeq (· ++ vs.toArray))).objs.size = s.heap.objs.size + 1 := by
    rw [Heap.size_update, size_push']
  refine call_function_entry_kw kind_sorted plain_sorted entry_sorted ha1 ?_
  unfold Builtin.«sorted»
  refine wpAny_bind (m := checkCount "sorted" 1 1 _) (wpAny_pure (wpAny_bind (collect_tuple hl hL (wpAny_bind (wpAny_newList ?_ hL)))))
  show wpAny _ _ _ _ _ { s with heap := copyHeap s.heap vs }
  rw [hsz]
  refine wpAny_bind (wpAny_holding (wpAny_call_entry_kw slot_list_sort ⟨_, copyHeap_at s.heap vs, rfl⟩ entry_list_sort ?body (ha2 _)))
  case body =>
    show wpAny (model prog w) A.in1.in1 (Builtin.«list.sort» ⟨[.ref (s.heap.objs.size + 1)], kw⟩) _ _ _
    exact wpAny_mono (body _) (fun f s' hf => ⟨_, hf.1, wpAny_pure ⟨_, rfl, hf.2⟩⟩) fun _ _ e => e
variable {β : Type} {vs : List Value} {bs : List β} {enc : β → PyData} {R : Value → β → Prop}
theorem sorted_tup {l : Addr} {Q : Value → Shared → Prop} (hl : s.heap.IsTuple l vs.toArray) (e : EachIs R vs bs) (er : EachIs (fun v b => ∃ as, Reads s.heap v (enc b) as) vs bs) (hal : AllAlike (bs.map enc)) (hk : Sortable (bs.map enc)) (hL : bs.length ≤ sizeLine)
    (hu : ∀ b, b ∈ bs → A.units + 2 + (enc b).depth < cLine) (h : ∀ out, out.length = bs.length → EachIs R out (bs.mergeSort (dataLe false enc)) → Q (.ref (s.heap.objs.size + 1)) { s with heap := sortedAll s.heap vs (List.toArray out) }) :
    wpAny (model prog w) A (call (.builtin "sorted") [.ref l]) Q E s := by
  have er' : EachIs (fun v b => ∃ as, Reads (sortingHeap (copyHeap s.heap vs) (s.heap.objs.size + 1) vs) v (enc b) as) vs bs := er.mono fun _ _ ⟨as, r⟩ => ⟨as, Reads.keeps (fun _ _ => sorting_copy_old) r⟩
  have hL' : vs.length ≤ sizeLine := by rw [e.length]; exact hL
  refine sorted_of_tup hl hL' (args_sorted1 _) (fun _ => args_list_sort _) fun _ => list_sort_vals (s := { s with heap := copyHeap s.heap vs }) (copyHeap_at s.heap vs)
    (SortsAt.data (s := { s with heap := sortingHeap (copyHeap s.heap vs) (s.heap.objs.size + 1) vs }) (each_map (R := fun v d => ∃ as, Reads (sortingHeap (copyHeap s.heap vs) (s.heap.objs.size + 1) vs) v d as) enc er') hal hk (bound_map hu)) hL' ⟨rfl, ?_⟩
  exact h _ (by rw [sortVals_length false rfl]; exact e.length) (sortVals_data false e er' hal)
theorem sorted_rev_tup {l : Addr} {b : Bool} {Q : Value → Shared → Prop} (hl : s.heap.IsTuple l vs.toArray) (e : EachIs R vs bs) (er : EachIs (fun v b => ∃ as, Reads s.heap v (enc b) as) vs bs) (hal : AllAlike (bs.map enc)) (hk : Sortable (bs.map enc)) (hL : bs.length ≤ sizeLine)
    (hu : ∀ b, b ∈ bs → A.units + 2 + (enc b).depth < cLine) (h : ∀ out, out.length = bs.length → EachIs R out (bs.mergeSort (dataLe b enc)) → Q (.ref (s.heap.objs.size + 1)) { s with heap := sortedAll s.heap vs (List.toArray out) }) :
    wpAny (model prog w) A (call (.builtin "sorted") [.ref l] [(Str.ofString "reverse", .bool b)]) Q E s := by
  have er' : EachIs (fun v b => ∃ as, Reads (sortingHeap (copyHeap s.heap vs) (s.heap.objs.size + 1) vs) v (enc b) as) vs bs := er.mono fun _ _ ⟨as, r⟩ => ⟨as, Reads.keeps (fun _ _ => sorting_copy_old) r⟩
  have hL' : vs.length ≤ sizeLine := by rw [e.length]; exact hL
  refine sorted_of_tup hl hL' (args_sorted_rev _ _) (fun _ => args_list_sort_rev _ _) fun _ => list_sort_rev_vals (s := { s with heap := copyHeap s.heap vs }) (copyHeap_at s.heap vs)
    (SortsAt.data (s := { s with heap := sortingHeap (copyHeap s.heap vs) (s.heap.objs.size + 1) vs }) (each_map (R := fun v d => ∃ as, Reads (sortingHeap (copyHeap s.heap vs) (s.heap.objs.size + 1) vs) v d as) enc er') hal hk (bound_map hu)) hL' ⟨rfl, ?_⟩
  exact h _ (by rw [sortVals_length b rfl]; exact e.length) (sortVals_data b e er' hal)
end
open PySem PySem.Spec PyProof.Rows L2
section
variable {X : Cx} {pa : Pa} {F : Addr → Prop} {H : Hp} {mg : Str → Option Value}
def rSrtT (rev : Bool) (X : Cx) (xs : List V) (H : Hp) (Q : VK) : Prop := ∃ (a : Addr) (bs : List (V × D)), xs = [.ref a] ∧ SqT X.K H a (bs.map (·.1)) ∧ (∀ b ∈ bs, Dp X.K H b.1 (toPy b.2)) ∧ sortB (bs.map (·.2)) = true ∧
  ∀ p, H p = none → Q (.ref p) (upd H p (.lst ((bs.mergeSort (PySem.W.dataLe rev fun b => toPy b.2)).map (·.1))))
theorem call_srtT (hu : X.A.units + 65 < cLine) : CallR X (.builtin "sorted") (rSrtT false X) := by
  intro pins s σ H xs us Q I r h
  obtain ⟨a, bs, rfl, hs, hd, hb, q⟩ := h
  obtain rfl := Vals.ref1 r
  obtain ⟨its, rv, hl, hz⟩ := I.tuple hs
  obtain ⟨k1, k2, k3, k4⟩ := sortB_un hb
  exact sorted_tup (enc := fun b : V × D => toPy b.2) hl (each_rel rv) (each_reads I rv hd) k1 k2 k3 (fun b hb => by have := k4 b hb; omega) fun out ho eo => sorted_end I k3 q out ho eo
theorem call_srtRT (hu : X.A.units + 65 < cLine) : CallRK X (.builtin "sorted") [Str.ofString "reverse"] (fun xs zs H Q => zs = [.bl true] ∧ rSrtT true X xs H Q) := by
  intro pins s σ H xs zs us ws Q I r rz h
  obtain ⟨rfl, a, bs, rfl, hs, hd, hb, q⟩ := h
  obtain rfl := Vals.ref1 r
  obtain ⟨w1, rfl, e1⟩ := vals1 rz
  obtain rfl : w1 = Value.bool true := e1
  obtain ⟨its, rv, hl, hz⟩ := I.tuple hs
  obtain ⟨k1, k2, k3, k4⟩ := sortB_un hb
  exact sorted_rev_tup (enc := fun b : V × D => toPy b.2) hl (each_rel rv) (each_reads I rv hd) k1 k2 k3 (fun b hb => by have := k4 b hb; omega) fun out ho eo => sorted_end I k3 q out ho eo
def srtDT (rev : Bool) : D → Option D
  | .tup ds => if sortB ds = true then some (.lst (ds.mergeSort (PySem.W.dataLe rev toPy))) else none
  | _ => none
theorem srtT_m {rev : Bool} {p : Pot} {x : V} {dx d : D} {Q : VK} (b : Base pa F H p) (hx : JB X.mg pa H F H dx x) (e : srtDT rev dx = some d) (k : ∀ v F' H', Stp pa F H F' H' p → JN X.mg pa H F' H' d v → Q v H') : rSrtT rev X [x] H Q := by
  cases dx with
  | tup ds =>
    simp only [srtDT] at e
    split at e
    · rename_i hb
      cases e
      obtain ⟨a, us, rfl, ha, la⟩ := hx.tup
      obtain ⟨z1, z2, z3⟩ := isL_zip la
      have hb' := hb
      simp only [sortB, Bool.and_eq_true, decide_eq_true_eq] at hb'
      refine ⟨a, us.zip ds, rfl, by rw [z1]; exact SqT.of ha, fun q hq => dp_of 63 q.2 q.1 (dats_all hb'.1.1.1 q.2 (by rw [← z2]; exact List.mem_map.mpr ⟨q, hq, rfl⟩)) (z3 q hq), by rw [z2]; exact hb, fun q hq => ?_⟩
      have e2 : ds.mergeSort (PySem.W.dataLe rev toPy) = ((us.zip ds).mergeSort (PySem.W.dataLe rev fun b => toPy b.2)).map (·.2) := by
        rw [List.map_mergeSort (f := fun b : V × D => b.2) (r := PySem.W.dataLe rev fun b : V × D => toPy b.2) (s := PySem.W.dataLe rev toPy) (fun a _ b _ => rfl), z2]
      obtain ⟨s, i⟩ := new_lst (mg := X.mg) b hq (isL_of (bs := (us.zip ds).mergeSort (PySem.W.dataLe rev fun b => toPy b.2)) fun c hc => z3 c ((List.mergeSort_perm _ _).mem_iff.mp hc))
      rw [← e2] at i
      exact k _ F _ s i
    · cases e
  | _ => cases e
theorem c_srtT (hu : X.A.units + 65 < cLine) : ∃ r, CallR X (.builtin "sorted") r ∧ CallM X pa JN r (d1 (srtDT false)) := ⟨_, call_srtT hu, fun F H p vs ss d Q b j e k => by
  obtain ⟨x, e1, e2⟩ := d1_some e
  obtain ⟨v, rfl, jv⟩ := j.one e1
  exact srtT_m b jv e2 k⟩
/-- sorted(e, reverse=True) of a list or a tuple -/
def srtRU (d : D) : Option D := match d with
  | .tup _ => srtDT true d
  | _ => srtD true d
variable {F0 : Addr → Prop} {H0 : Hp}
theorem s_srtRU {e : Expr} {p kp pos : Pos} {j : Nat} {pc : Pos} {a : En → Pot → Res D} (hu : X.A.units + 65 < cLine) (hg : Gl X "sorted") (hx : X.mg "sorted" = none)
    (ha : SB X F0 H0 pa e a) (hs : starEach [e] X.env = [(false, eval e X.env)]) : SN X F0 H0 pa (.Call (.Name "sorted" p) [e] [⟨some (Str.ofString "reverse"), .Constant (.bool true) j pc, kp⟩] pos) (d1' a srtRU) := fun W tk => by
  have cr : CallRK X (.builtin "sorted") [Str.ofString "reverse"] (fun xs zs H Q => (zs = [.bl true] ∧ rSrt true X xs H Q) ∨ (zs = [.bl true] ∧ rSrtT true X xs H Q)) := fun pins s σ H xs zs us ws Q I r1 r2 q => by
    rcases q with q | q
    · exact call_srtR hu pins s σ H xs zs us ws Q I r1 r2 q
    · exact call_srtRT hu pins s σ H xs zs us ws Q I r1 r2 q
  refine PEimp (pe_callBK cr hg hx (by decide +kernel) (pa_cons (ha W tk) pa_nil hs) (pk_cons pe_bl pk_nil) (by decide) (by decide) (by rw [hs]; rfl) (by rw [hs]; rfl) (by rfl) (by rfl) (by rfl)) fun σ H Q ⟨F, ρ, p, rel, q⟩ => ?_
  refine seqE (J := JB X.mg pa) (g := fun d p1 => ofO (srtRU d) p1) backN rel q fun d p1 v F1 H1 s1 j1 r1 q1 => ?_
  cases e : srtRU d with
  | none => rw [e] at q1; exact q1.elim
  | some m =>
    rw [e] at q1
    cases d with
    | tup ds => exact .inr ⟨rfl, srtT_m r1.base j1 e fun v F' H' s j => q1 v F' H' s j⟩
    | _ => exact .inl ⟨rfl, srt_m r1.base j1 e fun v F' H' s j => q1 v F' H' s j⟩
end
end M

set_option Elab.async false
set_option linter.all false
set_option maxRecDepth 100000
/-! sorted(a dict with int keys); x in range(a, b) -/
namespace M
open PySem PySem.Spec PyProof.Rows L2
def intKeys : List (Key × D) → Option (List Int)
  | [] => some []
  | (.inl i, _) :: r => (intKeys r).map (i :: ·)
  | _ => none
theorem intKeys_some : ∀ {ds : List (Key × D)} {ks : List Int}, intKeys ds = some ks → ds.map (·.1) = ks.map Sum.inl
  | [], ks, h => by cases h; rfl
  | (.inl i, d) :: r, ks, h => by
    unfold intKeys at h
    cases e : intKeys r with
    | none => rw [e] at h; cases h
    | some qs =>
      rw [e] at h
      cases h
      simp [intKeys_some e]
  | (.inr z, d) :: r, ks, h => by simp [intKeys] at h
def insI (x : Int) : List Int → List Int
  | [] => [x]
  | y :: r => if x ≤ y then x :: y :: r else y :: insI x r
def srtI (l : List Int) : List Int := l.foldr insI []
theorem insI_perm {x : Int} : ∀ {l : List Int}, (insI x l).Perm (x :: l)
  | [] => .refl _
  | y :: r => by
    unfold insI
    split
    · exact .refl _
    · exact ((insI_perm (l := r)).cons y).trans (.swap ..)
theorem srtI_perm : ∀ (l : List Int), (srtI l).Perm l
  | [] => .refl _
  | x :: l => insI_perm.trans ((srtI_perm l).cons x)
theorem insI_up {x : Int} : ∀ {l : List Int}, l.Pairwise (· ≤ ·) → (insI x l).Pairwise (· ≤ ·)
  | [], _ => by simp [insI]
  | y :: r, h => by
    unfold insI
    have h' := List.pairwise_cons.mp h
    split
    · rename_i hl
      exact List.pairwise_cons.mpr ⟨fun z hz => by
        rcases List.mem_cons.mp hz with rfl | hz
        · exact hl
        · exact Int.le_trans hl (h'.1 z hz), h⟩
    · rename_i hl
      refine List.pairwise_cons.mpr ⟨fun z hz => ?_, insI_up h'.2⟩
      rcases List.mem_cons.mp (insI_perm.mem_iff.mp hz) with rfl | hz
      · omega
      · exact h'.1 z hz
theorem srtI_up : ∀ (l : List Int), (srtI l).Pairwise (· ≤ ·)
  | [] => .nil
  | x :: l => insI_up (srtI_up l)
theorem srtI_eq {l ys : List Int} (p : ys.Perm l) (u : ys.Pairwise (· ≤ ·)) : ys = srtI l :=
  List.Perm.eq_of_pairwise (fun a b _ _ h1 h2 => Int.le_antisymm h1 h2) u (srtI_up l) (p.trans (srtI_perm l).symm)
def srtDI : D → Option D
  | .dct kvs => match intKeys kvs with
    | some ks => if ks.length < 64 then some (.lst ((srtI ks).map D.int)) else none
    | none => none
  | _ => none
/-- of a list, or of a dict with int keys -/
def srtU (d : D) : Option D := match d with
  | .dct _ => srtDI d
  | .tup _ => srtDT false d
  | _ => srtD false d
section
variable {X : Cx} {F0 : Addr → Prop} {H0 : Hp} {pa : Pa}
theorem c_srtDI (hc : X.calm = true) : ∃ r, CallR X (.builtin "sorted") r ∧ CallM X pa JN r (d1 srtDI) := ⟨_, call_sortedDI hc, fun F H p vs ss d Q b j e k => by
  obtain ⟨x, e1, e2⟩ := d1_some e
  obtain ⟨v, rfl, jv⟩ := j.one e1
  cases x with
  | dct kvs =>
    unfold srtDI at e2
    cases hk : intKeys kvs with
    | none => simp only [hk] at e2; cases e2
    | some ks =>
      simp only [hk] at e2
      split at e2
      · rename_i hl
        cases e2
        obtain ⟨a, us, rfl, ha, la⟩ := jv.dct
        refine ⟨a, us, ks, rfl, Rd.of ha, la.keys.trans (intKeys_some hk), hl, fun ys t hp hu ht => ?_⟩
        obtain ⟨s, i⟩ := new_lst (mg := X.mg) b ht (isL_ints ys)
        rw [srtI_eq hp hu] at s i ⊢
        exact k _ F _ s i
      · cases e2
  | _ => cases e2⟩
theorem c_srtU (hc : X.calm = true) (hu : X.A.units + 65 < cLine) : ∃ r, CallR X (.builtin "sorted") r ∧ CallM X pa JN r (d1 srtU) := by
  obtain ⟨r1, a1, b1⟩ := c_srt (X := X) (pa := pa) hu
  obtain ⟨r2, a2, b2⟩ := c_srtDI (X := X) (pa := pa) hc
  obtain ⟨r3, a3, b3⟩ := c_srtT (X := X) (pa := pa) hu
  refine ⟨_, a1.or (a2.or a3), fun F H p vs ss d Q b j h k => ?_⟩
  obtain ⟨z, hz, e⟩ := d1_some h
  cases z with
  | dct kvs => exact .inr (.inl (b2 F H p vs ss d Q b j (by rw [hz]; exact e) k))
  | tup ds => exact .inr (.inr (b3 F H p vs ss d Q b j (by rw [hz]; exact e) k))
  | _ => exact .inl (b1 F H p vs ss d Q b j (by rw [hz]; exact e) k)
/-- x in range(a, b) -/
def inRg : D → List D → Option D
  | .int x, [.int lo, .int hi] => some (.bl (decide (lo ≤ x ∧ x < hi)))
  | _, _ => none
theorem inRg_some {d e : D} {l : List D} (h : inRg d l = some e) : ∃ x lo hi, d = .int x ∧ l = [.int lo, .int hi] ∧ e = .bl (decide (lo ≤ x ∧ x < hi)) := by
  unfold inRg at h
  split at h
  · cases h
    exact ⟨_, _, _, rfl, rfl, rfl⟩
  · cases h
@[simp] def dInRg (f : En → Pot → Res D) (as : En → Pot → Res (List Sl)) : En → Pot → Res D := fun ρ p => (f ρ p).bind fun d p1 => (as ρ p1).bind fun ss p2 => ofO (inRg d (ss.map Sl.d)) p2
def rInR : R2 := fun x y H Q => ∃ i a lo hi, x = V.int i ∧ y = V.ref a ∧ H a = some (.rng lo hi) ∧ Q (.bl (decide (lo ≤ i ∧ i < hi))) H
def rRng : List V → Hp → VK → Prop := fun vs H Q => ∃ i j, vs = [V.int i, V.int j] ∧ ∀ p, H p = none → Q (.ref p) (upd H p (.rng i j))
theorem inRg_run {W : WX} {f : En → Pot → Res D} {as : En → Pot → Res (List Sl)} : ∀ σ H Q, tX X.mg F0 H0 pa (JV X.mg pa) W (dInRg f as) σ H Q → tOp rInR (tX X.mg F0 H0 pa (JB X.mg pa) W f) (tCB rRng (tX X.mg F0 H0 pa (JAs' X.mg pa) W as)) σ H Q := fun σ H Q ⟨F, ρ, p, rel, q⟩ => by
  refine seqE (J := JB X.mg pa) (g := fun d p1 => (as ρ p1).bind fun ss p2 => ofO (inRg d (ss.map Sl.d)) p2) backV rel q fun d p1 v F1 H1 s1 j1 r1 q1 => ?_
  refine seqE (J := JAs' X.mg pa) (g := fun ss p2 => ofO (inRg d (ss.map Sl.d)) p2) backV r1 q1 fun ss p2 vs F2 H2 s2 j2 r2 q2 => ?_
  cases e : inRg d (ss.map Sl.d) with
  | none => rw [e] at q2; exact q2.elim
  | some z =>
    rw [e] at q2
    obtain ⟨x, lo, hi, rfl, el, rfl⟩ := inRg_some e
    obtain ⟨v1, v2, rfl, k1, k2⟩ := JAs.two j2 el
    refine ⟨lo, hi, by rw [k1.int, k2.int], fun t ht => ⟨x, t, lo, hi, j1.int, rfl, upd_same, ?_⟩⟩
    exact q2 _ F2 _ (r2.base.laid ht) rfl
theorem s_inRg {e b c : Expr} {p q pos : Pos} {f : En → Pot → Res D} {as : En → Pot → Res (List Sl)} (hg : Gl X "range") (hx : X.mg "range" = none) (hf : SB X F0 H0 pa e f) (ha : SA X F0 H0 pa [b, c] as)
    (hs : starEach [b, c] X.env = (false, eval b X.env) :: starEach [c] X.env) (hs2 : (backTo q (starEach [c] X.env)).any (·.1) = false) (hm : behindInMarks .In (.Call (.Name "range" p) [b, c] [] q) = false) : SV X F0 H0 pa (.Compare e [.In] [.Call (.Name "range" p) [b, c] [] q] pos) (dInRg f as) := fun W tk =>
  PEimp (pe_cmpR op_in_rng (hf W tk) (pe_callTy cr_range2 hg hx (by decide +kernel) (ha W tk) (by decide) (by decide) hs hs2) hm) inRg_run
end
end M

set_option Elab.async false
set_option linter.all false
set_option maxRecDepth 100000
/-! dict(a list of pairs whose keys are tuples) -/
namespace M
open PySem PySem.Spec PyProof.Rows L2
/-- the pairs' own addresses, the keys, where they lie, the values -/
abbrev Pk4 := List L2.Key × Addr × V
def mergeT (acc : List (List L2.Key × V)) (ks : List Pk4) : List (List L2.Key × V) := ks.foldl (fun acc q => putK acc q.1 q.2.2) acc
theorem kt_merge {H : Hp} {ks : List Pk4} {rs : List (List L2.Key × Addr × Value)} (t : Paired (fun (q : Pk4) (r : List L2.Key × Addr × Value) => q.1 = r.1 ∧ H r.2.1 = some (.tup (q.1.map kV)) ∧ RelV q.2.2 r.2.2) ks rs) : ∀ {acc : List (List L2.Key × V)} {xs : List (List L2.Key × Addr × Value)}, KT H acc xs → KT H (mergeT acc ks) (storedAllH xs rs) := by
  induction t with
  | nil => exact fun h => h
  | @cons q r qs rs z t ih =>
    intro acc xs h
    obtain ⟨e, hb, rv⟩ := z
    have := KT.put h q.1 hb rv
    rw [e] at this
    have := ih this
    show KT H (qs.foldl (fun acc q => putK acc q.1 q.2.2) (putK acc q.1 q.2.2)) (rs.foldl (fun acc p => storedH acc p.1 p.2.1 p.2.2) (storedH xs r.1 r.2.1 r.2.2))
    rw [e]
    exact this
theorem mergeT_len : ∀ (ks : List Pk4) (acc : List (List L2.Key × V)), (mergeT acc ks).length ≤ acc.length + ks.length
  | [], acc => Nat.le_refl _
  | q :: ks, acc => by
    have := mergeT_len ks (putK acc q.1 q.2.2)
    have h : (putK acc q.1 q.2.2).length ≤ acc.length + 1 := by
      unfold putK
      split
      · rw [List.length_map]; omega
      · simp
    show (mergeT (putK acc q.1 q.2.2) ks).length ≤ _
    rw [List.length_cons]
    omega
section
variable {X : Cx}
theorem pairs_ofT {pins : List (Addr × Obj)} {σ : L2.St} {H : Hp} {s : Shared} (I : Inv X pins σ H s) {ps : List Addr} {ks : List Pk4} (h : Paired (fun p (q : Pk4) => SqT X.K H p [V.ref q.2.1, q.2.2] ∧ H q.2.1 = some (.tup (q.1.map kV))) ps ks) :
    ∃ rs : List (List L2.Key × Addr × Value), Paired (fun (q : Pk4) (r : List L2.Key × Addr × Value) => q.1 = r.1 ∧ H r.2.1 = some (.tup (q.1.map kV)) ∧ RelV q.2.2 r.2.2) ks rs ∧ rs.length = ps.length ∧ ∀ (j : Nat) (r : List L2.Key × Addr × Value), rs[j]? = some r → ∃ b : Addr, ps[j]? = some b ∧ IsTup s.heap b #[.ref r.2.1, r.2.2] ∧ H r.2.1 = some (.tup (r.1.map kV)) := by
  induction h with
  | nil => exact ⟨[], .nil, rfl, fun j r e => by simp at e⟩
  | @cons p q ps qs z t ih =>
    obtain ⟨rs, r1, r2, r3⟩ := ih
    obtain ⟨z1, z2⟩ := z
    obtain ⟨its, rv, ht, _⟩ := I.tuple z1
    obtain ⟨u, y, ei, ru, ry⟩ := vals2 rv
    subst ei
    obtain rfl : u = Value.ref q.2.1 := ru
    refine ⟨(q.1, q.2.1, y) :: rs, .cons ⟨rfl, z2, ry⟩ r1, by simp [r2], fun j r e => ?_⟩
    cases j with
    | zero =>
      have e : (q.1, q.2.1, y) = r := Option.some.inj e
      subst e
      exact ⟨p, rfl, ht, z2⟩
    | succ j =>
      obtain ⟨b, e1, e2, e3⟩ := r3 j r (by simpa using e)
      exact ⟨b, by simpa using e1, e2, e3⟩
theorem call_dictT (hcalm : X.calm = true) (hu : X.A.units + 3 < cLine) : CallR X (.type "dict") (fun xs H Q => ∃ (a : Addr) (ps : List Addr) (ks : List Pk4), xs = [.ref a] ∧ SqL X.K H a (ps.map V.ref) ∧ Paired (fun p (q : Pk4) => SqT X.K H p [V.ref q.2.1, q.2.2] ∧ H q.2.1 = some (.tup (q.1.map kV))) ps ks ∧
    ∀ p, H p = none → Q (.ref p) (upd H p (.dT (mergeT [] ks)))) := by
  intro pins s σ H xs us Q I r q
  obtain ⟨a, ps, ks, ex, hq, hp, q⟩ := q
  subst ex
  obtain ⟨u, eu, rx⟩ := vals1 r
  subst eu
  cases rx
  obtain ⟨its, rv, pl, hz⟩ := I.list hq
  have ei := refs_at rv
  subst ei
  rw [List.length_map] at hz
  obtain ⟨rs, r1, r2, r3⟩ := pairs_ofT I hp
  obtain ⟨o, n, ho, hc, hd, hdat⟩ := pl
  have P := PairArg.list (prog := X.prog) (w := X.w) a (ps.map Value.ref).toArray (fun j => ps.getD j 0) (rs.map fun r => (Value.ref r.2.1, r.2.2))
  refine call_dict_pairsH (knd := tupleKind (mixKind X.prog X.w)) (ps := rs) P (I.ok.hd hcalm) ?_ ⟨⟨o, n, ho, hc, hd, hdat⟩, ?_, fun j k v e => ?_⟩ ⟨by simp, fun i key v e => ?_⟩ (fun h' hk x hx => ?_) (by simpa [r2] using hz) fun h' tk hd' k => ?_
  · show X.A.units + 1 + 1 < cLine
    omega
  · simp [r2]
  · rw [List.getElem?_map] at e
    cases er : rs[j]? with
    | none => rw [er] at e; cases e
    | some r =>
      rw [er] at e
      cases e
      obtain ⟨b, e1, e2, e3⟩ := r3 j r er
      have hg : ps.getD j 0 = b := by simp [List.getD_eq_getElem?_getD, e1]
      exact ⟨by simp [e1, hg], .inl (by show s.heap.IsTuple (ps.getD j 0) _; rw [hg]; exact e2)⟩
  · have e : (rs.map fun r => (Value.ref r.2.1, r.2.2))[i]? = some (key, v) := e
    rw [List.getElem?_map] at e
    cases er : rs[i]? with
    | none => rw [er] at e; cases e
    | some r =>
      rw [er] at e
      cases e
      exact ⟨r.1, r.2.1, rfl, rfl⟩
  · obtain ⟨j, hj, rfl⟩ := List.getElem_of_mem hx
    obtain ⟨b, _, _, e3⟩ := r3 j _ (List.getElem?_eq_getElem hj)
    obtain ⟨o', its', n', h1, h2, h3, h4⟩ := key_of I.hok e3
    exact ⟨o', its', n', hk _ _ (Nat.ne_of_lt (Heap.lt_size h1)) (by simp) h1, h2, h3, h4⟩
  · have hm : (s.heap.objs.size == sysModules) = false := beq_eq_false_iff_ne.mpr (Nat.ne_of_gt I.big)
    have kt : KT H (mergeT [] ks) (storedAllH [] rs) := kt_merge r1 .nil
    have hlen : (mergeT [] ks).length ≤ sizeLine := Nat.le_trans (mergeT_len ks []) (by
      have := Paired.length r1
      simp
      omega)
    obtain ⟨o2, es, ep, h1, h2, h3, h4, h5, h6⟩ := hd'
    exact ⟨.ref s.heap.objs.size, upd H s.heap.objs.size (.dT (mergeT [] ks)), I.laid (t' := tk) (fun b o e => k b o (by simp) e) (Nat.le_refl _) (show ObjOk X.prog X.w _ _ _ (.dT (mergeT [] ks)) from ⟨hlen, hm, storedAllH [] rs, KT.keeps kt (fun b ys e => by
      rw [upd_ne (fun z => by rw [z, I.hok.fresh (Nat.le_refl _)] at e; cases e)]
      exact e), o2, es, ep, h1, h2, h3, h4, h6⟩), rfl, q _ (I.hok.fresh (Nat.le_refl _))⟩
end
/-! len(dict(pairs)) -/
def keysOf : List D → Option (List L2.Key)
  | [] => some []
  | d :: r => match keyOf d, keysOf r with
    | some k, some ks => some (k :: ks)
    | _, _ => none
def pairKeys : List D → Option (List (List L2.Key))
  | [] => some []
  | .tup [.tup ks, _] :: r => match keysOf ks, pairKeys r with
    | some k, some t => some (k :: t)
    | _, _ => none
  | _ => none
def dedK (acc : List (List L2.Key)) : List (List L2.Key) → List (List L2.Key)
  | [] => acc
  | k :: r => dedK (if (acc.any fun x => decide (x = k)) = true then acc else acc ++ [k]) r
def ldtD : D → Option D
  | .lst ds => (pairKeys ds).map fun ks => .int ((dedK [] ks).length : Nat)
  | _ => none
theorem mergeT_keys : ∀ (ks : List Pk4) (acc : List (List L2.Key × V)), (mergeT acc ks).map (·.1) = dedK (acc.map (·.1)) (ks.map (·.1))
  | [], acc => rfl
  | q :: ks, acc => by
    show (mergeT (putK acc q.1 q.2.2) ks).map (·.1) = dedK (if ((acc.map (·.1)).any fun x => decide (x = q.1)) = true then acc.map (·.1) else acc.map (·.1) ++ [q.1]) (ks.map (·.1))
    rw [mergeT_keys ks]
    congr 1
    unfold putK
    rw [List.any_map]
    show List.map _ (if (acc.any fun kv => decide (kv.1 = q.1)) = true then _ else _) = if (acc.any fun kv => decide (kv.1 = q.1)) = true then _ else _
    split
    · rw [List.map_map]
      refine List.map_congr_left fun x _ => ?_
      show (if x.1 = q.1 then (x.1, q.2.2) else x).1 = x.1
      split <;> rfl
    · simp
section
variable {mg : Str → Option Value} {pa : Pa} {F : Addr → Prop} {H : Hp}
theorem keys_is : ∀ {ds : List D} {ks : List L2.Key} {us : List V}, keysOf ds = some ks → IsL mg pa F H ds us → us = ks.map kV
  | [], ks, us, h, l => by cases h; exact l
  | d :: r, ks, us, h, l => by
    unfold keysOf at h
    split at h
    · rename_i k ks' h1 h2
      cases h
      obtain ⟨v, w, rfl, i1, i2⟩ := l
      rw [keys_is h2 i2]
      cases d with
      | int i => cases h1; obtain rfl : v = .int i := i1; rfl
      | str i => cases h1; obtain rfl : v = .str i := i1; rfl
      | _ => cases h1
    · cases h
theorem pks_of {K : PySem.W.Frag} : ∀ {ds : List D} {kk : List (List L2.Key)} {us : List V}, pairKeys ds = some kk → IsL mg pa F H ds us → ∃ (ps : List Addr) (ks : List Pk4), us = ps.map V.ref ∧ ks.map (·.1) = kk ∧ Paired (fun p (q : Pk4) => SqT K H p [V.ref q.2.1, q.2.2] ∧ H q.2.1 = some (.tup (q.1.map kV))) ps ks
  | [], kk, us, h, l => by cases h; exact ⟨[], [], l, rfl, .nil⟩
  | d :: r, kk, us, h, l => by
    unfold pairKeys at h
    split at h
    · rename_i h0; cases h0
    · rename_i ds' x r' h0
      cases h0
      split at h
      · rename_i k t h1 h2
        cases h
        obtain ⟨v, w, rfl, i1, i2⟩ := l
        obtain ⟨ps, ks, rfl, e2, e3⟩ := pks_of h2 i2
        obtain ⟨a, xs, rfl, ha, hl⟩ := i1
        obtain ⟨y1, r1, rfl, j1, y2, r2, rfl, j2, j3⟩ := hl
        obtain rfl : r2 = [] := j3
        obtain ⟨b, zs, rfl, hb, hz⟩ := j1
        rw [keys_is h1 hz] at hb
        exact ⟨a :: ps, (k, b, y2) :: ks, rfl, by simp [e2], .cons ⟨SqT.of ha, hb⟩ e3⟩
      · cases h
    · cases h
end
section
variable {X : Cx} {F0 : Addr → Prop} {H0 : Hp} {pa : Pa}
theorem s_ldt {e : Expr} {p p2 q pos : Pos} {a : En → Pot → Res D} (hc : X.calm = true) (hu : X.A.units + 3 < cLine) (hg : Gl X "len") (hx : X.mg "len" = none) (hg2 : Gl X "dict") (hx2 : X.mg "dict" = none)
    (ha : SB X F0 H0 pa e a) (hs : starEach [e] X.env = [(false, eval e X.env)]) : SV X F0 H0 pa (.Call (.Name "len" p) [.Call (.Name "dict" p2) [e] [] q] [] pos) (d1' a ldtD) := fun W tk => by
  refine PEimp (pe_callB call_len_dT hg hx (by decide +kernel) (pa_cons (pe_callTy (call_dictT hc hu) hg2 hx2 (by decide +kernel) (pa_cons (ha W tk) pa_nil hs) (by decide) (by decide) hs (by rfl)) pa_nil (by rfl)) (by decide) (by decide) (by rfl) (by rfl)) fun σ H Q ⟨F, ρ, p, rel, q⟩ => ?_
  refine seqE (J := JB X.mg pa) (g := fun d p1 => ofO (ldtD d) p1) backV rel q fun d p1 v F1 H1 s1 j1 r1 q1 => ?_
  cases e : ldtD d with
  | none => rw [e] at q1; exact q1.elim
  | some m =>
    rw [e] at q1
    cases d with
    | lst ds =>
      simp only [ldtD] at e
      cases hp : pairKeys ds with
      | none => rw [hp] at e; cases e
      | some kk =>
        rw [hp] at e
        cases e
        obtain ⟨a', us, rfl, ha', la⟩ := j1.lst
        obtain ⟨ps, ks, rfl, e2, e3⟩ := pks_of (K := X.K) hp la
        refine ⟨a', ps, ks, rfl, SqL.of ha', e3, fun st hst => ⟨st, mergeT [] ks, rfl, upd_same, ?_⟩⟩
        have hl : (mergeT [] ks).length = (dedK [] kk).length := by
          have := congrArg List.length (mergeT_keys ks [])
          rw [List.length_map, e2] at this
          exact this
        rw [hl]
        exact q1 _ F1 _ (r1.base.laid hst) rfl
    | _ => cases e
end
end M

set_option Elab.async false
set_option linter.all false
set_option maxRecDepth 100000
/-! len(set(xs)): xs a list or tuple of ints, or a list of tuples of ints -/
namespace M
open PySem PySem.Spec PyProof.Rows L2
/-- each once, in order of the first -/
def dedG {α : Type} [BEq α] (l : List α) : List α := l.foldl (fun σ k => if σ.any (· == k) then σ else σ ++ [k]) []
section
variable {α : Type} [BEq α] [LawfulBEq α]
theorem dedG_go : ∀ (l acc : List α), acc.Nodup → (l.foldl (fun σ k => if σ.any (· == k) then σ else σ ++ [k]) acc).Nodup ∧ ∀ x, x ∈ l.foldl (fun σ k => if σ.any (· == k) then σ else σ ++ [k]) acc ↔ x ∈ acc ∨ x ∈ l
  | [], acc, h => ⟨h, fun x => by simp⟩
  | k :: l, acc, h => by
    rw [List.foldl_cons]
    by_cases hk : acc.any (· == k) = true
    · rw [if_pos hk]
      obtain ⟨a, b⟩ := dedG_go l acc h
      refine ⟨a, fun x => ?_⟩
      rw [b, List.mem_cons]
      obtain ⟨y, hy, e⟩ := List.any_eq_true.mp hk
      obtain rfl : y = k := eq_of_beq e
      constructor
      · rintro (z | z)
        · exact .inl z
        · exact .inr (.inr z)
      · rintro (z | rfl | z)
        · exact .inl z
        · exact .inl hy
        · exact .inr z
    · rw [if_neg hk]
      have nk : k ∉ acc := fun z => hk (List.any_eq_true.mpr ⟨k, z, beq_self_eq_true k⟩)
      have h' : (acc ++ [k]).Nodup := List.nodup_append.mpr ⟨h, by simp, fun a ha b hb e => by
        rw [List.mem_singleton] at hb
        rw [e, hb] at ha
        exact nk ha⟩
      obtain ⟨a, b⟩ := dedG_go l (acc ++ [k]) h'
      refine ⟨a, fun x => ?_⟩
      rw [b, List.mem_append, List.mem_singleton, List.mem_cons]
      constructor
      · rintro ((z | z) | z)
        · exact .inl z
        · exact .inr (.inl z)
        · exact .inr (.inr z)
      · rintro (z | z | z)
        · exact .inl (.inl z)
        · exact .inl (.inr z)
        · exact .inr z
theorem dedG_nodup (l : List α) : (dedG l).Nodup := (dedG_go l [] List.nodup_nil).1
theorem mem_dedG (l : List α) (x : α) : x ∈ dedG l ↔ x ∈ l := by
  refine ((dedG_go l [] List.nodup_nil).2 x).trans ⟨fun h => h.elim (fun z => by cases z) id, .inr⟩
theorem dedG_len {l ys : List α} (nd : ys.Nodup) (h : ∀ x, x ∈ ys ↔ x ∈ l) : ys.length = (dedG l).length :=
  ((List.perm_ext_iff_of_nodup nd (dedG_nodup l)).mpr fun x => (h x).trans (mem_dedG l x).symm).length_eq
theorem dedG_of_nodup {l : List α} (nd : l.Nodup) : (dedG l).length = l.length := (dedG_len nd fun _ => Iff.rfl).symm
theorem dedG_le (l : List α) : (dedG l).length ≤ l.length := by
  have h := List.Nodup.length_le_of_subset (dedG_nodup l) (l₂ := l) fun x hx => (mem_dedG l x).mp hx
  exact h
theorem dedG_lt {l : List α} (h : ¬ l.Nodup) : (dedG l).length < l.length := by
  have gen : ∀ l : List α, ¬ l.Nodup → ∃ l' : List α, l'.length < l.length ∧ ∀ x, x ∈ l ↔ x ∈ l' := by
    intro l
    induction l with
    | nil => intro h; exact (h List.nodup_nil).elim
    | cons a l ih =>
      intro h
      by_cases ha : a ∈ l
      · exact ⟨l, by simp, fun x => by
          rw [List.mem_cons]
          exact ⟨fun z => z.elim (fun e => e ▸ ha) id, .inr⟩⟩
      · obtain ⟨l', h1, h2⟩ := ih fun nd => h (List.nodup_cons.mpr ⟨ha, nd⟩)
        exact ⟨a :: l', by simpa using h1, fun x => by rw [List.mem_cons, List.mem_cons, h2]⟩
  obtain ⟨l', h1, h2⟩ := gen l h
  have := List.Nodup.length_le_of_subset (dedG_nodup l) (l₂ := l') fun x hx => (h2 x).mp ((mem_dedG l x).mp hx)
  omega
end
/-- a set, by how many it holds -/
def cnO (a : Addr) (n : Nat) : HO := .ext fun h => ∃ o es ep t, h.get? a = some o ∧ o.ExactSet ∧ o.data = .set es ep t ∧ t.fits es.size = true ∧ (es.size : Int) < 2 ^ 63 ∧ es.size = n
theorem cn_new {P : Program} {w : World} {H : Hp} {h : Heap} {a : Addr} {n : Nat} (x : ∃ o es ep t, h.get? a = some o ∧ o.ExactSet ∧ o.data = .set es ep t ∧ t.fits es.size = true ∧ (es.size : Int) < 2 ^ 63 ∧ es.size = n) : ObjOk P w H h a (cnO a n) := by
  refine ⟨x, ?_, fun g1 g2 ⟨o, es, ep, t, ho, r⟩ k => ⟨o, es, ep, t, k _ ho, r⟩⟩
  obtain ⟨o, _, _, _, ho, _⟩ := x
  exact ⟨o, ho⟩
section
variable {X : Cx}
theorem call_lenC : CallR X (.builtin "len") (fun xs H Q => ∃ a n, xs = [.ref a] ∧ H a = some (cnO a n) ∧ Q (.int (n : Nat)) H) := by
  intro pn s σ H xs us Q I r hyp
  obtain ⟨a, n, rfl, e, q⟩ := hyp
  obtain ⟨u, rfl, rx⟩ := vals1 r
  cases rx
  obtain ⟨⟨o, es, ep, t, ho, hx, hd, hf, hb, hn⟩, _⟩ := (show ObjOk X.prog X.w H s.heap a (cnO a n) from I.hok a _ e)
  exact call_len_set ho hx hd hf hb ⟨.int (n : Nat), H, I.tok _, ⟨_, by rw [hn]⟩, q⟩
theorem getD_range : ∀ ns : List Int, (List.range ns.length).map (fun i => ns.getD i 0) = ns := fun ns => by
  refine List.ext_getElem (by simp) fun i h1 h2 => ?_
  simp [List.getElem?_eq_getElem h2]
theorem call_setC (hc : X.calm = true) (hu : X.A.units + 3 < cLine) : CallR X (.type "set") (fun xs H Q => ∃ l, xs = [V.ref l] ∧ ((∃ ns : List Int, (SqL X.K H l (ns.map V.int) ∨ SqT X.K H l (ns.map V.int)) ∧ ns.length < 64 ∧ ∀ p, H p = none → Q (.ref p) (upd H p (cnO p (dedG ns).length))) ∨
    ∃ ks : List (Addr × List Int), SqL X.K H l (ks.map fun p => V.ref p.1) ∧ (∀ p ∈ ks, SqT X.K H p.1 (p.2.map V.int)) ∧ ks.length < 64 ∧ ∀ p, H p = none → Q (.ref p) (upd H p (cnO p (dedG (ks.map (·.2))).length)))) := by
  intro pn s σ H xs us Q I r hyp
  obtain ⟨l, rfl, hyp⟩ := hyp
  rw [Vals.ref1 r]
  have hn : H s.heap.objs.size = none := I.hok.fresh (Nat.le_refl _)
  have fin : ∀ (n : Nat) (h' : Heap) (tk : Nat), (∀ b o, s.heap.get? b = some o → h'.get? b = some o) → (∃ o es ep t, h'.get? s.heap.objs.size = some o ∧ o.ExactSet ∧ o.data = .set es ep t ∧ t.fits es.size = true ∧ (es.size : Int) < 2 ^ 63 ∧ es.size = n) →
      (∀ p, H p = none → Q (.ref p) (upd H p (cnO p n))) → EP X pn σ Q (.ref s.heap.objs.size) { s with heap := h', toks := tk } := fun n h' tk k x q =>
    ⟨.ref s.heap.objs.size, upd H s.heap.objs.size (cnO s.heap.objs.size n), I.laid (t' := tk) k (Nat.le_refl _) (cn_new x), rfl, q _ hn⟩
  have b63 : ∀ n : Nat, n < 16777216 → (n : Int) < 2 ^ 63 := fun n h => by
    have : (2 : Int) ^ 63 = 9223372036854775808 := by decide
    omega
  rcases hyp with ⟨ns, hl, h64, q⟩ | ⟨ks, hl, hk, h64, q⟩
  · rcases hl with hl | hl
    · obtain ⟨its, rv, pl, hz⟩ := I.list hl
      have hsz : its.toArray.size = ns.length := by rw [List.size_toArray, ← rv.length, List.length_map]
      refine PySem.call_set_list (I.ok.hd hc) pl.isList (ns := ns) (by simpa using rv.ints) (by rw [hsz]; unfold scanBound; omega) fun h' tk hS hk => fin _ h' tk (fun b o e => hk b o (Heap.lt_size e) e) ?_ q
      have e1 : PyProof.Rows.firstMet (fun i => ns.getD i 0) its.toArray.size = dedG ns := by
        unfold PyProof.Rows.firstMet
        rw [hsz, getD_range]
        rfl
      rw [e1] at hS
      obtain ⟨o, es, ep, t, ho, hx, hd, _, _, hb, hf, he⟩ := hS
      have := dedG_le ns
      exact ⟨o, es, ep, t, ho, hx, hd, hf, b63 _ (by omega), he⟩
    · obtain ⟨its, rv, pl, hz⟩ := I.tuple hl
      have hsz : its.toArray.size = ns.length := by rw [List.size_toArray, ← rv.length, List.length_map]
      refine call_set_tupI ns (I.ok.hd hc) pl (by simpa using rv.ints) (by unfold scanBound; omega) fun h' tk c R hc' hk => fin _ h' tk hk ?_ q
      obtain ⟨o, es, ep, t, ho, hx, hd, g, nd, hm, hb, hf, he, _⟩ := R
      have el : es.size = (dedG ns).length := by
        rw [← dedG_len nd (l := ns) fun x => by rw [← hm x]; exact decide_eq_true_iff, List.length_map, Array.length_toList]
      have := dedG_le ns
      exact ⟨o, es, ep, t, ho, hx, hd, hf, b63 _ (by omega), el⟩
  · obtain ⟨its, rv, pl, hz⟩ := I.list hl
    refine call_set_tups (P := X.prog) (w := X.w) ks (I.ok.hd hc) pl.isList (by simpa using refs_of_vals rv) (fun p hp => I.isT (hk p hp)) h64 hu fun h' tk L es ep t R g k => fin _ h' tk k ?_ q
    have hs := congrArg List.length R.rows
    have hsz : es.size = L.length := by
      unfold rowsOf at hs
      rw [Array.length_toList, List.length_map] at hs
      exact hs
    have hfit : t.fits es.size = true := SetTR.fits (s := { s with heap := h' }) R
    have el : L.length = (dedG (ks.map (·.2))).length := by
      rw [← dedG_len R.nd (l := ks.map (·.2)) fun x => ?_, List.length_map]
      constructor
      · intro hx
        obtain ⟨p, hp, rfl⟩ := List.mem_map.mp hx
        exact List.mem_map.mpr ⟨p, List.mem_of_mem_take (g.sub p hp), rfl⟩
      · intro hx
        obtain ⟨p, hp, rfl⟩ := List.mem_map.mp hx
        exact g.all p (by rw [List.take_length]; exact hp)
    obtain ⟨o, ho, hx, hd⟩ := R.ob
    have hf := R.few
    exact ⟨o, es, ep, t, ho, hx, hd, hfit, b63 _ (by omega), by rw [hsz, el]⟩
end
/-! as data -/
def rowsI : List D → Option (List (List Int))
  | [] => some []
  | .tup xs :: r => match intsOf xs, rowsI r with
    | some ns, some t => some (ns :: t)
    | _, _ => none
  | _ => none
def lsetD : D → Option D
  | .lst ds => match intsOf ds with
    | some ns => if ns.length < 64 then some (.int ((dedG ns).length : Nat)) else none
    | none => match rowsI ds with
      | some ks => if ks.length < 64 then some (.int ((dedG ks).length : Nat)) else none
      | none => none
  | .tup ds => match intsOf ds with
    | some ns => if ns.length < 64 then some (.int ((dedG ns).length : Nat)) else none
    | none => none
  | _ => none
section
variable {mg : Str → Option Value} {pa : Pa} {F : Addr → Prop} {H : Hp}
theorem rowsI_is : ∀ {ds : List D} {kk : List (List Int)} {us : List V}, rowsI ds = some kk → IsL mg pa F H ds us → ∃ ks : List (Addr × List Int), us = (ks.map fun p => V.ref p.1) ∧ ks.map (·.2) = kk ∧ ∀ k ∈ ks, H k.1 = some (.tup (k.2.map V.int))
  | [], kk, us, h, l => by cases h; exact ⟨[], l, rfl, fun k hk => by cases hk⟩
  | d :: r, kk, us, h, l => by
    unfold rowsI at h
    split at h
    · rename_i h0; cases h0
    · rename_i xs r' h0
      cases h0
      split at h
      · rename_i ns t e1 e2
        cases h
        obtain ⟨v, w, rfl, i1, i2⟩ := l
        obtain ⟨ks, rfl, q1, q2⟩ := rowsI_is e2 i2
        obtain ⟨a, ys, rfl, ha, hl⟩ := i1
        rw [intsOf_some e1] at hl
        rw [IsL.ints hl] at ha
        refine ⟨(a, ns) :: ks, rfl, by rw [List.map_cons, q1], fun k hk => ?_⟩
        rcases List.mem_cons.mp hk with rfl | hk
        · exact ha
        · exact q2 k hk
      · cases h
    · cases h
end
section
variable {X : Cx} {F0 : Addr → Prop} {H0 : Hp} {pa : Pa}
theorem s_lset {e : Expr} {p p2 q pos : Pos} {a : En → Pot → Res D} (hc : X.calm = true) (hu : X.A.units + 3 < cLine) (hg : Gl X "len") (hx : X.mg "len" = none) (hg2 : Gl X "set") (hx2 : X.mg "set" = none)
    (ha : SB X F0 H0 pa e a) (hs : starEach [e] X.env = [(false, eval e X.env)]) : SV X F0 H0 pa (.Call (.Name "len" p) [.Call (.Name "set" p2) [e] [] q] [] pos) (d1' a lsetD) := fun W tk => by
  refine PEimp (pe_callB call_lenC hg hx (by decide +kernel) (pa_cons (pe_callTy (call_setC hc hu) hg2 hx2 (by decide +kernel) (pa_cons (ha W tk) pa_nil hs) (by decide) (by decide) hs (by rfl)) pa_nil (by rfl)) (by decide) (by decide) (by rfl) (by rfl)) fun σ H Q ⟨F, ρ, p, rel, q⟩ => ?_
  refine seqE (J := JB X.mg pa) (g := fun d p1 => ofO (lsetD d) p1) backV rel q fun d p1 v F1 H1 s1 j1 r1 q1 => ?_
  have fin : ∀ n : Nat, post X.mg pa (JV X.mg pa) (wx W) F1 σ H1 (.ok (.int (n : Nat)) p1) Q → ∀ st, H1 st = none → ∃ a n', [V.ref st] = [V.ref a] ∧ (upd H1 st (cnO st n)) a = some (cnO a n') ∧ Q (.int (n' : Nat)) (upd H1 st (cnO st n)) := fun n q st hst => ⟨st, n, rfl, upd_same, q _ F1 _ (r1.base.laid hst) rfl⟩
  cases d with
  | lst ds =>
    obtain ⟨a', us, rfl, ha', la⟩ := j1.lst
    simp only [lsetD] at q1
    cases e1 : intsOf ds with
    | some ns =>
      rw [e1] at q1
      simp only at q1
      split at q1
      · rename_i hl
        rw [intsOf_some e1] at la
        rw [IsL.ints la] at ha'
        exact ⟨a', rfl, .inl ⟨ns, .inl (SqL.of ha'), hl, fun st hst => fin _ q1 st hst⟩⟩
      · exact q1.elim
    | none =>
      rw [e1] at q1
      simp only at q1
      cases e2 : rowsI ds with
      | none => rw [e2] at q1; exact q1.elim
      | some kk =>
        rw [e2] at q1
        simp only at q1
        split at q1
        · rename_i hl
          obtain ⟨ks, rfl, rfl, hk⟩ := rowsI_is e2 la
          exact ⟨a', rfl, .inr ⟨ks, SqL.of ha', fun k hk' => SqT.of (hk k hk'), by simpa using hl, fun st hst => fin _ q1 st hst⟩⟩
        · exact q1.elim
  | tup ds =>
    obtain ⟨a', us, rfl, ha', la⟩ := j1.tup
    simp only [lsetD] at q1
    cases e1 : intsOf ds with
    | some ns =>
      rw [e1] at q1
      simp only at q1
      split at q1
      · rename_i hl
        rw [intsOf_some e1] at la
        rw [IsL.ints la] at ha'
        exact ⟨a', rfl, .inl ⟨ns, .inr (SqT.of ha'), hl, fun st hst => fin _ q1 st hst⟩⟩
      · exact q1.elim
    | none => rw [e1] at q1; exact q1.elim
  | _ => exact q1.elim
end
end M

set_option Elab.async false
set_option linter.all false
set_option maxRecDepth 100000
/-! targets, what is walked, comprehensions -/
namespace M
open PySem PySem.Spec PyProof.Rows L2
section
variable {mg : Str → Option Value} {F0 : Addr → Prop} {H0 : Hp} {pa : Pa} {F F' : Addr → Prop} {H H' : Hp} {p p' : Pot} {σ : L2.St} {ρ : En}
/-! ### slots -/
theorem Rel.setVal (r : Rel mg F0 H0 pa F σ H ρ p) (i : Nat) {d : D} {v : V} (h : Is mg pa F H d v) : Rel mg F0 H0 pa F (σ.set i (some v)) H (ρ.set i (some (.val d))) p where
  base := r.base
  gr := r.gr
  len := by rw [List.length_set, List.length_set]; exact r.len
  slot := fun j s e => by
    by_cases hj : i = j
    · subst hj
      by_cases hl : i < ρ.length
      · rw [List.getElem?_set_self hl] at e
        cases e
        exact ⟨v, by rw [List.getElem?_set_self (by rw [r.len]; exact hl)], h⟩
      · rw [List.getElem?_eq_none (by simpa using hl)] at e
        cases e
    · rw [List.getElem?_set_ne hj] at e ⊢
      exact r.slot j s e
  apart := fun j k d1 e1 a hjk h1 h2 h3 => by
    have nj : i ≠ j := fun z => by
      subst z
      by_cases hl : i < ρ.length
      · rw [List.getElem?_set_self hl] at h1; cases h1
      · rw [List.getElem?_eq_none (by simpa using hl)] at h1; cases h1
    have nk : i ≠ k := fun z => by
      subst z
      by_cases hl : i < ρ.length
      · rw [List.getElem?_set_self hl] at h2; cases h2
      · rw [List.getElem?_eq_none (by simpa using hl)] at h2; cases h2
    rw [List.getElem?_set_ne nj] at h1 h3
    rw [List.getElem?_set_ne nk] at h2 ⊢
    exact r.apart j k d1 e1 a hjk h1 h2 h3
  b0 := r.b0
/-- slots forgotten -/
@[simp] def wipeE (ρ : En) : List Nat → En
  | [] => ρ
  | v :: vs => (wipeE ρ vs).set v none
theorem wipeE_length (ρ : En) : ∀ vs : List Nat, (wipeE ρ vs).length = ρ.length
  | [] => rfl
  | v :: vs => by unfold wipeE; rw [List.length_set, wipeE_length ρ vs]
theorem wipeE_get (ρ : En) (j : Nat) : ∀ vs : List Nat, (wipeE ρ vs)[j]? = if j ∈ vs then (if j < ρ.length then some none else none) else ρ[j]?
  | [] => by simp [wipeE]
  | v :: vs => by
    unfold wipeE
    by_cases hv : v = j
    · subst hv
      by_cases hl : v < ρ.length
      · rw [List.getElem?_set_self (by rw [wipeE_length]; exact hl)]
        simp [hl]
      · rw [List.getElem?_eq_none (by rw [List.length_set, wipeE_length]; omega)]
        simp [hl]
    · rw [List.getElem?_set_ne hv, wipeE_get ρ j vs]
      have : ¬ j = v := fun e => hv e.symm
      simp [this]
theorem wipe_get (σ : L2.St) (j : Nat) : ∀ vs : List Nat, (wipe σ vs)[j]? = if j ∈ vs then (if j < σ.length then some none else none) else σ[j]?
  | [] => by simp [wipe]
  | v :: vs => by
    unfold wipe
    by_cases hv : v = j
    · subst hv
      by_cases hl : v < σ.length
      · rw [List.getElem?_set_self (by rw [wipe_length]; exact hl)]
        simp [hl]
      · rw [List.getElem?_eq_none (by rw [List.length_set, wipe_length]; omega)]
        simp [hl]
    · rw [List.getElem?_set_ne hv, wipe_get σ j vs]
      have : ¬ j = v := fun e => hv e.symm
      simp [this]
/-- fewer slots known -/
theorem Rel.weak (r : Rel mg F0 H0 pa F σ H ρ p) {σ' : L2.St} {ρ' : En} (hl : σ'.length = ρ'.length) (h : ∀ (j : Nat) (s : Sl), ρ'[j]? = some (some s) → ρ[j]? = some (some s) ∧ σ'[j]? = σ[j]?) : Rel mg F0 H0 pa F σ' H ρ' p where
  base := r.base
  gr := r.gr
  len := hl
  slot := fun j s e => by
    obtain ⟨a, b⟩ := h j s e
    rw [b]
    exact r.slot j s a
  apart := fun j k d1 e1 a hjk h1 h2 h3 => by
    obtain ⟨a1, b1⟩ := h j _ h1
    obtain ⟨a2, b2⟩ := h k _ h2
    rw [b1] at h3
    rw [b2]
    exact r.apart j k d1 e1 a hjk a1 a2 h3
  b0 := r.b0
theorem Rel.wipeB (r : Rel mg F0 H0 pa F σ H ρ p) (vs : List Nat) : Rel mg F0 H0 pa F (wipe σ vs) H (wipeE ρ vs) p :=
  r.weak (by rw [wipe_length, wipeE_length]; exact r.len) fun j s e => by
    rw [wipeE_get] at e
    rw [wipe_get]
    split at e
    · split at e <;> cases e
    · rename_i hj
      rw [if_neg hj]
      exact ⟨e, rfl⟩
theorem Rel.wipeR (r : Rel mg F0 H0 pa F σ H ρ p) (vs : List Nat) : Rel mg F0 H0 pa F σ H (wipeE ρ vs) p :=
  r.weak (by rw [wipeE_length]; exact r.len) fun j s e => by
    rw [wipeE_get] at e
    split at e
    · split at e <;> cases e
    · exact ⟨e, rfl⟩
end

/-! ### targets -/
inductive Tg where
  | nm (i : Nat) | tup (ts : List Tg)
mutual
@[simp] def Tg.slots : Tg → List Nat
  | .nm i => [i]
  | .tup ts => slotsL ts
def slotsL : List Tg → List Nat
  | [] => []
  | t :: ts => t.slots ++ slotsL ts
end
@[simp] def itemsOf : D → Option (List D)
  | .tup ds => some ds
  | .lst ds => some ds
  | _ => none
mutual
@[simp] def Tg.asg : Tg → D → En → Option En
  | .nm i, d, ρ => some (ρ.set i (some (.val d)))
  | .tup ts, d, ρ => (itemsOf d).bind fun ds => asgL ts ds ρ
@[simp] def asgL : List Tg → List D → En → Option En
  | [], [], ρ => some ρ
  | t :: ts, d :: ds, ρ => (t.asg d ρ).bind fun ρ1 => asgL ts ds ρ1
  | _, _, _ => none
end
section
variable {X : Cx} {F0 : Addr → Prop} {H0 : Hp} {pa : Pa}
/-- what a target's store asks -/
def tG (mg : Str → Option Value) (F0 : Addr → Prop) (H0 : Hp) (pa : Pa) (sl : List Nat) (g : D → En → Option En) : TG := fun v σ H Q => ∃ F ρ p d, Rel mg F0 H0 pa F σ H ρ p ∧ Is mg pa F H d v ∧ ∃ ρ', g d ρ = some ρ' ∧
  ∀ σ', Rel mg F0 H0 pa F σ' H ρ' p → σ'.length = σ.length → (∀ j, j ∉ sl → σ'[j]? = σ[j]?) → Q σ' H
def tGs (mg : Str → Option Value) (F0 : Addr → Prop) (H0 : Hp) (pa : Pa) (sl : List Nat) (g : List D → En → Option En) : TGs := fun vs σ H Q => ∃ F ρ p ds, Rel mg F0 H0 pa F σ H ρ p ∧ IsL mg pa F H ds vs ∧ ∃ ρ', g ds ρ = some ρ' ∧
  ∀ σ', Rel mg F0 H0 pa F σ' H ρ' p → σ'.length = σ.length → (∀ j, j ∉ sl → σ'[j]? = σ[j]?) → Q σ' H
def SG (X : Cx) (F0 : Addr → Prop) (H0 : Hp) (pa : Pa) (e : Expr) (t : Tg) : Prop := PG X e (tG X.mg F0 H0 pa t.slots t.asg)
def SGs (X : Cx) (F0 : Addr → Prop) (H0 : Hp) (pa : Pa) (es : List Expr) (ts : List Tg) : Prop := PGs X es (tGs X.mg F0 H0 pa (slotsL ts) (asgL ts))
theorem PGsimp {es : List Expr} {t t' : TGs} (h : PGs X es t) (i : ∀ v σ H Q, t' v σ H Q → t v σ H Q) : PGs X es t' := ⟨fun pins s σ H v u Q I r q => h.run pins s σ H v u Q I r (i v σ H Q q)⟩
theorem sg_name {i : Nat} {x : Str} {pos : Pos} (hN : X.N.Nodup) (hi : X.N[i]? = some x) (hx : Loc X.env.scope x) (hf : X.fn x = true ∨ X.env.scope.names.lookup x = some .local) : SG X F0 H0 pa (.Name x pos) (.nm i) :=
  PGimp (pg_name hN hi hx hf) fun v σ H Q ⟨F, ρ, p, d, r, h, ρ', e, q⟩ => by
    have e : some (ρ.set i (some (Sl.val d))) = some ρ' := by simpa [Tg.asg] using e
    cases e
    exact q _ (r.setVal i h) (by simp) fun j hj => by
      have : i ≠ j := fun z => hj (by simp [Tg.slots, z])
      rw [List.getElem?_set_ne this]
theorem sgs_nil : SGs X F0 H0 pa [] [] := PGsimp pgs_nil fun vs σ H Q ⟨F, ρ, p, ds, r, h, ρ', e, q⟩ => by
  cases ds with
  | nil =>
    have e : some ρ = some ρ' := by simpa [asgL] using e
    cases e
    exact ⟨h, q σ r rfl fun _ _ => rfl⟩
  | cons d ds => simp [asgL] at e
theorem sgs_cons {e : Expr} {es : List Expr} {t : Tg} {ts : List Tg} (h1 : SG X F0 H0 pa e t) (h2 : SGs X F0 H0 pa es ts) (hst : ((assignEach (e :: es) X.env).map (·.2)) = assign e X.env :: ((assignEach es X.env).map (·.2)) := by rfl) : SGs X F0 H0 pa (e :: es) (t :: ts) := by
  refine PGsimp (pgs_cons h1 h2 (hs := hst)) fun vs σ H Q ⟨F, ρ, p, ds, r, h, ρ', e, q⟩ => ?_
  cases ds with
  | nil => simp [asgL] at e
  | cons d ds =>
    simp only [asgL] at e
    cases e1 : t.asg d ρ with
    | none => rw [e1] at e; cases e
    | some ρ1 =>
      rw [e1] at e
      have e : asgL ts ds ρ1 = some ρ' := e
      obtain ⟨v, r', rfl, i1, i2⟩ := h
      refine ⟨v, r', rfl, F, ρ, p, d, r, i1, ρ1, e1, fun σ1 rel1 hl1 hs1 => ?_⟩
      refine ⟨F, ρ1, p, ds, rel1, i2, ρ', e, fun σ2 rel2 hl2 hs2 => q σ2 rel2 (hl2.trans hl1) fun j hj => ?_⟩
      simp only [slotsL, List.mem_append, not_or] at hj
      rw [hs2 j hj.2, hs1 j hj.1]
theorem PG_or {e : Expr} {t t' : TG} (h : PG X e t) (h' : PG X e t') : PG X e (fun v σ H Q => t v σ H Q ∨ t' v σ H Q) :=
  ⟨fun pins s σ H v u Q I r q => q.elim (fun q => h.run pins s σ H v u Q I r q) fun q => h'.run pins s σ H v u Q I r q⟩
theorem sg_tup {es : List Expr} {k : Nat} {pos : Pos} {ts : List Tg} {n : Nat} (hc : X.calm = true) (h : SGs X F0 H0 pa es ts) (hn : (assignEach es X.env).length = n) (hm : ts.length = n) (hst : (assignEach es X.env).findIdx? (·.1) = none) : SG X F0 H0 pa (.Tuple es k pos) (.tup ts) := by
  refine PGimp (PG_or (pg_tup hc h hn hst) (pg_lst hc h hn hst)) fun v σ H Q ⟨F, ρ, p, d, r, i, ρ', e, q⟩ => ?_
  have hlen : ∀ (ts : List Tg) (ds : List D) (ρ ρ' : En), asgL ts ds ρ = some ρ' → ds.length = ts.length := by
    intro ts
    induction ts with
    | nil => intro ds ρ ρ' e; cases ds with
      | nil => rfl
      | cons d ds => simp [asgL] at e
    | cons t ts ih => intro ds ρ ρ' e; cases ds with
      | nil => simp [asgL] at e
      | cons d ds =>
        simp only [asgL] at e
        cases e1 : t.asg d ρ with
        | none => rw [e1] at e; cases e
        | some ρ1 =>
          rw [e1] at e
          simp [ih ds ρ1 ρ' e]
  simp only [Tg.asg] at e
  cases d with
  | tup ds =>
    have e : asgL ts ds ρ = some ρ' := e
    obtain ⟨a, xs, rfl, ha, la⟩ := i
    exact .inl ⟨a, xs, rfl, SqT.of ha, by rw [la.length, hlen _ _ _ _ e]; exact hm, F, ρ, p, ds, r, la, ρ', e, q⟩
  | lst ds =>
    have e : asgL ts ds ρ = some ρ' := e
    obtain ⟨a, xs, rfl, _, ha, la⟩ := i
    exact .inr ⟨a, xs, rfl, SqL.of ha, by rw [la.length, hlen _ _ _ _ e]; exact hm, F, ρ, p, ds, r, la, ρ', e, q⟩
  | _ => cases e

/-! ### what is walked -/
/-- J gives the items one by one, whatever becomes of the rest of the heap -/
def Wk (mg : Str → Option Value) (pa : Pa) (b : Bool) (J : It) (F : Addr → Prop) (H : Hp) (items : List D) : Prop :=
  ∀ F1 H1 p1, Base pa F1 H1 p1 → Pres F H F1 H1 → (b = true → Gr pa F H F1 H1) →
    (∀ i d, items[i]? = some d → J.go i H1 ∧ ∀ x H2, J.yld i H1 x H2 → Stp pa F1 H1 F1 H2 p1 ∧ Is mg pa F1 H2 d x) ∧ ∀ i, items.length ≤ i → J.stop i H1
def JI (b : Bool) (mg : Str → Option Value) (pa : Pa) : Hp → (Addr → Prop) → Hp → List D → It → Prop := fun _ F' H' items J => Wk mg pa b J F' H' items
/-- b: the items may be of a list that is another's, or ours -/
def SI (X : Cx) (F0 : Addr → Prop) (H0 : Hp) (pa : Pa) (tg e : Expr) (b : Bool) (f : En → Pot → Res (List D)) : Prop := ∀ W : XK, Takes X (wx W) → PI X tg e (tX X.mg F0 H0 pa (JI b X.mg pa) (wx W) f)
theorem PIimp {tg e : Expr} {t t' : TI} (h : PI X tg e t) (i : ∀ σ H Q, t' σ H Q → t σ H Q) : PI X tg e t' := ⟨fun pins s σ H Q I q => h.run pins s σ H Q I (i σ H Q q)⟩
theorem PI_or {tg e : Expr} {t t' : TI} (h : PI X tg e t) (h' : PI X tg e t') : PI X tg e (fun σ H Q => t σ H Q ∨ t' σ H Q) :=
  ⟨fun pins s σ H Q I q => q.elim (fun q => h.run pins s σ H Q I q) fun q => h'.run pins s σ H Q I q⟩
theorem backI {b : Bool} {mg : Str → Option Value} : Back pa (JI b mg pa) := fun _ _ _ _ _ _ _ _ _ _ h => h
@[simp] def dItems (f : En → Pot → Res D) : En → Pot → Res (List D) := fun ρ p => (f ρ p).bind fun d p1 => ofO (itemsOf d) p1
theorem wk_list {mg : Str → Option Value} {K : PySem.W.Frag} {F : Addr → Prop} {H : Hp} {a : Addr} {ds : List D} {vs : List V} {b : Bool} (hf : F a ∨ (b = true ∧ a ≠ pa)) (ha : H a = some (.lst vs)) (l : IsL mg pa F H ds vs) : Wk mg pa b (Itl K a) F H ds := fun F1 H1 p1 bs pr gr => by
  have h1 : H1 a = some (.lst vs) := by
    rcases hf with hf | ⟨hb, hn⟩
    · exact pr.keep a _ hf ha
    · exact (gr hb).keep a _ ha hn nt_lst
  have l1 := IsL.mono pr _ _ l
  refine ⟨fun i d e => ?_, fun i hi => ⟨vs, SqL.of h1, by rw [l1.length]; exact hi⟩⟩
  obtain ⟨v, e1, i1⟩ := l1.get e
  refine ⟨⟨vs, v, SqL.of h1, e1⟩, fun x H2 ⟨y1, y2⟩ => ?_⟩
  subst y1
  have := y2 vs (SqL.of h1)
  rw [e1] at this
  cases this
  exact ⟨bs.refl, i1⟩
theorem wk_tup {mg : Str → Option Value} {K : PySem.W.Frag} {F : Addr → Prop} {H : Hp} {a : Addr} {ds : List D} {vs : List V} {b : Bool} (ha : H a = some (.tup vs)) (l : IsL mg pa F H ds vs) : Wk mg pa b (Itt K a) F H ds := fun F1 H1 p1 bs pr gr => by
  have h1 : H1 a = some (.tup vs) := pr.tup a _ ha
  have l1 := IsL.mono pr _ _ l
  refine ⟨fun i d e => ?_, fun i hi => ⟨vs, SqT.of h1, by rw [l1.length]; exact hi⟩⟩
  obtain ⟨v, e1, i1⟩ := l1.get e
  refine ⟨⟨vs, v, SqT.of h1, e1⟩, fun x H2 ⟨y1, y2⟩ => ?_⟩
  subst y1
  have := y2 vs (SqT.of h1)
  rw [e1] at this
  cases this
  exact ⟨bs.refl, i1⟩
theorem si_items {b : Bool} {J : (Str → Option Value) → Pa → JT} {tg e : Expr} {f : En → Pot → Res D} (h : SE X F0 H0 pa J e f)
    (hl : ∀ H F' H' ds v, J X.mg pa H F' H' (.lst ds) v → ∃ a xs, v = .ref a ∧ (F' a ∨ (b = true ∧ a ≠ pa)) ∧ H' a = some (.lst xs) ∧ IsL X.mg pa F' H' ds xs) (ht : ∀ H F' H' ds v, J X.mg pa H F' H' (.tup ds) v → ∃ a xs, v = .ref a ∧ H' a = some (.tup xs) ∧ IsL X.mg pa F' H' ds xs) :
    SI X F0 H0 pa tg e b (dItems f) := fun W tk => PIimp (PI_or (pi_list (h W tk)) (pi_tup (h W tk))) fun σ H Q ⟨F, ρ, p, r, q⟩ => by
  cases e : f ρ p with
  | bad => simp only [dItems, e] at q; exact q.elim
  | exc c p1 =>
    refine .inl ⟨F, ρ, p, r, ?_⟩
    simp only [dItems, e] at q
    rw [e]
    exact q
  | ok d p1 =>
    cases hd : itemsOf d with
    | none =>
      simp only [dItems, e] at q
      have q : post X.mg pa (JI b X.mg pa) (wx W) F σ H (ofO (itemsOf d) p1) Q := q
      rw [hd] at q
      exact q.elim
    | some items =>
      have q : post X.mg pa (JI b X.mg pa) (wx W) F σ H (ofO (itemsOf d) p1) Q := by
        simp only [dItems, e] at q
        exact q
      rw [hd] at q
      cases d with
      | lst ds =>
        cases hd
        refine .inl ⟨F, ρ, p, r, ?_⟩
        rw [e]
        intro v F1 H1 s j
        obtain ⟨a, xs, rfl, hf, ha, la⟩ := hl _ _ _ _ _ j
        exact ⟨a, rfl, ⟨xs, SqL.of ha⟩, q _ F1 H1 s (wk_list hf ha la)⟩
      | tup ds =>
        cases hd
        refine .inr ⟨F, ρ, p, r, ?_⟩
        rw [e]
        intro v F1 H1 s j
        obtain ⟨a, xs, rfl, ha, la⟩ := ht _ _ _ _ _ j
        exact ⟨a, rfl, ⟨xs, SqT.of ha⟩, q _ F1 H1 s (wk_tup ha la)⟩
      | _ => cases hd
theorem si_v {b : Bool} {tg e : Expr} {f : En → Pot → Res D} (h : SV X F0 H0 pa e f) : SI X F0 H0 pa tg e b (dItems f) :=
  si_items h (fun H F' H' ds v ⟨a, xs, e, f, h, l⟩ => ⟨a, xs, e, .inl f, h, l⟩) fun H F' H' ds v h => h
theorem si_b {tg e : Expr} {f : En → Pot → Res D} (h : SB X F0 H0 pa e f) : SI X F0 H0 pa tg e true (dItems f) :=
  si_items h (fun H F' H' ds v j => j.elim (fun ⟨a, xs, e, f, h, l⟩ => ⟨a, xs, e, .inl f, h, l⟩) fun ⟨a, e, n, m, xs, h, l⟩ => ⟨a, xs, e, .inr ⟨rfl, m⟩, h, l⟩) fun H F' H' ds v h => h.tup
/-! range -/
def rangeItems (lo : Int) (n : Nat) : List D := (List.range n).map fun (i : Nat) => D.int (lo + (i : Int))
theorem wk_range {b : Bool} {mg : Str → Option Value} {F : Addr → Prop} {H : Hp} {lo : Int} {n : Nat} : Wk mg pa b (Itr lo n) F H (rangeItems lo n) := fun F1 H1 p1 bs _ _ => by
  refine ⟨fun i d e => ?_, fun i hi => show n ≤ i by simpa [rangeItems] using hi⟩
  unfold rangeItems at e
  rw [List.getElem?_map] at e
  by_cases hi : i < n
  · rw [List.getElem?_range hi] at e
    cases e
    exact ⟨hi, fun x H2 ⟨h1, h2⟩ => by subst h1 h2; exact ⟨bs.refl, rfl⟩⟩
  · rw [List.getElem?_eq_none (by simpa using hi)] at e
    cases e
def rgOk (i : Int) : Bool := bnd 4611686018427387903 i
def dRange1 : List D → Option (List D)
  | [.int j] => if rgOk j = true then some (rangeItems 0 j.toNat) else none
  | _ => none
def dRange2 : List D → Option (List D)
  | [.int i, .int j] => if rgOk i = true ∧ rgOk j = true then some (rangeItems i (j - i).toNat) else none
  | _ => none
@[simp] def dItA (as : En → Pot → Res (List Sl)) (h : List D → Option (List D)) : En → Pot → Res (List D) := fun ρ p => (as ρ p).bind fun ss p1 => ofO (h (ss.map Sl.d)) p1
theorem dRange1_some {l : List D} {items : List D} (h : dRange1 l = some items) : ∃ j, l = [.int j] ∧ rgOk j = true ∧ items = rangeItems 0 j.toNat := by
  unfold dRange1 at h
  split at h
  · split at h
    · rename_i j c
      cases h
      exact ⟨j, rfl, c, rfl⟩
    · cases h
  · cases h
theorem dRange2_some {l : List D} {items : List D} (h : dRange2 l = some items) : ∃ i j, l = [.int i, .int j] ∧ rgOk i = true ∧ rgOk j = true ∧ items = rangeItems i (j - i).toNat := by
  unfold dRange2 at h
  split at h
  · split at h
    · rename_i i j c
      cases h
      exact ⟨i, j, rfl, c.1, c.2, rfl⟩
    · cases h
  · cases h
theorem rgOk_iff {i : Int} (h : rgOk i = true) : -(2 ^ 62) ≤ i ∧ i < 2 ^ 62 := by have := bnd_le h; omega
theorem si_range1 {b : Bool} {tg a : Expr} {as : En → Pot → Res (List Sl)} {p pos : Pos} (hg : Gl X "range") (hm : X.mg "range" = none) (ha : SA X F0 H0 pa [a] as) (hs : starEach [a] X.env = [(false, eval a X.env)]) : SI X F0 H0 pa tg (.Call (.Name "range" p) [a] [] pos) b (dItA as dRange1) :=
  fun W tk => PIimp (pi_range1 hg hm (ha W tk) hs) fun σ H Q ⟨F, ρ, p, r, q⟩ => by
    refine seqE (J := JAs' X.mg pa) (g := fun ss p1 => ofO (dRange1 (ss.map Sl.d)) p1) backI r q fun ss p1 vs F1 H1 s1 j1 r1 q1 => ?_
    cases e : dRange1 (ss.map Sl.d) with
    | none => rw [e] at q1; exact q1.elim
    | some items =>
      rw [e] at q1
      obtain ⟨j, hss, c, rfl⟩ := dRange1_some e
      obtain ⟨v, rfl, jv⟩ := JAs.one j1 hss
      have hz := rgOk_iff c
      exact ⟨j, by rw [jv.int], hz.1, hz.2, q1 _ F1 H1 r1.base.refl wk_range⟩
theorem si_range2 {b : Bool} {tg a c : Expr} {as : En → Pot → Res (List Sl)} {p pos : Pos} (hg : Gl X "range") (hm : X.mg "range" = none) (ha : SA X F0 H0 pa [a, c] as) (hs : starEach [a, c] X.env = [(false, eval a X.env), (false, eval c X.env)]) (hs2 : starEach [c] X.env = [(false, eval c X.env)]) : SI X F0 H0 pa tg (.Call (.Name "range" p) [a, c] [] pos) b (dItA as dRange2) :=
  fun W tk => PIimp (pi_range2 hg hm (ha W tk) hs hs2) fun σ H Q ⟨F, ρ, p, r, q⟩ => by
    refine seqE (J := JAs' X.mg pa) (g := fun ss p1 => ofO (dRange2 (ss.map Sl.d)) p1) backI r q fun ss p1 vs F1 H1 s1 j1 r1 q1 => ?_
    cases e : dRange2 (ss.map Sl.d) with
    | none => rw [e] at q1; exact q1.elim
    | some items =>
      rw [e] at q1
      obtain ⟨i, j, hss, c1, c2, rfl⟩ := dRange2_some e
      obtain ⟨v, w, rfl, jv, jw⟩ := JAs.two j1 hss
      have h1 := rgOk_iff c1
      have h2 := rgOk_iff c2
      exact ⟨i, j, by rw [jv.int, jw.int], ⟨h1.1, h1.2, h2.1, h2.2⟩, q1 _ F1 H1 r1.base.refl wk_range⟩
/-! enumerate of a list -/
def enumItems (ds : List D) : List D := ds.mapIdx fun i d => .tup [.int (i : Nat), d]
def dEnum : List D → Option (List D)
  | [.lst ds] => some (enumItems ds)
  | [.tup ds] => some (enumItems ds)
  | _ => none
theorem dEnum_some {l : List D} {items : List D} (h : dEnum l = some items) : ∃ ds, (l = [.lst ds] ∨ l = [.tup ds]) ∧ items = enumItems ds := by
  unfold dEnum at h
  split at h
  · cases h
    exact ⟨_, .inl rfl, rfl⟩
  · cases h
    exact ⟨_, .inr rfl, rfl⟩
  · cases h
theorem JB.lst' {mg : Str → Option Value} {F : Addr → Prop} {H H1 : Hp} {ds : List D} {x : V} (h : JB mg pa H1 F H (.lst ds) x) : ∃ a xs, x = .ref a ∧ (F a ∨ (true = true ∧ a ≠ pa)) ∧ H a = some (.lst xs) ∧ IsL mg pa F H ds xs :=
  h.elim (fun ⟨a, xs, e, f, h, l⟩ => ⟨a, xs, e, .inl f, h, l⟩) fun ⟨a, e, n, m, xs, h, l⟩ => ⟨a, xs, e, .inr ⟨rfl, m⟩, h, l⟩
theorem wk_enum {mg : Str → Option Value} {K : PySem.W.Frag} {F : Addr → Prop} {H : Hp} {a : Addr} {ds : List D} {vs : List V} {b : Bool} (hf : F a ∨ (b = true ∧ a ≠ pa)) (ha : H a = some (.lst vs)) (l : IsL mg pa F H ds vs) : Wk mg pa b (Ite K a) F H (enumItems ds) := fun F1 H1 p1 bs pr gr => by
  have h1 : H1 a = some (.lst vs) := by
    rcases hf with hf | ⟨hb, hn⟩
    · exact pr.keep a _ hf ha
    · exact (gr hb).keep a _ ha hn nt_lst
  have l1 := IsL.mono pr _ _ l
  refine ⟨fun i d e => ?_, fun i hi => ⟨vs, SqL.of h1, by rw [l1.length]; simpa [enumItems] using hi⟩⟩
  unfold enumItems at e
  rw [List.getElem?_mapIdx] at e
  cases e0 : ds[i]? with
  | none => rw [e0] at e; cases e
  | some d0 =>
    rw [e0] at e
    cases e
    obtain ⟨v, e1, i1⟩ := l1.get e0
    refine ⟨⟨vs, v, SqL.of h1, e1⟩, fun x H2 ⟨T, y, z1, z2, z3, z4⟩ => ?_⟩
    have := z4 vs (SqL.of h1)
    rw [e1] at this
    cases this
    subst z1 z3
    exact new_tup bs z2 ⟨_, _, rfl, rfl, _, _, rfl, i1, rfl⟩
theorem wk_enumT {mg : Str → Option Value} {K : PySem.W.Frag} {F : Addr → Prop} {H : Hp} {a : Addr} {ds : List D} {vs : List V} {b : Bool} (ha : H a = some (.tup vs)) (l : IsL mg pa F H ds vs) : Wk mg pa b (IteT K a) F H (enumItems ds) := fun F1 H1 p1 bs pr gr => by
  have h1 := pr.tup a _ ha
  have l1 := IsL.mono pr _ _ l
  refine ⟨fun i d e => ?_, fun i hi => ⟨vs, SqT.of h1, by rw [l1.length]; simpa [enumItems] using hi⟩⟩
  unfold enumItems at e
  rw [List.getElem?_mapIdx] at e
  cases e0 : ds[i]? with
  | none => rw [e0] at e; cases e
  | some d0 =>
    rw [e0] at e
    cases e
    obtain ⟨v, e1, i1⟩ := l1.get e0
    refine ⟨⟨vs, v, SqT.of h1, e1⟩, fun x H2 ⟨T, y, z1, z2, z3, z4⟩ => ?_⟩
    have := z4 vs (SqT.of h1)
    rw [e1] at this
    cases this
    subst z1 z3
    exact new_tup bs z2 ⟨_, _, rfl, rfl, _, _, rfl, i1, rfl⟩
theorem si_enum {tg a : Expr} {as : En → Pot → Res (List Sl)} {p pos tpos : Pos} {elts : List Expr} {kk : Nat} (hg : Gl X "enumerate") (hm : X.mg "enumerate" = none) (ha : SA X F0 H0 pa [a] as) (hs : starEach [a] X.env = [(false, eval a X.env)]) :
    SI X F0 H0 pa (.Tuple elts kk tpos) (.Call (.Name "enumerate" p) [a] [] pos) true (dItA as dEnum) := fun W tk => PIimp (pi_enumA hg hm (ha W tk) hs) fun σ H Q ⟨F, ρ, p, r, q⟩ => by
    refine seqE (J := JAs' X.mg pa) (g := fun ss p1 => ofO (dEnum (ss.map Sl.d)) p1) backI r q fun ss p1 vs F1 H1 s1 j1 r1 q1 => ?_
    cases e : dEnum (ss.map Sl.d) with
    | none => rw [e] at q1; exact q1.elim
    | some items =>
      rw [e] at q1
      obtain ⟨ds, hss | hss, rfl⟩ := dEnum_some e
      · obtain ⟨v, rfl, jv⟩ := JAs.one j1 hss
        obtain ⟨a, xs, rfl, hf, ha, la⟩ := jv.lst'
        exact ⟨a, xs, rfl, .inl ⟨SqL.of ha, q1 _ F1 H1 r1.base.refl (wk_enum hf ha la)⟩⟩
      · obtain ⟨v, rfl, jv⟩ := JAs.one j1 hss
        obtain ⟨a, xs, rfl, ha, la⟩ := jv.tup
        exact ⟨a, xs, rfl, .inr ⟨SqT.of ha, q1 _ F1 H1 r1.base.refl (wk_enumT ha la)⟩⟩
/-- .. of a list that stays as it is in a loop -/
theorem si_enumV {b : Bool} {tg a : Expr} {f : En → Pot → Res D} {p pos tpos : Pos} {elts : List Expr} {kk : Nat} (hg : Gl X "enumerate") (hm : X.mg "enumerate" = none) (ha : SV X F0 H0 pa a f) (hs : starEach [a] X.env = [(false, eval a X.env)]) :
    SI X F0 H0 pa (.Tuple elts kk tpos) (.Call (.Name "enumerate" p) [a] [] pos) b (fun ρ p => (f ρ p).bind fun d p1 => ofO (dEnum [d]) p1) := fun W tk => PIimp (pi_enumA hg hm (pa_cons (ha W tk) pa_nil hs) hs) fun σ H Q ⟨F, ρ, p, r, q⟩ => by
    refine seqE (J := JV X.mg pa) (g := fun d p1 => ofO (dEnum [d]) p1) backI r q fun d p1 v F1 H1 s1 j1 r1 q1 => ?_
    cases e : dEnum [d] with
    | none => rw [e] at q1; exact q1.elim
    | some items =>
      rw [e] at q1
      obtain ⟨ds, hss | hss, rfl⟩ := dEnum_some e
      · cases hss
        obtain ⟨a, xs, rfl, hf, ha, la⟩ := j1
        exact ⟨a, xs, rfl, .inl ⟨SqL.of ha, q1 _ F1 H1 r1.base.refl (wk_enum (.inl hf) ha la)⟩⟩
      · cases hss
        obtain ⟨a, xs, rfl, ha, la⟩ := j1
        exact ⟨a, xs, rfl, .inr ⟨SqT.of ha, q1 _ F1 H1 r1.base.refl (wk_enumT ha la)⟩⟩
/-! zip of two lists, of two tuples -/
def zipItems (xs ys : List D) : List D := (xs.zip ys).map fun q => .tup [q.1, q.2]
def dZip : List D → Option (List D)
  | [.lst xs, .lst ys] => some (zipItems xs ys)
  | [.tup xs, .tup ys] => some (zipItems xs ys)
  | _ => none
theorem zip_get {xs ys : List D} {i : Nat} {d : D} (e : (zipItems xs ys)[i]? = some d) : ∃ x y, xs[i]? = some x ∧ ys[i]? = some y ∧ d = .tup [x, y] := by
  unfold zipItems at e
  rw [List.getElem?_map] at e
  cases q : (xs.zip ys)[i]? with
  | none => rw [q] at e; cases e
  | some z =>
    rw [q] at e
    cases e
    obtain ⟨h1, h2⟩ := List.getElem?_zip_eq_some.mp q
    exact ⟨_, _, h1, h2, rfl⟩
theorem zip_len (xs ys : List D) : (zipItems xs ys).length = min xs.length ys.length := by simp [zipItems]
theorem wk_zip {mg : Str → Option Value} {K : PySem.W.Frag} {F : Addr → Prop} {H : Hp} {a c : Addr} {xs ys : List D} {us ws : List V} {b : Bool} (fa : F a) (ha : H a = some (.lst us)) (la : IsL mg pa F H xs us) (fc : F c) (hc : H c = some (.lst ws)) (lc : IsL mg pa F H ys ws) :
    Wk mg pa b (Itz K a c) F H (zipItems xs ys) := fun F1 H1 p1 bs pr gr => by
  have h1 := pr.keep a _ fa ha
  have h2 := pr.keep c _ fc hc
  have l1 := IsL.mono pr _ _ la
  have l2 := IsL.mono pr _ _ lc
  refine ⟨fun i d e => ?_, fun i hi => ⟨us, ws, SqL.of h1, SqL.of h2, by rw [l1.length, l2.length]; rw [zip_len] at hi; omega⟩⟩
  obtain ⟨x, y, e1, e2, rfl⟩ := zip_get e
  obtain ⟨u, f1, i1⟩ := l1.get e1
  obtain ⟨w, f2, i2⟩ := l2.get e2
  refine ⟨⟨us, ws, u, w, SqL.of h1, SqL.of h2, f1, f2⟩, fun v H2 ⟨T, x', y', z1, z2, z3, z4, z5⟩ => ?_⟩
  have q1 := z4 us (SqL.of h1)
  have q2 := z5 ws (SqL.of h2)
  rw [f1] at q1
  rw [f2] at q2
  cases q1
  cases q2
  subst z1 z3
  exact new_tup bs z2 ⟨_, _, rfl, i1, _, _, rfl, i2, rfl⟩
theorem wk_zipT {mg : Str → Option Value} {K : PySem.W.Frag} {F : Addr → Prop} {H : Hp} {a c : Addr} {xs ys : List D} {us ws : List V} {b : Bool} (ha : H a = some (.tup us)) (la : IsL mg pa F H xs us) (hc : H c = some (.tup ws)) (lc : IsL mg pa F H ys ws) :
    Wk mg pa b (RZ.ItzT K a c) F H (zipItems xs ys) := fun F1 H1 p1 bs pr gr => by
  have h1 := pr.tup a _ ha
  have h2 := pr.tup c _ hc
  have l1 := IsL.mono pr _ _ la
  have l2 := IsL.mono pr _ _ lc
  refine ⟨fun i d e => ?_, fun i hi => ⟨us, ws, SqT.of h1, SqT.of h2, by rw [l1.length, l2.length]; rw [zip_len] at hi; omega⟩⟩
  obtain ⟨x, y, e1, e2, rfl⟩ := zip_get e
  obtain ⟨u, f1, i1⟩ := l1.get e1
  obtain ⟨w, f2, i2⟩ := l2.get e2
  refine ⟨⟨us, ws, u, w, SqT.of h1, SqT.of h2, f1, f2⟩, fun v H2 ⟨T, x', y', z1, z2, z3, z4, z5⟩ => ?_⟩
  have q1 := z4 us (SqT.of h1)
  have q2 := z5 ws (SqT.of h2)
  rw [f1] at q1
  rw [f2] at q2
  cases q1
  cases q2
  subst z1 z3
  exact new_tup bs z2 ⟨_, _, rfl, i1, _, _, rfl, i2, rfl⟩
@[simp] def dZipE (f g : En → Pot → Res D) : En → Pot → Res (List D) := fun ρ p => (f ρ p).bind fun x p1 => (g ρ p1).bind fun y p2 => ofO (dZip [x, y]) p2
theorem si_zip {b : Bool} {a c : Expr} {f g : En → Pot → Res D} {p pos tpos : Pos} {elts : List Expr} {kk : Nat} (hg : Gl X "zip") (hm : X.mg "zip" = none) (ha : SV X F0 H0 pa a f) (hc : SV X F0 H0 pa c g) (h1 : starEach [a, c] X.env = (false, eval a X.env) :: starEach [c] X.env) (h2 : starEach [c] X.env = (false, eval c X.env) :: starEach [] X.env) (h3 : (backTo pos (starEach [c] X.env)).any (·.1) = false) :
    SI X F0 H0 pa (.Tuple elts kk tpos) (.Call (.Name "zip" p) [a, c] [] pos) b (dZipE f g) := fun W tk => PIimp (RZ.pi_zipA hg hm (pa_cons (ha W tk) (pa_cons (hc W tk) pa_nil h2) h1) h1 h3) fun σ H Q ⟨F, ρ, p, r, q⟩ => by
    refine seqE (J := JV X.mg pa) (g := fun x p1 => (g ρ p1).bind fun y p2 => ofO (dZip [x, y]) p2) backI r q fun x p1 v F1 H1 s1 j1 r1 q1 => ?_
    refine seqE (J := JV X.mg pa) (g := fun y p2 => ofO (dZip [x, y]) p2) backI r1 q1 fun y p2 w F2 H2 s2 j2 r2 q2 => ?_
    have j1' : Is X.mg pa F2 H2 x v := Is.mono (s2.pres r1.base) _ _ j1
    cases e : dZip [x, y] with
    | none => rw [e] at q2; exact q2.elim
    | some items =>
      rw [e] at q2
      unfold dZip at e
      split at e
      · rename_i xs ys hq
        cases hq
        cases e
        obtain ⟨a1, us, rfl, fa, ha1, la⟩ := j1'
        obtain ⟨a2, ws, rfl, fc, ha2, lc⟩ := j2
        exact ⟨a1, a2, us, ws, rfl, .inl ⟨SqL.of ha1, SqL.of ha2, q2 _ F2 H2 r2.base.refl (wk_zip fa ha1 la fc ha2 lc)⟩⟩
      · rename_i xs ys hq
        cases hq
        cases e
        obtain ⟨a1, us, rfl, ha1, la⟩ := j1'
        obtain ⟨a2, ws, rfl, ha2, lc⟩ := j2
        exact ⟨a1, a2, us, ws, rfl, .inr ⟨SqT.of ha1, SqT.of ha2, q2 _ F2 H2 r2.base.refl (wk_zipT ha1 la ha2 lc)⟩⟩
      · cases e
end
end M

set_option Elab.async false
set_option linter.all false
set_option maxRecDepth 100000
/-! tests, comprehensions over plain data -/
namespace M
open PySem PySem.Spec PyProof.Rows L2
section
variable {X : Cx} {F0 : Addr → Prop} {H0 : Hp} {pa : Pa}
def JT' : Hp → (Addr → Prop) → Hp → Bool → Bool → Prop := fun _ _ _ b c => b = c
theorem backT : Back pa JT' := fun _ _ _ _ _ _ _ _ _ _ h => h
def ST (X : Cx) (F0 : Addr → Prop) (H0 : Hp) (pa : Pa) (e : Expr) (f : En → Pot → Res Bool) : Prop := ∀ W : XK, Takes X (wx W) → PT X e (tX X.mg F0 H0 pa JT' (wx W) f)
def SW (X : Cx) (F0 : Addr → Prop) (H0 : Hp) (pa : Pa) (e : Expr) (f : En → Pot → Res Bool) : Prop := ∀ W : XK, Takes X (wx W) → PW X e (tX X.mg F0 H0 pa JT' (wx W) f)
theorem PWimp {e : Expr} {t t' : TT} (h : PW X e t) (i : ∀ σ H Q, t' σ H Q → t σ H Q) : PW X e t' := ⟨fun whole pins s σ H Q I q => h.run whole pins s σ H Q I (i σ H Q q)⟩
/-- a truth -/
@[simp] def truD : D → Option Bool
  | .non => some false
  | .bl b => some b
  | .int i => some (i != 0)
  | .str y => if y.length ≤ sizeLine then some ((y.length : Int) != 0) else none
  | .tup xs => some (!xs.isEmpty)
  | .lst xs => some (!xs.isEmpty)
  | .dct xs => some (!xs.isEmpty)
  | _ => none
@[simp] def dTru (f : En → Pot → Res D) : En → Pot → Res Bool := fun ρ p => (f ρ p).bind fun d p1 => ofO (truD d) p1
theorem IsL.isEmpty {mg : Str → Option Value} {F : Addr → Prop} {H : Hp} {ds : List D} {vs : List V} (l : IsL mg pa F H ds vs) : vs.isEmpty = ds.isEmpty := by
  have := l.length
  cases vs <;> cases ds <;> simp_all
theorem IsK.isEmpty {mg : Str → Option Value} {F : Addr → Prop} {H : Hp} {ds : List (Key × D)} {vs : List (Key × V)} (l : IsK mg pa F H ds vs) : vs.isEmpty = ds.isEmpty := by
  have := l.length
  cases vs <;> cases ds <;> simp_all
theorem st_tru {e : Expr} {f : En → Pot → Res D} (h : SB X F0 H0 pa e f) (he : ∀ whole, isTrue e X.env whole = (do let v ← whole; standAt e.pos; holding [v] (truthy v))) : ST X F0 H0 pa e (dTru f) := fun W tk => PTimp (pt_truth (h W tk) he) fun σ H Q ⟨F, ρ, p, r, q⟩ => by
  refine seqE (J := JB X.mg pa) (g := fun d p1 => ofO (truD d) p1) backT r q fun d p1 v F1 H1 s1 j1 r1 q1 => ?_
  cases e : truD d with
  | none => rw [e] at q1; exact q1.elim
  | some b =>
    rw [e] at q1
    have q1 : Q b H1 := q1 b F1 H1 r1.base.refl rfl
    refine ⟨b, ?_, q1⟩
    cases d with
    | non => rw [j1.non]; cases e; rfl
    | bl c => rw [j1.bl]; cases e; rfl
    | int c => rw [j1.int]; cases e; rfl
    | str c =>
      rw [j1.str]
      simp only [truD] at e
      split at e
      · cases e; exact ⟨by assumption, rfl⟩
      · cases e
    | tup xs => cases e; obtain ⟨a, us, rfl, ha, la⟩ := j1.tup; exact .inr (.inl ⟨us, SqT.of ha, by rw [la.isEmpty]⟩)
    | lst xs => cases e; obtain ⟨a, us, rfl, ha, la⟩ := j1.lst; exact .inl ⟨us, SqL.of ha, by rw [la.isEmpty]⟩
    | dct xs => cases e; obtain ⟨a, us, rfl, ha, la⟩ := j1.dct; exact .inr (.inr ⟨us, ha, by rw [la.isEmpty]⟩)
    | _ => cases e
@[simp] def blD : D → Option Bool
  | .bl b => some b
  | _ => none
@[simp] def dBl (f : En → Pot → Res D) : En → Pot → Res Bool := fun ρ p => (f ρ p).bind fun d p1 => ofO (blD d) p1
theorem bl_ask {W : WX} {f : En → Pot → Res D} : ∀ σ H Q, tX X.mg F0 H0 pa JT' W (dBl f) σ H Q → tX X.mg F0 H0 pa (JV X.mg pa) W f σ H (fun x H' => ∃ k, x = .bl k ∧ Q k H') := fun σ H Q ⟨F, ρ, p, r, q⟩ => by
  refine seqE (J := JV X.mg pa) (g := fun d p1 => ofO (blD d) p1) backT r q fun d p1 v F1 H1 s1 j1 r1 q1 => ?_
  cases d with
  | bl b => exact ⟨b, j1, q1 b F1 H1 r1.base.refl rfl⟩
  | _ => exact q1.elim
/-- a comparison as a test -/
theorem st_cmp {r : R2} {op : CmpOp} {a b : Expr} {pos : Pos} {f g : En → Pot → Res D} {h : D → D → Option D} (ho : OpR X (compareOp op) r) (hm : Op2 X pa JV r h) (ha : SB X F0 H0 pa a f) (hb : SB X F0 H0 pa b g) (hmark : behindInMarks op b = false) :
    ST X F0 H0 pa (.Compare a [op] [b] pos) (dBl (d2 f g h)) := fun W tk => PTimp (pt_cmpR ho (ha W tk) (hb W tk) hmark) fun σ H Q q => by
  exact s_tOp backV hm (fun _ _ _ h => h) (fun _ _ _ h => h) σ H _ (bl_ask σ H Q q)
@[simp] def tNotD (f : En → Pot → Res Bool) : En → Pot → Res Bool := fun ρ p => (f ρ p).bind fun b p1 => .ok (!b) p1
theorem st_not {e : Expr} {pos : Pos} {f : En → Pot → Res Bool} (h : ST X F0 H0 pa e f) : ST X F0 H0 pa (.UnaryOp .Not e pos) (tNotD f) := fun W tk => PTimp (pt_not (h W tk)) fun σ H Q ⟨F, ρ, p, r, q⟩ => by
  refine seqE (J := JT') (g := fun b p1 => .ok (!b) p1) backT r q fun b p1 v F1 H1 s1 j1 r1 q1 => ?_
  obtain rfl : b = v := j1
  exact q1 _ F1 H1 r1.base.refl rfl
@[simp] def tAndD (f g : En → Pot → Res Bool) : En → Pot → Res Bool := fun ρ p => (f ρ p).bind fun b p1 => if b = true then g ρ p1 else .ok false p1
@[simp] def tOrD (f g : En → Pot → Res Bool) : En → Pot → Res Bool := fun ρ p => (f ρ p).bind fun b p1 => if b = true then .ok true p1 else g ρ p1
theorem sw_and1 {a : Expr} {pos : Pos} {f : En → Pot → Res Bool} (h : ST X F0 H0 pa a f) : SW X F0 H0 pa (.BoolOp .And [a] pos) f := fun W tk => pw_and1 (h W tk)
theorem sw_or1 {a : Expr} {pos : Pos} {f : En → Pot → Res Bool} (h : ST X F0 H0 pa a f) : SW X F0 H0 pa (.BoolOp .Or [a] pos) f := fun W tk => pw_or1 (h W tk)
theorem sw_and {a b : Expr} {rest : List Expr} {pos : Pos} {f g : En → Pot → Res Bool} (h1 : ST X F0 H0 pa a f) (h2 : SW X F0 H0 pa (.BoolOp .And (b :: rest) pos) g) : SW X F0 H0 pa (.BoolOp .And (a :: b :: rest) pos) (tAndD f g) := fun W tk => PWimp (pw_and (h1 W tk) (h2 W tk)) fun σ H Q ⟨F, ρ, p, r, q⟩ => by
  refine seqE (J := JT') (g := fun b p1 => if b = true then g ρ p1 else .ok false p1) backT r q fun b p1 v F1 H1 s1 j1 r1 q1 => ?_
  obtain rfl : b = v := j1
  cases b with
  | true => exact iteT ⟨F1, ρ, p1, r1, q1⟩
  | false => exact iteF (q1 _ F1 H1 r1.base.refl rfl)
theorem sw_or {a b : Expr} {rest : List Expr} {pos : Pos} {f g : En → Pot → Res Bool} (h1 : ST X F0 H0 pa a f) (h2 : SW X F0 H0 pa (.BoolOp .Or (b :: rest) pos) g) : SW X F0 H0 pa (.BoolOp .Or (a :: b :: rest) pos) (tOrD f g) := fun W tk => PWimp (pw_or (h1 W tk) (h2 W tk)) fun σ H Q ⟨F, ρ, p, r, q⟩ => by
  refine seqE (J := JT') (g := fun b p1 => if b = true then .ok true p1 else g ρ p1) backT r q fun b p1 v F1 H1 s1 j1 r1 q1 => ?_
  obtain rfl : b = v := j1
  cases b with
  | true => exact iteT (q1 _ F1 H1 r1.base.refl rfl)
  | false => exact iteF ⟨F1, ρ, p1, r1, q1⟩
theorem SW.st {e : Expr} {f : En → Pot → Res Bool} (h : SW X F0 H0 pa e f) : ST X F0 H0 pa e f := fun W tk => (h W tk).pt
/-- a < b < c -/
@[simp] def dChain (f g k : En → Pot → Res D) (h h' : D → D → Option D) : En → Pot → Res D := fun ρ p => (f ρ p).bind fun x p1 => (g ρ p1).bind fun y p2 => match h x y with
  | some (.bl true) => (k ρ p2).bind fun z p3 => ofO (h' y z) p3
  | some (.bl false) => .ok (.bl false) p2
  | _ => .bad
theorem chain_ask {r r' : R2} {h h' : D → D → Option D} {W : WX} {f g k : En → Pot → Res D} (hm : Op2 X pa JV r h) (hm' : Op2 X pa JV r' h') {ta tb tc : TE} (ia : ∀ σ H Q, tX X.mg F0 H0 pa (JB X.mg pa) W f σ H Q → ta σ H Q) (ib : ∀ σ H Q, tX X.mg F0 H0 pa (JB X.mg pa) W g σ H Q → tb σ H Q) (ic : ∀ σ H Q, tX X.mg F0 H0 pa (JB X.mg pa) W k σ H Q → tc σ H Q) :
    ∀ σ H Q, tX X.mg F0 H0 pa (JV X.mg pa) W (dChain f g k h h') σ H Q → tChain r r' ta tb tc σ H Q := fun σ H Q ⟨F, ρ, p, rel, q⟩ => by
  refine ia σ H _ (seqE (J := JB X.mg pa) (g := fun x p1 => (g ρ p1).bind fun y p2 => match h x y with
    | some (.bl true) => (k ρ p2).bind fun z p3 => ofO (h' y z) p3
    | some (.bl false) => .ok (.bl false) p2
    | _ => .bad) backV rel q fun x p1 v1 F1 H1 s1 j1 r1 q1 => ?_)
  refine ib σ H1 _ (seqE (J := JB X.mg pa) (g := fun y p2 => match h x y with
    | some (.bl true) => (k ρ p2).bind fun z p3 => ofO (h' y z) p3
    | some (.bl false) => .ok (.bl false) p2
    | _ => .bad) backV r1 q1 fun y p2 v2 F2 H2 s2 j2 r2 q2 => ?_)
  have j1' := j1.step (H₂ := H2) r1.base s2
  cases e : h x y with
  | none => rw [e] at q2; exact q2.elim
  | some d =>
    rw [e] at q2
    cases d with
    | bl b =>
      refine hm F2 H2 p2 v1 v2 x y (.bl b) _ r2.base j1' j2 e fun v F3 H3 s3 j3 => ?_
      obtain rfl : v = .bl b := j3
      refine ⟨b, rfl, ?_⟩
      cases b with
      | true =>
        refine iteT ?_
        have r3 := r2.step s3
        have q2 : post X.mg pa (JV X.mg pa) W F2 σ H2 ((k ρ p2).bind fun z p3 => ofO (h' y z) p3) Q := q2
        refine ic σ H3 _ (seqE (J := JB X.mg pa) (g := fun z p3 => ofO (h' y z) p3) backV r3 (q2.back backV s3) fun z p4 v4 F4 H4 s4 j4 r4 q4 => ?_)
        cases e2 : h' y z with
        | none => rw [e2] at q4; exact q4.elim
        | some d2 =>
          rw [e2] at q4
          exact hm' F4 H4 p4 v2 v4 y z d2 Q r4.base ((j2.step (H₂ := H3) r2.base s3).step r3.base s4) j4 e2 q4
      | false => exact iteF (q2 _ F3 H3 s3 rfl)
    | _ => exact q2.elim
theorem s_chain {r r' : R2} {op op' : CmpOp} {a b c : Expr} {pos : Pos} {f g k : En → Pot → Res D} {h h' : D → D → Option D} (ho : OpR X (compareOp op) r) (hm : Op2 X pa JV r h) (ho' : OpR X (compareOp op') r') (hm' : Op2 X pa JV r' h') (ha : SB X F0 H0 pa a f) (hb : SB X F0 H0 pa b g) (hc : SB X F0 H0 pa c k)
    (h1 : behindInMarks op b = false) (h2 : behindInMarks op' c = false) (hl : lastMarks [op, op'] [b, c] = false) : SV X F0 H0 pa (.Compare a [op, op'] [b, c] pos) (dChain f g k h h') := fun W tk =>
  PEimp (pe_chain ho ho' (ha W tk) (hb W tk) (hc W tk) (hm := hl)) (chain_ask hm hm' (fun _ _ _ h => h) (fun _ _ _ h => h) fun _ _ _ h => h)
theorem st_chain {r r' : R2} {op op' : CmpOp} {a b c : Expr} {pos : Pos} {f g k : En → Pot → Res D} {h h' : D → D → Option D} (ho : OpR X (compareOp op) r) (hm : Op2 X pa JV r h) (ho' : OpR X (compareOp op') r') (hm' : Op2 X pa JV r' h') (ha : SB X F0 H0 pa a f) (hb : SB X F0 H0 pa b g) (hc : SB X F0 H0 pa c k)
    (h1 : behindInMarks op b = false) (h2 : behindInMarks op' c = false) (hl : lastMarks [op, op'] [b, c] = false) : ST X F0 H0 pa (.Compare a [op, op'] [b, c] pos) (dBl (dChain f g k h h')) := fun W tk =>
  PTimp (pt_chain ho ho' (ha W tk) (hb W tk) (hc W tk) (hm := hl)) fun σ H Q q => chain_ask hm hm' (fun _ _ _ h => h) (fun _ _ _ h => h) (fun _ _ _ h => h) σ H _ (bl_ask σ H Q q)
/-- and, or of bools as values -/
@[simp] def dAnd (f g : En → Pot → Res D) : En → Pot → Res D := fun ρ p => (f ρ p).bind fun d p1 => match d with
  | .bl true => g ρ p1
  | .bl false => .ok (.bl false) p1
  | _ => .bad
@[simp] def dOr (f g : En → Pot → Res D) : En → Pot → Res D := fun ρ p => (f ρ p).bind fun d p1 => match d with
  | .bl true => .ok (.bl true) p1
  | .bl false => g ρ p1
  | _ => .bad
theorem s_one {op : BoolOp} {a : Expr} {pos : Pos} {f : En → Pot → Res D} (h : SV X F0 H0 pa a f) : SV X F0 H0 pa (.BoolOp op [a] pos) f := fun W tk => pe_one (h W tk)
theorem s_and {a b : Expr} {rest : List Expr} {pos : Pos} {f g : En → Pot → Res D} (h1 : SV X F0 H0 pa a f) (h2 : SV X F0 H0 pa (.BoolOp .And (b :: rest) pos) g) : SV X F0 H0 pa (.BoolOp .And (a :: b :: rest) pos) (dAnd f g) := fun W tk => PEimp (pe_and (h1 W tk) (h2 W tk)) fun σ H Q ⟨F, ρ, p, r, q⟩ => by
  refine seqE (J := JV X.mg pa) (g := fun d p1 => match d with
    | .bl true => g ρ p1
    | .bl false => .ok (.bl false) p1
    | _ => .bad) backV r q fun d p1 v F1 H1 s1 j1 r1 q1 => ?_
  cases d with
  | bl b =>
    refine ⟨b, j1, ?_⟩
    cases b with
    | true => exact iteT ⟨F1, ρ, p1, r1, q1⟩
    | false => exact iteF (q1 _ F1 H1 r1.base.refl rfl)
  | _ => exact q1.elim
theorem s_or {a b : Expr} {rest : List Expr} {pos : Pos} {f g : En → Pot → Res D} (h1 : SV X F0 H0 pa a f) (h2 : SV X F0 H0 pa (.BoolOp .Or (b :: rest) pos) g) : SV X F0 H0 pa (.BoolOp .Or (a :: b :: rest) pos) (dOr f g) := fun W tk => PEimp (pe_or (h1 W tk) (h2 W tk)) fun σ H Q ⟨F, ρ, p, r, q⟩ => by
  refine seqE (J := JV X.mg pa) (g := fun d p1 => match d with
    | .bl true => .ok (.bl true) p1
    | .bl false => g ρ p1
    | _ => .bad) backV r q fun d p1 v F1 H1 s1 j1 r1 q1 => ?_
  cases d with
  | bl b =>
    refine ⟨b, j1, ?_⟩
    cases b with
    | true => exact iteT (q1 _ F1 H1 r1.base.refl rfl)
    | false => exact iteF ⟨F1, ρ, p1, r1, q1⟩
  | _ => exact q1.elim
@[simp] def dNot (f : En → Pot → Res D) : En → Pot → Res D := fun ρ p => (f ρ p).bind fun d p1 => match d with
  | .bl b => .ok (.bl (!b)) p1
  | _ => .bad
theorem s_not {a : Expr} {pos : Pos} {f : En → Pot → Res D} (h1 : SV X F0 H0 pa a f) : SV X F0 H0 pa (.UnaryOp .Not a pos) (dNot f) := fun W tk => PEimp (pe_not (h1 W tk)) fun σ H Q ⟨F, ρ, p, r, q⟩ => by
  refine seqE (J := JV X.mg pa) (g := fun d p1 => match d with
    | .bl b => .ok (.bl (!b)) p1
    | _ => .bad) backV r q fun d p1 v F1 H1 s1 j1 r1 q1 => ?_
  cases d with
  | bl b => exact ⟨b, j1, q1 _ F1 H1 r1.base.refl rfl⟩
  | _ => exact q1.elim
@[simp] def dNeg (f : En → Pot → Res D) : En → Pot → Res D := fun ρ p => (f ρ p).bind fun d p1 => match d with
  | .int b => .ok (.int (-b)) p1
  | _ => .bad
theorem s_neg {a : Expr} {pos : Pos} {f : En → Pot → Res D} (h1 : SV X F0 H0 pa a f) : SV X F0 H0 pa (.UnaryOp .USub a pos) (dNeg f) := fun W tk => PEimp (pe_un un_neg (h1 W tk)) fun σ H Q ⟨F, ρ, p, r, q⟩ => by
  refine seqE (J := JV X.mg pa) (g := fun d p1 => match d with
    | .int b => .ok (.int (-b)) p1
    | _ => .bad) backV r q fun d p1 v F1 H1 s1 j1 r1 q1 => ?_
  cases d with
  | int b => exact ⟨b, j1, q1 _ F1 H1 r1.base.refl rfl⟩
  | _ => exact q1.elim
@[simp] def dIte {α : Type} (c : En → Pot → Res Bool) (f g : En → Pot → Res α) : En → Pot → Res α := fun ρ p => (c ρ p).bind fun b p1 => if b = true then f ρ p1 else g ρ p1
theorem s_ite {J : (Str → Option Value) → Pa → JT} {c a b : Expr} {pos : Pos} {h : En → Pot → Res Bool} {f g : En → Pot → Res D} (bk : Back pa (J X.mg pa)) (hc : ST X F0 H0 pa c h) (h1 : SE X F0 H0 pa J a f) (h2 : SE X F0 H0 pa J b g) : SE X F0 H0 pa J (.IfExp c a b pos) (dIte h f g) := fun W tk => PEimp (pe_ifExp (hc W tk) (h1 W tk) (h2 W tk)) fun σ H Q ⟨F, ρ, p, r, q⟩ => by
  refine seqE (J := JT') (g := fun b p1 => if b = true then f ρ p1 else g ρ p1) bk r q fun b p1 v F1 H1 s1 j1 r1 q1 => ?_
  obtain rfl : b = v := j1
  cases b with
  | true => exact iteT ⟨F1, ρ, p1, r1, q1⟩
  | false => exact iteF ⟨F1, ρ, p1, r1, q1⟩

/-! ### comprehensions -/
def compR (tg : D → En → Option En) (cond : En → Pot → Res Bool) (elt : En → Pot → Res D) (ρ : En) : List D → Pot → Res (List D)
  | [], p => .ok [] p
  | x :: xs, p => match tg x ρ with
    | none => .bad
    | some ρ1 => match cond ρ1 p with
      | .ok true p1 => (match elt ρ1 p1 with
        | .ok d p2 => (compR tg cond elt ρ xs p2).bind fun ds p3 => .ok (d :: ds) p3
        | _ => .bad)
      | .ok false p1 => compR tg cond elt ρ xs p1
      | _ => .bad
/-- the new list, with what was there -/
def fin (acc : List D) (r : Res (List D)) : Res D := match r with
  | .ok ds p => if acc.length + ds.length ≤ sizeLine then .ok (.lst (acc ++ ds)) p else .bad
  | _ => .bad
@[simp] def dComp (it : En → Pot → Res (List D)) (sl : List Nat) (tg : D → En → Option En) (cond : En → Pot → Res Bool) (elt : En → Pot → Res D) : En → Pot → Res D := fun ρ p => (it ρ p).bind fun xs p1 => fin [] (compR tg cond elt (wipeE ρ sl) xs p1)
def STs (X : Cx) (F0 : Addr → Prop) (H0 : Hp) (pa : Pa) (es : List Expr) (f : En → Pot → Res Bool) : Prop := ∀ W : XK, Takes X (wx W) → PTs X es (tX X.mg F0 H0 pa JT' (wx W) f)
theorem sts_nil : STs X F0 H0 pa [] fun _ p => .ok true p := fun W tk => ⟨fun pins s σ H Q I ⟨F, ρ, p, r, q⟩ => pts_nil.run pins s σ H Q I (q true F H r.base.refl rfl)⟩
theorem sts_one {c : Expr} {f : En → Pot → Res Bool} (h : ST X F0 H0 pa c f) : STs X F0 H0 pa [c] f := fun W tk => pts_one (h W tk)
/-- a thing of ours is written -/
def Wr (H : Hp) (a : Addr) : Prop := (∃ xs, H a = some (.lst xs)) ∨ (∃ xs, H a = some (.dK xs)) ∨ ∃ es, H a = some (ndO a es)
theorem At.wr {mg : Str → Option Value} {F : Addr → Prop} {H : Hp} {a : Addr} {d : D} (h : At mg pa F H a d) : Wr H a := by
  cases d with
  | lst ds => obtain ⟨xs, e, _⟩ := h; exact .inl ⟨xs, e⟩
  | dct ds => obtain ⟨xs, e, _⟩ := h; exact .inr (.inl ⟨xs, e⟩)
  | dcn ds => obtain ⟨xs, e, _⟩ := h; exact .inr (.inr ⟨xs, e⟩)
  | _ => exact h.elim
theorem Wr.nt {H : Hp} {a : Addr} {o : HO} (w : Wr H a) (e : H a = some o) : NT o := by
  rcases w with ⟨xs, q⟩ | ⟨xs, q⟩ | ⟨xs, q⟩
  · rw [e] at q; cases q; exact nt_lst
  · rw [e] at q; cases q; exact nt_dK
  · rw [e] at q; cases q; exact fun ps z => by cases z
theorem code_ne (c a : Addr) (q : Str) (es : List NE) : LamX.CodeO c q ≠ ndO c es := fun z => by
  unfold LamX.CodeO ndO at z
  have z := HO.ext.inj z
  let ob : Obj := { cls := .none, data := .fields #[.none, .str q 0] }
  let h : Heap := ⟨Array.replicate (c + 1) ob, {}⟩
  have hg : h.get? c = some ob := by
    show (match (Array.replicate (c + 1) ob)[c]? with
      | some ⟨_, _, .freed, _⟩ => none
      | o => o) = some ob
    have : (Array.replicate (c + 1) ob)[c]? = some ob := by simp
    rw [this]
  have y := congrFun z h
  have l : ∃ (oc : Obj) (vs : Array Value) (t : Tok), h.get? c = some oc ∧ oc.data = .fields vs ∧ vs[1]? = some (.str q t) := ⟨ob, _, 0, hg, rfl, rfl⟩
  rw [y] at l
  obtain ⟨_, _, xs, _, o, ds, ep, ho, _, hd, _⟩ := l
  rw [hg] at ho
  cases ho
  cases hd
theorem tabs_write {T : List (Addr × Str)} {H : Hp} (t : LamX.Tabs T H) {a : Addr} {o : HO} (w : Wr H a) : LamX.Tabs T (upd H a o) := fun p hp => by
  obtain ⟨ps, h1, h2, h3⟩ := t p hp
  have k : ∀ b u, H b = some u → (∀ xs, u ≠ .lst xs) → (∀ xs, u ≠ .dK xs) → (∀ es, u ≠ ndO b es) → upd H a o b = some u := fun b u e n1 n2 n3 => by
    have : b ≠ a := fun z => by
      subst z
      rcases w with ⟨xs, q⟩ | ⟨xs, q⟩ | ⟨xs, q⟩
      · rw [e] at q; cases q; exact n1 xs rfl
      · rw [e] at q; cases q; exact n2 xs rfl
      · rw [e] at q; cases q; exact n3 xs rfl
    rw [upd_ne this]; exact e
  refine ⟨ps, k _ _ h1 (fun xs z => by cases z) (fun xs z => by cases z) (fun es z => by cases z), h2, fun pos cv hc => ?_⟩
  obtain ⟨c, e1, e2⟩ := h3 pos cv hc
  exact ⟨c, e1, k _ _ e2 (fun xs z => by unfold LamX.CodeO at z; cases z) (fun xs z => by unfold LamX.CodeO at z; cases z) (fun es => code_ne c c _ es)⟩
theorem Base.write {F : Addr → Prop} {H : Hp} {p : Pot} (b : Base pa F H p) {a : Addr} {o : HO} (n : ¬ F a) (hp : a ≠ pa) (w : Wr H a) : Base pa F (upd H a o) p where
  pot := ⟨b.pot.ok, b.pot.nf, by
    obtain ⟨ca, f, e1, e2⟩ := b.pot.at_
    exact ⟨ca, f, by rw [upd_ne hp.symm]; exact e1, by rw [upd_ne (fun z => n (by rw [← z]; exact f))]; exact e2⟩⟩
  dom := fun x f => by
    obtain ⟨u, e, nt⟩ := b.dom x f
    exact ⟨u, by rw [upd_ne (fun z => n (by rw [← z]; exact f))]; exact e, nt⟩
  tabs := tabs_write b.tabs w
theorem Pres.write {F : Addr → Prop} {H : Hp} {a : Addr} {o : HO} (n : ¬ F a) (ht : ∀ xs, H a ≠ some (.tup xs)) : Pres F H F (upd H a o) where
  fr := fun _ h => h
  tup := fun x xs e => by rw [upd_ne (fun z => ht xs (by rw [← z]; exact e))]; exact e
  keep := fun x u f e => by rw [upd_ne (fun z => n (by rw [← z]; exact f))]; exact e
/-- .. written, seen from before it was there -/
theorem Stp.write {F F1 : Addr → Prop} {H H1 : Hp} {p : Pot} (s : Stp pa F H F1 H1 p) {a : Addr} {o : HO} (n : ¬ F1 a) (hp : a ≠ pa) (hn : H a = none) (w : Wr H1 a) : Stp pa F H F1 (upd H1 a o) p where
  gr := { fr := s.gr.fr, keep := fun x u e hx nt => by rw [upd_ne (ne_of_none e hn)]; exact s.gr.keep x u e hx nt, tbl := fun x ps e => by
            obtain ⟨ps', e'⟩ := s.gr.tbl x ps e
            exact ⟨ps', by rw [upd_ne (ne_of_none e hn)]; exact e'⟩, new := s.gr.new }
  base := s.base.write n hp w
theorem wipe_eq {σ σ2 : L2.St} {vs sl : List Nat} (hs : ∀ j ∈ sl, j ∈ vs) (hl : σ2.length = (wipe σ vs).length) (h : ∀ j, j ∉ sl → σ2[j]? = (wipe σ vs)[j]?) : wipe σ2 vs = wipe σ vs := by
  refine List.ext_getElem? fun j => ?_
  rw [wipe_get]
  rw [wipe_length] at hl
  by_cases hj : j ∈ vs
  · rw [if_pos hj, hl, wipe_get, if_pos hj]
  · rw [if_neg hj, h j fun z => hj (hs j z)]
/-- the whole of a comprehension -/
theorem s_comp {elt tg iter : Expr} {ifs : List Expr} {scope : Scope} {own : List (Str × Nat)} {t : Tg} {fi : En → Pot → Res (List D)} {fc : En → Pot → Res Bool} {fe : En → Pot → Res D} (hc : X.calm = true) (hN : X.N.Nodup)
    (hi : SI X F0 H0 pa tg iter true fi) (ok : BlkOk X.N X.env.scope scope own) (hsl : ∀ j ∈ t.slots, j ∈ own.map (·.2))
    (hg : ∀ (s : Shared) (H : Hp) (C : Addr) (cl : List (Str × Addr)) (fp : List Addr), SG (X.blk s H scope (compEnvC scope cl C X.env) fp) F0 H0 pa tg t)
    (ht : ∀ (s : Shared) (H : Hp) (C : Addr) (cl : List (Str × Addr)) (fp : List Addr), STs (X.blk s H scope (compEnvC scope cl C X.env) fp) F0 H0 pa ifs fc)
    (he : ∀ (s : Shared) (H : Hp) (C : Addr) (cl : List (Str × Addr)) (fp : List Addr), SV (X.blk s H scope (compEnvC scope cl C X.env) fp) F0 H0 pa elt fe) :
    ∃ tl : XK → TE, (∀ W, Takes X (wx W) → ∀ σ H Q, tX X.mg F0 H0 pa (JN X.mg pa) (wx W) (dComp fi (own.map (·.2)) t.asg fc fe) σ H Q → tl W σ H Q) ∧ ∀ W, Takes X (wx W) → ∃ wi g tt te, tl W = tLc wi g tt te (own.map (·.2)) ∧ PI X tg iter wi ∧
      (∀ (s : Shared) (H : Hp) (C : Addr) (cl : List (Str × Addr)) (fp : List Addr), PG (X.blk s H scope (compEnvC scope cl C X.env) fp) tg g) ∧ (∀ (s : Shared) (H : Hp) (C : Addr) (cl : List (Str × Addr)) (fp : List Addr), PTs (X.blk s H scope (compEnvC scope cl C X.env) fp) ifs tt) ∧
      (∀ (s : Shared) (H : Hp) (C : Addr) (cl : List (Str × Addr)) (fp : List Addr), PE (X.blk s H scope (compEnvC scope cl C X.env) fp) elt te) := by
  refine ⟨fun W => tLc (tX X.mg F0 H0 pa (JI true X.mg pa) (wx W) fi) (tG X.mg F0 H0 pa t.slots t.asg) (tX X.mg F0 H0 pa JT' (fun _ _ _ _ => False) fc) (tX X.mg F0 H0 pa (JV X.mg pa) (fun _ _ _ _ => False) fe) (own.map (·.2)), fun W tk σ H Q ⟨F, ρ, p, r, q⟩ => ?_,
    fun W tk => ⟨_, _, _, _, rfl, hi W tk, hg, fun s H C cl fp => ht s H C cl fp (fun _ _ _ => False) L2.takes0, fun s H C cl fp => he s H C cl fp (fun _ _ _ => False) L2.takes0⟩⟩
  generalize hvs : own.map (·.2) = vs at q hsl ⊢
  refine seqE (J := JI true X.mg pa) (g := fun xs p1 => fin [] (compR t.asg fc fe (wipeE ρ vs) xs p1)) backN r q fun items p1 J F1 H1 s1 j1 r1 q1 => ?_
  intro D hD
  have q1 : post X.mg pa (JN X.mg pa) (wx W) F1 σ H1 (fin [] (compR t.asg fc fe (wipeE ρ vs) items p1)) Q := q1
  have hDp : D ≠ pa := r1.base.np hD
  -- the remaining turns' wish
  let K : Res M.D → Prop := fun r => match r with
    | .ok d p' => ∀ v F' H', Stp pa F1 H1 F' H' p' → JN X.mg pa H1 F' H' d v → Q v H'
    | _ => False
  have k0 : K (fin [] (compR t.asg fc fe (wipeE ρ vs) items p1)) := by
    cases e : fin [] (compR t.asg fc fe (wipeE ρ vs) items p1) with
    | ok d p' => rw [e] at q1; exact q1
    | exc c p' =>
      exfalso
      unfold fin at e
      split at e
      · split at e <;> cases e
      · cases e
    | bad => rw [e] at q1; exact q1
  refine ⟨fun i m H' => m = items.length - i ∧ i ≤ items.length ∧ ∃ F' p' acc us, Stp pa F1 H1 F' H' p' ∧ ¬ F' D ∧ H' D = some (.lst us) ∧ IsL X.mg pa F' H' acc us ∧ acc.length ≤ sizeLine ∧ K (fin acc (compR t.asg fc fe (wipeE ρ vs) (items.drop i) p')),
    ⟨items.length, by simp, Nat.zero_le _, F1, p1, [], [], r1.base.laid hD, r1.base.nf hD, upd_same, rfl, Nat.zero_le _, k0⟩, ?_⟩
  rintro i m H2 ⟨rfl, hi2, F2, p2, acc, us, s2, nD, eD, la, hacc, k2⟩
  obtain ⟨w1, w2⟩ := j1 F2 H2 p2 s2.base (s2.pres r1.base) fun _ => s2.gr
  by_cases hlt : i < items.length
  · obtain ⟨go, yl⟩ := w1 i items[i] (List.getElem?_eq_getElem hlt)
    refine .inr ⟨go, fun H' => ∃ F' p' acc us, Stp pa F1 H1 F' H' p' ∧ ¬ F' D ∧ H' D = some (.lst us) ∧ IsL X.mg pa F' H' acc us ∧ acc.length ≤ sizeLine ∧ K (fin acc (compR t.asg fc fe (wipeE ρ vs) (items.drop (i + 1)) p')), fun H' h => ⟨items.length - (i + 1), by omega, rfl, hlt, h⟩, fun x H3 y => ?_⟩
    obtain ⟨s3, ix⟩ := yl x H3 y
    have s13 := s2.trans s3
    have rel3 : Rel X.mg F0 H0 pa F2 (wipe σ vs) H3 (wipeE ρ vs) p2 := (r1.step s13).wipeB vs
    have hdrop : items.drop i = items[i] :: items.drop (i + 1) := List.drop_eq_getElem_cons hlt
    rw [hdrop] at k2
    simp only [compR] at k2
    cases eg : t.asg items[i] (wipeE ρ vs) with
    | none => rw [eg] at k2; exact k2.elim
    | some ρ1 =>
      rw [eg] at k2
      dsimp only at k2
      refine ⟨F2, wipeE ρ vs, p2, items[i], rel3, ix, ρ1, eg, fun σ1 rel4 hl4 hs4 => ⟨wipe_eq hsl hl4 hs4, ?_⟩⟩
      refine ⟨F2, ρ1, p2, rel4, ?_⟩
      have eD3 : H3 D = some (.lst us) := s3.gr.keep D _ eD hDp nt_lst
      have la3 := IsL.mono (s3.pres s2.base) _ _ la
      cases ec : fc ρ1 p2 with
      | bad => rw [ec] at k2; exact k2.elim
      | exc c p' => rw [ec] at k2; exact k2.elim
      | ok b p3 =>
        rw [ec] at k2
        try dsimp only at k2
        intro b' F3 H4 s4 eb
        obtain rfl : b = b' := eb
        have eD4 : H4 D = some (.lst us) := s4.gr.keep D _ eD3 hDp nt_lst
        have nD4 : ¬ F3 D := fun f => by
          have := s4.gr.new D f nD
          rw [this] at eD3
          cases eD3
        have la4 := IsL.mono (s4.pres s13.base) _ _ la3
        have s14 := s13.trans s4
        cases b with
        | false => exact iteF ⟨F3, p3, acc, us, s14, nD4, eD4, la4, hacc, k2⟩
        | true =>
          refine iteT ⟨F3, ρ1, p3, rel4.step s4, ?_⟩
          cases ee : fe ρ1 p3 with
          | bad =>
            simp only [ee] at k2
            exact k2.elim
          | exc c p' =>
            simp only [ee] at k2
            exact k2.elim
          | ok d p4 =>
            simp only [ee] at k2
            intro y5 F5 H5 s5 iy
            have eD5 : H5 D = some (.lst us) := s5.gr.keep D _ eD4 hDp nt_lst
            have nD5 : ¬ F5 D := fun f => by
              have := s5.gr.new D f nD4
              rw [this] at eD4
              cases eD4
            have la5 := IsL.mono (s5.pres s14.base) _ _ la4
            have hT : ∀ xs, H5 D ≠ some (.tup xs) := fun xs z => by rw [eD5] at z; cases z
            have pw := Pres.write (o := .lst (us ++ [y5])) nD5 hT
            have hlen : acc.length < sizeLine := by
              cases er : compR t.asg fc fe (wipeE ρ vs) (items.drop (i + 1)) p4 with
              | ok ds p5 =>
                rw [er] at k2
                simp only [Res.bind, fin] at k2
                split at k2
                · rename_i hz
                  simp only [List.length_cons] at hz
                  omega
                · exact k2.elim
              | exc c p' => rw [er] at k2; exact k2.elim
              | bad => rw [er] at k2; exact k2.elim
            refine ⟨us, eD5, by rw [la5.length]; exact hlen, F5, p4, acc ++ [d], us ++ [y5], (s14.trans s5).write nD5 hDp hD (.inl ⟨_, eD5⟩), nD5, upd_same, (IsL.mono pw _ _ la5).append (IsL.one (Is.mono pw _ _ iy)), by simp; omega, ?_⟩
            cases er : compR t.asg fc fe (wipeE ρ vs) (items.drop (i + 1)) p4 with
            | ok ds p5 =>
              rw [er] at k2
              simp only [Res.bind, fin] at k2 ⊢
              rw [List.length_append, List.append_assoc]
              simp only [List.length_cons, List.length_nil, List.singleton_append] at k2 ⊢
              rw [show acc.length + (0 + 1) + ds.length = acc.length + (ds.length + 1) by omega]
              exact k2
            | exc c p' => rw [er] at k2; exact k2.elim
            | bad => rw [er] at k2; exact k2.elim
  · have e : i = items.length := by omega
    subst e
    refine .inl ⟨w2 _ (Nat.le_refl _), ?_⟩
    rw [List.drop_length] at k2
    simp only [compR, fin, List.length_nil, Nat.add_zero, List.append_nil] at k2
    rw [if_pos hacc] at k2
    exact k2 _ F2 H2 s2 ⟨D, rfl, hD, nD, us, eD, la⟩
end
end M

set_option Elab.async false
set_option linter.all false
set_option maxRecDepth 100000
/-! calls of defs, statements over plain data -/
namespace M
open PySem PySem.Spec PyProof.Rows L2
section
variable {X : Cx} {F0 : Addr → Prop} {H0 : Hp} {pa : Pa}
/-- a def's promise over plain data -/
def spD (mg : Str → Option Value) (φ : List Sl → Pot → Res D) : Sp := fun vs H Q E => ∃ F pa p ss, Base pa F H p ∧ JAs mg pa F H ss vs ∧ match φ ss p with
  | .ok d p' => ∀ v F' H', Stp pa F H F' H' p' → Is mg pa F' H' d v → Q v H'
  | .exc c p' => ∀ C F' H', mg c = some (.ref C) → Stp pa F H F' H' p' → E (.ref C) none H'
  | .bad => False
structure FnAt (P : Program) (w : World) (K : PySem.W.Frag) (mg : Str → Option Value) (base : Heap) (k : Nat) (x : Str) (φ : List Sl → Pot → Res D) : Prop where
  ex : ∃ f fd ps, mg x = some (.ref f) ∧ PySem.W.keepIn K (.ref f) = true ∧ L2.Binds K fd ps [] ∧ FnOk P w K mg base (L2.CX P w) k f fd ps (spD mg φ)
@[simp] def dCallF (φ : List Sl → Pot → Res D) (as : En → Pot → Res (List Sl)) : En → Pot → Res D := fun ρ p => (as ρ p).bind fun ss p1 => φ ss p1
theorem call_ask {φ : List Sl → Pot → Res D} {W : XK} {as : En → Pot → Res (List Sl)} {t : TA} (ia : ∀ σ H Q, tX X.mg F0 H0 pa (JAs' X.mg pa) (wx W) as σ H Q → t σ H Q) : ∀ σ H Q, tX X.mg F0 H0 pa (JV X.mg pa) (wx W) (dCallF φ as) σ H Q → tCallS (spD X.mg φ) (WE (wx W)) t σ H Q := fun σ H Q ⟨F, ρ, p, r, q⟩ => by
  refine ia σ H _ (seqE (J := JAs' X.mg pa) (g := φ) backV r q fun ss p1 vs F1 H1 s1 j1 r1 q1 => ?_)
  refine ⟨F1, pa, p1, ss, r1.base, j1, ?_⟩
  cases e : φ ss p1 with
  | ok d p' => rw [e] at q1; exact q1
  | exc c p' => rw [e] at q1; exact q1
  | bad => rw [e] at q1; exact q1.elim
theorem s_call {k : Nat} {x : Str} {φ : List Sl → Pot → Res D} {as : En → Pot → Res (List Sl)} {e : Expr} {es : List Expr} {p pos : Pos} (G : FnAt X.prog X.w X.K X.mg X.base k x φ) (hr : Room k X.A) (hg : Gl X x) (ha : SA X F0 H0 pa (e :: es) as) (hdb : (x == ("__debug__" : Str)) = false)
    (he : starEach (e :: es) X.env = (false, eval e X.env) :: starEach es X.env) (hpl : (backTo pos (starEach es X.env)).any (·.1) = false) : SV X F0 H0 pa (.Call (.Name x p) (e :: es) [] pos) (dCallF φ as) := by
  obtain ⟨f, fd, ps, hm, hk, hb, F⟩ := G.ex
  exact fun W tk => PEimp (pe_callS F hr hg hm hk hb (fun σ => passAt tk σ) (ha W tk) hdb he hpl) (call_ask fun _ _ _ h => h)
/-- a call of a def that a slot holds -/
def dCallV (i : Nat) (fns : Str → Option (List Sl → Pot → Res D)) (as : En → Pot → Res (List Sl)) : En → Pot → Res D := fun ρ p => match rdV ρ i with
  | some (.fn x) => (match fns x with
    | some φ => dCallF φ as ρ p
    | none => .bad)
  | _ => .bad
theorem s_callV {k i : Nat} {y : Str} {fns : Str → Option (List Sl → Pot → Res D)} {as : En → Pot → Res (List Sl)} {e : Expr} {es : List Expr} {p pos : Pos} (G : ∀ x φ, fns x = some φ → FnAt X.prog X.w X.K X.mg X.base k x φ) (hr : Room k X.A) (hN : X.N[i]? = some y) (hv : Vis X.env.scope y) (ha : SA X F0 H0 pa (e :: es) as)
    (hdb : (y == ("__debug__" : Str)) = false) (hcd : (y == ("__classdict__" : Str)) = false) (he : starEach (e :: es) X.env = (false, eval e X.env) :: starEach es X.env) (hpl : (backTo pos (starEach es X.env)).any (·.1) = false) : SV X F0 H0 pa (.Call (.Name y p) (e :: es) [] pos) (dCallV i fns as) := by
  refine fun W tk => ⟨fun pins s σ H Q I ⟨F, ρ, p, r, q⟩ => ?_⟩
  simp only [dCallV] at q
  cases e0 : rdV ρ i with
  | none => rw [e0] at q; exact q.elim
  | some d =>
    rw [e0] at q
    cases d with
    | fn x =>
      dsimp only at q
      cases e1 : fns x with
      | none => rw [e1] at q; exact q.elim
      | some φ =>
        rw [e1] at q
        dsimp only at q
        obtain ⟨f, fd, ps, hm, hk, hb, Fn⟩ := (G x φ e1).ex
        have hslot : σ[i]? = some (some (.ref f)) := by
          unfold rdV at e0
          cases e2 : ρ[i]? with
          | none => rw [e2] at e0; cases e0
          | some o =>
            rw [e2] at e0
            cases o with
            | none => cases e0
            | some sl =>
              cases sl with
              | val d =>
                cases e0
                obtain ⟨v, h1, a, h2, h3⟩ := r.slot i _ e2
                rw [hm] at h2
                cases h2
                rw [h1, h3]
              | own d => cases e0
              | bor d => cases e0
        have hx : Passes (L2.CX X.prog X.w) X W := fun pins σ H s e s' I c => tk e s' (XE.of_call I (fun _ _ _ h => h) c)
        refine (pe_callL (i := i) Fn hr hN hv hk hb .nil hx (ha W tk) hdb hcd he hpl).run pins s σ H Q I ⟨hslot, ?_⟩
        refine seqE (J := JAs' X.mg pa) (g := φ) backV r q fun ss p1 vs F1 H1 s1 j1 r1 q1 => ?_
        rw [List.append_nil]
        refine ⟨F1, pa, p1, ss, r1.base, j1, ?_⟩
        cases e : φ ss p1 with
        | ok d p' => rw [e] at q1; exact q1
        | exc c p' => rw [e] at q1; exact q1
        | bad => rw [e] at q1; exact q1.elim
    | _ => exact q.elim
/-- a def as a value; a constant of the module -/
theorem s_fn {x : Str} {pos : Pos} {f : Addr} (hg : Gl X x) (hm : X.mg x = some (.ref f)) (hd : (x == ("__debug__" : Str)) = false) : SV X F0 H0 pa (.Name x pos) fun _ p => .ok (.fn x) p := s_const (pe_glob (v := .ref f) hg hm rfl hd) fun _ _ => ⟨f, hm, rfl⟩
theorem s_gint {x : Str} {pos : Pos} {i : Int} {t : Tok} (hg : Gl X x) (hm : X.mg x = some (.int i t)) (hd : (x == ("__debug__" : Str)) = false) : SV X F0 H0 pa (.Name x pos) fun _ p => .ok (.int i) p := s_const (pe_glob (v := .int i) hg hm ⟨t, rfl⟩ hd) fun _ _ => rfl
/-- a comprehension as a new list -/
theorem s_lc {elt tg iter : Expr} {ifs : List Expr} {scope : Scope} {own : List (Str × Nat)} {pos : Pos} {t : Tg} {fi : En → Pot → Res (List D)} {fc : En → Pot → Res Bool} {fe : En → Pot → Res D} (hc : X.calm = true) (hN : X.N.Nodup)
    (hi : SI X F0 H0 pa tg iter true fi) (ok : BlkOk X.N X.env.scope scope own) (hsl : ∀ j ∈ t.slots, j ∈ own.map (·.2))
    (hg : ∀ (s : Shared) (H : Hp) (C : Addr) (cl : List (Str × Addr)) (fp : List Addr), SG (X.blk s H scope (compEnvC scope cl C X.env) fp) F0 H0 pa tg t)
    (ht : ∀ (s : Shared) (H : Hp) (C : Addr) (cl : List (Str × Addr)) (fp : List Addr), STs (X.blk s H scope (compEnvC scope cl C X.env) fp) F0 H0 pa ifs fc)
    (he : ∀ (s : Shared) (H : Hp) (C : Addr) (cl : List (Str × Addr)) (fp : List Addr), SV (X.blk s H scope (compEnvC scope cl C X.env) fp) F0 H0 pa elt fe) (hs : ∀ x, foldedSetIterable iter X.env x = pure x) :
    SN X F0 H0 pa (.ListComp elt [⟨tg, iter, ifs, 0⟩] scope pos) (dComp fi (own.map (·.2)) t.asg fc fe) := by
  obtain ⟨tl, h1, h2⟩ := s_comp hc hN hi ok hsl hg ht he
  intro W tk
  obtain ⟨wi, g, tt, te, e, a, b, c, d⟩ := h2 W tk
  refine PEimp (pe_lc hc hN a ok b c d hs) fun σ H Q q => ?_
  rw [← e]
  exact h1 W tk σ H Q q

/-! ### statements -/
inductive Out where
  | nx (ρ : En) | brk (ρ : En) | cnt (ρ : En) | ret (d : D)
def posts (mg : Str → Option Value) (F0 : Addr → Prop) (H0 : Hp) (pa : Pa) (W : XK) (F : Addr → Prop) (H : Hp) (r : Res Out) (Ds : Ends) : Prop := match r with
  | .ok (.nx ρ') p' => ∀ F' σ' H', Pres F H F' H' → Rel mg F0 H0 pa F' σ' H' ρ' p' → Ds.nx σ' H'
  | .ok (.brk ρ') p' => ∀ F' σ' H', Pres F H F' H' → Rel mg F0 H0 pa F' σ' H' ρ' p' → Ds.bk σ' H'
  | .ok (.cnt ρ') p' => ∀ F' σ' H', Pres F H F' H' → Rel mg F0 H0 pa F' σ' H' ρ' p' → Ds.ct σ' H'
  | .ok (.ret d) p' => ∀ v F' H', Gr pa F0 H0 F' H' → Base pa F' H' p' → Is mg pa F' H' d v → Ds.rt v H'
  | .exc c p' => ∀ C F' H', mg c = some (.ref C) → Gr pa F0 H0 F' H' → Base pa F' H' p' → W (.ref C) none H'
  | .bad => False
theorem posts.back {mg : Str → Option Value} {W : XK} {F F1 : Addr → Prop} {H H1 : Hp} {r : Res Out} {Ds : Ends} (pr : Pres F H F1 H1) (h : posts mg F0 H0 pa W F H r Ds) : posts mg F0 H0 pa W F1 H1 r Ds := by
  cases r with
  | bad => exact h
  | exc c p => exact h
  | ok o p =>
    cases o with
    | nx ρ1 => exact fun F' σ' H' pr' => h F' σ' H' (pr.trans pr')
    | brk ρ1 => exact fun F' σ' H' pr' => h F' σ' H' (pr.trans pr')
    | cnt ρ1 => exact fun F' σ' H' pr' => h F' σ' H' (pr.trans pr')
    | ret d => exact h
def tS (mg : Str → Option Value) (F0 : Addr → Prop) (H0 : Hp) (pa : Pa) (W : XK) (f : En → Pot → Res Out) : TS := fun Ds σ H => ∃ F ρ p, Rel mg F0 H0 pa F σ H ρ p ∧ posts mg F0 H0 pa W F H (f ρ p) Ds
def SS (X : Cx) (F0 : Addr → Prop) (H0 : Hp) (pa : Pa) (st : Stmt) (f : En → Pot → Res Out) : Prop := ∀ W : XK, Takes X (wx W) → PS X st (tS X.mg F0 H0 pa W f)
def SSs (X : Cx) (F0 : Addr → Prop) (H0 : Hp) (pa : Pa) (st : List Stmt) (f : En → Pot → Res Out) : Prop := ∀ W : XK, Takes X (wx W) → PSs X st (tS X.mg F0 H0 pa W f)
/-- an expression, then the rest of a statement -/
theorem seqS {α β : Type} {mg : Str → Option Value} {W : XK} {J : Hp → (Addr → Prop) → Hp → α → β → Prop} {F : Addr → Prop} {σ : L2.St} {H : Hp} {ρ : En} {p : Pot} {f : En → Pot → Res α} {g : α → Pot → Res Out} {Ds : Ends} {k : β → Hp → Prop}
    (r : Rel mg F0 H0 pa F σ H ρ p) (h : posts mg F0 H0 pa W F H ((f ρ p).bind g) Ds) (hk : ∀ d p1 v F1 H1, Stp pa F H F1 H1 p1 → J H F1 H1 d v → Rel mg F0 H0 pa F1 σ H1 ρ p1 → posts mg F0 H0 pa W F1 H1 (g d p1) Ds → k v H1) : tX mg F0 H0 pa J (wx W) f σ H k := by
  refine ⟨F, ρ, p, r, ?_⟩
  cases e : f ρ p with
  | ok d p1 =>
    rw [e] at h
    have h : posts mg F0 H0 pa W F H (g d p1) Ds := h
    exact fun v F1 H1 s j => hk d p1 v F1 H1 s j (r.step s) (h.back (s.pres r.base))
  | exc c p1 =>
    rw [e] at h
    intro C F1 H1 hc s
    have r1 := r.step s
    exact h C F1 H1 hc r1.gr r1.base
  | bad =>
    rw [e] at h
    exact h
@[simp] def sNx : En → Pot → Res Out := fun ρ p => .ok (.nx ρ) p
@[simp] def sSeq (f g : En → Pot → Res Out) : En → Pot → Res Out := fun ρ p => (f ρ p).bind fun o p1 => match o with
  | .nx ρ1 => g ρ1 p1
  | o => .ok o p1
theorem ss_nil : SSs X F0 H0 pa [] sNx := fun W tk => PSsimp pss_nil fun Ds σ H ⟨F, ρ, p, r, q⟩ => q F σ H (Pres.refl _ _) r
theorem ss_pass {pos : Pos} : SS X F0 H0 pa (.Pass pos) sNx := fun W tk => PSimp ps_pass fun Ds σ H ⟨F, ρ, p, r, q⟩ => q F σ H (Pres.refl _ _) r
theorem ss_cons {st : Stmt} {sts : List Stmt} {f g : En → Pot → Res Out} (h1 : SS X F0 H0 pa st f) (h2 : SSs X F0 H0 pa sts g) : SSs X F0 H0 pa (st :: sts) (sSeq f g) := fun W tk => PSsimp (pss_cons (h1 W tk) (h2 W tk)) fun Ds σ H ⟨F, ρ, p, r, q⟩ => by
  refine ⟨F, ρ, p, r, ?_⟩
  simp only [sSeq] at q
  cases e : f ρ p with
  | bad => rw [e] at q; exact q
  | exc c p1 => rw [e] at q; exact q
  | ok o p1 =>
    rw [e] at q
    cases o with
    | nx ρ1 =>
      have q : posts X.mg F0 H0 pa W F H (g ρ1 p1) Ds := q
      exact fun F1 σ1 H1 pr r1 => ⟨F1, ρ1, p1, r1, q.back pr⟩
    | brk ρ1 => exact q
    | cnt ρ1 => exact q
    | ret d => exact q
theorem ss_brk {pos : Pos} : SS X F0 H0 pa (.Break pos) (fun ρ p => .ok (.brk ρ) p) := fun W tk => PSimp ps_break fun Ds σ H ⟨F, ρ, p, r, q⟩ => q F σ H (Pres.refl _ _) r
theorem ss_cnt {pos : Pos} : SS X F0 H0 pa (.Continue pos) (fun ρ p => .ok (.cnt ρ) p) := fun W tk => PSimp ps_continue fun Ds σ H ⟨F, ρ, p, r, q⟩ => q F σ H (Pres.refl _ _) r
@[simp] def sExpr (f : En → Pot → Res D) : En → Pot → Res Out := fun ρ p => (f ρ p).bind fun _ p1 => .ok (.nx ρ) p1
theorem ss_expr {e : Expr} {pos : Pos} {f : En → Pot → Res D} (h : SB X F0 H0 pa e f) (hs : swapsWith e none pos.line X.env = pure false) : SS X F0 H0 pa (.Expr e pos) (sExpr f) := fun W tk => PSimp (ps_expr (h W tk) hs) fun Ds σ H ⟨F, ρ, p, r, q⟩ =>
  seqS (J := JB X.mg pa) (g := fun _ p1 => .ok (.nx ρ) p1) r q fun d p1 v F1 H1 s1 j1 r1 q1 => q1 F1 σ H1 (Pres.refl _ _) r1
@[simp] def sRet (f : En → Pot → Res D) : En → Pot → Res Out := fun ρ p => (f ρ p).bind fun d p1 => .ok (.ret d) p1
theorem ss_ret {e : Expr} {pos : Pos} {f : En → Pot → Res D} (h : SV X F0 H0 pa e f) : SS X F0 H0 pa (.Return (some e) pos) (sRet f) := fun W tk => PSimp (ps_ret (h W tk)) fun Ds σ H ⟨F, ρ, p, r, q⟩ =>
  seqS (J := JV X.mg pa) (g := fun d p1 => .ok (.ret d) p1) r q fun d p1 v F1 H1 s1 j1 r1 q1 => q1 v F1 H1 r1.gr r1.base j1
theorem ss_retN {pos : Pos} : SS X F0 H0 pa (.Return none pos) (fun ρ p => .ok (.ret .non) p) := fun W tk => PSimp ps_retN fun Ds σ H ⟨F, ρ, p, r, q⟩ => q .non F H r.gr r.base rfl
/-- return xs, xs ours -/
@[simp] def sRetO (i : Nat) : En → Pot → Res Out := fun ρ p => match ρ[i]? with
  | some (some (.val d)) => .ok (.ret d) p
  | some (some (.own d)) => .ok (.ret d) p
  | _ => .bad
theorem At.freeze {mg : Str → Option Value} {F : Addr → Prop} {H : Hp} {a : Addr} {d : D} (t : At mg pa F H a d) : Is mg pa (fun x => F x ∨ x = a) H d (.ref a) := by
  cases d with
  | lst ds =>
    obtain ⟨xs, e, l⟩ := t
    exact ⟨a, xs, rfl, .inr rfl, e, IsL.mono Pres.freeze _ _ l⟩
  | dct ds =>
    obtain ⟨xs, e, l⟩ := t
    exact ⟨a, xs, rfl, .inr rfl, e, IsK.mono Pres.freeze _ _ l⟩
  | dcn ds =>
    obtain ⟨xs, e, l⟩ := t
    exact ⟨a, xs, rfl, .inr rfl, e, IsN.mono Pres.freeze _ _ l⟩
  | _ => exact t.elim
theorem ss_retO {i : Nat} {x : Str} {pos pos' : Pos} (hN : X.N[i]? = some x) (hv : Vis X.env.scope x) (hd : (x == ("__debug__" : Str)) = false) (hcd : (x == ("__classdict__" : Str)) = false) : SS X F0 H0 pa (.Return (some (.Name x pos)) pos') (sRetO i) := fun W tk => PSimp (ps_ret (pe_var hN hv hd hcd)) fun Ds σ H ⟨F, ρ, p, r, q⟩ => by
  simp only [sRetO] at q
  cases e : ρ[i]? with
  | none => rw [e] at q; exact q.elim
  | some o =>
    rw [e] at q
    cases o with
    | none => exact q.elim
    | some s =>
      obtain ⟨v, h1, h2⟩ := r.slot i _ e
      refine ⟨v, h1, ?_⟩
      cases s with
      | val d => exact q v F H r.gr r.base h2
      | own d =>
        obtain ⟨a, rfl, n, z, t⟩ := h2
        obtain ⟨o, ho⟩ := t.some
        have hp := r.np0 z
        exact q _ _ H { fr := fun x f => .inl (r.gr.fr x f), keep := r.gr.keep, tbl := r.gr.tbl, new := fun x f nf => f.elim (fun f => r.gr.new x f nf) fun e => e ▸ z } (r.base.freeze ho hp (t.nt ho)) t.freeze
      | bor d => exact q.elim
/-! assignments -/
@[simp] def sSet (i : Nat) (f : En → Pot → Res D) : En → Pot → Res Out := fun ρ p => (f ρ p).bind fun d p1 => .ok (.nx (ρ.set i (some (.val d)))) p1
theorem ss_set {i : Nat} {x : Str} {e : Expr} {pos pos' : Pos} {f : En → Pot → Res D} (hN : X.N.Nodup) (hi : X.N[i]? = some x) (hx : Loc X.env.scope x) (h : SV X F0 H0 pa e f) (hs : swapsWith e (some (.Name x pos')) pos.line X.env = pure false) (hf : X.fn x = true ∨ X.env.scope.names.lookup x = some .local) :
    SS X F0 H0 pa (.Assign [.Name x pos'] e pos) (sSet i f) := fun W tk => PSimp (ps_set hN hi hx (h W tk) hs hf) fun Ds σ H ⟨F, ρ, p, r, q⟩ =>
  seqS (J := JV X.mg pa) (g := fun d p1 => .ok (.nx (ρ.set i (some (.val d)))) p1) r q fun d p1 v F1 H1 s1 j1 r1 q1 => q1 F1 _ H1 (Pres.refl _ _) (r1.setVal i j1)
/-- a new thing of ours at a slot -/
theorem Rel.setOwn {mg : Str → Option Value} {F : Addr → Prop} {σ : L2.St} {H : Hp} {ρ : En} {p : Pot} {F1 : Addr → Prop} {H1 : Hp} {p1 : Pot} (r : Rel mg F0 H0 pa F σ H ρ p) (s : Stp pa F H F1 H1 p1) (i : Nat) {d : D} {v : V} (h : JN mg pa H F1 H1 d v) : Rel mg F0 H0 pa F1 (σ.set i (some v)) H1 (ρ.set i (some (.own d))) p1 := by
  obtain ⟨a, rfl, n, nf, t⟩ := h
  have r1 := r.step s
  have n0 : H0 a = none := r.gr.back n (r.base.np n)
  -- no slot of before holds a
  have ap : ∀ (j : Nat) (e : D), ρ[j]? = some (some (.own e)) → σ[j]? ≠ some (some (.ref a)) := fun j e h1 h2 => by
    obtain ⟨v, h3, b, e1, e2, e3, e4⟩ := r.slot j _ h1
    rw [h2] at h3
    cases h3
    cases e1
    obtain ⟨o, e5⟩ := e4.some
    rw [n] at e5
    cases e5
  refine ⟨r1.base, r1.gr, by rw [List.length_set, List.length_set]; exact r1.len, fun j x e => ?_, fun j k d1 e1 b hjk h1 h2 h3 => ?_, r1.b0⟩
  · by_cases hj : i = j
    · subst hj
      by_cases hl : i < ρ.length
      · rw [List.getElem?_set_self hl] at e
        cases e
        exact ⟨.ref a, by rw [List.getElem?_set_self (by rw [r.len]; exact hl)], a, rfl, nf, n0, t⟩
      · rw [List.getElem?_eq_none (by simpa using hl)] at e
        cases e
    · rw [List.getElem?_set_ne hj] at e ⊢
      exact r1.slot j x e
  · by_cases hj : i = j
    · subst hj
      have hl : i < ρ.length := by
        by_cases hl : i < ρ.length
        · exact hl
        · rw [List.getElem?_eq_none (by simpa using hl)] at h1
          cases h1
      rw [List.getElem?_set_self (by rw [r.len]; exact hl)] at h3
      cases h3
      rw [List.getElem?_set_ne hjk] at h2 ⊢
      exact ap k e1 h2
    · rw [List.getElem?_set_ne hj] at h1 h3
      by_cases hk : i = k
      · subst hk
        have hl : i < ρ.length := by
          by_cases hl : i < ρ.length
          · exact hl
          · rw [List.getElem?_eq_none (by simpa using hl)] at h2
            cases h2
        rw [List.getElem?_set_self (by rw [r.len]; exact hl)]
        intro z
        cases z
        exact ap j d1 h1 h3
      · rw [List.getElem?_set_ne hk] at h2 ⊢
        exact r1.apart j k d1 e1 b hjk h1 h2 h3
@[simp] def sOwn (i : Nat) (f : En → Pot → Res D) : En → Pot → Res Out := fun ρ p => (f ρ p).bind fun d p1 => .ok (.nx (ρ.set i (some (.own d)))) p1
theorem own_ask {W : XK} {f : En → Pot → Res D} {i : Nat} {te : TE} (ia : ∀ σ H Q, tX X.mg F0 H0 pa (JN X.mg pa) (wx W) f σ H Q → te σ H Q) : ∀ Ds σ H, tS X.mg F0 H0 pa W (sOwn i f) Ds σ H → tAsg te (gName i) Ds σ H := fun Ds σ H ⟨F, ρ, p, r, q⟩ =>
  ia σ H _ (seqS (J := JN X.mg pa) (g := fun d p1 => .ok (.nx (ρ.set i (some (.own d)))) p1) r q fun d p1 v F1 H1 s1 j1 r1 q1 => q1 F1 _ H1 (Pres.refl _ _) (r.setOwn s1 i j1))
theorem ss_own {i : Nat} {x : Str} {e : Expr} {pos pos' : Pos} {f : En → Pot → Res D} (hN : X.N.Nodup) (hi : X.N[i]? = some x) (hx : Loc X.env.scope x) (h : SN X F0 H0 pa e f) (hs : swapsWith e (some (.Name x pos')) pos.line X.env = pure false) (hf : X.fn x = true ∨ X.env.scope.names.lookup x = some .local) :
    SS X F0 H0 pa (.Assign [.Name x pos'] e pos) (sOwn i f) := fun W tk => PSimp (ps_set hN hi hx (h W tk) hs hf) (own_ask fun _ _ _ h => h)
/-- name = [..] on one line -/
theorem ss_ownLc {i : Nat} {y : Str} {py spos : Pos} {elt tg iter : Expr} {ifs : List Expr} {scope : Scope} {own : List (Str × Nat)} {pos : Pos} {t : Tg} {fi : En → Pot → Res (List D)} {fc : En → Pot → Res Bool} {fe : En → Pot → Res D} (hc : X.calm = true) (hN : X.N.Nodup)
    (hy : X.N[i]? = some y) (hyl : X.env.scope.names.lookup y = some .local) (hsw : swapsWith (.ListComp elt [⟨tg, iter, ifs, 0⟩] scope pos) (some (.Name y py)) spos.line X.env = pure true)
    (hi : SI X F0 H0 pa tg iter true fi) (ok : BlkOk X.N X.env.scope scope own) (hsl : ∀ j ∈ t.slots, j ∈ own.map (·.2))
    (hg : ∀ (s : Shared) (H : Hp) (C : Addr) (cl : List (Str × Addr)) (fp : List Addr), SG (X.blk s H scope (compEnvC scope cl C X.env) fp) F0 H0 pa tg t)
    (ht : ∀ (s : Shared) (H : Hp) (C : Addr) (cl : List (Str × Addr)) (fp : List Addr), STs (X.blk s H scope (compEnvC scope cl C X.env) fp) F0 H0 pa ifs fc)
    (he : ∀ (s : Shared) (H : Hp) (C : Addr) (cl : List (Str × Addr)) (fp : List Addr), SV (X.blk s H scope (compEnvC scope cl C X.env) fp) F0 H0 pa elt fe) (hs : ∀ x, foldedSetIterable iter X.env x = pure x) :
    SS X F0 H0 pa (.Assign [.Name y py] (.ListComp elt [⟨tg, iter, ifs, 0⟩] scope pos) spos) (sOwn i (dComp fi (own.map (·.2)) t.asg fc fe)) := by
  obtain ⟨tl, h1, h2⟩ := s_comp hc hN hi ok hsl hg ht he
  intro W tk
  obtain ⟨wi, g, tt, te, e, a, b, c, d⟩ := h2 W tk
  refine PSimp (ps_setLc hc hN hy hyl hsw a ok b c d hs) (own_ask fun σ H Q q => ?_)
  rw [← e]
  exact h1 W tk σ H Q q
/-- a, b = e -/
@[simp] def sTgt (t : Tg) (f : En → Pot → Res D) : En → Pot → Res Out := fun ρ p => (f ρ p).bind fun d p1 => match t.asg d ρ with
  | some ρ' => .ok (.nx ρ') p1
  | none => .bad
theorem ss_tgt {t : Tg} {tg e : Expr} {pos : Pos} {f : En → Pot → Res D} (hg : SG X F0 H0 pa tg t) (h : SV X F0 H0 pa e f) (hs : swapsWithSole [tg] e pos.line X.env = pure false) (hw : swappedStores [tg] e X.env = pure none) (h1 : (assignEach [tg] X.env).map (·.2) = [assign tg X.env]) : SS X F0 H0 pa (.Assign [tg] e pos) (sTgt t f) :=
  fun W tk => PSimp (ps_asg (h W tk) hg hs hw (h1 := h1)) fun Ds σ H ⟨F, ρ, p, r, q⟩ => by
    refine seqS (J := JV X.mg pa) (g := fun d p1 => match t.asg d ρ with
      | some ρ' => .ok (.nx ρ') p1
      | none => .bad) r q fun d p1 v F1 H1 s1 j1 r1 q1 => ?_
    cases e : t.asg d ρ with
    | none => rw [e] at q1; exact q1.elim
    | some ρ' =>
      rw [e] at q1
      exact ⟨F1, ρ, p1, d, r1, j1, ρ', e, fun σ' r' _ _ => q1 F1 σ' H1 (Pres.refl _ _) r'⟩
/-- a, b = e1, e2 with two plain local names -/
@[simp] def sPar (i j : Nat) (as : En → Pot → Res (List Sl)) : En → Pot → Res Out := fun ρ p => (as ρ p).bind fun ss p1 => match ss with
  | [.val d, .val e] => .ok (.nx ((ρ.set i (some (.val d))).set j (some (.val e)))) p1
  | _ => .bad
theorem ss_par {i j : Nat} {x y : Str} {a b : Expr} {px py pt pos : Pos} {kt k2 : Nat} {pt2 : Pos} {as : En → Pot → Res (List Sl)} (hc : X.calm = true) (hN : X.N.Nodup) (hi : X.N[i]? = some x) (hj : X.N[j]? = some y) (hij : i ≠ j)
    (hx : X.env.scope.names.lookup x = some .local) (hy : X.env.scope.names.lookup y = some .local) (ha : SA X F0 H0 pa [a, b] as)
    (hw : swappedStores [.Tuple [.Name x px, .Name y py] kt pt] (.Tuple [a, b] k2 pt2) X.env = pure (some [x, y]))
    (hs : swapsWithSole [.Tuple [.Name x px, .Name y py] kt pt] (.Tuple [a, b] k2 pt2) pos.line X.env = pure false) :
    SS X F0 H0 pa (.Assign [.Tuple [.Name x px, .Name y py] kt pt] (.Tuple [a, b] k2 pt2) pos) (sPar i j as) := fun W tk => PSimp (ps_par hc hN hi hj hij hx hy (ha W tk) hw hs) fun Ds σ H ⟨F, ρ, p, r, q⟩ => by
  refine seqS (J := JAs' X.mg pa) (g := fun ss p1 => match ss with
    | [.val d, .val e] => .ok (.nx ((ρ.set i (some (.val d))).set j (some (.val e)))) p1
    | _ => .bad) r q fun ss p1 vs F1 H1 s1 j1 r1 q1 => ?_
  split at q1
  · obtain ⟨v, r', rfl, i1, w, r'', rfl, i2, i3⟩ := j1
    obtain rfl : r'' = [] := i3
    exact ⟨v, w, rfl, q1 F1 _ H1 (Pres.refl _ _) ((r1.setVal i i1).setVal j i2)⟩
  · exact q1.elim
/-- x op= e, ints -/
@[simp] def sAug (i : Nat) (g : Int → Int → Int) (f : En → Pot → Res D) : En → Pot → Res Out := fun ρ p => match rdV ρ i with
  | some (.int a) => (f ρ p).bind fun d p1 => match d with
    | .int b => .ok (.nx (ρ.set i (some (.val (.int (g a b)))))) p1
    | _ => .bad
  | _ => .bad
theorem ss_aug {i : Nat} {x : Str} {e : Expr} {op : Operator} {pos pos' : Pos} {g : Int → Int → Int} {f : En → Pot → Res D} (hN : X.N.Nodup) (hi : X.N[i]? = some x) (hx : Loc X.env.scope x) (h : SV X F0 H0 pa e f) (ho : PIp X op (ipI g)) (hf : X.fn x = true ∨ X.env.scope.names.lookup x = some .local) :
    SS X F0 H0 pa (.AugAssign (.Name x pos') op e pos) (sAug i g f) := fun W tk => PSimp (ps_aug hN hi hx (h W tk) ho hf) fun Ds σ H ⟨F, ρ, p, r, q⟩ => by
  simp only [sAug] at q
  cases e0 : rdV ρ i with
  | none => rw [e0] at q; exact q.elim
  | some d0 =>
    rw [e0] at q
    cases d0 with
    | int a =>
      dsimp only at q
      have hslot : σ[i]? = some (some (.int a)) := by
        unfold rdV at e0
        cases e2 : ρ[i]? with
        | none => rw [e2] at e0; cases e0
        | some o =>
          rw [e2] at e0
          cases o with
          | none => cases e0
          | some sl =>
            cases sl with
            | val d =>
              cases e0
              obtain ⟨v, h1, h2⟩ := r.slot i _ e2
              rw [h1, show v = .int a from h2]
            | own d => cases e0
            | bor d => cases e0
      refine ⟨.int a, hslot, seqS (J := JV X.mg pa) (g := fun d p1 => match d with
        | .int b => .ok (.nx (ρ.set i (some (.val (.int (g a b)))))) p1
        | _ => .bad) r q fun d p1 v F1 H1 s1 j1 r1 q1 => ?_⟩
      cases d with
      | int b => exact ⟨a, b, rfl, j1, q1 F1 _ H1 (Pres.refl _ _) (r1.setVal i rfl)⟩
      | _ => exact q1.elim
    | _ => exact q.elim
/-! if, while, for -/
@[simp] def sIf (c : En → Pot → Res Bool) (f g : En → Pot → Res Out) : En → Pot → Res Out := dIte c f g
theorem ss_if {c : Expr} {a b : List Stmt} {pos : Pos} {h : En → Pot → Res Bool} {f g : En → Pot → Res Out} (hc : ST X F0 H0 pa c h) (h1 : SSs X F0 H0 pa a f) (h2 : SSs X F0 H0 pa b g) : SS X F0 H0 pa (.If c a b pos) (sIf h f g) := fun W tk => PSimp (ps_if (hc W tk) (h1 W tk) (h2 W tk)) fun Ds σ H ⟨F, ρ, p, r, q⟩ => by
  refine seqS (J := JT') (g := fun b p1 => if b = true then f ρ p1 else g ρ p1) r q fun b p1 v F1 H1 s1 j1 r1 q1 => ?_
  obtain rfl : b = v := j1
  cases b with
  | true => exact iteT ⟨F1, ρ, p1, r1, q1⟩
  | false => exact iteF ⟨F1, ρ, p1, r1, q1⟩
/-- a loop's turn is done: w: the slots of the turn alone -/
def turnEnd (w : List Nat) (r : Res Out) (k : En → Pot → Res Out) : Res Out := r.bind fun o p1 => match o with
  | .nx ρ1 => k (wipeE ρ1 w) p1
  | .cnt ρ1 => k (wipeE ρ1 w) p1
  | .brk ρ1 => .ok (.nx (wipeE ρ1 w)) p1
  | .ret d => .ok (.ret d) p1
def whileR (c : En → Pot → Res Bool) (body : En → Pot → Res Out) (w : List Nat) : Nat → En → Pot → Res Out
  | 0, _, _ => .bad
  | n + 1, ρ, p => (c ρ p).bind fun b p1 => if b = true then turnEnd w (body ρ p1) (whileR c body w n) else .ok (.nx ρ) p1
def forR (tg : D → En → Option En) (body : En → Pot → Res Out) (w : List Nat) : List D → En → Pot → Res Out
  | [], ρ, p => .ok (.nx ρ) p
  | x :: xs, ρ, p => match tg x ρ with
    | none => .bad
    | some ρ1 => turnEnd w (body ρ1 p) (forR tg body w xs)
theorem turn_ask {mg : Str → Option Value} {W : XK} {F : Addr → Prop} {H : Hp} {w : List Nat} {r : Res Out} {k : En → Pot → Res Out} {Ds : Ends} {N : L2.St → Hp → Prop} (h : posts mg F0 H0 pa W F H (turnEnd w r k) Ds) (hN : ∀ F' σ' H' ρ p, Pres F H F' H' → Rel mg F0 H0 pa F' σ' H' ρ p → posts mg F0 H0 pa W F' H' (k ρ p) Ds → N σ' H') :
    posts mg F0 H0 pa W F H r { Ds with nx := N, ct := N, bk := Ds.nx } := by
  cases r with
  | bad => exact h
  | exc c p => exact h
  | ok o p =>
    cases o with
    | nx ρ1 =>
      have h : posts mg F0 H0 pa W F H (k (wipeE ρ1 w) p) Ds := h
      exact fun F' σ' H' pr r1 => hN F' σ' H' _ p pr (r1.wipeR w) (h.back pr)
    | cnt ρ1 =>
      have h : posts mg F0 H0 pa W F H (k (wipeE ρ1 w) p) Ds := h
      exact fun F' σ' H' pr r1 => hN F' σ' H' _ p pr (r1.wipeR w) (h.back pr)
    | brk ρ1 => exact fun F' σ' H' pr r1 => h F' σ' H' pr (r1.wipeR w)
    | ret d => exact h
theorem ss_while {c : Expr} {body : List Stmt} {pos : Pos} {h : En → Pot → Res Bool} {f : En → Pot → Res Out} {w : List Nat} {n : Nat} (hp : PassesOwn (model X.prog X.w) X.A X.env X.xe) (hc : ST X F0 H0 pa c h) (hb : SSs X F0 H0 pa body f) : SS X F0 H0 pa (.While c body [] pos) (whileR h f w n) :=
  fun W tk => PSimp (ps_while hp (hc W tk) (hb W tk)) fun Ds σ H ⟨F, ρ, p, r, q⟩ => by
    refine ⟨fun m σ H => ∃ F ρ p, Rel X.mg F0 H0 pa F σ H ρ p ∧ posts X.mg F0 H0 pa W F H (whileR h f w m ρ p) Ds, ⟨n, F, ρ, p, r, q⟩, fun m σ H ⟨F, ρ, p, r, q⟩ => ?_⟩
    cases m with
    | zero => exact q.elim
    | succ m =>
      refine seqS (J := JT') (g := fun b p1 => if b = true then turnEnd w (f ρ p1) (whileR h f w m) else .ok (.nx ρ) p1) r q fun b p1 v F1 H1 s1 j1 r1 q1 => ?_
      obtain rfl : b = v := j1
      cases b with
      | false => exact iteF (q1 F1 σ H1 (Pres.refl _ _) r1)
      | true =>
        refine iteT ⟨fun σ H => ∃ F ρ p, Rel X.mg F0 H0 pa F σ H ρ p ∧ posts X.mg F0 H0 pa W F H (whileR h f w m ρ p) Ds, fun σ' H' x => ⟨m, Nat.lt_succ_self _, x⟩, F1, ρ, p1, r1, ?_⟩
        exact turn_ask q1 fun F σ H ρ p _ r q => ⟨F, ρ, p, r, q⟩
@[simp] def sFor (it : En → Pot → Res (List D)) (tg : D → En → Option En) (body : En → Pot → Res Out) (w : List Nat) : En → Pot → Res Out := fun ρ p => (it ρ p).bind fun xs p1 => forR tg body w xs (wipeE ρ w) p1
theorem ss_for {tg iter : Expr} {body : List Stmt} {pos : Pos} {t : Tg} {fi : En → Pot → Res (List D)} {f : En → Pot → Res Out} {w : List Nat} (hp : PassesOwn (model X.prog X.w) X.A X.env X.xe) (hc : X.calm = true) (hi : SI X F0 H0 pa tg iter false fi) (hg : SG X F0 H0 pa tg t) (hb : SSs X F0 H0 pa body f)
    (hs : ∀ x, foldedSetIterable iter X.env x = pure x) : SS X F0 H0 pa (.For tg iter body [] pos) (sFor fi t.asg f w) := fun W tk => PSimp (ps_for hp hc (hi W tk) hg (hb W tk) (hs := hs)) fun Ds σ H ⟨F, ρ, p, r, q⟩ => by
  refine seqS (J := JI false X.mg pa) (g := fun xs p1 => forR t.asg f w xs (wipeE ρ w) p1) r q fun items p1 J F1 H1 s1 j1 r1 q1 => ?_
  refine ⟨fun i m σ H => m = items.length - i ∧ i ≤ items.length ∧ ∃ F ρ p, Pres F1 H1 F H ∧ Rel X.mg F0 H0 pa F σ H ρ p ∧ posts X.mg F0 H0 pa W F H (forR t.asg f w (items.drop i) ρ p) Ds, ⟨items.length, by simp, Nat.zero_le _, F1, wipeE ρ w, p1, Pres.refl _ _, r1.wipeR w, q1⟩, ?_⟩
  rintro i m σ2 H2 ⟨rfl, hi2, F2, ρ2, p2, pr2, r2, q2⟩
  obtain ⟨w1, w2⟩ := j1 F2 H2 p2 r2.base pr2 fun z => by cases z
  by_cases hlt : i < items.length
  · obtain ⟨go, yl⟩ := w1 i items[i] (List.getElem?_eq_getElem hlt)
    refine .inr ⟨go, fun σ H => ∃ F ρ p, Pres F1 H1 F H ∧ Rel X.mg F0 H0 pa F σ H ρ p ∧ posts X.mg F0 H0 pa W F H (forR t.asg f w (items.drop (i + 1)) ρ p) Ds, fun σ' H' x => ⟨items.length - (i + 1), by omega, rfl, hlt, x⟩, fun x H3 y => ?_⟩
    obtain ⟨s3, ix⟩ := yl x H3 y
    have hdrop : items.drop i = items[i] :: items.drop (i + 1) := List.drop_eq_getElem_cons hlt
    rw [hdrop] at q2
    simp only [forR] at q2
    have pr3 := s3.pres r2.base
    cases eg : t.asg items[i] ρ2 with
    | none => rw [eg] at q2; exact q2.elim
    | some ρ3 =>
      rw [eg] at q2
      have q2 : posts X.mg F0 H0 pa W F2 H2 (turnEnd w (f ρ3 p2) (forR t.asg f w (items.drop (i + 1)))) Ds := q2
      exact ⟨F2, ρ2, p2, items[i], r2.step s3, ix, ρ3, eg, fun σ' r' _ _ => ⟨F2, ρ3, p2, r', turn_ask (q2.back pr3) fun F σ H ρ p pr r q => ⟨F, ρ, p, (pr2.trans pr3).trans pr, r, q⟩⟩⟩
  · have e : i = items.length := by omega
    subst e
    refine .inl ⟨w2 _ (Nat.le_refl _), ?_⟩
    rw [List.drop_length] at q2
    exact q2 F2 σ2 H2 (Pres.refl _ _) r2
/-- raise X() -/
theorem pmk_own0 {C : Addr} {bmB : List Value} {B newId initId : String} {x : Str} {p pos : Pos} (F : ExcBaseFacts B newId initId bmB) (q : PySem.W.excIn X.K C bmB newId = true) (gC : X.mg x = some (.ref C)) (kC : PySem.W.keepIn X.K (.ref C) = true) (r : Raises X (.ref C)) (hg : Gl X x)
    (hdb : (x == ("__debug__" : Str)) = false) : PMk X (.Call (.Name x p) [] [] pos) (fun _ H Q => Q (.ref C) none H) := by
  intro pins s σ H Q I h
  refine wpAny_Call_Name_kw (ld_glob I hg gC ?_ hdb)
  refine PySem.W.callWith_K0 I.kIn kC ?_
  obtain ⟨bm, N, nm, qn, bs, hdct, sn, sub, ab, col, dd, k0, k1, k2, k3, k5, mN, hC, hN, hni, T⟩ := exc_obj I.kIn q
  refine wpAny_call_exc_subT F T hC hN hni (fun h' e hm => ?_) (by show 0 ≤ sizeLine; omega)
  exact mk_of I hm r h (I.hok.gone hm.new)
@[simp] def sRaise (c : Str) : En → Pot → Res Out := fun _ p => .exc c p
theorem ss_raise0 {C : Addr} {x : Str} {p pos pos' : Pos} (hc : X.calm = true) (q : PySem.W.excIn X.K C [.type "ValueError", .type "Exception", .type "BaseException", .type "object"] "ValueError.__new__" = true) (gC : X.mg x = some (.ref C)) (kC : PySem.W.keepIn X.K (.ref C) = true) (r : Raises X (.ref C)) (hg : Gl X x) (hdb : (x == ("__debug__" : Str)) = false) :
    SS X F0 H0 pa (.Raise (some (.Call (.Name x p) [] [] pos)) none pos') (sRaise x) := fun W tk => PSimp (ps_raise hc tk (pmk_own0 PySem.F.excBase_ValueError q gC kC r hg hdb)) fun Ds σ H ⟨F, ρ, p, r, q⟩ => q C F H gC r.gr r.base
end
end M

set_option Elab.async false
set_option linter.all false
set_option maxRecDepth 100000
/-! lists and dicts of ours that are written; more makers of lists -/
namespace M
open PySem PySem.Spec PyProof.Rows L2
section
variable {X : Cx} {F0 : Addr → Prop} {H0 : Hp} {pa : Pa}
theorem Rel.writeOwn {mg : Str → Option Value} {F : Addr → Prop} {σ : L2.St} {H : Hp} {ρ : En} {p : Pot} (r : Rel mg F0 H0 pa F σ H ρ p) {i : Nat} {d d' : D} {a : Addr} {o : HO} (hi : ρ[i]? = some (some (.own d))) (hs : σ[i]? = some (some (.ref a)))
    (nf : ¬ F a) (n0 : H0 a = none) (w : Wr H a) (ht : ∀ xs, H a ≠ some (.tup xs)) (hn : At mg pa F (upd H a o) a d') : Rel mg F0 H0 pa F σ (upd H a o) (ρ.set i (some (.own d'))) p ∧ Pres F H F (upd H a o) := by
  have hp : a ≠ pa := r.np0 n0
  have pr : Pres F H F (upd H a o) := Pres.write nf ht
  have hl : i < ρ.length := by
    by_cases hl : i < ρ.length
    · exact hl
    · rw [List.getElem?_eq_none (by simpa using hl)] at hi; cases hi
  refine ⟨⟨r.base.write nf hp w, ⟨r.gr.fr, fun b u e nb nt => ?_, fun b ps e => ?_, r.gr.new⟩, by rw [List.length_set]; exact r.len, fun j x e => ?_, fun j k d1 e1 b hjk h1 h2 h3 => ?_, r.b0⟩, pr⟩
  · rw [upd_ne (ne_of_none e n0)]
    exact r.gr.keep b u e nb nt
  · obtain ⟨ps', e'⟩ := r.gr.tbl b ps e
    exact ⟨ps', by rw [upd_ne (ne_of_none e n0)]; exact e'⟩
  · by_cases hj : i = j
    · subst hj
      rw [List.getElem?_set_self hl] at e
      cases e
      exact ⟨.ref a, hs, a, rfl, nf, n0, hn⟩
    · rw [List.getElem?_set_ne hj] at e
      obtain ⟨v, h1, h2⟩ := r.slot j x e
      refine ⟨v, h1, ?_⟩
      cases x with
      | val d => exact Is.mono pr _ _ h2
      | own d2 =>
        obtain ⟨b, rfl, e2, e3, e4⟩ := h2
        have nb : b ≠ a := fun z => by
          subst z
          exact r.apart i j d d2 b hj hi e hs h1
        exact ⟨b, rfl, e2, e3, e4.mono pr fun u q _ => by rw [upd_ne nb]; exact q⟩
      | bor d2 =>
        obtain ⟨b, rfl, e2, e3, e4, e5⟩ := h2
        obtain ⟨u, e3⟩ := e3
        have nb : b ≠ a := ne_of_none e3 n0
        exact ⟨b, rfl, e2, ⟨u, e3⟩, e4, e5.mono pr fun u q _ => by rw [upd_ne nb]; exact q⟩
  · have g : ∀ (k : Nat) (e : D), (ρ.set i (some (.own d')))[k]? = some (some (.own e)) → ∃ e', ρ[k]? = some (some (.own e')) := fun k e h => by
      by_cases hk : i = k
      · subst hk; exact ⟨d, hi⟩
      · rw [List.getElem?_set_ne hk] at h; exact ⟨e, h⟩
    obtain ⟨d2, g1⟩ := g j d1 h1
    obtain ⟨e2, g2⟩ := g k e1 h2
    exact r.apart j k d2 e2 b hjk g1 g2 h3
@[simp] def rdO (ρ : En) (i : Nat) : Option D := match ρ[i]? with
  | some (some (.own d)) => some d
  | _ => none
theorem rdO_some {ρ : En} {i : Nat} {d : D} (h : rdO ρ i = some d) : ρ[i]? = some (some (.own d)) := by
  unfold rdO at h
  split at h
  · cases h; assumption
  · cases h
theorem Rel.own {mg : Str → Option Value} {F : Addr → Prop} {σ : L2.St} {H : Hp} {ρ : En} {p : Pot} (r : Rel mg F0 H0 pa F σ H ρ p) {i : Nat} {d : D} (h : rdO ρ i = some d) : ∃ a, σ[i]? = some (some (.ref a)) ∧ ¬ F a ∧ H0 a = none ∧ At mg pa F H a d := by
  obtain ⟨v, h1, a, rfl, h2, h3, h4⟩ := r.slot i _ (rdO_some h)
  exact ⟨a, h1, h2, h3, h4⟩
@[simp] def rdL (ρ : En) (i : Nat) : Option (List D) := match rdO ρ i with
  | some (.lst ds) => some ds
  | _ => none
@[simp] def rdK (ρ : En) (i : Nat) : Option (List (Key × D)) := match rdO ρ i with
  | some (.dct ds) => some ds
  | _ => none
theorem rdL_some {ρ : En} {i : Nat} {ds : List D} (h : rdL ρ i = some ds) : rdO ρ i = some (.lst ds) := by
  unfold rdL at h
  split at h
  · cases h; assumption
  · cases h
theorem rdK_some {ρ : En} {i : Nat} {ds : List (Key × D)} (h : rdK ρ i = some ds) : rdO ρ i = some (.dct ds) := by
  unfold rdK at h
  split at h
  · cases h; assumption
  · cases h
theorem Rel.ownL {mg : Str → Option Value} {F : Addr → Prop} {σ : L2.St} {H : Hp} {ρ : En} {p : Pot} (r : Rel mg F0 H0 pa F σ H ρ p) {i : Nat} {ds : List D} (h : rdL ρ i = some ds) : ∃ a xs, σ[i]? = some (some (.ref a)) ∧ ¬ F a ∧ H0 a = none ∧ H a = some (.lst xs) ∧ IsL mg pa F H ds xs := by
  obtain ⟨a, h1, h2, h3, xs, h4, h5⟩ := r.own (rdL_some h)
  exact ⟨a, xs, h1, h2, h3, h4, h5⟩
theorem Rel.ownK {mg : Str → Option Value} {F : Addr → Prop} {σ : L2.St} {H : Hp} {ρ : En} {p : Pot} (r : Rel mg F0 H0 pa F σ H ρ p) {i : Nat} {ds : List (Key × D)} (h : rdK ρ i = some ds) : ∃ a xs, σ[i]? = some (some (.ref a)) ∧ ¬ F a ∧ H0 a = none ∧ H a = some (.dK xs) ∧ IsK mg pa F H ds xs := by
  obtain ⟨a, h1, h2, h3, xs, h4, h5⟩ := r.own (rdK_some h)
  exact ⟨a, xs, h1, h2, h3, h4, h5⟩
theorem Rel.wrL {mg : Str → Option Value} {F : Addr → Prop} {σ : L2.St} {H : Hp} {ρ : En} {p : Pot} (r : Rel mg F0 H0 pa F σ H ρ p) {i : Nat} {ds ds' : List D} {a : Addr} {xs xs' : List V} (h : rdL ρ i = some ds) (hs : σ[i]? = some (some (.ref a))) (nf : ¬ F a) (n0 : H0 a = none) (ha : H a = some (.lst xs)) (l : IsL mg pa F H ds' xs') :
    Rel mg F0 H0 pa F σ (upd H a (.lst xs')) (ρ.set i (some (.own (.lst ds')))) p ∧ Pres F H F (upd H a (.lst xs')) := by
  have ht : ∀ ys, H a ≠ some (.tup ys) := fun ys z => by rw [ha] at z; cases z
  have pr : Pres F H F (upd H a (.lst xs')) := Pres.write nf ht
  have hn : At mg pa F (upd H a (.lst xs')) a (.lst ds') := ⟨xs', upd_same, IsL.mono pr _ _ l⟩
  exact r.writeOwn (rdO_some (rdL_some h)) hs nf n0 (.inl ⟨_, ha⟩) ht hn
theorem Rel.wrK {mg : Str → Option Value} {F : Addr → Prop} {σ : L2.St} {H : Hp} {ρ : En} {p : Pot} (r : Rel mg F0 H0 pa F σ H ρ p) {i : Nat} {ds ds' : List (Key × D)} {a : Addr} {xs xs' : List (Key × V)} (h : rdK ρ i = some ds) (hs : σ[i]? = some (some (.ref a))) (nf : ¬ F a) (n0 : H0 a = none) (ha : H a = some (.dK xs)) (l : IsK mg pa F H ds' xs') :
    Rel mg F0 H0 pa F σ (upd H a (.dK xs')) (ρ.set i (some (.own (.dct ds')))) p ∧ Pres F H F (upd H a (.dK xs')) := by
  have ht : ∀ ys, H a ≠ some (.tup ys) := fun ys z => by rw [ha] at z; cases z
  have pr : Pres F H F (upd H a (.dK xs')) := Pres.write nf ht
  have hn : At mg pa F (upd H a (.dK xs')) a (.dct ds') := ⟨xs', upd_same, IsK.mono pr _ _ l⟩
  exact r.writeOwn (rdO_some (rdK_some h)) hs nf n0 (.inr (.inl ⟨_, ha⟩)) ht hn
/-- xs.append(e), xs.extend(e) -/
@[simp] def wrEnd (ρ : En) (i : Nat) (o : Option (List D)) (p : Pot) : Res Out := match o with
  | some ds' => .ok (.nx (ρ.set i (some (.own (.lst ds'))))) p
  | none => .bad
@[simp] def sWrL (i : Nat) (f : En → Pot → Res D) (h : List D → D → Option (List D)) : En → Pot → Res Out := fun ρ p => match rdL ρ i with
  | some ds => (f ρ p).bind fun d p1 => wrEnd ρ i (h ds d) p1
  | none => .bad
def appD (ds : List D) (d : D) : Option (List D) := if ds.length < sizeLine then some (ds ++ [d]) else none
def extD (ds : List D) : D → Option (List D)
  | .lst es => if ds.length + es.length ≤ sizeLine then some (ds ++ es) else none
  | _ => none
theorem tyV_lst {K : PySem.W.Frag} {H : Hp} {a : Addr} {xs : List V} (h : H a = some (.lst xs)) : tyV K "list" (.ref a) H := Or.inl ⟨rfl, _, SqL.of h⟩
theorem ss_app {i : Nat} {x : Str} {e : Expr} {p apos cpos pos : Pos} {f : En → Pot → Res D} (hN : X.N[i]? = some x) (hv : Vis X.env.scope x) (hd : (x == ("__debug__" : Str)) = false) (hcd : (x == ("__classdict__" : Str)) = false) (h : SV X F0 H0 pa e f)
    (he : starEach [e] X.env = [(false, eval e X.env)]) (hline : (apos.endLine == cpos.line) = true) : SS X F0 H0 pa (.Expr (.Call (.Attribute (.Name x p) "append" apos) [e] [] cpos) pos) (sWrL i f appD) := fun W tk =>
  PSimp (ps_expr (pe_bm PySem.F.plainAttrs_list PySem.F.slot_list_append PySem.F.type_list_append mt_append (pe_var hN hv hd hcd) (pa_cons (h W tk) pa_nil he) (by rfl) (by rw [he]; rfl) hline he (by rfl)) (by rfl)) fun Ds σ H ⟨F, ρ, p, r, q⟩ => by
    simp only [sWrL] at q
    cases eo : rdL ρ i with
    | none => rw [eo] at q; exact q.elim
    | some ds =>
      rw [eo] at q
      dsimp only at q
      obtain ⟨a, xs, hs, nf, n0, ha, la⟩ := r.ownL eo
      refine ⟨.ref a, hs, tyV_lst ha, ?_⟩
      refine seqS (J := JV X.mg pa) (g := fun d p1 => wrEnd ρ i (appD ds d) p1) r q fun d p1 v F1 H1 s1 j1 r1 q1 => ?_
      obtain ⟨a', xs1, hs', nf1, _, ha1, la1⟩ := r1.ownL eo
      rw [hs] at hs'
      cases hs'
      unfold appD at q1
      split at q1
      · rename_i hz
        obtain ⟨r2, pr2⟩ := r1.wrL eo hs nf1 n0 ha1 (la1.append (IsL.one j1))
        exact ⟨a, xs1, v, rfl, rfl, ha1, by rw [la1.length]; exact hz, q1 F1 σ _ pr2 r2⟩
      · exact q1.elim
theorem ss_ext {i : Nat} {x : Str} {e : Expr} {p apos cpos pos : Pos} {f : En → Pot → Res D} (hN : X.N[i]? = some x) (hv : Vis X.env.scope x) (hd : (x == ("__debug__" : Str)) = false) (hcd : (x == ("__classdict__" : Str)) = false) (h : SB X F0 H0 pa e f)
    (he : starEach [e] X.env = [(false, eval e X.env)]) (hline : (apos.endLine == cpos.line) = true) : SS X F0 H0 pa (.Expr (.Call (.Attribute (.Name x p) "extend" apos) [e] [] cpos) pos) (sWrL i f extD) := fun W tk =>
  PSimp (ps_expr (pe_bm PySem.F.plainAttrs_list PySem.F.slot_list_extend PySem.F.type_list_extend mt_extend (pe_var hN hv hd hcd) (pa_cons (h W tk) pa_nil he) (by rfl) (by rw [he]; rfl) hline he (by rfl)) (by rfl)) fun Ds σ H ⟨F, ρ, p, r, q⟩ => by
    simp only [sWrL] at q
    cases eo : rdL ρ i with
    | none => rw [eo] at q; exact q.elim
    | some ds =>
      rw [eo] at q
      dsimp only at q
      obtain ⟨a, xs, hs, nf, n0, ha, la⟩ := r.ownL eo
      refine ⟨.ref a, hs, tyV_lst ha, ?_⟩
      refine seqS (J := JB X.mg pa) (g := fun d p1 => wrEnd ρ i (extD ds d) p1) r q fun d p1 v F1 H1 s1 j1 r1 q1 => ?_
      obtain ⟨a', xs1, hs', nf1, _, ha1, la1⟩ := r1.ownL eo
      rw [hs] at hs'
      cases hs'
      unfold extD at q1
      split at q1
      · split at q1
        · rename_i es hz
          obtain ⟨b, ys, rfl, hb, lb⟩ := j1.lst
          obtain ⟨r2, pr2⟩ := r1.wrL eo hs nf1 n0 ha1 (la1.append lb)
          exact ⟨a, b, xs1, ys, rfl, rfl, ha1, hb, by rw [la1.length, lb.length]; exact hz, q1 F1 σ _ pr2 r2⟩
        · exact q1.elim
      · exact q1.elim
/-- xs[k] = e -/
def setD (ds : List D) (d : D) : D → Option (List D)
  | .int k => (ixN ds.length k).map fun j => ds.set j d
  | _ => none
@[simp] def sSetIx (i : Nat) (f g : En → Pot → Res D) : En → Pot → Res Out := fun ρ p => match rdL ρ i with
  | some ds => (f ρ p).bind fun d p1 => (g ρ p1).bind fun k p2 => wrEnd ρ i (setD ds d k) p2
  | none => .bad
theorem ss_setIx {i : Nat} {x : Str} {e b : Expr} {p spos pos : Pos} {f g : En → Pot → Res D} (hN : X.N[i]? = some x) (hv : Vis X.env.scope x) (hd : (x == ("__debug__" : Str)) = false) (hcd : (x == ("__classdict__" : Str)) = false) (h : SV X F0 H0 pa e f) (hb : SV X F0 H0 pa b g)
    (hs1 : swapsWithSole [.Subscript (.Name x p) b spos] e pos.line X.env = pure false) (hw : swappedStores [.Subscript (.Name x p) b spos] e X.env = pure none)
    (hasg : ∀ v, assign (.Subscript (.Name x p) b spos) X.env v = (do let ov ← holding [v] (eval (.Name x p) X.env); let iv ← holding [v, ov] (eval b X.env); standAt spos; holding [v, ov, iv] (setItem ov iv v); release [v, ov, iv] [])) : SS X F0 H0 pa (.Assign [.Subscript (.Name x p) b spos] e pos) (sSetIx i f g) := fun W tk =>
  PSimp (ps_asg (h W tk) (pg_sub (pe_var hN hv hd hcd) (hb W tk) set_list (ha := hasg)) hs1 hw (by rfl)) fun Ds σ H ⟨F, ρ, p, r, q⟩ => by
    simp only [sSetIx] at q
    cases eo : rdL ρ i with
    | none => rw [eo] at q; exact q.elim
    | some ds =>
      rw [eo] at q
      dsimp only at q
      refine seqS (J := JV X.mg pa) (g := fun d p1 => (g ρ p1).bind fun k p2 => wrEnd ρ i (setD ds d k) p2) r q fun d p1 v F1 H1 s1 j1 r1 q1 => ?_
      obtain ⟨a, xs, hs, nf, n0, ha, la⟩ := r1.ownL eo
      refine ⟨.ref a, hs, ?_⟩
      refine seqS (J := JV X.mg pa) (g := fun k p2 => wrEnd ρ i (setD ds d k) p2) r1 q1 fun k p2 w F2 H2 s2 j2 r2 q2 => ?_
      obtain ⟨a', xs1, hs', nf1, _, ha1, la1⟩ := r2.ownL eo
      rw [hs] at hs'
      cases hs'
      unfold setD at q2
      split at q2
      · rename_i k
        cases ek : ixN ds.length k with
        | none => rw [ek] at q2; exact q2.elim
        | some j =>
          rw [ek] at q2
          obtain ⟨r3, pr3⟩ := r2.wrL eo hs nf1 n0 ha1 (la1.set j (JV.step (H₂ := H2) r1.base s2 j1))
          exact ⟨a, xs1, k, j, rfl, j2, ha1, by rw [la1.length]; exact ek, q2 F2 σ _ pr3 r3⟩
      · exact q2.elim
/-- d[k] = e -/
def putG (kvs : List (Key × D)) (k : Key) (v : D) : List (Key × D) :=
  if (kvs.any fun kv => decide (kv.1 = k)) = true then kvs.map (fun kv => if kv.1 = k then (kv.1, v) else kv) else kvs ++ [(k, v)]
theorem IsK.any {mg : Str → Option Value} {F : Addr → Prop} {H : Hp} (k : Key) : ∀ {ds : List (Key × D)} {vs : List (Key × V)}, IsK mg pa F H ds vs → (vs.any fun kv => decide (kv.1 = k)) = ds.any fun kv => decide (kv.1 = k)
  | [], vs, h => by rw [show vs = [] from h] <;> rfl
  | (k', d) :: ds, vs, h => by
    obtain ⟨x, r, e, h1, h2⟩ := h
    subst e
    simp only [List.any_cons, IsK.any k h2]
theorem IsK.mapPut {mg : Str → Option Value} {F : Addr → Prop} {H : Hp} (k : Key) {d : D} {v : V} (i : Is mg pa F H d v) : ∀ {ds : List (Key × D)} {vs : List (Key × V)}, IsK mg pa F H ds vs → IsK mg pa F H (ds.map fun kv => if kv.1 = k then (kv.1, d) else kv) (vs.map fun kv => if kv.1 = k then (kv.1, v) else kv)
  | [], vs, h => by rw [show vs = [] from h]; exact rfl
  | (k', e) :: ds, vs, h => by
    obtain ⟨x, r, q, h1, h2⟩ := h
    subst q
    by_cases hk : k' = k
    · simp only [List.map_cons, hk, if_true]
      exact ⟨v, _, rfl, i, IsK.mapPut k i h2⟩
    · simp only [List.map_cons, hk, if_false]
      exact ⟨x, _, rfl, h1, IsK.mapPut k i h2⟩
theorem IsK.append {mg : Str → Option Value} {F : Addr → Prop} {H : Hp} {es : List (Key × D)} {ws : List (Key × V)} (h' : IsK mg pa F H es ws) : ∀ {ds : List (Key × D)} {vs : List (Key × V)}, IsK mg pa F H ds vs → IsK mg pa F H (ds ++ es) (vs ++ ws)
  | [], vs, h => by
    obtain rfl : vs = [] := h
    exact h'
  | (k, d) :: ds, vs, h => by
    obtain ⟨x, r, e', h1, h2⟩ := h
    subst e'
    exact ⟨x, r ++ ws, rfl, h1, IsK.append h' h2⟩
theorem IsK.put {mg : Str → Option Value} {F : Addr → Prop} {H : Hp} (k : Key) {d : D} {v : V} (i : Is mg pa F H d v) {ds : List (Key × D)} {vs : List (Key × V)} (l : IsK mg pa F H ds vs) : IsK mg pa F H (putG ds k d) (putK vs k v) := by
  unfold putG putK
  rw [l.any k]
  split
  · exact IsK.mapPut k i l
  · exact IsK.append (show IsK mg pa F H [(k, d)] [(k, v)] from ⟨v, [], rfl, i, rfl⟩) l
@[simp] def wrEndK (ρ : En) (i : Nat) (o : Option (List (Key × D))) (p : Pot) : Res Out := match o with
  | some ds' => .ok (.nx (ρ.set i (some (.own (.dct ds'))))) p
  | none => .bad
def putD (ds : List (Key × D)) (d k : D) : Option (List (Key × D)) := if ds.length < sizeLine then (keyOf k).map fun k => putG ds k d else none
/-! nested keys -/
def putN (kvs : List (NK × D)) (k : NK) (v : D) : List (NK × D) := if (lookN kvs k).isSome = true then kvs.map (fun kv => if kv.1 = k then (kv.1, v) else kv) else kvs ++ [(k, v)]
theorem IsN.isSome {mg : Str → Option Value} {F : Addr → Prop} {H : Hp} (k : NK) {ds : List (NK × D)} {es : List NE} (h : IsN mg pa F H ds es) : (valE es k).isSome = (lookN ds k).isSome := by
  have z := IsN.val k h
  split at z
  · rename_i d hd
    obtain ⟨v, z, _⟩ := z
    rw [z, hd]
    rfl
  · rename_i hd
    rw [z, hd]
    rfl
theorem IsN.mapPut {mg : Str → Option Value} {F : Addr → Prop} {H : Hp} (k : NK) {d : D} {v : V} (i : Is mg pa F H d v) : ∀ {ds : List (NK × D)} {es : List NE}, IsN mg pa F H ds es → IsN mg pa F H (ds.map fun kv => if kv.1 = k then (kv.1, d) else kv) (es.map fun e => if e.1 = k then (e.1, e.2.1, v) else e)
  | [], es, h => by rw [show es = [] from h]; exact rfl
  | (k', e) :: ds, es, h => by
    obtain ⟨b, x, r, rfl, hk, h1, h2⟩ := h
    rw [List.map_cons, List.map_cons]
    by_cases q : k' = k
    · rw [if_pos q, if_pos q]
      exact ⟨b, v, _, rfl, hk, i, IsN.mapPut k i h2⟩
    · rw [if_neg q, if_neg q]
      exact ⟨b, x, _, rfl, hk, h1, IsN.mapPut k i h2⟩
theorem IsN.append {mg : Str → Option Value} {F : Addr → Prop} {H : Hp} {es : List (NK × D)} {ws : List NE} (h' : IsN mg pa F H es ws) : ∀ {ds : List (NK × D)} {vs : List NE}, IsN mg pa F H ds vs → IsN mg pa F H (ds ++ es) (vs ++ ws)
  | [], vs, h => by
    obtain rfl : vs = [] := h
    exact h'
  | (k, d) :: ds, vs, h => by
    obtain ⟨b, x, r, rfl, hk, h1, h2⟩ := h
    exact ⟨b, x, r ++ ws, rfl, hk, h1, IsN.append h' h2⟩
theorem IsN.put {mg : Str → Option Value} {F : Addr → Prop} {H : Hp} {k : NK} {b : Addr} {d : D} {v : V} (i : Is mg pa F H d v) (hk : KyE H (k, b, v)) {ds : List (NK × D)} {es : List NE} (l : IsN mg pa F H ds es) : IsN mg pa F H (putN ds k d) (putE es k b v) := by
  unfold putN putE
  rw [l.isSome k]
  split
  · exact IsN.mapPut k i l
  · exact IsN.append (show IsN mg pa F H [(k, d)] [(k, b, v)] from ⟨b, v, [], rfl, hk, i, rfl⟩) l
@[simp] def rdD (ρ : En) (i : Nat) : Option D := match rdO ρ i with
  | some (.dct ds) => some (.dct ds)
  | some (.dcn ds) => some (.dcn ds)
  | _ => none
theorem rdD_some {ρ : En} {i : Nat} {z : D} (h : rdD ρ i = some z) : rdO ρ i = some z ∧ ((∃ ds, z = .dct ds) ∨ ∃ ds, z = .dcn ds) := by
  unfold rdD at h
  split at h
  · rename_i e; cases h; exact ⟨e, .inl ⟨_, rfl⟩⟩
  · rename_i e; cases h; exact ⟨e, .inr ⟨_, rfl⟩⟩
  · cases h
def putX : D → D → D → Option D
  | .dct ds, d, k => (match keyOf k with
    | some _ => (putD ds d k).map .dct
    | none => if ds.isEmpty = true then (keyT k).map fun k => .dcn [(k, d)] else none)
  | .dcn ds, d, k => if ds.length < sizeLine then (keyT k).map fun k => .dcn (putN ds k d) else none
  | _, _, _ => none
@[simp] def wrEndD (ρ : En) (i : Nat) (o : Option D) (p : Pot) : Res Out := match o with
  | some d' => .ok (.nx (ρ.set i (some (.own d')))) p
  | none => .bad
@[simp] def sPut (i : Nat) (f g : En → Pot → Res D) : En → Pot → Res Out := fun ρ p => match rdD ρ i with
  | some z => (f ρ p).bind fun d p1 => (g ρ p1).bind fun k p2 => wrEndD ρ i (putX z d k) p2
  | none => .bad
theorem Rel.wrN {mg : Str → Option Value} {F : Addr → Prop} {σ : L2.St} {H : Hp} {ρ : En} {p : Pot} (r : Rel mg F0 H0 pa F σ H ρ p) {i : Nat} {z : D} {ds' : List (NK × D)} {a : Addr} {es es' : List NE} (h : rdO ρ i = some z) (hs : σ[i]? = some (some (.ref a))) (nf : ¬ F a) (n0 : H0 a = none) (ha : Nd H a es) (l : IsN mg pa F H ds' es') :
    Rel mg F0 H0 pa F σ (upd H a (ndO a es')) (ρ.set i (some (.own (.dcn ds')))) p ∧ Pres F H F (upd H a (ndO a es')) := by
  have pr : Pres F H F (upd H a (ndO a es')) := Pres.write nf ha.no_tup
  have hn : At mg pa F (upd H a (ndO a es')) a (.dcn ds') := ⟨es', upd_same, IsN.mono pr _ _ l⟩
  refine r.writeOwn (rdO_some h) hs nf n0 ?_ ha.no_tup hn
  rcases ha with ⟨e, _⟩ | ⟨_, e⟩
  · exact .inr (.inr ⟨_, e⟩)
  · exact .inr (.inl ⟨_, e⟩)
theorem ss_put {i : Nat} {x : Str} {e b : Expr} {p spos pos : Pos} {f g : En → Pot → Res D} (hu : X.A.units + 9 < cLine) (hN : X.N[i]? = some x) (hv : Vis X.env.scope x) (hd : (x == ("__debug__" : Str)) = false) (hcd : (x == ("__classdict__" : Str)) = false) (h : SV X F0 H0 pa e f) (hb : SV X F0 H0 pa b g)
    (hs1 : swapsWith e (some (.Subscript (.Name x p) b spos)) pos.line X.env = pure false) : SS X F0 H0 pa (.Assign [.Subscript (.Name x p) b spos] e pos) (sPut i f g) := fun W tk =>
  PSimp (ps_putX hu (pe_var hN hv hd hcd) (hb W tk) (h W tk) hs1) fun Ds σ H ⟨F, ρ, p, r, q⟩ => by
    simp only [sPut] at q
    cases eo : rdD ρ i with
    | none => rw [eo] at q; exact q.elim
    | some z =>
      rw [eo] at q
      dsimp only at q
      obtain ⟨ez, hz⟩ := rdD_some eo
      refine seqS (J := JV X.mg pa) (g := fun d p1 => (g ρ p1).bind fun k p2 => wrEndD ρ i (putX z d k) p2) r q fun d p1 v F1 H1 s1 j1 r1 q1 => ?_
      obtain ⟨a, hs, nf, n0, ha⟩ := r1.own ez
      refine ⟨.ref a, hs, ?_⟩
      refine seqS (J := JV X.mg pa) (g := fun k p2 => wrEndD ρ i (putX z d k) p2) r1 q1 fun k p2 w F2 H2 s2 j2 r2 q2 => ?_
      obtain ⟨a', hs', nf1, _, ha1⟩ := r2.own ez
      rw [hs] at hs'
      cases hs'
      have jv : Is X.mg pa F2 H2 d v := JV.step (H₂ := H2) r1.base s2 j1
      have jb : JB X.mg pa H2 F2 H2 k w := .inl j2
      rcases hz with ⟨ds, rfl⟩ | ⟨ds, rfl⟩
      · obtain ⟨xs1, ha1, la1⟩ := ha1
        have eK : rdK ρ i = some ds := by unfold rdK; rw [ez]
        cases ek : keyOf k with
        | none =>
          simp only [putX, ek] at q2
          split at q2
          · rename_i he
            obtain rfl : ds = [] := by simpa using he
            obtain rfl : xs1 = [] := la1
            cases et : keyT k with
            | none => rw [et] at q2; exact q2.elim
            | some key =>
              rw [et] at q2
              obtain ⟨b', rfl, hb'⟩ := jb.keyT et
              have nd : Nd H2 a [] := .inr ⟨rfl, ha1⟩
              obtain ⟨r3, pr3⟩ := r2.wrN (ds' := [(key, d)]) (es' := [(key, b', v)]) ez hs nf1 n0 nd ⟨b', v, [], rfl, hb' v, jv, rfl⟩
              exact ⟨a, _, rfl, .inr ⟨[], key, b', v, nd, rfl, hb' v, by rw [sizeLine_eq]; show 0 < 16777216; omega, rfl⟩, q2 F2 σ _ pr3 r3⟩
          · exact q2.elim
        | some key =>
          simp only [putX, ek, putD] at q2
          split at q2
          · rename_i hl
            have hk : w = kV key := JB.key (mg := X.mg) (F := F2) (H := H2) (H1 := H2) ek jb
            obtain ⟨r3, pr3⟩ := r2.wrK eK hs nf1 n0 ha1 (la1.put key jv)
            refine ⟨a, _, rfl, .inl ?_, q2 F2 σ _ pr3 r3⟩
            rw [hk]
            exact DPut.k ha1 (by rw [la1.length]; exact hl)
          · exact q2.elim
      · obtain ⟨es, ha1, la1⟩ := ha1
        simp only [putX] at q2
        split at q2
        · rename_i hl
          cases et : keyT k with
          | none => rw [et] at q2; exact q2.elim
          | some key =>
            rw [et] at q2
            obtain ⟨b', rfl, hb'⟩ := jb.keyT et
            have nd := la1.nd ha1
            obtain ⟨r3, pr3⟩ := r2.wrN ez hs nf1 n0 nd (la1.put jv (hb' v))
            exact ⟨a, _, rfl, .inr ⟨es, key, b', v, nd, rfl, hb' v, by rw [la1.length]; exact hl, rfl⟩, q2 F2 σ _ pr3 r3⟩
        · exact q2.elim
/-- tg = xs.pop(), tg = xs.pop(k) -/
def popD (ds : List D) : Option (D × List D) := match ds[ds.length - 1]? with
  | some d => some (d, ds.dropLast)
  | none => none
def popAtD (ds : List D) : D → Option (D × List D)
  | .int k => if bnd 9223372036854775807 k = true then (seqIndex? k ds.length).bind fun j => (ds[j]?).map fun d => (d, ds.eraseIdx j) else none
  | _ => none
def popEnd (t : Tg) (i : Nat) (ρ : En) (o : Option (D × List D)) (p : Pot) : Res Out := match o with
  | some (d, ds') => (match t.asg d (ρ.set i (some (.own (.lst ds')))) with
    | some ρ' => .ok (.nx ρ') p
    | none => .bad)
  | none => .bad
def sPop (t : Tg) (i : Nat) : En → Pot → Res Out := fun ρ p => match rdL ρ i with
  | some ds => popEnd t i ρ (popD ds) p
  | none => .bad
theorem ss_pop {t : Tg} {tg : Expr} {i : Nat} {x : Str} {p apos cpos pos : Pos} (hg : SG X F0 H0 pa tg t) (hN : X.N[i]? = some x) (hv : Vis X.env.scope x) (hd : (x == ("__debug__" : Str)) = false) (hcd : (x == ("__classdict__" : Str)) = false) (hline : (apos.endLine == cpos.line) = true)
    (hs1 : swapsWithSole [tg] (.Call (.Attribute (.Name x p) "pop" apos) [] [] cpos) pos.line X.env = pure false) (hw : swappedStores [tg] (.Call (.Attribute (.Name x p) "pop" apos) [] [] cpos) X.env = pure none) (h1 : (assignEach [tg] X.env).map (·.2) = [assign tg X.env]) :
    SS X F0 H0 pa (.Assign [tg] (.Call (.Attribute (.Name x p) "pop" apos) [] [] cpos) pos) (sPop t i) := fun W tk =>
  PSimp (ps_asg (pe_bm0 PySem.F.plainAttrs_list PySem.F.slot_list_pop PySem.F.type_list_pop mt_pop (pe_var hN hv hd hcd) (by rfl) hline) hg hs1 hw (h1 := h1)) fun Ds σ H ⟨F, ρ, p, r, q⟩ => by
    simp only [sPop] at q
    cases eo : rdL ρ i with
    | none => rw [eo] at q; exact q.elim
    | some ds =>
      rw [eo] at q
      dsimp only at q
      obtain ⟨a, xs, hs, nf, n0, ha, la⟩ := r.ownL eo
      refine ⟨.ref a, hs, tyV_lst ha, ?_⟩
      unfold popD at q
      cases el : ds[ds.length - 1]? with
      | none => rw [el] at q; exact q.elim
      | some d =>
        rw [el] at q
        simp only [popEnd] at q
        obtain ⟨v, ev, iv⟩ := la.get el
        obtain ⟨r2, pr2⟩ := r.wrL eo hs nf n0 ha la.dropLast
        cases eg : t.asg d (ρ.set i (some (.own (.lst ds.dropLast)))) with
        | none => rw [eg] at q; exact q.elim
        | some ρ' =>
          rw [eg] at q
          have q : posts X.mg F0 H0 pa W F H (.ok (.nx ρ') p) Ds := q
          exact ⟨a, xs, v, rfl, rfl, ha, by rw [la.length]; exact ev, F, _, p, d, r2, Is.mono pr2 _ _ iv, ρ', eg, fun σ' r' _ _ => (q.back pr2) F σ' _ (Pres.refl _ _) r'⟩
def sPopAt (t : Tg) (i : Nat) (f : En → Pot → Res D) : En → Pot → Res Out := fun ρ p => match rdL ρ i with
  | some ds => (f ρ p).bind fun k p1 => popEnd t i ρ (popAtD ds k) p1
  | none => .bad
theorem ss_popAt {t : Tg} {tg e : Expr} {i : Nat} {x : Str} {p apos cpos pos : Pos} {f : En → Pot → Res D} (hg : SG X F0 H0 pa tg t) (hN : X.N[i]? = some x) (hv : Vis X.env.scope x) (hd : (x == ("__debug__" : Str)) = false) (hcd : (x == ("__classdict__" : Str)) = false) (h : SV X F0 H0 pa e f) (he : starEach [e] X.env = [(false, eval e X.env)]) (hline : (apos.endLine == cpos.line) = true)
    (hs1 : swapsWithSole [tg] (.Call (.Attribute (.Name x p) "pop" apos) [e] [] cpos) pos.line X.env = pure false) (hw : swappedStores [tg] (.Call (.Attribute (.Name x p) "pop" apos) [e] [] cpos) X.env = pure none) (h1 : (assignEach [tg] X.env).map (·.2) = [assign tg X.env]) :
    SS X F0 H0 pa (.Assign [tg] (.Call (.Attribute (.Name x p) "pop" apos) [e] [] cpos) pos) (sPopAt t i f) := fun W tk =>
  PSimp (ps_asg (pe_bm PySem.F.plainAttrs_list PySem.F.slot_list_pop PySem.F.type_list_pop mt_popAt (pe_var hN hv hd hcd) (pa_cons (h W tk) pa_nil he) (by rfl) (by rw [he]; rfl) hline he (by rfl)) hg hs1 hw (h1 := h1)) fun Ds σ H ⟨F, ρ, p, r, q⟩ => by
    simp only [sPopAt] at q
    cases eo : rdL ρ i with
    | none => rw [eo] at q; exact q.elim
    | some ds =>
      rw [eo] at q
      dsimp only at q
      obtain ⟨a, xs, hs, nf, n0, ha, la⟩ := r.ownL eo
      refine ⟨.ref a, hs, tyV_lst ha, ?_⟩
      refine seqS (J := JV X.mg pa) (g := fun k p1 => popEnd t i ρ (popAtD ds k) p1) r q fun k p1 w F1 H1 s1 j1 r1 q1 => ?_
      obtain ⟨a', xs1, hs', nf1, _, ha1, la1⟩ := r1.ownL eo
      rw [hs] at hs'
      cases hs'
      unfold popAtD at q1
      split at q1
      · rename_i k
        split at q1
        · rename_i hz
          cases ej : seqIndex? k ds.length with
          | none => rw [ej] at q1; exact q1.elim
          | some j =>
            rw [ej] at q1
            simp only [Option.bind_some] at q1
            cases el : ds[j]? with
            | none => rw [el] at q1; exact q1.elim
            | some d =>
              rw [el] at q1
              simp only [Option.map_some, popEnd] at q1
              obtain ⟨v, ev, iv⟩ := la1.get el
              obtain ⟨r2, pr2⟩ := r1.wrL eo hs nf1 n0 ha1 (la1.eraseIdx j)
              cases eg : t.asg d (ρ.set i (some (.own (.lst (ds.eraseIdx j))))) with
              | none => rw [eg] at q1; exact q1.elim
              | some ρ' =>
                rw [eg] at q1
                have q1 : posts X.mg F0 H0 pa W F1 H1 (.ok (.nx ρ') p1) Ds := q1
                exact ⟨a, xs1, k, j, v, rfl, by rw [show w = .int k from j1], ha1, by have := bnd_le hz; omega, by have := bnd_le hz; omega, by rw [la1.length]; exact ej, ev, F1, _, p1, d, r2, Is.mono pr2 _ _ iv, ρ', eg, fun σ' r' _ _ => (q1.back pr2) F1 σ' _ (Pres.refl _ _) r'⟩
        · exact q1.elim
      · exact q1.elim
/-! ### {}, {k: v}; list(range(..)); * and + as new lists -/
theorem s_dnew {pos : Pos} : SN X F0 H0 pa (.Dict [] [] pos) fun _ p => .ok (.dct []) p := fun W tk => PEimp pe_dnewK fun σ H Q ⟨F, ρ, p, r, q⟩ => fun a ha => by
  obtain ⟨s, j⟩ := new_dct (mg := X.mg) r.base ha (ds := []) (xs := []) rfl
  exact q _ F _ s j
/-- {k: v}, one entry -/
@[simp] def dDict1 (f g : En → Pot → Res D) : En → Pot → Res D := fun ρ p => (f ρ p).bind fun k p1 => (g ρ p1).bind fun d p2 => match keyOf k with
  | some k => .ok (.dct [(k, d)]) p2
  | none => .bad
theorem s_dict1 {k v : Expr} {pos : Pos} {f g : En → Pot → Res D} (h1 : SV X F0 H0 pa k f) (h2 : SV X F0 H0 pa v g) : SN X F0 H0 pa (.Dict [some k] [v] pos) (dDict1 f g) := fun W tk =>
  PEimp (pe_disp (pps_cons (h1 W tk) (h2 W tk) pps_nil) (by rfl) (by rfl) (by intro z; cases z) (by show 1 ≤ 15; omega)) fun σ H Q ⟨F, ρ, p, r, q⟩ => fun a ha => by
  have hap : a ≠ pa := r.base.np ha
  have s0 := r.base.laid (o := .dK []) ha
  have r0 := r.step s0
  refine ⟨F, ρ, p, r0, ?_⟩
  simp only [dDict1] at q
  cases e1 : f ρ p with
  | bad => rw [e1] at q; exact q
  | exc c p1 => rw [e1] at q; exact fun C F1 H1 hc s1 => q C F1 H1 hc (s0.trans s1)
  | ok dk p1 =>
    rw [e1] at q
    simp only [Res.bind] at q
    intro x F1 H1 s1 j1
    have r1 := r0.step s1
    refine ⟨F1, ρ, p1, r1, ?_⟩
    cases e2 : g ρ p1 with
    | bad => rw [e2] at q; exact q
    | exc c p2 => rw [e2] at q; exact fun C F2 H2 hc s2 => q C F2 H2 hc (s0.trans (s1.trans s2))
    | ok d p2 =>
      rw [e2] at q
      simp only [] at q
      intro y F2 H2 s2 j2
      have s02 := s0.trans (s1.trans s2)
      have r2 := r1.step s2
      have eD : H2 a = some (.dK []) := (s1.trans s2).gr.keep a _ upd_same hap nt_dK
      have nf : ¬ F2 a := fun f => by
        have := (s1.trans s2).gr.new a f (r.base.nf ha)
        rw [upd_same] at this
        cases this
      refine ⟨eD, ?_⟩
      cases ek : keyOf dk with
      | none => rw [ek] at q; exact q.elim
      | some key =>
        rw [ek] at q
        have hk : x = kV key := JB.key (mg := X.mg) (F := F1) (H := H1) (H1 := H1) ek (.inl j1)
        have ht : ∀ ys, H2 a ≠ some (.tup ys) := fun ys z => by rw [eD] at z; cases z
        have pr : Pres F2 H2 F2 (upd H2 a (.dK [(key, y)])) := Pres.write nf ht
        have hl : IsK X.mg pa F2 (upd H2 a (.dK [(key, y)])) [(key, d)] [(key, y)] := ⟨y, [], rfl, Is.mono pr _ _ j2, rfl⟩
        refine ⟨[(key, y)], by rw [hk]; rfl, by show 1 ≤ 15; omega, ?_⟩
        exact q _ F2 _ (s02.write nf hap ha (.inr (.inl ⟨_, eD⟩))) ⟨a, rfl, ha, nf, [(key, y)], upd_same, hl⟩
@[simp] def dDict1N (f g : En → Pot → Res D) : En → Pot → Res D := fun ρ p => (f ρ p).bind fun k p1 => (g ρ p1).bind fun d p2 => match keyT k with
  | some k => .ok (.dcn [(k, d)]) p2
  | none => .bad
theorem s_dict1N {k v : Expr} {pos : Pos} {f g : En → Pot → Res D} (hu : X.A.units + 9 < cLine) (h1 : SV X F0 H0 pa k f) (h2 : SV X F0 H0 pa v g) : SN X F0 H0 pa (.Dict [some k] [v] pos) (dDict1N f g) := fun W tk =>
  PEimp (pe_disp1N hu (h1 W tk) (h2 W tk)) fun σ H Q ⟨F, ρ, p, r, q⟩ => fun a ha => by
  have hap : a ≠ pa := r.base.np ha
  have s0 := r.base.laid (o := .dK []) ha
  have r0 := r.step s0
  refine ⟨F, ρ, p, r0, ?_⟩
  simp only [dDict1N] at q
  cases e1 : f ρ p with
  | bad => rw [e1] at q; exact q
  | exc c p1 => rw [e1] at q; exact fun C F1 H1 hc s1 => q C F1 H1 hc (s0.trans s1)
  | ok dk p1 =>
    rw [e1] at q
    simp only [Res.bind] at q
    intro x F1 H1 s1 j1
    have r1 := r0.step s1
    refine ⟨F1, ρ, p1, r1, ?_⟩
    cases e2 : g ρ p1 with
    | bad => rw [e2] at q; exact q
    | exc c p2 => rw [e2] at q; exact fun C F2 H2 hc s2 => q C F2 H2 hc (s0.trans (s1.trans s2))
    | ok d p2 =>
      rw [e2] at q
      simp only [] at q
      intro y F2 H2 s2 j2
      have s02 := s0.trans (s1.trans s2)
      have r2 := r1.step s2
      have eD : H2 a = some (.dK []) := (s1.trans s2).gr.keep a _ upd_same hap nt_dK
      have nf : ¬ F2 a := fun f => by
        have := (s1.trans s2).gr.new a f (r.base.nf ha)
        rw [upd_same] at this
        cases this
      refine ⟨eD, ?_⟩
      cases ek : keyT dk with
      | none => rw [ek] at q; exact q.elim
      | some key =>
        rw [ek] at q
        have jx : Is X.mg pa F2 H2 dk x := JV.step (H₂ := H2) r1.base s2 j1
        obtain ⟨b', rfl, hb'⟩ := JB.keyT (mg := X.mg) (pa := pa) (F := F2) (H := H2) (H1 := H2) ek (.inl jx)
        have ht : ∀ ys, H2 a ≠ some (.tup ys) := fun ys z => by rw [eD] at z; cases z
        have pr : Pres F2 H2 F2 (upd H2 a (ndO a [(key, b', y)])) := Pres.write nf ht
        have hl : IsN X.mg pa F2 H2 [(key, d)] [(key, b', y)] := ⟨b', y, [], rfl, hb' y, j2, rfl⟩
        refine ⟨key, b', rfl, hb' y, ?_⟩
        exact q _ F2 _ (s02.write nf hap ha (.inr (.inl ⟨_, eD⟩))) ⟨a, rfl, ha, nf, [(key, b', y)], upd_same, IsN.mono pr _ _ hl⟩
def PRg3 (X : Cx) (e : Expr) (t : L2.St → Hp → (Int → Int → Int → Hp → Prop) → Prop) : Prop :=
  ∀ (pins : List (Addr × Obj)) (s : Shared) (σ : L2.St) (H : Hp) (Q : Int → Int → Int → Hp → Prop), Inv X pins σ H s → t σ H Q →
    wpAny (model X.prog X.w) X.A (eval e X.env) (fun x s' => ∃ r a b c t u v H', x = .ref r ∧ IsRange s'.heap r a b c t u v ∧ Inv X pins σ H' s' ∧ Q a b c H') X.xe s
theorem prg3_1 {a : Expr} {ta : TA} {p pos : Pos} (hg : Gl X "range") (hm : X.mg "range" = none) (ha : PA X [a] ta) (hs : starEach [a] X.env = (false, eval a X.env) :: starEach [] X.env) :
    PRg3 X (.Call (.Name "range" p) [a] [] pos) (fun σ H Q => ta σ H fun vs H1 => ∃ j, vs = [.int j] ∧ Q 0 j 1 H1) := fun pins s σ H Q I h => by
  refine Call_ (ld_blt I hg hm boot_range (PyProof.Rows.callWith_type1 (thn (ha.run pos pins s σ H _ I h) fun us s1 ⟨vs, H1, I1, r1, q1⟩ => ?_) hs (by rfl)))
  obtain ⟨j, e, q⟩ := q1
  subst e
  cases r1 with
  | cons r rr =>
    cases rr
    obtain ⟨t, rfl⟩ := r
    exact call_range_1 ⟨_, 0, j, 1, _, _, _, H1, rfl, IsRange.new _ _ _ _ _ _ _, I1.kept fun b u e => Heap.get?_push_of_some _ e, q⟩
theorem prg3_2 {a b : Expr} {ta : TA} {p pos : Pos} (hg : Gl X "range") (hm : X.mg "range" = none) (ha : PA X [a, b] ta) (hs : starEach [a, b] X.env = (false, eval a X.env) :: starEach [b] X.env) (hpl : (backTo pos (starEach [b] X.env)).any (·.1) = false) :
    PRg3 X (.Call (.Name "range" p) [a, b] [] pos) (fun σ H Q => ta σ H fun vs H1 => ∃ i j, vs = [.int i, .int j] ∧ Q i j 1 H1) := fun pins s σ H Q I h => by
  refine Call_ (ld_blt I hg hm boot_range (PyProof.Rows.callWith_type1 (thn (ha.run pos pins s σ H _ I h) fun us s1 ⟨vs, H1, I1, r1, q1⟩ => ?_) hs hpl))
  obtain ⟨i, j, e, q⟩ := q1
  subst e
  cases r1 with
  | cons r rr =>
    cases rr with
    | cons r' rr =>
      cases rr
      obtain ⟨t, rfl⟩ := r
      obtain ⟨t', rfl⟩ := r'
      exact call_range_2 ⟨_, i, j, 1, _, _, _, H1, rfl, IsRange.new _ _ _ _ _ _ _, I1.kept fun b u e => Heap.get?_push_of_some _ e, q⟩
theorem prg3_3 {a b c : Expr} {ta : TA} {p pos : Pos} (hg : Gl X "range") (hm : X.mg "range" = none) (ha : PA X [a, b, c] ta) (hs : starEach [a, b, c] X.env = (false, eval a X.env) :: starEach [b, c] X.env) (hpl : (backTo pos (starEach [b, c] X.env)).any (·.1) = false) :
    PRg3 X (.Call (.Name "range" p) [a, b, c] [] pos) (fun σ H Q => ta σ H fun vs H1 => ∃ i j c, vs = [.int i, .int j, .int c] ∧ c ≠ 0 ∧ c.natAbs < 1073741824 ∧ Q i j c H1) := fun pins s σ H Q I h => by
  refine Call_ (ld_blt I hg hm boot_range (PyProof.Rows.callWith_type1 (thn (ha.run pos pins s σ H _ I h) fun us s1 ⟨vs, H1, I1, r1, q1⟩ => ?_) hs hpl))
  obtain ⟨i, j, k, e, c0, c1, q⟩ := q1
  subst e
  cases r1 with
  | cons r rr =>
    cases rr with
    | cons r' rr =>
      cases rr with
      | cons r'' rr =>
        cases rr
        obtain ⟨t, rfl⟩ := r
        obtain ⟨t', rfl⟩ := r'
        obtain ⟨t'', rfl⟩ := r''
        refine call_range_3 c0 ?_ (.inl (PyProof.noPylong_small c1))
        have I2 : Inv X pins σ H1 { s1 with heap := s1.heap.push { cls := .type "range", data := .fields #[.int i t, .int j t', .int k t''] } } := I1.kept (t' := s1.toks) fun b o e => Heap.get?_push_of_some _ e
        exact ⟨_, i, j, k, t, t', t'', H1, rfl, IsRange.new .., I2, q⟩
def rgV3 (a c : Int) (n : Nat) : List V := (List.range n).map fun (i : Nat) => V.int (a + (i : Int) * c)
/-- list(range(..)) -/
def rngN (a c : Int) (n : Nat) : List D := (List.range n).map fun (i : Nat) => D.int (a + (i : Int) * c)
theorem isL_rng {mg : Str → Option Value} {F : Addr → Prop} {H : Hp} {a c : Int} {n : Nat} : IsL mg pa F H (rngN a c n) (rgV3 a c n) := by
  have h : ∀ l : List Nat, IsL mg pa F H (l.map fun (i : Nat) => D.int (a + (i : Int) * c)) (l.map fun (i : Nat) => V.int (a + (i : Int) * c)) := by
    intro l
    induction l with
    | nil => exact rfl
    | cons i l ih => exact ⟨_, _, rfl, rfl, ih⟩
  exact h _
theorem rng_len {a c : Int} {n : Nat} : (rngN a c n).length = n := by simp [rngN]
def dRng1 : List D → Option (List D)
  | [.int j] => if rgOk j = true then some (rngN 0 1 j.toNat) else none
  | _ => none
def dRng2 : List D → Option (List D)
  | [.int i, .int j] => if rgOk i = true ∧ rgOk j = true then some (rngN i 1 (j - i).toNat) else none
  | _ => none
def dRng3 : List D → Option (List D)
  | [.int i, .int j, .int c] => if rgOk i = true ∧ rgOk j = true ∧ c = -1 then some (rngN i (-1) (i - j).toNat) else none
  | _ => none
theorem dRng1_some {l : List D} {items : List D} (h : dRng1 l = some items) : ∃ j, l = [.int j] ∧ rgOk j = true ∧ items = rngN 0 1 j.toNat := by
  unfold dRng1 at h
  split at h
  · split at h
    · rename_i j c
      cases h
      exact ⟨j, rfl, c, rfl⟩
    · cases h
  · cases h
theorem dRng2_some {l : List D} {items : List D} (h : dRng2 l = some items) : ∃ i j, l = [.int i, .int j] ∧ rgOk i = true ∧ rgOk j = true ∧ items = rngN i 1 (j - i).toNat := by
  unfold dRng2 at h
  split at h
  · split at h
    · rename_i i j c
      cases h
      exact ⟨i, j, rfl, c.1, c.2, rfl⟩
    · cases h
  · cases h
theorem dRng3_some {l : List D} {items : List D} (h : dRng3 l = some items) : ∃ i j, l = [.int i, .int j, .int (-1)] ∧ rgOk i = true ∧ rgOk j = true ∧ items = rngN i (-1) (i - j).toNat := by
  unfold dRng3 at h
  split at h
  · split at h
    · rename_i i j k c
      cases h
      obtain ⟨c1, c2, rfl⟩ := c
      exact ⟨i, j, rfl, c1, c2, rfl⟩
    · cases h
  · cases h
theorem JAs.three {mg : Str → Option Value} {F : Addr → Prop} {H : Hp} {ss : List Sl} {vs : List V} {d e f : D} (j : JAs mg pa F H ss vs) (q : ss.map Sl.d = [d, e, f]) : ∃ v w x, vs = [v, w, x] ∧ JB mg pa H F H d v ∧ JB mg pa H F H e w ∧ JB mg pa H F H f x := by
  cases ss with
  | nil => cases q
  | cons s r =>
    obtain ⟨v, r', rfl, h1, h2⟩ := j
    have q0 := List.cons.inj q
    obtain ⟨w, x, rfl, j1, j2⟩ := JAs.two h2 q0.2
    have e0 : s.d = d := q0.1
    subst e0
    exact ⟨v, w, x, rfl, h1.jb, j1, j2⟩
def lstEnd (o : Option (List D)) (p1 : Pot) : Res D := match o with
  | some ds => if ds.length ≤ sizeLine then .ok (.lst ds) p1 else .bad
  | none => .bad
def dListR (as : En → Pot → Res (List Sl)) (h : List D → Option (List D)) : En → Pot → Res D := fun ρ p => (as ρ p).bind fun ss p1 => lstEnd (h (ss.map Sl.d)) p1
theorem vals_rg3 {a c : Int} {n : Nat} {acc : Array Value} (h : ItemsOf (fun i v => ∃ t, v = .int (a + i * c) t) acc n) : Vals (rgV3 a c n) acc.toList := by
  have e : acc.toList.length = n := by rw [Array.length_toList]; exact h.1
  unfold rgV3
  rw [← e]
  refine vals_of_get acc.toList _ fun j u hj => ?_
  obtain ⟨t, rfl⟩ := h.2 j u (by rw [← hj, Array.getElem?_toList])
  exact ⟨t, rfl⟩
theorem pe_listRg3 {e : Expr} {te : L2.St → Hp → (Int → Int → Int → Hp → Prop) → Prop} {p pos : Pos} (hc : X.calm = true) (hg : Gl X "list") (hm : X.mg "list" = none) (he : PRg3 X e te) (na : starEach [e] X.env = (false, eval e X.env) :: starEach [] X.env) :
    PE X (.Call (.Name "list" p) [e] [] pos) (fun σ H Q => te σ H fun a b c H1 => ∃ n : Nat, Builtin.Range.small a b c = true ∧ Builtin.Range.rangeSize a b c = (n : Int) ∧ n ≤ sizeLine ∧ ∀ q, H1 q = none → Q (.ref q) (upd H1 q (.lst (rgV3 a c n)))) := by
  refine ⟨fun pins s σ H Q I h => ?_⟩
  refine Call_ (ld_blt I hg hm boot_list (PyProof.Rows.callWith_type1 (args_cons (thn (he pins s σ H _ I h) fun x s1 ⟨r, a, b, c, t, u, v, H1, ex, hr, I1, n, h1, h2, h3, q⟩ => args_nil ?_) na) na))
  subst ex
  refine call_list_range (n := n) (I1.ok.hd hc) hr h1 h2 h3 fun h' tk acc c' hk e' hi => ?_
  refine ⟨.ref s1.heap.objs.size, upd H1 s1.heap.objs.size (.lst (rgV3 a c n)), I1.laid hk (Nat.le_refl _) (show ObjOk X.prog X.w _ _ _ (.lst (rgV3 a c n)) from ⟨?_, acc.toList, c', vals_rg3 hi, ?_⟩), rfl, q _ (I1.hok.fresh (Nat.le_refl _))⟩
  · unfold rgV3; rw [List.length_map, List.length_range]; exact h3
  · rw [Array.toArray_toList]; exact e'
/-- the new list of a range -/
theorem rng_end {W : XK} {F1 : Addr → Prop} {σ : L2.St} {H1 : Hp} {Q : VK} {p1 : Pot} {a b c : Int} {n : Nat} (bs : Base pa F1 H1 p1) (h1 : Builtin.Range.small a b c = true) (h2 : Builtin.Range.rangeSize a b c = (n : Int))
    (q : post X.mg pa (JN X.mg pa) (wx W) F1 σ H1 (lstEnd (some (rngN a c n)) p1) Q) : ∃ n : Nat, Builtin.Range.small a b c = true ∧ Builtin.Range.rangeSize a b c = (n : Int) ∧ n ≤ sizeLine ∧ ∀ q, H1 q = none → Q (.ref q) (upd H1 q (.lst (rgV3 a c n))) := by
  unfold lstEnd at q
  dsimp only at q
  split at q
  · rename_i hz
    rw [rng_len] at hz
    refine ⟨n, h1, h2, hz, fun t ht => ?_⟩
    obtain ⟨s, i⟩ := new_lst (mg := X.mg) bs ht (isL_rng (a := a) (c := c) (n := n))
    exact q _ F1 _ s i
  · exact q.elim
theorem s_listR1 {a : Expr} {as : En → Pot → Res (List Sl)} {p pos p2 pos2 : Pos} (hc : X.calm = true) (hg : Gl X "range") (hm : X.mg "range" = none) (hg2 : Gl X "list") (hm2 : X.mg "list" = none) (ha : SA X F0 H0 pa [a] as) (na : starEach [a] X.env = (false, eval a X.env) :: starEach [] X.env) :
    SN X F0 H0 pa (.Call (.Name "list" p2) [.Call (.Name "range" p) [a] [] pos] [] pos2) (dListR as dRng1) := fun W tk =>
  PEimp (pe_listRg3 hc hg2 hm2 (prg3_1 hg hm (ha W tk) na) (by rfl)) fun σ H Q ⟨F, ρ, p, r, q⟩ => by
    refine seqE (J := JAs' X.mg pa) (g := fun ss p1 => lstEnd (dRng1 (ss.map Sl.d)) p1) backN r q fun ss p1 vs F1 H1 s1 j1 r1 q1 => ?_
    cases e : dRng1 (ss.map Sl.d) with
    | none => rw [e] at q1; exact q1.elim
    | some items =>
      rw [e] at q1
      obtain ⟨j, hss, c, rfl⟩ := dRng1_some e
      obtain ⟨v, rfl, jv⟩ := JAs.one j1 hss
      have hz := rgOk_iff c
      exact ⟨j, by rw [jv.int], rng_end r1.base (small_one (by decide) (by decide) hz.1 hz.2) (by rw [rangeSize_nat]; simp) q1⟩
theorem s_listR2 {a b : Expr} {as : En → Pot → Res (List Sl)} {p pos p2 pos2 : Pos} (hc : X.calm = true) (hg : Gl X "range") (hm : X.mg "range" = none) (hg2 : Gl X "list") (hm2 : X.mg "list" = none) (ha : SA X F0 H0 pa [a, b] as)
    (na : starEach [a, b] X.env = (false, eval a X.env) :: starEach [b] X.env) (hpl : (backTo pos (starEach [b] X.env)).any (·.1) = false) :
    SN X F0 H0 pa (.Call (.Name "list" p2) [.Call (.Name "range" p) [a, b] [] pos] [] pos2) (dListR as dRng2) := fun W tk =>
  PEimp (pe_listRg3 hc hg2 hm2 (prg3_2 hg hm (ha W tk) na hpl) (by rfl)) fun σ H Q ⟨F, ρ, p, r, q⟩ => by
    refine seqE (J := JAs' X.mg pa) (g := fun ss p1 => lstEnd (dRng2 (ss.map Sl.d)) p1) backN r q fun ss p1 vs F1 H1 s1 j1 r1 q1 => ?_
    cases e : dRng2 (ss.map Sl.d) with
    | none => rw [e] at q1; exact q1.elim
    | some items =>
      rw [e] at q1
      obtain ⟨i, j, hss, c1, c2, rfl⟩ := dRng2_some e
      obtain ⟨v, w, rfl, jv, jw⟩ := JAs.two j1 hss
      have h1 := rgOk_iff c1
      have h2 := rgOk_iff c2
      exact ⟨i, j, by rw [jv.int, jw.int], rng_end r1.base (small_one h1.1 h1.2 h2.1 h2.2) (rangeSize_nat i j) q1⟩
theorem s_listR3 {a b c : Expr} {as : En → Pot → Res (List Sl)} {p pos p2 pos2 : Pos} (hc : X.calm = true) (hg : Gl X "range") (hm : X.mg "range" = none) (hg2 : Gl X "list") (hm2 : X.mg "list" = none) (ha : SA X F0 H0 pa [a, b, c] as)
    (hs : starEach [a, b, c] X.env = (false, eval a X.env) :: starEach [b, c] X.env) (hpl : (backTo pos (starEach [b, c] X.env)).any (·.1) = false) :
    SN X F0 H0 pa (.Call (.Name "list" p2) [.Call (.Name "range" p) [a, b, c] [] pos] [] pos2) (dListR as dRng3) := fun W tk =>
  PEimp (pe_listRg3 hc hg2 hm2 (prg3_3 hg hm (ha W tk) hs hpl) (by rfl)) fun σ H Q ⟨F, ρ, p, r, q⟩ => by
    refine seqE (J := JAs' X.mg pa) (g := fun ss p1 => lstEnd (dRng3 (ss.map Sl.d)) p1) backN r q fun ss p1 vs F1 H1 s1 j1 r1 q1 => ?_
    cases e : dRng3 (ss.map Sl.d) with
    | none => rw [e] at q1; exact q1.elim
    | some items =>
      rw [e] at q1
      obtain ⟨i, j, hss, c1, c2, rfl⟩ := dRng3_some e
      obtain ⟨v, w, x, rfl, jv, jw, jx⟩ := JAs.three j1 hss
      have k1 := rgOk_iff c1
      have k2 := rgOk_iff c2
      exact ⟨i, j, -1, by rw [jv.int, jw.int, jx.int], by decide, by decide, rng_end r1.base (PySem.W.small_down k1.1 k1.2 k2.1 k2.2) (PySem.W.rangeSize_downNat i j) q1⟩
/-- xs + ys, xs * n as new lists -/
theorem s_catN {a b : Expr} {pos : Pos} {f g : En → Pot → Res D} (ha : SB X F0 H0 pa a f) (hb : SB X F0 H0 pa b g) : SN X F0 H0 pa (.BinOp a .Add b pos) (d2 f g llAdd) := s_bin backN op_cat o_llAdd ha hb
theorem s_repN {a b : Expr} {pos : Pos} {f g : En → Pot → Res D} (ha : SB X F0 H0 pa a f) (hb : SB X F0 H0 pa b g) : SN X F0 H0 pa (.BinOp a .Mult b pos) (d2 f g repD) := s_bin backN op_rep o_rep ha hb
end
end M

set_option Elab.async false
set_option linter.all false
set_option maxRecDepth 100000
/-! a def that calls a lambda and tells whether it was refused by an error of a name -/
namespace M
open PySem PySem.Spec PyProof.Rows L2
/-- what the def answers: the names it catches, the name that is asked -/
@[simp] def dRaises (hs : List Str) (z : Str) (f : En → Pot → Res D) : En → Pot → Res D := fun ρ p => match f ρ p with
  | .ok _ p1 => .ok (.bl false) p1
  | .exc c p1 => if c ∈ hs then .ok (.bl (decide (z = c))) p1 else .bad
  | .bad => .bad
def glN (sc : Scope) (x : Str) : Bool := match sc.names.lookup x with
  | some .globalImplicit => true
  | _ => false
def nmN (x : Str) : Bool := !(x == ("__debug__" : Str)) && !(x == ("__classdict__" : Str))
/-- one clause: except x: return b == "x" -/
def hdOne (sc : Scope) (b x : Str) : ExceptHandler → Bool
  | .ExceptHandler (some (.Name y _)) none [.Return (some (.Compare (.Name b' _) [.Eq] [.Constant (.str z) _ _] _)) _] _ => decide (y = x) && decide (z = x) && decide (b' = b) && glN sc x && nmN x
  | _ => false
def hdAll (sc : Scope) (b : Str) : List Str → List ExceptHandler → Bool
  | [], [] => true
  | x :: xs, h :: hs => hdOne sc b x h && hdAll sc b xs hs
  | _, _ => false
/-- its text -/
def rsBody (sc : Scope) (a b : Str) (hs : List Str) : List Stmt → Bool
  | [.Try [.Expr (.Call (.Name a' _) [] [] _) _] hds [] [] _, .Return (some (.Constant (.bool false) _ _)) _] => decide (a' = a) && hdAll sc b hs hds && !hs.isEmpty
  | _ => false
theorem hdOne_ok {sc : Scope} {b x : Str} {h : ExceptHandler} (e : hdOne sc b x h = true) : ∃ np q1 j q2 q3 q4 q5, h = .ExceptHandler (some (.Name x np)) none [.Return (some (.Compare (.Name b q1) [.Eq] [.Constant (.str x) j q2] q3)) q4] q5 ∧ sc.names.lookup x = some .globalImplicit ∧ (x == ("__debug__" : Str)) = false := by
  unfold hdOne at e
  split at e
  · rename_i y np b' q1 z j q2 q3 q4 q5
    simp only [Bool.and_eq_true, decide_eq_true_eq] at e
    obtain ⟨⟨⟨⟨rfl, rfl⟩, rfl⟩, hg⟩, hn⟩ := e
    refine ⟨np, q1, j, q2, q3, q4, q5, rfl, ?_, ?_⟩
    · unfold glN at hg
      split at hg
      · rename_i e; exact e
      · cases hg
    · unfold nmN at hn
      simp only [Bool.and_eq_true, Bool.not_eq_true'] at hn
      exact hn.1
  · cases e
theorem rsBody_ok {sc : Scope} {a b : Str} {hs : List Str} {bd : List Stmt} (e : rsBody sc a b hs bd = true) : ∃ p1 p2 p3 hds p4 j p5 p6, bd = [.Try [.Expr (.Call (.Name a p1) [] [] p2) p3] hds [] [] p4, .Return (some (.Constant (.bool false) j p5)) p6] ∧ hdAll sc b hs hds = true ∧ hs ≠ [] := by
  unfold rsBody at e
  split at e
  · rename_i a' p1 p2 p3 hds p4 j p5 p6
    simp only [Bool.and_eq_true, decide_eq_true_eq, Bool.not_eq_true', List.isEmpty_eq_false_iff] at e
    obtain ⟨⟨rfl, h1⟩, h2⟩ := e
    exact ⟨p1, p2, p3, hds, p4, j, p5, p6, rfl, h1, h2⟩
  · cases e
section
variable {X : Cx}
def tsR (x : Str) : TS := fun D σ H => ∃ z, σ[1]? = some (some (.str z)) ∧ D.rt (.bl (decide (z = x))) H
/-! the lambda called: what it lets out is wished for at the slots of the very moment -/
/-- the body of the lambda at c' is run from a state of another def's frame -/
theorem act_run {pins pinsZ : List (Addr × Obj)} {σ σZ : L2.St} {H HZ : Hp} {s s1 : Shared} {Z : Cx} {f c' : Addr} {pm ctv : Value} {params : Arguments} {body : Expr} {scope : Scope} {k : Nat} {E : XK} {tb : TE} {Q : VK}
    (I : Inv X pins σ H s) (L : LamX.LamS X.env.scope scope)
    (hbind : bindArgs (PySem.W.kla_fn "<lambda>" (X.env.qual ++ "<lambda>") params body scope (cloFrom X.env.cells scope.names []) pm (.ref c') ctv) ⟨[], []⟩ = pure [])
    (hf1 : s1.heap.get? f = some (PySem.W.kla_obj "<lambda>" (X.env.qual ++ "<lambda>") params body scope (cloFrom X.env.cells scope.names []) pm c' ctv)) (hco : ∃ oc vs t, s1.heap.get? c' = some oc ∧ oc.data = .fields vs ∧ vs[1]? = some (.str (X.env.qual ++ "<lambda>") t))
    {A : Around} {outer : List Env} (hd : A.handled = none) (hdp : A.depth < recursionLimit) (e0 : Env0 X.prog X.w X.K X.mg X.base A outer s1 HZ) (un : Un (frs X.stack) [] H HZ s.heap s1.heap) (lim : s1.heap.NoLimit)
    (hbody : PE (LamX.lamCx X A outer s1 HZ E scope f c') body tb) (ht : tb σ HZ Q) :
    codeAny (model X.prog X.w) A (.call (.ref f) ⟨[], []⟩) (CR (L2.CX X.prog X.w) outer X.prog X.w HZ s1 Q E) s1 := by
  obtain ⟨oc, vs, t, g1, g2, g3⟩ := hco
  have own : ∀ y ∈ scope.names, y.2 ≠ .cell := fun y hy => (L.own y hy).2
  apply PySem.W.kla_callFunE hdp hf1 rfl L.co L.gen rfl ⟨c', oc, vs, t, rfl, g1, g2, g3⟩
  rw [hbind]
  apply wpAny_pure
  apply wpAny_newFunctionEnv own (fun y hy => absurd hy (by simp)) _ L.kind
  intro h₁ hns hsb
  refine ⟨lim.fresh _ hsb, ?_⟩
  have kp : ∀ b o, s1.heap.get? b = some o → h₁.get? b = some o := by
    intro b o e
    exact hsb.extBut b o (Nat.ne_of_lt (Heap.lt_size e)) (Heap.get?_push_of_some _ e)
  have J := LamX.lam_start2 (X := X) (f := f) (c' := c') (E := E) (tk := s1.toks + ([] : List (Str × Value)).length) I L e0 hd un hns kp
  apply PySem.W.kla_codeExpr
  refine wpAny_mono (hbody.run [] _ _ HZ Q J ht) ?_ fun e s' hq => hq
  rintro v s' ⟨w', H', J', rv, q⟩
  exact ⟨w', H', J'.os, J'.bare, J'.base, J'.hok, rv, q⟩
/-- x() in the def that got the lambda -/
theorem pe_actS {Eg : XK} {Ng : List Str} {qg : Str} {sg : Scope} {g f c' : Addr} {cdg pm ctv : Value} {params : Arguments} {body : Expr} {scope : Scope} {k : Nat} {a : Str} {pn : List (Addr × Obj)} {xe : Value → Shared → Prop} {W : WX} {tb : XK → TE} {p1 p2 : Pos}
    {pins : List (Addr × Obj)} {σ : L2.St} {H : Hp} {s : Shared}
    (I : Inv X pins σ H s) (L : LamX.LamS X.env.scope scope) (hf : s.heap.get? f = some (PySem.W.kla_obj "<lambda>" (X.env.qual ++ "<lambda>") params body scope (cloFrom X.env.cells scope.names []) pm c' ctv)) (hfn : H f = none) (hfr : f ∉ frs X.stack)
    (hbind : bindArgs (PySem.W.kla_fn "<lambda>" (X.env.qual ++ "<lambda>") params body scope (cloFrom X.env.cells scope.names []) pm (.ref c') ctv) ⟨[], []⟩ = pure [])
    (tk : Takes ((cxOf C8.CX0 X.prog X.w X.K X.mg X.base Ng qg sg g cdg X.A X.stack s H Eg).tr pn xe) W) (hr : Room (k + 1) (X.A.deeper (envOfC qg sg s.heap.objs.size g cdg)))
    (hbody : ∀ (E : XK) (A : Around) (outer : List Env) (s : Shared) (H : Hp), Room k (A.deeper (LamX.lamEnv X scope s.heap.objs.size f c')) → PE (LamX.lamCx X A outer s H E scope f c') body (tb E))
    (hN : Ng[0]? = some a) (hv : Vis sg a) (hd : (a == ("__debug__" : Str)) = false) (hcd : (a == ("__classdict__" : Str)) = false) :
    PE ((cxOf C8.CX0 X.prog X.w X.K X.mg X.base Ng qg sg g cdg X.A X.stack s H Eg).tr pn xe) (.Call (.Name a p1) [] [] p2)
      (fun σZ HZ Q => ∃ E : XK, (∀ cls d H', E cls d H' → W cls d σZ H') ∧ σZ[0]? = some (some (.ref f)) ∧ HZ c' = some (LamX.CodeO c' (X.env.qual ++ "<lambda>")) ∧ tb E σ HZ Q) := by
  constructor
  rintro pinsZ sZ σZ HZ Q IZ ⟨E, hW, hs, hc, ht⟩
  refine wpAny_Call_Name_kw (thn ((pe_var (pos := p1) (i := 0) hN hv hd hcd).run pinsZ sZ σZ HZ (fun v H1 => v = .ref f ∧ H1 = HZ) IZ ⟨.ref f, hs, rfl, rfl⟩) ?_)
  rintro u s1 ⟨v, H1, I1, r1, rfl, rfl⟩
  cases r1
  have of1 := I1.base.keep f _ hf hfn hfr (fun z => nomatch (show f ∈ ([] : List Addr) from z))
  refine PySem.W.callWith_F0 ⟨_, _, _, _, of1⟩ ?_
  obtain ⟨hco, _, _⟩ := I1.hok c' _ hc
  have rc := act_run (A := X.A.deeper (envOfC qg sg s.heap.objs.size g cdg)) (outer := envOfC qg sg s.heap.objs.size g cdg :: X.stack) (E := E) (tb := tb E) (Q := Q) (Z := X) (pinsZ := []) (σZ := σ) (k := k) I L hbind of1 hco hr.hd hr.depth I1.env0 I1.base I1.nolimit (hbody E _ _ s1 H1 (hr.deeper _)) ht
  refine wpAny_call (codeAny_mono rc ?_)
  intro r s' hq
  cases r with
  | error e => exact tk e s' (XE.of_call I1 (fun cls d H' h => hW cls d H' h) hq)
  | ok fl =>
    cases fl with
    | ret u => exact I1.after hq
    | _ => exact hq.elim
/-- what becomes of what the body let out -/
def hAsk (K : PySem.W.Frag) (Cf : Str → Addr) (z : Str) (Q : VK) : List Str → Value → Hp → Prop
  | [], _, _ => False
  | x :: r, cls, H => ∃ b, PySem.W.exmOne K cls (.ref (Cf x)) = some b ∧ (b = true → Q (.bl (decide (z = x))) H) ∧ (b = false → hAsk K Cf z Q r cls H)
def hdL (Cf : Str → Addr) (hs : List Str) : List (Value × (Addr → Value → Option Addr → TS)) := hs.map fun x => (Value.ref (Cf x), fun _ _ _ => tsR x)
theorem hAsk_many {K : PySem.W.Frag} {Cf : Str → Addr} {z : Str} {D : Ends} {σ : L2.St} (h1 : σ[1]? = some (some (.str z))) : ∀ (hs : List Str) (cls : Value) (d : Option Addr) (H : Hp), hAsk K Cf z D.rt hs cls H → wMany K (fun _ _ _ _ => False) D (hdL Cf hs) cls d σ H
  | [], cls, d, H, h => h
  | x :: r, cls, d, H, h => by
    obtain ⟨b, e1, e2, e3⟩ := h
    exact ⟨b, e1, fun hb a _ => ⟨z, h1, e2 hb⟩, fun hb => hAsk_many h1 r cls d H (e3 hb)⟩
def TTr (K : PySem.W.Frag) (hs : List Str) (Cf : Str → Addr) : Str → (XK → Hp → VK → Prop) → Hp → VK → Prop := fun z tl H Q => tl (fun cls _ H' => hAsk K Cf z Q hs cls H') H (fun _ H' => Q (.bl false) H')
theorem hds_ok {Y : Cx} {Cf : Str → Addr} {sg : Scope} {b : Str} (hsc : Y.env.scope = sg) (hN : Y.N[1]? = some b) (hv : Vis sg b) (hd : (b == ("__debug__" : Str)) = false) (hcd : (b == ("__classdict__" : Str)) = false) : ∀ {hs : List Str} {hds : List ExceptHandler}, hdAll sg b hs hds = true → (∀ x ∈ hs, Y.mg x = some (.ref (Cf x))) → HdsOk Y hds (hdL Cf hs)
  | [], [], _, _ => .nil
  | x :: xs, h :: hds, e, hm => by
    have e := Bool.and_eq_true_iff.mp (show (hdOne sg b x h && hdAll sg b xs hds) = true from e)
    obtain ⟨np, q1, j, q2, q3, q4, q5, rfl, hg, hdb⟩ := hdOne_ok e.1
    refine .cons (c := .ref (Cf x)) (ts := fun _ _ _ => tsR x) ⟨?_, hdb, .inl (hm x List.mem_cons_self)⟩ (fun a oe cls d pn _ _ => ?_) (hds_ok hsc hN hv hd hcd e.2 fun y hy => hm y (List.mem_cons_of_mem _ hy))
    · show Y.env.scope.names.lookup x = some .globalImplicit
      rw [hsc]; exact hg
    · have hv' : Vis (Y.suite a ((a, oe) :: pn)).env.scope b := by
        show Vis Y.env.scope b
        rw [hsc]; exact hv
      refine PSsimp (pss_one (ps_ret (pe_cmpR L2.op_eq (pe_var (i := 1) (X := Y.suite a ((a, oe) :: pn)) hN hv' hd hcd) pe_str (by rfl)))) ?_
      rintro D σ H ⟨z, h1, h2⟩
      refine ⟨.str z, h1, rfl, ?_⟩
      have : decide (V.str z = V.str x) = decide (z = x) := by
        by_cases q : z = x
        · subst q; simp
        · rw [decide_eq_false q, decide_eq_false fun w => q (V.str.inj w)]
      rw [this]
      exact h2
theorem raises_gives {Cf : Str → Addr} {Ng hs : List Str} {x a b : Str} {sg : Scope} {g : Addr} {cdg : Value} {bg : List Stmt} (hrs : rsBody sg a b hs bg = true) (hm : ∀ y ∈ hs, X.mg y = some (.ref (Cf y))) (hN1 : Ng[1]? = some b) (hvb : Vis sg b) (hd : (b == ("__debug__" : Str)) = false) (hcd : (b == ("__classdict__" : Str)) = false)
    (h0 : ∀ (f : Addr) (z : Str), (L2.start Ng [V.ref f, V.str z])[0]? = some (some (V.ref f)) ∧ (L2.start Ng [V.ref f, V.str z])[1]? = some (some (V.str z))) :
    ∀ (f c' : Addr) (z q : Str) (s : Shared) (H : Hp) (Q : VK) (tl : XK → Hp → VK → Prop),
      (∀ (W : WX) (pn : List (Addr × Obj)) (xe : Value → Shared → Prop) (p1 p2 : Pos), Takes ((cxOf C8.CX0 X.prog X.w X.K X.mg X.base Ng x sg g cdg X.A X.stack s H C8.E0).tr pn xe) W →
        PE ((cxOf C8.CX0 X.prog X.w X.K X.mg X.base Ng x sg g cdg X.A X.stack s H C8.E0).tr pn xe) (.Call (.Name a p1) [] [] p2) (fun σZ HZ Q => ∃ E : XK, (∀ cls d H', E cls d H' → W cls d σZ H') ∧ σZ[0]? = some (some (.ref f)) ∧ HZ c' = some (LamX.CodeO c' q) ∧ tl E HZ Q)) →
      H c' = some (LamX.CodeO c' q) → TTr X.K hs Cf z tl H Q →
      ∃ t, PSs (cxOf C8.CX0 X.prog X.w X.K X.mg X.base Ng x sg g cdg X.A X.stack s H C8.E0).nox bg t ∧ t { nx := fun _ H' => Q .non H', rt := Q } (L2.start Ng [.ref f, .str z]) H := by
  intro f c' z q s H Q tl act hc h
  obtain ⟨p1, p2, p3, hds, p4, j, p5, p6, rfl, hall, hne⟩ := rsBody_ok hrs
  obtain ⟨s0, s1⟩ := h0 f z
  cases hds with
  | nil =>
    cases hs with
    | nil => exact absurd rfl hne
    | cons y ys => cases hall
  | cons hd0 hds =>
    have ok := hds_ok (Y := (cxOf C8.CX0 X.prog X.w X.K X.mg X.base Ng x sg g cdg X.A X.stack s H C8.E0).nox) (Cf := Cf) (sg := sg) (b := b) rfl hN1 hvb hd hcd hall hm
    refine ⟨_, pss_cons (ps_try_many (X := (cxOf C8.CX0 X.prog X.w X.K X.mg X.base Ng x sg g cdg X.A X.stack s H C8.E0).nox) (Wout := fun _ _ _ _ => False)
      (tb := fun W D σ H => ∃ E : XK, (∀ cls d H', E cls d H' → W cls d σ H') ∧ σ[0]? = some (some (.ref f)) ∧ H c' = some (LamX.CodeO c' q) ∧ tl E H (fun _ H' => D.nx σ H'))
      rfl rfl takes_none5 (fun W pn xe tk _ => ?_) ok) (pss_one (ps_ret pe_bl)), ?_⟩
    · exact PSsimp (pss_one (ps_expr (act W pn xe p1 p2 tk) (by rfl))) fun D σ H q => q
    · refine ⟨fun cls _ H' => hAsk X.K Cf z Q hs cls H', fun cls d H' q => ?_, s0, hc, h⟩
      exact hAsk_many (D := { nx := _, rt := Q }) s1 hs cls d H' q
/-- all but the tables stay, the tables are there -/
structure Ext2 (H H' : Hp) : Prop where
  ext : LamX.ExtN H H'
  tbl : ∀ a ps, H a = some (.tbl ps) → ∃ ps', H' a = some (.tbl ps')
/-- the lambda is made: where its code object is known the heap is as it was, else the table grows by it -/
theorem lam_make3 {pins : List (Addr × Obj)} {σ : L2.St} {H : Hp} {s : Shared} {T : List (Addr × Str)} {c P : Addr} {params : Arguments} {body : Expr} {scope : Scope} {pos : Pos} {E : Value → Shared → Prop} {Q : Value → Shared → Prop} (I : Inv X pins σ H s) (TB : LamX.TabB X.base X.mg c P) (hcode : X.env.code = .ref c)
    (hm : (P, X.env.qual ++ "<lambda>") ∈ T) (hu : ∀ p ∈ T, p.1 = P → p.2 = X.env.qual ++ "<lambda>") (hT : LamX.Tabs T H) (hdef : defaultsOf params X.env = ([], [])) (hfree : ∀ y ∈ scope.names, y.2 = .free → ∃ c, X.env.cells.lookup y.1 = some c)
    (h : ∀ (f c' : Addr) (pm ctv : Value) (H1 : Hp) (s' : Shared), Inv X pins σ H1 s' → Ext2 H H1 → LamX.Tabs T H1 → s'.heap.get? f = some (PySem.W.kla_obj "<lambda>" (X.env.qual ++ "<lambda>") params body scope (cloFrom X.env.cells scope.names []) pm c' ctv) →
      H1 f = none → f ∉ frs X.stack → H1 c' = some (LamX.CodeO c' (X.env.qual ++ "<lambda>")) → Q (.ref f) s') : wpAny (model X.prog X.w) X.A (eval (.Lambda params body scope pos) X.env) Q E s := by
  have hTP := hT _ hm
  have ⟨ps, hP, ht, ha⟩ := hTP
  have bP : s.heap.BuiltinsAt X.mg P := TB.bm.keeps I.bk
  have hP' := I.hok P _ hP
  have nofr : ∀ f, s.heap.objs.size ≤ f → f ∉ frs X.stack := by
    intro f hf z
    rcases List.mem_cons.mp (I.stkSub _ z) with e | e
    · have h1 := I.lt
      rw [← e] at h1
      have h2 : s.heap.objs.size < s.heap.objs.size := Nat.lt_of_le_of_lt hf h1
      exact absurd h2 (Nat.lt_irrefl _)
    · exact I.nofs hf e
  apply PySem.W.kla_eval hdef
  cases hc : codeAmong pos ps.toList with
  | some cv =>
    obtain ⟨c', rfl, hco⟩ := ha pos cv hc
    apply PySem.W.kla_makeFunctionHit (mg := X.mg) (c := c) (P := P) (ps := ps) (closure_ok hfree) I.ok.glob (I.mod.glob.keeps I.bk) hcode (TB.code.keeps I.bk) hP' ht hc bP
    intro ctv h' tk hx hsz
    have I1 : Inv X pins σ H { s with heap := h'.push (PySem.W.kla_obj "<lambda>" (X.env.qual ++ "<lambda>") params body scope (cloFrom X.env.cells scope.names []) ((X.mg "__name__").getD .none) c' ctv), toks := tk } :=
      I.kept fun b o e => Heap.get?_push_of_some _ (hx b o e)
    exact h _ c' _ ctv H _ I1 ⟨LamX.ExtN.refl H, fun a qs e => ⟨qs, e⟩⟩ hT (Heap.get?_push_size _ rfl) (I.hok.fresh hsz) (nofr _ hsz) hco
  | none =>
    apply PySem.W.kla_makeFunction (mg := X.mg) (c := c) (P := P) (ps := ps) (closure_ok hfree) I.ok.glob (I.mod.glob.keeps I.bk) hcode (TB.code.keeps I.bk) hP' ht hc TB.gP bP
    rintro c0 ctv h' tk hx hge hlt ⟨c', oc, vs, t, e2, hoc, hd, hv⟩ htb
    cases e2
    have hsz : s.heap.objs.size ≤ h'.objs.size := Nat.le_trans hge (Nat.le_of_lt hlt)
    have nC : H c0 = none := I.hok.fresh hge
    have I1 := LamX.inv_table (t' := tk) (more := #[rawInt pos.line, rawInt pos.col, .ref c0]) (h' := h'.push (PySem.W.kla_obj "<lambda>" (X.env.qual ++ "<lambda>") params body scope (cloFrom X.env.cells scope.names []) ((X.mg "__name__").getD .none) c0 ctv)) I hP
      (fun b o hb e => Heap.get?_push_of_some _ (hx b o hb e)) (Heap.get?_push_of_some _ htb) hge ⟨oc, vs, t, Heap.get?_push_of_some _ hoc, hd, hv⟩
    generalize hH1 : upd (upd H P (HO.tbl (ps ++ #[rawInt pos.line, rawInt pos.col, .ref c0]))) c0 (LamX.CodeO c0 (X.env.qual ++ "<lambda>")) = H1 at I1
    have aC : H1 c0 = some (LamX.CodeO c0 (X.env.qual ++ "<lambda>")) := by rw [← hH1]; exact upd_same
    have aP : H1 P = some (HO.tbl (ps ++ #[rawInt pos.line, rawInt pos.col, .ref c0])) := by
      rw [← hH1, upd_ne (ne_of_none hP nC)]
      exact upd_same
    have aE : ∀ b o, H b = some o → b ≠ P → H1 b = some o := by
      intro b o e n
      rw [← hH1, upd_ne (ne_of_none e nC), upd_ne n]
      exact e
    have aN : ∀ b, H b = none → b ≠ c0 → H1 b = none := by
      intro b e n
      rw [← hH1, upd_ne n, upd_ne fun z => by rw [z, hP] at e; cases e]
      exact e
    have hE : LamX.ExtN H H1 := fun b o e n => aE b o e fun z => by
      rw [z, hP] at e
      exact n ps (Option.some.inj e).symm
    refine h h'.objs.size c0 _ ctv H1 _ I1 ⟨hE, fun a qs e => ?_⟩ (fun p hp => ?_) (Heap.get?_push_size _ rfl) (aN _ (I.hok.fresh hsz) (Nat.ne_of_gt hlt)) (nofr _ hsz) aC
    · by_cases z : a = P
      · rw [z]; exact ⟨_, aP⟩
      · exact ⟨qs, aE a _ e z⟩
    · by_cases hb : p.1 = P
      · rw [hu p hp hb, hb]
        have eL : (ps ++ #[rawInt pos.line, rawInt pos.col, Value.ref c0]).toList = ps.toList ++ [rawInt pos.line, rawInt pos.col, .ref c0] := by simp
        refine ⟨_, aP, by rw [eL]; exact PySem.TriplesOk_snoc _ _ _ _ ht, fun p' cv hcv => ?_⟩
        rw [eL] at hcv
        rcases LamX.among_app _ ht hcv with z | z
        · obtain ⟨c1, e1, e2⟩ := ha p' cv z
          exact ⟨c1, e1, hE _ _ e2 LamX.codeO_ne⟩
        · exact ⟨c0, z, aC⟩
      · obtain ⟨qs, a1, a2, a3⟩ := hT p hp
        refine ⟨qs, aE _ _ a1 hb, a2, fun p' cv hcv => ?_⟩
        obtain ⟨c1, e1, e2⟩ := a3 p' cv hcv
        exact ⟨c1, e1, hE _ _ e2 LamX.codeO_ne⟩
def tLam2 (T : List (Addr × Str)) (z : Str) (K : PySem.W.Frag) (hs : List Str) (Cf : Str → Addr) (t : XK → TE) : TE := fun σ H Q => LamX.Tabs T H ∧ ∀ H1, Ext2 H H1 → LamX.Tabs T H1 → TTr K hs Cf z (fun E H' Q' => t E σ H' Q') H1 Q
/-- x(lambda: body, "z") -/
theorem pe_lam2 {T : List (Addr × Str)} {hs : List Str} {Cf : Str → Addr} {x a b z : Str} {g c P : Addr} {k : Nat} {pg : Arguments} {bg : List Stmt} {sg : Scope} {dV kV doc pm cdv ct oc : Value} {an od : Option Addr} {osl : Array (Option Value)} {Ng : List Str}
    {params : Arguments} {body : Expr} {scope : Scope} {t : XK → TE} {p lpos cpos pos : Pos} {jc : Nat} (hg : Gl X x) (hm : X.mg x = some (.ref g)) (hk : PySem.W.keepIn X.K (.ref g) = true)
    (lk : X.K.lookup g = some ⟨oc, od, .func (PySem.W.fnOf x x pg bg sg dV kV doc pm an cdv ct), osl⟩) (hcg : PySem.W.codeIn X.K cdv x = true) (hb : L2.Binds X.K (PySem.W.fnOf x x pg bg sg dV kV doc pm an cdv ct) [a, b] []) (Sg : FnScope Ng [a, b] sg) (hNg : Ng[0]? = some a) (hva : Vis sg a)
    (hrs : rsBody sg a b hs bg = true) (hmc : ∀ y ∈ hs, X.mg y = some (.ref (Cf y))) (hN1 : Ng[1]? = some b) (hvb : Vis sg b)
    (h0 : ∀ (f : Addr) (z : Str), (L2.start Ng [V.ref f, V.str z])[0]? = some (some (V.ref f)) ∧ (L2.start Ng [V.ref f, V.str z])[1]? = some (some (V.str z)))
    (TB : LamX.TabB X.base X.mg c P) (hcode : X.env.code = .ref c) (hmT : (P, X.env.qual ++ "<lambda>") ∈ T) (hu : ∀ p ∈ T, p.1 = P → p.2 = X.env.qual ++ "<lambda>") (hr : Room (k + 2) X.A) (L : LamX.LamS X.env.scope scope) (hdef : defaultsOf params X.env = ([], []))
    (hbind : ∀ (q : Str) (cl : List (Str × Addr)) (pm cv ctv : Value), bindArgs (PySem.W.kla_fn "<lambda>" q params body scope cl pm cv ctv) ⟨[], []⟩ = pure [])
    (hbody : ∀ (E : XK) (A : Around) (outer : List Env) (s : Shared) (H : Hp) (f c' : Addr), Room k (A.deeper (LamX.lamEnv X scope s.heap.objs.size f c')) → PE (LamX.lamCx X A outer s H E scope f c') body (t E))
    (hdb : (x == ("__debug__" : Str)) = false) (hd : (a == ("__debug__" : Str)) = false) (hcd : (a == ("__classdict__" : Str)) = false) (hd2 : (b == ("__debug__" : Str)) = false) (hcd2 : (b == ("__classdict__" : Str)) = false) :
    PE X (.Call (.Name x p) [.Lambda params body scope lpos, .Constant (.str z) jc cpos] [] pos) (tLam2 T z X.K hs Cf t) := by
  refine ⟨fun pins s σ H Q I h => ?_⟩
  obtain ⟨hT, h⟩ := h
  refine wpAny_Call_Name_kw (ld_glob I hg hm ?_ hdb)
  refine PySem.W.callWith_K (h₀ := X.base) I.ok.mod.kin hk ?_ (by rfl) (by rfl)
  show wpAny _ _ (spliced ((false, eval (.Lambda params body scope lpos) X.env) :: backTo pos (starEach [.Constant (.str z) jc cpos] X.env))) _ _ s
  refine Calls.spliced_cons (lam_make3 I TB hcode hmT hu hT hdef (L.has I.ok) fun f c' pm' ctv H1 s' I1 eN T1 hf hfn hfr hco => ?_)
  show wpAny _ _ (spliced ((false, eval (.Constant (.str z) jc cpos) X.env) :: backTo pos (starEach [] X.env))) _ _ _
  refine Calls.spliced_cons (Calls.Constant_str ?_)
  refine Calls.spliced_nil ⟨I1.kIn, ?_⟩
  have I2 := I1.tok (s'.toks + 1)
  generalize hs2 : ({ s' with toks := s'.toks + 1 } : Shared) = s2
  rw [hs2] at I2
  have hf2 : s2.heap.get? f = some (PySem.W.kla_obj "<lambda>" (X.env.qual ++ "<lambda>") params body scope (cloFrom X.env.cells scope.names []) pm' c' ctv) := by rw [← hs2]; exact hf
  have rc : codeAny (model X.prog X.w) X.A (.call (.ref g) ⟨[.ref f, .str z s'.toks], []⟩) (CR C8.CX0 X.stack X.prog X.w H1 s2 Q C8.E0) s2 := by
    refine LamX.run_ofS (N := Ng) (ps := [a, b]) (us := [.ref f, .str z s'.toks]) (vs := [.ref f, .str z]) lk hcg Sg hr I2.env0 (hb s2 [.ref f, .str z s'.toks] I2.kIn rfl) (.cons rfl (.cons ⟨_, rfl⟩ .nil)) rfl fun hr' => ?_
    obtain ⟨t', ht', hq'⟩ := raises_gives hrs hmc hN1 hvb hd2 hcd2 h0 f c' z (X.env.qual ++ "<lambda>") s2 H1 Q (fun E H' Q' => t E σ H' Q')
      (fun W pn xe p1 p2 tk => pe_actS I2 L hf2 hfn hfr (hbind _ _ _ _ _) tk hr' (fun E A outer s H hr2 => hbody E A outer s H f c' hr2) hNg hva hd hcd) hco (h H1 eN T1)
    exact ⟨t', ht'.nox, hq'⟩
  refine wpAny_call (codeAny_mono rc fun r s3 hq => ?_)
  cases r with
  | error e => exact (show False from hq).elim
  | ok fl =>
    cases fl with
    | ret u => exact I2.after hq
    | next => exact False.elim hq
    | brk => exact False.elim hq
    | cont => exact False.elim hq
/-- the def's place, its text, the classes it catches -/
def RsAt (K : PySem.W.Frag) (mg : Str → Option Value) (x : Str) (hs : List Str) : Prop :=
  ∃ (g : Addr) (pg : Arguments) (bg : List Stmt) (sg : Scope) (dV kV doc pm cdv ct oc : Value) (an od : Option Addr) (osl : Array (Option Value)) (Ng : List Str) (a b : Str) (Cf : Str → Addr),
    mg x = some (.ref g) ∧ PySem.W.keepIn K (.ref g) = true ∧ K.lookup g = some ⟨oc, od, .func (PySem.W.fnOf x x pg bg sg dV kV doc pm an cdv ct), osl⟩ ∧ PySem.W.codeIn K cdv x = true ∧ L2.Binds K (PySem.W.fnOf x x pg bg sg dV kV doc pm an cdv ct) [a, b] [] ∧ FnScope Ng [a, b] sg ∧
    Ng[0]? = some a ∧ Vis sg a ∧ rsBody sg a b hs bg = true ∧ Ng[1]? = some b ∧ Vis sg b ∧ (a == ("__debug__" : Str)) = false ∧ (a == ("__classdict__" : Str)) = false ∧ (b == ("__debug__" : Str)) = false ∧ (b == ("__classdict__" : Str)) = false ∧ Ng.length = 2 ∧
    (∀ y ∈ hs, mg y = some (.ref (Cf y))) ∧ ∀ y ∈ hs, ∀ z ∈ hs, PySem.W.exmOne K (.ref (Cf y)) (.ref (Cf z)) = some (decide (y = z))
/-- the def at hand makes lambdas: its code object, the table -/
def PaOk (X : Cx) (pa : Pa) : Prop := ∃ c P, LamX.TabB X.base X.mg c P ∧ X.env.code = .ref c ∧ (P, X.env.qual ++ "<lambda>") ∈ pa.tabs ∧ ∀ p ∈ pa.tabs, p.1 = P → p.2 = X.env.qual ++ "<lambda>"
theorem hAsk_of {K : PySem.W.Frag} {Cf : Str → Addr} {z c : Str} {Q : VK} {H : Hp} {hs : List Str} (hc : c ∈ hs) (he : ∀ y ∈ hs, ∀ z ∈ hs, PySem.W.exmOne K (.ref (Cf y)) (.ref (Cf z)) = some (decide (y = z))) (q : Q (.bl (decide (z = c))) H) :
    ∀ (l : List Str), (∀ y ∈ l, y ∈ hs) → c ∈ l → hAsk K Cf z Q l (.ref (Cf c)) H
  | [], _, h => nomatch h
  | x :: r, hl, h => by
    refine ⟨decide (c = x), he c hc x (hl x List.mem_cons_self), fun hb => ?_, fun hb => ?_⟩
    · have : c = x := of_decide_eq_true hb
      rw [← this]
      exact q
    · have n : c ≠ x := of_decide_eq_false hb
      exact hAsk_of hc he q r (fun y hy => hl y (List.mem_cons_of_mem _ hy)) ((List.mem_cons.mp h).resolve_left n)
theorem stp_ext2 {pa : Pa} {F : Addr → Prop} {H H1 : Hp} {p : Pot} (b : Base pa F H p) (e : Ext2 H H1) (t : LamX.Tabs pa.tabs H1) : Stp pa F H F H1 p where
  gr := { fr := fun _ h => h, keep := fun a o h _ nt => e.ext a o h nt, tbl := e.tbl, new := fun _ h n => absurd h n }
  base := {
    pot := ⟨b.pot.ok, b.pot.nf, by
      obtain ⟨ca, f, e1, e2⟩ := b.pot.at_
      exact ⟨ca, f, e.ext _ _ e1 nt_lst, e.ext _ _ e2 nt_lst⟩⟩
    dom := fun x f => by
      obtain ⟨u, e1, n⟩ := b.dom x f
      exact ⟨u, e.ext _ _ e1 n, n⟩
    tabs := t }
theorem s_raises {F0 : Addr → Prop} {H0 : Hp} {pa : Pa} {hs : List Str} {x z : Str} {k : Nat} {params : Arguments} {body : Expr} {scope : Scope} {f : En → Pot → Res D} {p lpos cpos pos : Pos} {jc : Nat} (hg : Gl X x) (hdb : (x == ("__debug__" : Str)) = false) (R : RsAt X.K X.mg x hs) (hP : PaOk X pa) (hr : Room (k + 2) X.A) (L : LamX.LamS X.env.scope scope)
    (hdef : defaultsOf params X.env = ([], [])) (hbind : ∀ (q : Str) (cl : List (Str × Addr)) (pm cv ctv : Value), bindArgs (PySem.W.kla_fn "<lambda>" q params body scope cl pm cv ctv) ⟨[], []⟩ = pure [])
    (hbody : ∀ (E : XK) (A : Around) (outer : List Env) (s : Shared) (H : Hp) (f' c' : Addr), Room k (A.deeper (LamX.lamEnv X scope s.heap.objs.size f' c')) → SB (LamX.lamCx X A outer s H E scope f' c') F0 H0 pa body f) :
    SV X F0 H0 pa (.Call (.Name x p) [.Lambda params body scope lpos, .Constant (.str z) jc cpos] [] pos) (dRaises hs z f) := by
  obtain ⟨g, pg, bg, sg, dV, kV, doc, pm, cdv, ct, oc, an, od, osl, Ng, a, b, Cf, r1, r2, r3, r4, r5, r6, r7, r8, r9, r10, r11, r12, r13, r14, r15, r16, r17, r18⟩ := R
  obtain ⟨c, P, t1, t2, t3, t4⟩ := hP
  have h0 : ∀ (f : Addr) (z : Str), (L2.start Ng [V.ref f, V.str z])[0]? = some (some (V.ref f)) ∧ (L2.start Ng [V.ref f, V.str z])[1]? = some (some (V.str z)) := fun f z => ⟨rfl, rfl⟩
  refine fun W tk => PEimp (pe_lam2 (t := fun E => tX X.mg F0 H0 pa (JB X.mg pa) (wx E) f) hg r1 r2 r3 r4 r5 r6 r7 r8 r9 r17 r10 r11 h0 t1 t2 t3 t4 hr L hdef hbind (fun E A outer s H f' c' hR => ?_) hdb r12 r13 r14 r15) ?_
  · exact hbody E A outer s H f' c' hR E (takes_of rfl rfl rfl rfl)
  · rintro σ H Q ⟨F, ρ, p, r, q⟩
    refine ⟨r.base.tabs, fun H1 e tb => ?_⟩
    have st := stp_ext2 r.base e tb
    refine ⟨F, ρ, p, r.step st, ?_⟩
    unfold dRaises at q
    cases hf : f ρ p with
    | ok d p1 =>
      rw [hf] at q
      exact fun v F' H' s2 _ => q (.bl false) F' H' (st.trans s2) rfl
    | exc cx p1 =>
      rw [hf] at q
      dsimp only at q
      by_cases hc : cx ∈ hs
      · rw [if_pos hc] at q
        intro C F' H' hC s2
        have : C = Cf cx := by
          have := r17 cx hc
          rw [hC] at this
          injection this with this
          injection this
        rw [this]
        exact hAsk_of hc r18 (q (.bl (decide (z = cx))) F' H' (st.trans s2) rfl) hs (fun y hy => hy) hc
      · rw [if_neg hc] at q
        exact q.elim
    | bad =>
      rw [hf] at q
      exact q.elim
end
end M

set_option Elab.async false
set_option linter.all false
set_option maxRecDepth 100000
/-! d.get(k), d.get(k, z), l.index(x) -/
namespace M
open PySem PySem.Spec PyProof.Rows L2
def objB : Expr → Bool
  | .Name .. => true
  | .Call _ (_ :: _) _ _ => true
  | _ => false
theorem objB_base {o : Expr} {m : Str} {env : Env} (h : objB o = true) : attributeBase o m env (eval o env) = eval o env := by
  unfold objB at h
  split at h
  · rfl
  · rename_i f e es ks p
    cases f <;> rfl
  · cases h
@[simp] def asD : D → Option D
  | .dct kvs => some (.dct kvs)
  | .dcn kvs => some (.dcn kvs)
  | _ => none
@[simp] def asL : D → Option (List D)
  | .lst ds => some ds
  | _ => none
def getE (kvs : List (Key × D)) (z : D) (k : D) : Option D := (keyOf k).map fun k => (look kvs k).getD z
@[simp] def getX : D → D → D → Option D
  | .dct kvs, z, k => getE kvs z k
  | .dcn kvs, z, k => (keyT k).map fun k => (lookN kvs k).getD z
  | _, _, _ => none
@[simp] def dGet1 (f g : En → Pot → Res D) : En → Pot → Res D := fun ρ p => (f ρ p).bind fun d p1 => match asD d with
  | some kvs => (g ρ p1).bind fun e p2 => ofO (getX kvs .non e) p2
  | none => .bad
@[simp] def dGet2 (f g h : En → Pot → Res D) : En → Pot → Res D := fun ρ p => (f ρ p).bind fun d p1 => match asD d with
  | some kvs => (g ρ p1).bind fun e p2 => (h ρ p2).bind fun z p3 => ofO (getX kvs z e) p3
  | none => .bad
def idxD (ds : List D) (x : D) : Option D := if flatD x = true ∧ ds.all flatD = true then (ds.findIdx? fun z => eqb z x).map fun (j : Nat) => D.int j else none
@[simp] def dIdx (f g : En → Pot → Res D) : En → Pot → Res D := fun ρ p => (f ρ p).bind fun d p1 => match asL d with
  | some ds => (g ρ p1).bind fun e p2 => ofO (idxD ds e) p2
  | none => .bad
theorem look_val {mg : Str → Option Value} {pa : Pa} {F : Addr → Prop} {H : Hp} {k : Key} : ∀ {kvs : List (Key × D)} {us : List (Key × V)}, IsK mg pa F H kvs us → (look kvs k = none ∧ valV us k = none) ∨ ∃ d v, look kvs k = some d ∧ valV us k = some v ∧ Is mg pa F H d v
  | [], us, l => by
    rw [show us = [] from l]
    exact .inl ⟨rfl, rfl⟩
  | (j, d) :: r, us, l => by
    obtain ⟨v, us', rfl, h1, h2⟩ := l
    by_cases e : j = k
    · subst e
      exact .inr ⟨d, v, by simp [look], by simp [valV], h1⟩
    · rcases look_val (k := k) h2 with ⟨a, b⟩ | ⟨d', v', a, b, c⟩
      · exact .inl ⟨by simpa [look, e] using a, by simpa [valV, e] using b⟩
      · exact .inr ⟨d', v', by simpa [look, e] using a, by simpa [valV, e] using b, c⟩
section
variable {X : Cx} {F0 : Addr → Prop} {H0 : Hp} {pa : Pa}
theorem get_end {W : XK} {σ : L2.St} {Q : VK} {F : Addr → Prop} {H H1 : Hp} {p : Pot} {kvs : List (Key × D)} {us : List (Key × V)} {a : Addr} {e z : D} {w y : V} (b : Base pa F H p) (ha : H a = some (.dK us)) (la : IsK X.mg pa F H kvs us) (j : JB X.mg pa H1 F H e w) (hz : Is X.mg pa F H z y)
    (q : post X.mg pa (JV X.mg pa) (wx W) F σ H (ofO (getE kvs z e) p) Q) : ∃ o, DGet H a w o ∧ Q (o.getD y) H := by
  unfold getE at q
  cases hk : keyOf e with
  | none => rw [hk] at q; exact q.elim
  | some k =>
    rw [hk] at q
    obtain rfl := j.key hk
    refine ⟨_, DGet.k ha, ?_⟩
    have q3 : post X.mg pa (JV X.mg pa) (wx W) F σ H (.ok ((look kvs k).getD z) p) Q := q
    rcases look_val (k := k) la with ⟨a1, a2⟩ | ⟨d, u, a1, a2, a3⟩
    · rw [a2]
      rw [a1] at q3
      exact q3 _ F H b.refl hz
    · rw [a2]
      rw [a1] at q3
      exact q3 _ F H b.refl a3
theorem get_endN {W : XK} {σ : L2.St} {Q : VK} {F : Addr → Prop} {H H1 : Hp} {p : Pot} {kvs : List (NK × D)} {us : List NE} {a : Addr} {e z : D} {w y : V} (b : Base pa F H p) (ha : H a = some (ndO a us)) (la : IsN X.mg pa F H kvs us) (j : JB X.mg pa H1 F H e w) (hz : Is X.mg pa F H z y)
    (q : post X.mg pa (JV X.mg pa) (wx W) F σ H (ofO (getX (.dcn kvs) z e) p) Q) : ∃ o, NGet H a w o ∧ Q (o.getD y) H := by
  have q : post X.mg pa (JV X.mg pa) (wx W) F σ H (ofO ((keyT e).map fun k => (lookN kvs k).getD z) p) Q := q
  cases hk : keyT e with
  | none => rw [hk] at q; exact q.elim
  | some k =>
    rw [hk] at q
    obtain ⟨b', rfl, hb'⟩ := j.keyT hk
    refine ⟨_, ⟨us, k, b', .non, la.nd ha, rfl, hb' _, rfl⟩, ?_⟩
    have q3 : post X.mg pa (JV X.mg pa) (wx W) F σ H (.ok ((lookN kvs k).getD z) p) Q := q
    have zv := IsN.val k la
    split at zv
    · rename_i d hd
      obtain ⟨v, zv, i⟩ := zv
      rw [zv]
      rw [hd] at q3
      exact q3 _ F H b.refl i
    · rename_i hd
      rw [zv]
      rw [hd] at q3
      exact q3 _ F H b.refl hz
theorem s_get1 {o e : Expr} {apos cpos : Pos} {f g : En → Pot → Res D} (hu : X.A.units + 9 < cLine) (ho : SB X F0 H0 pa o f) (he : SB X F0 H0 pa e g) (hb : objB o = true) (hs : starEach [e] X.env = [(false, eval e X.env)]) (hline : (apos.endLine == cpos.line) = true) :
    SV X F0 H0 pa (.Call (.Attribute o "get" apos) [e] [] cpos) (dGet1 f g) := fun W tk => by
  refine PEimp (pe_get1X hu (ho W tk) (he W tk) ⟨objB_base hb, by rw [hs]; rfl, hline, by rw [hs]; rfl⟩) fun σ H Q ⟨F, ρ, p, rel, q⟩ => ?_
  refine seqE (J := JB X.mg pa) (g := fun d p1 => match asD d with
    | some kvs => (g ρ p1).bind fun e p2 => ofO (getX kvs .non e) p2
    | none => .bad) backV rel q fun d p1 v F1 H1 s1 j1 r1 q1 => ?_
  cases d with
  | dct kvs =>
    obtain ⟨a, us, rfl, ha, la⟩ := j1.dct
    refine ⟨a, rfl, .inl (.inl ⟨us, .inl ha⟩), ?_⟩
    refine seqE (J := JB X.mg pa) (g := fun e p2 => ofO (getX (.dct kvs) .non e) p2) backV r1 q1 fun e p2 w F2 H2 s2 j2 r2 q2 => ?_
    obtain ⟨a', us', e', ha', la'⟩ := (j1.step (H₂ := H) r1.base s2).dct
    cases e'
    obtain ⟨o, g1, g2⟩ := get_end (z := .non) r2.base ha' la' j2 (show V.non = V.non from rfl) q2
    exact ⟨o, .inl g1, g2⟩
  | dcn kvs =>
    obtain ⟨a, us, rfl, ha, la⟩ := j1.dcn
    refine ⟨a, rfl, .inr ⟨us, la.nd ha⟩, ?_⟩
    refine seqE (J := JB X.mg pa) (g := fun e p2 => ofO (getX (.dcn kvs) .non e) p2) backV r1 q1 fun e p2 w F2 H2 s2 j2 r2 q2 => ?_
    obtain ⟨a', us', e', ha', la'⟩ := (j1.step (H₂ := H) r1.base s2).dcn
    cases e'
    obtain ⟨o, g1, g2⟩ := get_endN (z := .non) r2.base ha' la' j2 (show V.non = V.non from rfl) q2
    exact ⟨o, .inr g1, g2⟩
  | _ => exact q1.elim
theorem s_get2 {o e z : Expr} {apos cpos : Pos} {f g h : En → Pot → Res D} (hu : X.A.units + 9 < cLine) (ho : SB X F0 H0 pa o f) (he : SB X F0 H0 pa e g) (hz : SV X F0 H0 pa z h) (hb : objB o = true) (hs : starEach [e, z] X.env = [(false, eval e X.env), (false, eval z X.env)]) (hline : (apos.endLine == cpos.line) = true) :
    SV X F0 H0 pa (.Call (.Attribute o "get" apos) [e, z] [] cpos) (dGet2 f g h) := fun W tk => by
  refine PEimp (pe_get2X hu (ho W tk) (he W tk) (hz W tk) ⟨objB_base hb, by rw [hs]; rfl, hline, by rw [hs]; rfl⟩) fun σ H Q ⟨F, ρ, p, rel, q⟩ => ?_
  refine seqE (J := JB X.mg pa) (g := fun d p1 => match asD d with
    | some kvs => (g ρ p1).bind fun e p2 => (h ρ p2).bind fun z p3 => ofO (getX kvs z e) p3
    | none => .bad) backV rel q fun d p1 v F1 H1 s1 j1 r1 q1 => ?_
  cases d with
  | dct kvs =>
    obtain ⟨a, us, rfl, ha, la⟩ := j1.dct
    refine ⟨a, rfl, .inl (.inl ⟨us, .inl ha⟩), ?_⟩
    refine seqE (J := JB X.mg pa) (g := fun e p2 => (h ρ p2).bind fun z p3 => ofO (getX (.dct kvs) z e) p3) backV r1 q1 fun e p2 w F2 H2 s2 j2 r2 q2 => ?_
    refine seqE (J := JV X.mg pa) (g := fun z p3 => ofO (getX (.dct kvs) z e) p3) backV r2 q2 fun z p3 y F3 H3 s3 j3 r3 q3 => ?_
    obtain ⟨a', us', e', ha', la'⟩ := ((j1.step (H₂ := H) r1.base s2).step (H₂ := H) r2.base s3).dct
    cases e'
    obtain ⟨o, g1, g2⟩ := get_end r3.base ha' la' (j2.step (H₂ := H) r2.base s3) j3 q3
    exact ⟨o, .inl g1, g2⟩
  | dcn kvs =>
    obtain ⟨a, us, rfl, ha, la⟩ := j1.dcn
    refine ⟨a, rfl, .inr ⟨us, la.nd ha⟩, ?_⟩
    refine seqE (J := JB X.mg pa) (g := fun e p2 => (h ρ p2).bind fun z p3 => ofO (getX (.dcn kvs) z e) p3) backV r1 q1 fun e p2 w F2 H2 s2 j2 r2 q2 => ?_
    refine seqE (J := JV X.mg pa) (g := fun z p3 => ofO (getX (.dcn kvs) z e) p3) backV r2 q2 fun z p3 y F3 H3 s3 j3 r3 q3 => ?_
    obtain ⟨a', us', e', ha', la'⟩ := ((j1.step (H₂ := H) r1.base s2).step (H₂ := H) r2.base s3).dcn
    cases e'
    obtain ⟨o, g1, g2⟩ := get_endN r3.base ha' la' (j2.step (H₂ := H) r2.base s3) j3 q3
    exact ⟨o, .inr g1, g2⟩
  | _ => exact q1.elim
theorem findIdx_some {α : Type} {P : α → Bool} : ∀ {l : List α} {j : Nat}, l.findIdx? P = some j → ∃ z, l[j]? = some z ∧ P z = true ∧ ∀ m z', m < j → l[m]? = some z' → P z' = false := by
  intro l j h
  rw [List.findIdx?_eq_some_iff_getElem] at h
  obtain ⟨h1, h2, h3⟩ := h
  refine ⟨l[j], List.getElem?_eq_getElem h1, h2, fun m z' hm e => ?_⟩
  obtain ⟨h4, e⟩ := List.getElem?_eq_some_iff.mp e
  have := h3 m hm
  rw [e] at this
  simpa using this
theorem isL_at {mg : Str → Option Value} {pa : Pa} {F : Addr → Prop} {H : Hp} : ∀ {ds : List D} {vs : List V} {i : Nat} {d : D}, IsL mg pa F H ds vs → ds[i]? = some d → ∃ v, vs[i]? = some v ∧ Is mg pa F H d v
  | [], vs, i, d, l, h => by cases h
  | e :: ds, vs, i, d, l, h => by
    obtain ⟨x, r, rfl, a, b⟩ := l
    cases i with
    | zero => cases h; exact ⟨x, rfl, a⟩
    | succ i => exact isL_at (ds := ds) (i := i) b h
theorem isL_at' {mg : Str → Option Value} {pa : Pa} {F : Addr → Prop} {H : Hp} : ∀ {ds : List D} {vs : List V} {i : Nat} {v : V}, IsL mg pa F H ds vs → vs[i]? = some v → ∃ d, ds[i]? = some d ∧ Is mg pa F H d v
  | [], vs, i, d, l, h => by rw [show vs = [] from l] at h; cases h
  | e :: ds, vs, i, d, l, h => by
    obtain ⟨x, r, rfl, a, b⟩ := l
    cases i with
    | zero => cases h; exact ⟨e, rfl, a⟩
    | succ i => exact isL_at' (ds := ds) (i := i) b h
theorem s_idx {o e : Expr} {apos cpos : Pos} {f g : En → Pot → Res D} (ho : SB X F0 H0 pa o f) (he : SB X F0 H0 pa e g) (hb : objB o = true) (hs : starEach [e] X.env = [(false, eval e X.env)]) (hline : (apos.endLine == cpos.line) = true) :
    SV X F0 H0 pa (.Call (.Attribute o "index" apos) [e] [] cpos) (dIdx f g) := fun W tk => by
  refine PEimp (pe_bm PySem.F.plainAttrs_list PySem.F.slot_list_index PySem.F.type_list_index mt_index (ho W tk) (pa_cons (he W tk) pa_nil hs) (objB_base hb) (by rw [hs]; rfl) hline hs (by rfl)) fun σ H Q ⟨F, ρ, p, rel, q⟩ => ?_
  refine seqE (J := JB X.mg pa) (g := fun d p1 => match asL d with
    | some ds => (g ρ p1).bind fun e p2 => ofO (idxD ds e) p2
    | none => .bad) backV rel q fun d p1 v F1 H1 s1 j1 r1 q1 => ?_
  cases d with
  | lst ds =>
    obtain ⟨a, us, rfl, ha, la⟩ := j1.lst
    refine ⟨tyV_lst ha, ?_⟩
    refine seqE (J := JB X.mg pa) (g := fun e p2 => ofO (idxD ds e) p2) backV r1 q1 fun e p2 w F2 H2 s2 j2 r2 q2 => ?_
    obtain ⟨a', us', e', ha', la'⟩ := (j1.step (H₂ := H) r1.base s2).lst
    cases e'
    have q2 : post X.mg pa (JV X.mg pa) (wx W) F2 σ H2 (ofO (idxD ds e) p2) Q := q2
    unfold idxD at q2
    by_cases hf : flatD e = true ∧ ds.all flatD = true
    · rw [if_pos hf] at q2
      cases hj : ds.findIdx? fun z => eqb z e with
      | none => rw [hj] at q2; exact q2.elim
      | some j =>
        rw [hj] at q2
        obtain ⟨z, k1, k2, k3⟩ := findIdx_some hj
        obtain ⟨zv, k4, k5⟩ := isL_at la' k1
        have je := flat_isB hf.1 j2
        have hz : flatD z = true := List.all_eq_true.mp hf.2 z (List.mem_of_getElem? k1)
        obtain ⟨f1, f2⟩ := flats_is hf.1 je hf.2 la'
        refine ⟨a, us', w, j, zv, rfl, rfl, SqL.of ha', (flat_is hf.1 je).1, f1, k4, ?_, fun m z' hm e1 => ?_, q2 _ F2 H2 r2.base.refl rfl⟩
        · rw [(flat_is hz k5).2 e w hf.1 je]
          exact k2
        · obtain ⟨d', e2, i2⟩ := isL_at' la' e1
          rw [(flat_is (List.all_eq_true.mp hf.2 d' (List.mem_of_getElem? e2)) i2).2 e w hf.1 je]
          exact k3 m d' hm e2
    · rw [if_neg hf] at q2
      exact q2.elim
  | _ => exact q1.elim
theorem st_inRg {e b c : Expr} {p q pos : Pos} {f : En → Pot → Res D} {as : En → Pot → Res (List Sl)} (hg : Gl X "range") (hx : X.mg "range" = none) (hf : SB X F0 H0 pa e f) (ha : SA X F0 H0 pa [b, c] as)
    (hs : starEach [b, c] X.env = (false, eval b X.env) :: starEach [c] X.env) (hs2 : (backTo q (starEach [c] X.env)).any (·.1) = false) (hm : behindInMarks .In (.Call (.Name "range" p) [b, c] [] q) = false) : ST X F0 H0 pa (.Compare e [.In] [.Call (.Name "range" p) [b, c] [] q] pos) (dBl (dInRg f as)) := fun W tk =>
  PTimp (pt_cmpR op_in_rng (hf W tk) (pe_callTy cr_range2 hg hx (by decide +kernel) (ha W tk) (by decide) (by decide) hs hs2) hm) fun σ H Q q => inRg_run σ H _ (bl_ask σ H Q q)
end
end M

set_option Elab.async false
set_option linter.all false
set_option maxRecDepth 100000
/-! xs[::-1]; sorted(xs, key=sum); dict(pairs); list(d) of nested keys; a, b = e1, e2 with new things -/
namespace M
open PySem PySem.Spec PyProof.Rows L2
/-! ### xs[::-1] -/
@[simp] def revD : D → Option D
  | .lst ds => some (.lst ds.reverse)
  | _ => none
theorem IsL.rev {mg : Str → Option Value} {pa : Pa} {F : Addr → Prop} {H : Hp} : ∀ {ds : List D} {vs : List V}, IsL mg pa F H ds vs → IsL mg pa F H ds.reverse vs.reverse
  | [], vs, l => by rw [show vs = [] from l]; exact rfl
  | d :: ds, vs, l => by
    obtain ⟨v, r, rfl, h1, h2⟩ := l
    rw [List.reverse_cons, List.reverse_cons]
    exact (IsL.rev h2).append (IsL.one h1)
section
variable {X : Cx} {F0 : Addr → Prop} {H0 : Hp} {pa : Pa}
theorem s_rev {e : Expr} {k : Nat} {p1 p2 p3 pos : Pos} {f : En → Pot → Res D} (h : SB X F0 H0 pa e f) : SN X F0 H0 pa (.Subscript e (.Slice none none (some (.UnaryOp .USub (.Constant (.int 1) k p1) p2)) p3) pos) (d1' f revD) := fun W tk => by
  refine PEimp (pe_revL (h W tk)) fun σ H Q ⟨F, ρ, p, rel, q⟩ => ?_
  refine seqE (J := JB X.mg pa) (g := fun d p1 => ofO (revD d) p1) backN rel q fun d p1 v F1 H1 s1 j1 r1 q1 => ?_
  cases d with
  | lst ds =>
    obtain ⟨a, us, rfl, ha, la⟩ := j1.lst
    refine ⟨a, us, rfl, SqL.of ha, fun st hst => ?_⟩
    obtain ⟨s, j⟩ := new_lst (mg := X.mg) r1.base hst la.rev
    exact q1 _ F1 _ s j
  | _ => exact q1.elim
/-! ### sorted(xs, key=sum) -/
def sumLe (a b : List Int) : Bool := decide (a.sum ≤ b.sum)
def tupI (ns : List Int) : D := .tup (ns.map D.int)
def srtSumD : D → Option D
  | .lst ds => match rowsI ds with
    | some kk => if kk.length ≤ sizeLine then some (.lst ((kk.mergeSort sumLe).map tupI)) else none
    | none => none
  | _ => none
def rSumS (K : PySem.W.Frag) (xs : List V) (H : Hp) (Q : VK) : Prop := ∃ (a : Addr) (bs : List (Addr × List Int)), xs = [V.ref a] ∧ SqL K H a (bs.map fun b => V.ref b.1) ∧ (∀ b ∈ bs, SqT K H b.1 (b.2.map V.int)) ∧ bs.length ≤ sizeLine ∧
  ∀ p, H p = none → Q (.ref p) (upd H p (.lst ((bs.mergeSort fun x y => sumLe x.2 y.2).map fun b => V.ref b.1)))
theorem each_refs : ∀ bs : List (Addr × List Int), PySem.W.EachIs (fun u (b : Addr × List Int) => u = Value.ref b.1) (bs.map fun b => Value.ref b.1) bs
  | [] => .nil
  | b :: bs => .cons rfl (each_refs bs)
theorem pe_srtSum {e : Expr} {ta : TA} {p p2 kp pos : Pos} (hc : X.calm = true) (hu : X.A.units + 3 < cLine) (hg : Gl X "sorted") (hx : X.mg "sorted" = none) (hg2 : Gl X "sum") (hx2 : X.mg "sum" = none) (ha : PA X [e] ta)
    (he : backTo pos (starEach [e] X.env) = (false, eval e X.env) :: backTo pos (starEach [] X.env)) (hpl : (backTo pos (starEach [e] X.env)).any (·.1) = false) :
    PE X (.Call (.Name "sorted" p) [e] [⟨some (Str.ofString "key"), .Name "sum" p2, kp⟩] pos) (tCB (rSumS X.K) ta) := by
  refine ⟨fun pn s σ H Q I hyp => ?_⟩
  refine wpAny_Call_Name_kw (ld_blt I hg hx (u := .builtin "sorted") (by decide +kernel) ?_)
  refine PyProof.Rows.callWith_kw (thn (ha.run pos pn s σ H _ I hyp) fun us s1 ⟨vs, H1, I1, r1, w1⟩ => ?_) he hpl (by rfl) (by rfl)
  show wpAny _ _ (evalAll [do let v ← eval (.Name "sum" p2) X.env; standAt pos; pure v]) _ _ s1
  refine wpAny_evalAll_cons (wpAny_bind (ld_blt I1 hg2 hx2 (u := .builtin "sum") (by decide +kernel) (wpAny_bind (wpAny_standAt (wpAny_pure (wpAny_evalAll_nil ?_))))))
  obtain ⟨a, bs, rfl, hs, hb, hz, w⟩ := w1
  obtain rfl := Vals.ref1 r1
  obtain ⟨its, rv, hl, _⟩ := I1.list hs
  have ev : its = bs.map fun b => Value.ref b.1 := by simpa using refs_of_vals rv
  have each : PySem.W.EachIs (fun u (b : Addr × List Int) => u = Value.ref b.1) its bs := by
    rw [ev]
    exact each_refs bs
  refine PySem.W.sorted_key_data (f := .builtin "sum") (b := false) (fun b : Addr × List Int => .int b.2.sum) hl.isList each (fun d hd d' hd' => ?_) (.inr fun d hd => ?_) hz (fun b _ => by show X.A.units + 2 + 0 < cLine; omega) (PyProof.Rows.ksk_s1 _ _) (fun _ => PyProof.Rows.ksk_l1 _ _) (fun _ => rfl) (fun v b hv hbm h tk kp => ?_) fun out c h' tk kp _ hD ho eo => ?_
  · obtain ⟨x, _, rfl⟩ := List.mem_map.mp hd
    obtain ⟨y, _, rfl⟩ := List.mem_map.mp hd'
    rfl
  · obtain ⟨x, _, rfl⟩ := List.mem_map.mp hd
    simp
  · subst hv
    obtain ⟨its2, rv2, hl2, _⟩ := I1.tuple (hb b hbm)
    have hi := rv2.ints
    have hl2 : Heap.IsTuple h b.1 its2.toArray := IsTup.keeps hl2 kp
    obtain ⟨zs, e2⟩ := hi.allInts.items
    have hn : numsOf (intItems zs).toList = b.2 := by rw [← e2]; exact hi.numsOf
    rw [nums_intItems] at hn
    rw [e2] at hl2
    refine PySem.W.ktm_sumG (s := { s1 with heap := h, toks := tk }) (I1.ok.hd hc) hl2 fun h2 tk2 t2 k2 => ?_
    rw [preSum_eq, List.take_of_length_le (by simp), hn]
    exact ⟨h2, tk2, rfl, k2, .int _ _⟩
  · rw [PySem.W.dataLe_int] at eo
    have ro : Vals ((bs.mergeSort fun x y => sumLe x.2 y.2).map fun b => V.ref b.1) out := by
      have : ∀ {us : List Value} {cs : List (Addr × List Int)}, PySem.W.EachIs (fun u (b : Addr × List Int) => u = Value.ref b.1) us cs → Vals (cs.map fun b => V.ref b.1) us := by
        intro us cs e
        induction e with
        | nil => exact .nil
        | cons h t ih => exact .cons h ih
      exact this eo
    refine ⟨.ref _, upd H1 (s1.heap.objs.size + 1) (.lst _), I1.laid (t' := tk) kp (Nat.le_succ _) ⟨?_, out, c, ro, hD⟩, rfl, w _ (I1.hok.fresh (Nat.le_succ _))⟩
    rw [List.length_map, List.length_mergeSort]
    exact hz
theorem s_srtSum {e : Expr} {p p2 kp pos : Pos} {a : En → Pot → Res D} (hc : X.calm = true) (hu : X.A.units + 3 < cLine) (hg : Gl X "sorted") (hx : X.mg "sorted" = none) (hg2 : Gl X "sum") (hx2 : X.mg "sum" = none) (ha : SB X F0 H0 pa e a) (hs : starEach [e] X.env = [(false, eval e X.env)]) :
    SN X F0 H0 pa (.Call (.Name "sorted" p) [e] [⟨some (Str.ofString "key"), .Name "sum" p2, kp⟩] pos) (d1' a srtSumD) := fun W tk => by
  refine PEimp (pe_srtSum hc hu hg hx hg2 hx2 (pa_cons (ha W tk) pa_nil hs) (by rw [hs]; rfl) (by rw [hs]; rfl)) fun σ H Q ⟨F, ρ, p, rel, q⟩ => ?_
  refine seqE (J := JB X.mg pa) (g := fun d p1 => ofO (srtSumD d) p1) backN rel q fun d p1 v F1 H1 s1 j1 r1 q1 => ?_
  cases d with
  | lst ds =>
    obtain ⟨a', us, rfl, ha', la⟩ := j1.lst
    simp only [srtSumD] at q1
    cases e2 : rowsI ds with
    | none => rw [e2] at q1; exact q1.elim
    | some kk =>
      rw [e2] at q1
      simp only at q1
      split at q1
      · rename_i hl
        obtain ⟨ks, rfl, rfl, hk⟩ := rowsI_is e2 la
        refine ⟨a', ks, rfl, SqL.of ha', fun k hk' => SqT.of (hk k hk'), by simpa using hl, fun st hst => ?_⟩
        have em : ((ks.map (·.2)).mergeSort sumLe) = (ks.mergeSort fun x y => sumLe x.2 y.2).map (·.2) := (List.map_mergeSort (f := fun b : Addr × List Int => b.2) (r := fun x y => sumLe x.2 y.2) (s := sumLe) (fun a _ b _ => rfl)).symm
        rw [em] at q1
        have hk2 : ∀ k ∈ ks.mergeSort (fun x y => sumLe x.2 y.2), H1 k.1 = some (.tup (k.2.map V.int)) := fun k hk' => hk k ((List.mergeSort_perm _ _).mem_iff.mp hk')
        generalize ks.mergeSort (fun x y => sumLe x.2 y.2) = ls at hk2 q1
        have il : IsL X.mg pa F1 H1 (ls.map fun b => tupI b.2) (ls.map fun b => V.ref b.1) := by
          clear q1 em
          induction ls with
          | nil => exact rfl
          | cons b ls ih => exact ⟨_, _, rfl, ⟨b.1, _, rfl, hk2 b List.mem_cons_self, isL_ints _⟩, ih fun k hk' => hk2 k (List.mem_cons_of_mem _ hk')⟩
        have e3 : ((ls.map (·.2)).map tupI) = ls.map fun b => tupI b.2 := by rw [List.map_map]; rfl
        rw [e3] at q1
        obtain ⟨s, j⟩ := new_lst (mg := X.mg) r1.base hst il
        exact q1 _ F1 _ s j
      · exact q1.elim
  | _ => exact q1.elim
end
/-! ### list(d), the keys nested -/
mutual
def keyD : NK → D
  | .none => .non
  | .num i => .int i
  | .text _ => .non
  | .tup ks => .tup (keyDs ks)
def keyDs : List NK → List D
  | [] => []
  | k :: ks => keyD k :: keyDs ks
end
section
variable {mg : Str → Option Value} {pa : Pa} {F : Addr → Prop} {H : Hp}
mutual
theorem ky_is' : ∀ (k : NK) (v : V), Ky H k v → Is mg pa F H (keyD k) v
  | .none, v, h => h
  | .num i, v, h => h
  | .text _, v, h => h.elim
  | .tup ks, v, h => by
    obtain ⟨a, xs, e, ha, hk⟩ := h
    exact ⟨a, xs, e, ha, kys_is' ks xs hk⟩
theorem kys_is' : ∀ (ks : List NK) (vs : List V), Kys H ks vs → IsL mg pa F H (keyDs ks) vs
  | [], vs, h => h
  | k :: ks, vs, h => by
    obtain ⟨x, r, e, h1, h2⟩ := h
    exact ⟨x, r, e, ky_is' k x h1, kys_is' ks r h2⟩
end
theorem isN_keys : ∀ {ds : List (NK × D)} {es : List NE}, IsN mg pa F H ds es → IsL mg pa F H (ds.map fun q => keyD q.1) (es.map fun e => V.ref e.2.1)
  | [], es, h => by rw [show es = [] from h]; exact rfl
  | (k, d) :: ds, es, h => by
    obtain ⟨b, x, r, rfl, hk, h1, h2⟩ := h
    exact ⟨_, _, rfl, ky_is' k _ hk.2, isN_keys h2⟩
end
/-! ### dict(a list of pairs) -/
def flatPs : List D → Option (List (Key × D))
  | [] => some []
  | .tup [k, v] :: r => match keyOf k, flatPs r with
    | some k, some t => some ((k, v) :: t)
    | _, _ => none
  | _ => none
def nestPs : List D → Option (List (NK × D))
  | [] => some []
  | .tup [k, v] :: r => match keyT k, nestPs r with
    | some k, some t => some ((k, v) :: t)
    | _, _ => none
  | _ => none
def mergeG (kvs : List (Key × D)) : List (Key × D) := kvs.foldl (fun acc q => putG acc q.1 q.2) []
def mergeN (kvs : List (NK × D)) : List (NK × D) := kvs.foldl (fun acc q => putN acc q.1 q.2) []
def dctD : D → Option D
  | .lst ds => match flatPs ds with
    | some kvs => some (.dct (mergeG kvs))
    | none => (nestPs ds).map fun kvs => .dcn (mergeN kvs)
  | _ => none
section
variable {mg : Str → Option Value} {pa : Pa} {F : Addr → Prop} {H : Hp}
theorem flat_of {K : PySem.W.Frag} : ∀ {ds : List D} {kk : List (Key × D)} {us : List V}, flatPs ds = some kk → IsL mg pa F H ds us → ∃ (ps : List Addr) (kvs : List (Key × V)), us = ps.map V.ref ∧ IsK mg pa F H kk kvs ∧ Paired (fun p (kv : Key × V) => SqT K H p [kV kv.1, kv.2]) ps kvs
  | [], kk, us, h, l => by cases h; exact ⟨[], [], l, rfl, .nil⟩
  | d :: r, kk, us, h, l => by
    unfold flatPs at h
    split at h
    · rename_i h0; cases h0
    · rename_i k v r' h0
      cases h0
      split at h
      · rename_i key t e1 e2
        cases h
        obtain ⟨x, w, rfl, i1, i2⟩ := l
        obtain ⟨ps, kvs, rfl, q1, q2⟩ := flat_of (K := K) e2 i2
        obtain ⟨a, xs, rfl, ha, hl⟩ := i1
        obtain ⟨y1, r1, rfl, j1, y2, r2, rfl, j2, j3⟩ := hl
        obtain rfl : r2 = [] := j3
        have hk : y1 = kV key := JB.key (mg := mg) (pa := pa) (F := F) (H := H) (H1 := H) e1 (.inl j1)
        rw [hk] at ha
        exact ⟨a :: ps, (key, y2) :: kvs, rfl, ⟨y2, kvs, rfl, j2, q1⟩, .cons (SqT.of ha) q2⟩
      · cases h
    · cases h
theorem nest_of {K : PySem.W.Frag} : ∀ {ds : List D} {kk : List (NK × D)} {us : List V}, nestPs ds = some kk → IsL mg pa F H ds us → ∃ (ps : List Addr) (es : List NE), us = ps.map V.ref ∧ IsN mg pa F H kk es ∧ Paired (fun p (q : NE) => SqT K H p [V.ref q.2.1, q.2.2] ∧ KyE H q) ps es
  | [], kk, us, h, l => by cases h; exact ⟨[], [], l, rfl, .nil⟩
  | d :: r, kk, us, h, l => by
    unfold nestPs at h
    split at h
    · rename_i h0; cases h0
    · rename_i k v r' h0
      cases h0
      split at h
      · rename_i key t e1 e2
        cases h
        obtain ⟨x, w, rfl, i1, i2⟩ := l
        obtain ⟨ps, es, rfl, q1, q2⟩ := nest_of (K := K) e2 i2
        obtain ⟨a, xs, rfl, ha, hl⟩ := i1
        obtain ⟨y1, r1, rfl, j1, y2, r2, rfl, j2, j3⟩ := hl
        obtain rfl : r2 = [] := j3
        obtain ⟨b, rfl, hb⟩ := JB.keyT (mg := mg) (pa := pa) (F := F) (H := H) (H1 := H) e1 (.inl j1)
        exact ⟨a :: ps, (key, b, y2) :: es, rfl, ⟨b, y2, es, rfl, hb y2, j2, q1⟩, .cons ⟨SqT.of ha, hb y2⟩ q2⟩
      · cases h
    · cases h
theorem IsK.foldG : ∀ {ks : List (Key × D)} {vs : List (Key × V)}, IsK mg pa F H ks vs → ∀ {ds : List (Key × D)} {us : List (Key × V)}, IsK mg pa F H ds us → IsK mg pa F H (ks.foldl (fun acc q => putG acc q.1 q.2) ds) (vs.foldl (fun acc kv => putK acc kv.1 kv.2) us)
  | [], vs, h, ds, us, l => by rw [show vs = [] from h]; exact l
  | (k, d) :: ks, vs, h, ds, us, l => by
    obtain ⟨x, r, rfl, h1, h2⟩ := h
    exact IsK.foldG h2 (l.put k h1)
theorem IsN.foldN : ∀ {ks : List (NK × D)} {vs : List NE}, IsN mg pa F H ks vs → ∀ {ds : List (NK × D)} {us : List NE}, IsN mg pa F H ds us → IsN mg pa F H (ks.foldl (fun acc q => putN acc q.1 q.2) ds) (mergeE us vs)
  | [], vs, h, ds, us, l => by rw [show vs = [] from h]; exact l
  | (k, d) :: ks, vs, h, ds, us, l => by
    obtain ⟨b, x, r, rfl, hk, h1, h2⟩ := h
    exact IsN.foldN h2 (l.put h1 hk)
end
section
variable {X : Cx} {F0 : Addr → Prop} {H0 : Hp} {pa : Pa}
theorem c_dctOf (hc : X.calm = true) (hu : X.A.units + 11 < cLine) : ∃ r, CallR X (.type "dict") r ∧ CallM X pa JN r (d1 dctD) := ⟨_, (call_dictP hc).or (call_dictN hc hu), fun F H p vs ss d Q b j e k => by
  obtain ⟨x, e1, e2⟩ := d1_some e
  obtain ⟨v, rfl, jv⟩ := j.one e1
  cases x with
  | lst ds =>
    obtain ⟨a, us, rfl, ha, la⟩ := jv.lst
    simp only [dctD] at e2
    cases h1 : flatPs ds with
    | some kvs =>
      rw [h1] at e2
      cases e2
      obtain ⟨ps, kv, rfl, q1, q2⟩ := flat_of (K := X.K) h1 la
      refine .inl ⟨a, ps, kv, rfl, SqL.of ha, q2, fun t ht => ?_⟩
      obtain ⟨s, i⟩ := new_dct (mg := X.mg) b ht (ds := mergeG kvs) (xs := mergeK [] kv) (IsK.foldG q1 (ds := []) (us := []) rfl)
      exact k _ F _ s i
    | none =>
      rw [h1] at e2
      cases h2 : nestPs ds with
      | none => rw [h2] at e2; cases e2
      | some kvs =>
        rw [h2] at e2
        cases e2
        obtain ⟨ps, es, rfl, q1, q2⟩ := nest_of (K := X.K) h2 la
        refine .inr ⟨a, ps, es, rfl, SqL.of ha, q2, fun t ht => ?_⟩
        obtain ⟨s, i⟩ := new_dcn (mg := X.mg) b ht (ds := mergeN kvs) (es := mergeE [] es) (IsN.foldN q1 (ds := []) (us := []) rfl)
        exact k _ F _ s i
  | _ => cases e2⟩
/-- list(x): a list, a tuple, a dict of nested keys -/
@[simp] def listX : D → Option D
  | .dcn kvs => some (.lst (kvs.map fun q => keyD q.1))
  | d => listD d
theorem c_listX (hc : X.calm = true) : ∃ r, CallR X (.type "list") r ∧ CallM X pa JN r (d1 listX) := by
  obtain ⟨r1, a1, b1⟩ := c_list (X := X) (pa := pa)
  refine ⟨_, a1.or (call_listN hc), fun F H p vs ss d Q b j e k => ?_⟩
  obtain ⟨x, e1, e2⟩ := d1_some e
  cases x with
  | dcn kvs =>
    obtain ⟨v, rfl, jv⟩ := j.one e1
    cases e2
    obtain ⟨a, es, rfl, ha, la⟩ := jv.dcn
    refine .inr ⟨a, es, rfl, la.nd ha, fun t ht => ?_⟩
    obtain ⟨s, i⟩ := new_lst (mg := X.mg) b ht (isN_keys la)
    exact k _ F _ s i
  | _ => exact .inl (b1 F H p vs ss d Q b j (by rw [e1]; exact e2) k)
end
/-! ### xs.count(k) of ints -/
def cntD (ds : List D) (x : D) : Option D := match intsOf ds, x with
  | some ns, .int k => some (.int (ns.count k : Nat))
  | _, _ => none
theorem cntD_some {ds : List D} {x d : D} (h : cntD ds x = some d) : ∃ (ns : List Int) (k : Int), ds = ns.map D.int ∧ x = .int k ∧ d = .int (ns.count k : Nat) := by
  unfold cntD at h
  split at h
  · rename_i ns k e
    cases h
    exact ⟨ns, k, intsOf_some e, rfl, rfl⟩
  · cases h
@[simp] def dCnt (f g : En → Pot → Res D) : En → Pot → Res D := fun ρ p => (f ρ p).bind fun d p1 => match asL d with
  | some ds => (g ρ p1).bind fun e p2 => ofO (cntD ds e) p2
  | none => .bad
section
variable {X : Cx} {F0 : Addr → Prop} {H0 : Hp} {pa : Pa}
theorem isL_ints_eq {mg : Str → Option Value} {F : Addr → Prop} {H : Hp} : ∀ {ns : List Int} {vs : List V}, IsL mg pa F H (ns.map D.int) vs → vs = ns.map V.int
  | [], vs, l => l
  | n :: ns, vs, l => by
    obtain ⟨x, r, rfl, a, b⟩ := l
    rw [show x = V.int n from a, isL_ints_eq b]
    rfl
theorem s_cnt {o e : Expr} {apos cpos : Pos} {f g : En → Pot → Res D} (ho : SB X F0 H0 pa o f) (he : SB X F0 H0 pa e g) (hb : objB o = true) (hs : starEach [e] X.env = [(false, eval e X.env)]) (hline : (apos.endLine == cpos.line) = true) :
    SV X F0 H0 pa (.Call (.Attribute o "count" apos) [e] [] cpos) (dCnt f g) := fun W tk => by
  refine PEimp (pe_bm PySem.F.plainAttrs_list PySem.F.slot_list_count PySem.F.type_list_count mt_lcount (ho W tk) (pa_cons (he W tk) pa_nil hs) (objB_base hb) (by rw [hs]; rfl) hline hs (by rfl)) fun σ H Q ⟨F, ρ, p, rel, q⟩ => ?_
  refine seqE (J := JB X.mg pa) (g := fun d p1 => match asL d with
    | some ds => (g ρ p1).bind fun e p2 => ofO (cntD ds e) p2
    | none => .bad) backV rel q fun d p1 v F1 H1 s1 j1 r1 q1 => ?_
  cases d with
  | lst ds =>
    obtain ⟨a, us, rfl, ha, la⟩ := j1.lst
    refine ⟨tyV_lst ha, ?_⟩
    refine seqE (J := JB X.mg pa) (g := fun e p2 => ofO (cntD ds e) p2) backV r1 q1 fun e p2 w F2 H2 s2 j2 r2 q2 => ?_
    obtain ⟨a', us', e', ha', la'⟩ := (j1.step (H₂ := H) r1.base s2).lst
    cases e'
    have q2 : post X.mg pa (JV X.mg pa) (wx W) F2 σ H2 (ofO (cntD ds e) p2) Q := q2
    cases hc : cntD ds e with
    | none => rw [hc] at q2; exact q2.elim
    | some z =>
      rw [hc] at q2
      obtain ⟨ns, n, rfl, rfl, rfl⟩ := cntD_some hc
      have e1 := isL_ints_eq la'
      subst e1
      exact ⟨a, ns, n, rfl, by rw [show w = V.int n from j2.int], SqL.of ha', q2 _ F2 H2 r2.base.refl rfl⟩
  | _ => exact q1.elim
end
/-! ### a, b = e1, e2 with new things -/
@[simp] def mkS (m : Bool) (d : D) : Sl := if m = true then .own d else .val d
@[simp] def sParO (m m' : Bool) (i j : Nat) (f g : En → Pot → Res D) : En → Pot → Res Out := fun ρ p => (f ρ p).bind fun d p1 => (g ρ p1).bind fun e p2 => .ok (.nx ((ρ.set i (some (mkS m d))).set j (some (mkS m' e)))) p2
def JM (m : Bool) (mg : Str → Option Value) (pa : Pa) : JT := if m = true then JN mg pa else JV mg pa
section
variable {X : Cx} {F0 : Addr → Prop} {H0 : Hp} {pa : Pa}
theorem Rel.setM {mg : Str → Option Value} {F : Addr → Prop} {σ : L2.St} {H : Hp} {ρ : En} {p : Pot} {F1 : Addr → Prop} {H1 : Hp} {p1 : Pot} (r : Rel mg F0 H0 pa F σ H ρ p) (s : Stp pa F H F1 H1 p1) (m : Bool) (i : Nat) {d : D} {v : V} (h : JM m mg pa H F1 H1 d v) : Rel mg F0 H0 pa F1 (σ.set i (some v)) H1 (ρ.set i (some (mkS m d))) p1 := by
  cases m with
  | true => exact r.setOwn s i h
  | false => exact (r.step s).setVal i h
theorem ss_parO {m m' : Bool} {i j : Nat} {x y : Str} {a b : Expr} {px py pt pos : Pos} {kt k2 : Nat} {pt2 : Pos} {f g : En → Pot → Res D} (hc : X.calm = true) (hN : X.N.Nodup) (hi : X.N[i]? = some x) (hj : X.N[j]? = some y) (hij : i ≠ j)
    (hx : X.env.scope.names.lookup x = some .local) (hy : X.env.scope.names.lookup y = some .local) (ha : SE X F0 H0 pa (JM m) a f) (hb : SE X F0 H0 pa (JM m') b g)
    (h1 : starEach [a, b] X.env = (false, eval a X.env) :: starEach [b] X.env) (h2 : starEach [b] X.env = (false, eval b X.env) :: starEach [] X.env)
    (hw : swappedStores [.Tuple [.Name x px, .Name y py] kt pt] (.Tuple [a, b] k2 pt2) X.env = pure (some [x, y]))
    (hs : swapsWithSole [.Tuple [.Name x px, .Name y py] kt pt] (.Tuple [a, b] k2 pt2) pos.line X.env = pure false) :
    SS X F0 H0 pa (.Assign [.Tuple [.Name x px, .Name y py] kt pt] (.Tuple [a, b] k2 pt2) pos) (sParO m m' i j f g) := fun W tk => PSimp (ps_par hc hN hi hj hij hx hy (pa_cons (ha W tk) (pa_cons (hb W tk) pa_nil h2) h1) hw hs) fun Ds σ H ⟨F, ρ, p, r, q⟩ => by
  simp only [sParO] at q
  refine seqS (J := JM m X.mg pa) (g := fun d p1 => (g ρ p1).bind fun e p2 => .ok (.nx ((ρ.set i (some (mkS m d))).set j (some (mkS m' e)))) p2) r q fun d p1 v F1 H1 s1 j1 r1 q1 => ?_
  refine seqS (J := JM m' X.mg pa) (g := fun e p2 => .ok (.nx ((ρ.set i (some (mkS m d))).set j (some (mkS m' e)))) p2) r1 q1 fun e p2 w F2 H2 s2 j2 r2 q2 => ?_
  exact ⟨v, w, rfl, q2 F2 _ H2 (Pres.refl _ _) ((r.setM s1 m i j1).setM s2 m' j j2)⟩
end
end M

set_option Elab.async false
set_option linter.all false
set_option maxRecDepth 100000
/-! a small language: its meaning over plain data, and when a text of the program is one of its -/
namespace M
open PySem PySem.Spec PyProof.Rows L2

inductive Bin where
  | add | sub | mul | fdiv | mod | pow
  deriving DecidableEq
inductive Cm where
  | eq | ne | lt | le | gt | ge | isin | notin | is_ | isnot
  deriving DecidableEq
inductive Bf where
  | len | abs | min2 | max2 | int | tuple | all | any | sum | str | max1 | min1
  deriving DecidableEq
def Bin.op : Bin → Operator
  | .add => .Add | .sub => .Sub | .mul => .Mult | .fdiv => .FloorDiv | .mod => .Mod | .pow => .Pow
@[simp] def Bin.d : Bin → D → D → Option D
  | .add => addD | .sub => subD | .mul => mulD | .fdiv => fdivD | .mod => modD | .pow => powD
def Cm.op : Cm → CmpOp
  | .eq => .Eq | .ne => .NotEq | .lt => .Lt | .le => .LtE | .gt => .Gt | .ge => .GtE | .isin => .In | .notin => .NotIn | .is_ => .Is | .isnot => .IsNot
@[simp] def Cm.d : Cm → D → D → Option D
  | .eq => eqD | .ne => neD | .lt => ltD | .le => leD | .gt => gtD | .ge => geD | .isin => inO | .notin => notInO | .is_ => isO | .isnot => isNotO
def Bf.nm : Bf → Str
  | .len => "len" | .abs => "abs" | .min2 => "min" | .max2 => "max" | .int => "int" | .tuple => "tuple" | .all => "all" | .any => "any" | .sum => "sum" | .str => "str" | .max1 => "max" | .min1 => "min"
@[simp] def Bf.d : Bf → List D → Option D
  | .len => d1 lenD | .abs => d1 absD | .min2 => dd2 min2D | .max2 => dd2 max2D | .int => d1 intD | .tuple => d1 tupleD | .all => d1 allD | .any => d1 anyD | .sum => d1 sumD | .str => d1 strD | .max1 => d1 (mx1 mxD) | .min1 => d1 (mx1 mnD)

inductive Md where
  | v | b | n
  deriving DecidableEq
inductive E where
  | v (i : Nat) | b (i : Nat) | int (i : Int) | bl (k : Bool) | non | str (x : Str) | fn (x : Str) | gint (x : Str) (i : Int)
  | nil | cons (a r : E) | pt (a : E)
  | tup (as : E) | lst (as : E) | bin (o : Bin) (a b : E) | cmp (o : Cm) (a b : E) | chain (o o' : Cm) (a b c : E) | nt (a : E) | neg (a : E) | ands (as : E) | ors (as : E) | ite (c a b : E)
  | ix (a i : E) | sl (a lo hi : E) | slL (a lo hi : E) | call (f : Str) (as : E) | callV (i : Nat) (fs : List Str) (as : E) | blt (f : Bf) (as : E) | listOf (as : E) | listR (as : E) | isi (a : E) (t : Ty)
  | comp (t : Tg) (it c elt : E) (own : List (Str × Nat)) | cat (a b : E) | rep (a b : E) | dnew | dict1 (k v : E)
  | tTru (a : E) | tCmp (o : Cm) (a b : E) | tChain (o o' : Cm) (a b c : E) | tNot (a : E) | tAnds (as : E) | tOrs (as : E)
  | iE (a : E) | iRange (as : E) | iEnum (as : E) | pGet (i k : Nat)
  | raises (hs : List Str) (e : E) (z : Str) | any | iZip (a b : E)
  | srt (as : E) | srtR (a : E) | mxd (m : Bool) (a z : E) | isi2 (a : E) (t t' : Ty) | get1 (o k : E) | get2 (o k z : E) | idx (o x : E) | sst (a : E) | inRg (a as : E) | tInRg (a as : E) | ldt (a : E) | dict1N (k v : E) | rev (a : E) | srtSum (a : E) | dctOf (as : E) | lset (a : E) | cnt (o x : E)

/-! ### the meaning -/
section
variable (Φ : Str → List Sl → Pot → Res D)
def fnsOf (fs : List Str) (x : Str) : Option (List Sl → Pot → Res D) := if x ∈ fs then some (Φ x) else none
/-- a part of a slice -/
@[simp] def partD : D → Option Int
  | .int i => some i
  | _ => none
@[simp] def dPart (e : Option (En → Pot → Res D)) : En → Pot → Res (Option Int) := fun ρ p => match e with
  | none => .ok none p
  | some f => (f ρ p).bind fun d p1 => match partD d with
    | some i => .ok (some i) p1
    | none => .bad
@[simp] def dSl (f : En → Pot → Res D) (lo hi : Option (En → Pot → Res D)) (h : D → Option Int → Option Int → Option D) : En → Pot → Res D := fun ρ p => (f ρ p).bind fun d p1 => (dPart lo ρ p1).bind fun l p2 => (dPart hi ρ p2).bind fun u p3 => ofO (h d l u) p3
@[simp] def aArg (a : E) (f : En → Pot → Res D) : En → Pot → Res Sl := match a with
  | .b i => aBor i
  | _ => aVal f
@[simp] def oneNil : E → Bool
  | .nil => true
  | _ => false
/-- how many -/
@[simp] def cnt : E → Nat
  | .cons _ r => cnt r + 1
  | _ => 0
def dRng (n : Nat) : List D → Option (List D) := if n = 1 then dRng1 else if n = 2 then dRng2 else dRng3
@[simp] def dRange (n : Nat) : List D → Option (List D) := if n = 1 then dRange1 else dRange2
/-! the pot's four parts -/
@[simp] def potGet (p : Pot) : Nat → Option D
  | 0 => some (.lst (p.cells.map D.int))
  | 1 => some (.int p.used)
  | 2 => some (.int p.mix)
  | 3 => some (.int p.great)
  | _ => none
def potOkB (p : Pot) : Bool := p.cells.all (fun c => decide (0 ≤ c)) && decide (0 ≤ p.used) && decide (0 ≤ p.mix) && decide (p.mix < 2147483647) && decide (0 ≤ p.great) && decide (p.cells.length ≤ 63)
def potSet (p : Pot) : Nat → D → Option Pot
  | 1, .int v => if potOkB { p with used := v } = true then some { p with used := v } else none
  | 2, .int v => if potOkB { p with mix := v } = true then some { p with mix := v } else none
  | 3, .int v => if potOkB { p with great := v } = true then some { p with great := v } else none
  | _, _ => none
@[simp] def dPGet (i k : Nat) : En → Pot → Res D := fun ρ p => match rdV ρ i with
  | some .pot => ofO (potGet p k) p
  | _ => .bad
structure Mg where
  e : En → Pot → Res D := fun _ _ => .bad
  ands : En → Pot → Res D := fun _ _ => .bad
  ors : En → Pot → Res D := fun _ _ => .bad
  o : Option (En → Pot → Res D) := some fun _ _ => .bad
  a : En → Pot → Res (List Sl) := fun _ _ => .bad
  c : En → Pot → Res Bool := fun _ _ => .bad
  t : En → Pot → Res Bool := fun _ _ => .bad
  tands : En → Pot → Res Bool := fun _ _ => .bad
  tors : En → Pot → Res Bool := fun _ _ => .bad
  i : En → Pot → Res (List D) := fun _ _ => .bad
@[simp] def den : E → Mg
  | .v i => { e := fun ρ p => ofO (rdV ρ i) p }
  | .b i => { e := fun ρ p => ofO (rdB ρ i) p }
  | .int i => { e := fun _ p => .ok (.int i) p }
  | .bl k => { e := fun _ p => .ok (.bl k) p }
  | .non => { e := fun _ p => .ok .non p }
  | .str x => { e := fun _ p => .ok (.str x) p }
  | .fn x => { e := fun _ p => .ok (.fn x) p }
  | .gint _ i => { e := fun _ p => .ok (.int i) p }
  | .nil => { a := aNil, o := none, c := fun _ p => .ok true p }
  | .cons a r => { a := aCons (aArg a (den a).e) (den r).a, ands := if oneNil r = true then (den a).e else dAnd (den a).e (den r).ands, ors := if oneNil r = true then (den a).e else dOr (den a).e (den r).ors,
                   tands := if oneNil r = true then (den a).t else tAndD (den a).t (den r).tands, tors := if oneNil r = true then (den a).t else tOrD (den a).t (den r).tors }
  | .pt a => { o := some (den a).e, c := (den a).t }
  | .tup as => { e := dTup (den as).a }
  | .lst as => { e := dLst (den as).a }
  | .bin o a b => { e := d2 (den a).e (den b).e o.d }
  | .cmp o a b => { e := d2 (den a).e (den b).e o.d }
  | .chain o o' a b c => { e := dChain (den a).e (den b).e (den c).e o.d o'.d }
  | .nt a => { e := dNot (den a).e }
  | .neg a => { e := dNeg (den a).e }
  | .ands as => { e := (den as).ands }
  | .ors as => { e := (den as).ors }
  | .ite c a b => { e := dIte (den c).t (den a).e (den b).e }
  | .ix a i => { e := d2 (den a).e (den i).e ixD }
  | .sl a lo hi => { e := dSl (den a).e (den lo).o (den hi).o slD }
  | .slL a lo hi => { e := dSl (den a).e (den lo).o (den hi).o slLst }
  | .call f as => { e := dCallF (Φ f) (den as).a }
  | .callV i fs as => { e := dCallV i (fnsOf Φ fs) (den as).a }
  | .blt f as => { e := dCall (den as).a f.d }
  | .listOf as => { e := dCall (den as).a (d1 listX) }
  | .listR as => { e := dListR (den as).a (dRng (cnt as)) }
  | .isi a t => { e := d1' (den a).e fun d => (isTy t d).map .bl }
  | .comp t it c elt own => { e := dComp (den it).i (own.map (·.2)) t.asg (den c).c (den elt).e }
  | .cat a b => { e := d2 (den a).e (den b).e llAdd }
  | .rep a b => { e := d2 (den a).e (den b).e repD }
  | .dnew => { e := fun _ p => .ok (.dct []) p }
  | .dict1 k v => { e := dDict1 (den k).e (den v).e }
  | .tTru a => { t := dTru (den a).e }
  | .tCmp o a b => { t := dBl (d2 (den a).e (den b).e o.d) }
  | .tChain o o' a b c => { t := dBl (dChain (den a).e (den b).e (den c).e o.d o'.d) }
  | .tNot a => { t := tNotD (den a).t }
  | .tAnds as => { t := (den as).tands }
  | .tOrs as => { t := (den as).tors }
  | .iE a => { i := dItems (den a).e }
  | .iRange as => { i := dItA (den as).a (dRange (cnt as)) }
  | .iEnum as => { i := dItA (den as).a dEnum }
  | .pGet i k => { e := dPGet i k }
  | .raises hs e z => { e := dRaises hs z (den e).e }
  | .any => {}
  | .iZip a b => { i := dZipE (den a).e (den b).e }
  | .srt as => { e := dCall (den as).a (d1 srtU) }
  | .sst a => { e := d1' (den a).e sstD }
  | .ldt a => { e := d1' (den a).e ldtD }
  | .dict1N k v => { e := dDict1N (den k).e (den v).e }
  | .rev a => { e := d1' (den a).e revD }
  | .srtSum a => { e := d1' (den a).e srtSumD }
  | .dctOf as => { e := dCall (den as).a (d1 dctD) }
  | .lset a => { e := d1' (den a).e lsetD }
  | .inRg a as => { e := dInRg (den a).e (den as).a }
  | .tInRg a as => { t := dBl (dInRg (den a).e (den as).a) }
  | .srtR a => { e := d1' (den a).e srtRU }
  | .mxd m a z => { e := d2 (den a).e (den z).e (mx2 (if m = true then mxD else mnD)) }
  | .isi2 a t t' => { e := d1' (den a).e fun d => (isTys [t, t'] d).map .bl }
  | .get1 o k => { e := dGet1 (den o).e (den k).e }
  | .get2 o k z => { e := dGet2 (den o).e (den k).e (den z).e }
  | .idx o x => { e := dIdx (den o).e (den x).e }
  | .cnt o x => { e := dCnt (den o).e (den x).e }
end

/-! ### statements -/
inductive S where
  | nil | cons (s r : S)
  | expr (e : E) | ret (e : E) | retN | retO (i : Nat) | set (i : Nat) (e : E) | own (i : Nat) (e : E) | tgt (t : Tg) (e : E) | par (i j : Nat) (as : E) | aug (i : Nat) (sub : Bool) (e : E)
  | app (i : Nat) (e : E) | ext (i : Nat) (e : E) | setIx (i : Nat) (e k : E) | put (i : Nat) (e k : E) | pop (t : Tg) (i : Nat) | popAt (t : Tg) (i : Nat) (e : E)
  | iff (c : E) (a b : S) | whl (c : E) (a : S) (w : List Nat) | for_ (t : Tg) (it : E) (a : S) (w : List Nat) | brk | cnt | pass | raise (x : Str) | frz (i : Nat) | pSet (i k : Nat) (e : E) | any | anyR | parO (m m' : Bool) (i j : Nat) (a b : E) | tgtO (m m' : Bool) (i j : Nat) (a b : E)
def bigN : Nat := 1000000000
@[simp] def sFrz (i : Nat) : En → Pot → Res Out := fun ρ p => match ρ[i]? with
  | some (some (.own d)) => .ok (.nx (ρ.set i (some (.val d)))) p
  | some (some (.val _)) => .ok (.nx ρ) p
  | _ => .bad
@[simp] def sPSet (i k : Nat) (f : En → Pot → Res D) : En → Pot → Res Out := fun ρ p => match rdV ρ i with
  | some .pot => (f ρ p).bind fun d p1 => match potSet p1 k d with
    | some p2 => .ok (.nx ρ) p2
    | none => .bad
  | _ => .bad
section
variable (Φ : Str → List Sl → Pot → Res D)
structure Ms where
  s : En → Pot → Res Out := fun _ _ => .bad
  ss : En → Pot → Res Out := fun _ _ => .bad
@[simp] def dens : S → Ms
  | .nil => { ss := sNx }
  | .cons s r => { ss := sSeq (dens s).s (dens r).ss }
  | .expr e => { s := sExpr (den Φ e).e }
  | .ret e => { s := sRet (den Φ e).e }
  | .retN => { s := fun _ p => .ok (.ret .non) p }
  | .retO i => { s := sRetO i }
  | .set i e => { s := sSet i (den Φ e).e }
  | .own i e => { s := sOwn i (den Φ e).e }
  | .tgt t e => { s := sTgt t (den Φ e).e }
  | .par i j as => { s := sPar i j (den Φ as).a }
  | .parO m m' i j a b => { s := sParO m m' i j (den Φ a).e (den Φ b).e }
  | .tgtO m m' i j a b => { s := sParO m m' i j (den Φ a).e (den Φ b).e }
  | .aug i sub e => { s := sAug i (if sub = true then (fun i j => i - j) else fun i j => i + j) (den Φ e).e }
  | .app i e => { s := sWrL i (den Φ e).e appD }
  | .ext i e => { s := sWrL i (den Φ e).e extD }
  | .setIx i e k => { s := sSetIx i (den Φ e).e (den Φ k).e }
  | .put i e k => { s := sPut i (den Φ e).e (den Φ k).e }
  | .pop t i => { s := sPop t i }
  | .popAt t i e => { s := sPopAt t i (den Φ e).e }
  | .iff c a b => { s := sIf (den Φ c).t (dens a).ss (dens b).ss }
  | .whl c a w => { s := whileR (den Φ c).t (dens a).ss w bigN }
  | .for_ t it a w => { s := sFor (den Φ it).i t.asg (dens a).ss w }
  | .brk => { s := fun ρ p => .ok (.brk ρ) p }
  | .cnt => { s := fun ρ p => .ok (.cnt ρ) p }
  | .pass => { s := sNx }
  | .raise x => { s := sRaise x }
  | .frz i => { s := sFrz i }
  | .pSet i k e => { s := sPSet i k (den Φ e).e }
  | .any => {}
  | .anyR => {}
end
end M

set_option Elab.async false
set_option linter.all false
set_option maxRecDepth 100000
/-! side conditions, the checker -/
namespace M
open PySem PySem.Spec PyProof.Rows L2
structure Gc where
  fns : List Str
  gis : List (Str × Int)
  free : List Str
  excs : List Str
  rsn : Str := Str.empty
  rsh : List Str := []
structure Cc where
  N : List Str
  sc : Scope
  blk : Option Scope
  lam : Bool := false
def visB (sc : Scope) (x : Str) : Bool := match sc.names.lookup x with
  | some .local => true
  | some .cell => true
  | some .free => true
  | _ => false
theorem visB_vis {sc : Scope} {x : Str} (h : visB sc x = true) : Vis sc x := by
  unfold visB at h
  split at h
  · rename_i e; exact .inl e
  · rename_i e; exact .inr (.inl e)
  · rename_i e; exact .inr (.inr e)
  · cases h
def locB (sc : Scope) (x : Str) : Bool := match sc.names.lookup x with
  | some .local => true
  | some .cell => true
  | _ => false
theorem locB_loc {sc : Scope} {x : Str} (h : locB sc x = true) : Loc sc x := by
  unfold locB at h
  split at h
  · rename_i e; exact .inl e
  · rename_i e; exact .inr e
  · cases h
def glB (sc : Scope) (x : Str) : Bool := match sc.names.lookup x with
  | some .globalImplicit => true
  | _ => false
theorem glB_gl {X : Cx} {x : Str} (h : glB X.env.scope x = true) : Gl X x := by
  unfold glB at h
  split at h
  · rename_i e; exact e
  · cases h
def nmOk (x : Str) : Bool := !(x == ("__debug__" : Str)) && !(x == ("__classdict__" : Str))
theorem nmOk_1 {x : Str} (h : nmOk x = true) : (x == ("__debug__" : Str)) = false := by
  unfold nmOk at h
  simp only [Bool.and_eq_true, Bool.not_eq_true'] at h
  exact h.1
theorem nmOk_2 {x : Str} (h : nmOk x = true) : (x == ("__classdict__" : Str)) = false := by
  unfold nmOk at h
  simp only [Bool.and_eq_true, Bool.not_eq_true'] at h
  exact h.2
def plainX : Expr → Bool
  | .Starred .. => false
  | .Set .. => false
  | .Slice .. => false
  | .NamedExpr .. => false
  | _ => true
theorem star_of {e : Expr} {es : List Expr} {env : Env} (h : plainX e = true) : starEach (e :: es) env = (false, eval e env) :: starEach es env := by
  cases e <;> first | rfl | cases h
theorem asgn_of {e : Expr} {es : List Expr} {env : Env} (h : plainX e = true) : assignEach (e :: es) env = (false, assign e env) :: assignEach es env := by
  cases e <;> first | rfl | cases h
theorem mark_of {op : CmpOp} {e : Expr} (h : plainX e = true) : behindInMarks op e = false := by
  cases e <;> first | rfl | cases h
theorem fold_of {e : Expr} {env : Env} (h : plainX e = true) (x : Value) : foldedSetIterable e env x = pure x := by
  cases e <;> first | rfl | cases h
theorem ix_of {e : Expr} (h : plainX e = true) : PlainIx e := by
  cases e <;> first | (exact fun _ _ => rfl) | cases h
theorem backTo_of {pos : Pos} {env : Env} : ∀ {es : List Expr}, es.all plainX = true → (backTo pos (starEach es env)).any (·.1) = false
  | [], _ => rfl
  | e :: es, h => by
    have h : plainX e = true ∧ es.all plainX = true := by simpa using h
    rw [star_of h.1]
    show (false || (backTo pos (starEach es env)).any (·.1)) = false
    rw [backTo_of h.2]
    rfl
/-- its truth is asked of its value -/
def truX : Expr → Bool
  | .UnaryOp .. => false
  | .BoolOp .. => false
  | .IfExp .. => false
  | .Compare .. => false
  | _ => true
theorem tru_of {e : Expr} {env : Env} (h : truX e = true) (whole : Sem Value) : isTrue e env whole = (do let v ← whole; standAt e.pos; holding [v] (truthy v)) := by
  cases e <;> first | rfl | cases h
def noLc : Expr → Bool
  | .ListComp .. => false
  | .SetComp .. => false
  | .DictComp .. => false
  | _ => true
theorem sw_noLc {e : Expr} {t : Option Expr} {l : Nat} {env : Env} (h : noLc e = true) : swapsWith e t l env = pure false := by
  cases e <;> first | rfl | cases h

def Cc.sub (c : Cc) (scope : Scope) : Cc := { N := c.N, sc := relS scope c.sc, blk := some scope, lam := false }
def Cc.lamSub (c : Cc) (scope : Scope) : Cc := { N := c.N, sc := scope, blk := some scope, lam := false }
def fnB (c : Cc) (x : Str) : Bool := match c.blk with
  | none => true
  | some s => (s.names.lookup x == some .cell) || (c.sc.names.lookup x == some .local)
structure CtM (g : Gc) (c : Cc) (k : Nat) (Φ : Str → List Sl → Pot → Res D) (X : Cx) (pa : Pa) : Prop where
  hN : X.N = c.N
  nd : c.N.Nodup
  sc : X.env.scope = c.sc
  kind : c.sc.kind = .function
  calm : X.calm = true
  room : Room k X.A
  fn : ∀ x, fnB c x = true → X.fn x = true ∨ X.env.scope.names.lookup x = some .local
  free : ∀ x ∈ g.free, X.mg x = none
  fns : ∀ x ∈ g.fns, FnAt X.prog X.w X.K X.mg X.base k x (Φ x)
  gis : ∀ q ∈ g.gis, ∃ t, X.mg q.1 = some (.int q.2 t)
  lam : c.lam = true → PaOk X pa ∧ Room (k + 2) X.A ∧ RsAt X.K X.mg g.rsn g.rsh
theorem CtM.blk {g : Gc} {c : Cc} {k : Nat} {Φ : Str → List Sl → Pot → Res D} {X : Cx} {pa : Pa} (x : CtM g c k Φ X pa) {scope : Scope} (hk : scope.kind = .function) (s : Shared) (H : Hp) (C : Addr) (cl : List (Str × Addr)) (fp : List Addr) :
    CtM g (c.sub scope) k Φ (X.blk s H scope (compEnvC scope cl C X.env) fp) pa where
  hN := x.hN
  nd := x.nd
  sc := by
    show relS scope X.env.scope = relS scope c.sc
    rw [x.sc]
  kind := hk
  calm := x.calm
  room := x.room
  fn := fun y h => by
    have h : ((scope.names.lookup y == some .cell) || ((relS scope c.sc).names.lookup y == some .local)) = true := h
    rcases Bool.or_eq_true_iff.mp h with h | h
    · exact .inl h
    · refine .inr ?_
      show (relS scope X.env.scope).names.lookup y = some .local
      rw [x.sc]
      exact eq_of_beq h
  free := x.free
  fns := x.fns
  gis := x.gis
  lam := fun h => by cases h
theorem CtM.lamb {g : Gc} {c : Cc} {k : Nat} {Φ : Str → List Sl → Pot → Res D} {X : Cx} {pa : Pa} (x : CtM g c k Φ X pa) {scope : Scope} (L : LamX.LamS X.env.scope scope) {A : Around} {outer : List Env} {s : Shared} {H : Hp} {E : XK} {f c' : Addr} (hr : Room k (A.deeper (LamX.lamEnv X scope s.heap.objs.size f c'))) :
    CtM g (c.lamSub scope) k Φ (LamX.lamCx X A outer s H E scope f c') pa where
  hN := x.hN
  nd := x.nd
  sc := rfl
  kind := L.kind
  calm := rfl
  room := hr
  fn := fun y h => by
    have h : ((scope.names.lookup y == some .cell) || (scope.names.lookup y == some .local)) = true := h
    rcases Bool.or_eq_true_iff.mp h with h | h
    · exact absurd rfl (L.own _ (PySem.mem_of_lookup (eq_of_beq h))).2
    · exact absurd rfl (L.own _ (PySem.mem_of_lookup (eq_of_beq h))).1
  free := x.free
  fns := x.fns
  gis := x.gis
  lam := fun h => by cases h
def noArgs : Arguments → Bool
  | ⟨[], [], none, [], [], none, []⟩ => true
  | _ => false
theorem noArgs_ok {a : Arguments} (h : noArgs a = true) : a = ⟨[], [], none, [], [], none, []⟩ := by
  unfold noArgs at h
  split at h
  · rfl
  · cases h
def blkB (N : List Str) (sc scope : Scope) (own : List (Str × Nat)) : Bool :=
  decide (scope.kind = .function) && scope.names.all (fun y => decide (scope.names.lookup y.1 = some y.2)) && own.all (fun p => decide (N[p.2]? = some p.1)) &&
    scope.names.all (fun y => match y.2 with
      | .free => decide (sc.names.lookup y.1 = some .cell) || decide (sc.names.lookup y.1 = some .free)
      | .local => decide (y.1 ∈ own.map (·.1)) || decide (y.1 ∉ N)
      | .cell => decide (y.1 ∈ own.map (·.1)) || decide (y.1 ∉ N)
      | _ => true)
theorem blkB_ok {N : List Str} {sc scope : Scope} {own : List (Str × Nat)} (h : blkB N sc scope own = true) : BlkOk N sc scope own := by
  unfold blkB at h
  simp only [Bool.and_eq_true, List.all_eq_true, decide_eq_true_eq] at h
  obtain ⟨⟨⟨h1, h2⟩, h3⟩, h4⟩ := h
  refine ⟨h1, h2, fun p hp => h3 p hp, fun y hy e => ?_, fun y hy e => ?_⟩
  · have q := h4 y hy
    rw [e] at q
    simpa using q
  · have q := h4 y hy
    rcases e with e | e <;> rw [e] at q <;> simpa using q

/-! ### the checker of expressions -/
def chkN (c : Cc) (i : Nat) : Expr → Bool
  | .Name y _ => decide (c.N[i]? = some y) && visB c.sc y && nmOk y
  | _ => false
def chkG (g : Gc) (c : Cc) (x : Str) : Expr → Bool
  | .Name y _ => decide (x = y) && glB c.sc y && decide (y ∈ g.free)
  | _ => false
mutual
def chkTg (c : Cc) : Tg → Expr → Bool
  | .nm i, x => match x with
    | .Name y _ => decide (c.N[i]? = some y) && locB c.sc y && fnB c y
    | _ => false
  | .tup ts, x => match x with
    | .Tuple es _ _ => chkTgs c ts es
    | _ => false
def chkTgs (c : Cc) : List Tg → List Expr → Bool
  | [], es => es.isEmpty
  | t :: ts, es => match es with
    | e :: es => plainX e && chkTg c t e && chkTgs c ts es
    | [] => false
end
structure Ck where
  e : Cc → Md → Expr → Bool := fun _ _ _ => false
  es : Cc → List Expr → Bool := fun _ _ => false
  a : Cc → List Expr → Bool := fun _ _ => false
  ts : Cc → List Expr → Bool := fun _ _ => false
  t : Cc → Expr → Bool := fun _ _ => false
  c : Cc → List Expr → Bool := fun _ _ => false
  o : Cc → Option Expr → Bool := fun _ _ => false
  i : Cc → Bool → Expr → Expr → Bool := fun _ _ _ _ => false
def aMd : E → Md
  | .b _ => .b
  | _ => .v
def Md.nn : Md → Bool
  | .n => false
  | _ => true
def noB : E → Bool
  | .b _ => false
  | _ => true
def argB : E → Bool
  | .cons (.b _) .nil => false
  | .cons _ .nil => true
  | _ => false
def isTup : Expr → Bool
  | .Tuple .. => true
  | _ => false
def ck (g : Gc) : E → Ck
  | .v i => { e := fun c md x => md.nn && chkN c i x }
  | .b i => { e := fun c md x => decide (md = .b) && chkN c i x }
  | .int i => { e := fun c md x => match x with
      | .Constant (.int j) _ _ => md.nn && decide (i = j)
      | _ => false }
  | .bl b => { e := fun c md x => match x with
      | .Constant (.bool j) _ _ => md.nn && decide (b = j)
      | _ => false }
  | .non => { e := fun c md x => match x with
      | .Constant .none _ _ => md.nn
      | _ => false }
  | .str z => { e := fun c md x => match x with
      | .Constant (.str j) _ _ => md.nn && decide (z = j)
      | _ => false }
  | .fn z => { e := fun c md x => match x with
      | .Name y _ => md.nn && decide (z = y) && glB c.sc y && decide (y ∈ g.fns) && nmOk y
      | _ => false }
  | .gint z i => { e := fun c md x => match x with
      | .Name y _ => md.nn && decide (z = y) && glB c.sc y && decide ((y, i) ∈ g.gis) && nmOk y
      | _ => false }
  | .nil => { es := fun _ xs => xs.isEmpty, a := fun _ xs => xs.isEmpty, ts := fun _ xs => xs.isEmpty, c := fun _ xs => xs.isEmpty, o := fun _ o => o.isNone }
  | .cons a r => {
      es := fun c xs => match xs with
        | x :: xs => (ck g a).e c .v x && (ck g r).es c xs
        | [] => false
      a := fun c xs => match xs with
        | x :: xs => plainX x && (ck g a).e c (aMd a) x && (ck g r).a c xs
        | [] => false
      ts := fun c xs => match xs with
        | x :: xs => (ck g a).t c x && (ck g r).ts c xs
        | [] => false }
  | .pt a => {
      o := fun c o => match o with
        | some x => (ck g a).e c .v x
        | none => false
      c := fun c xs => match xs with
        | [x] => (ck g a).t c x
        | _ => false }
  | .tup as => { e := fun c md x => match x with
      | .Tuple es _ _ => md.nn && (ck g as).a c es
      | _ => false }
  | .lst as => { e := fun c md x => match x with
      | .List es _ => (ck g as).a c es
      | _ => false }
  | .bin o a b => { e := fun c md x => match x with
      | .BinOp l op r _ => md.nn && decide (op = o.op) && (ck g a).e c .b l && (ck g b).e c .b r
      | _ => false }
  | .cmp o a b => { e := fun c md x => match x with
      | .Compare l [op] [r] _ => md.nn && decide (op = o.op) && plainX r && (ck g a).e c .b l && (ck g b).e c .b r
      | _ => false }
  | .chain o o' a b d => { e := fun c md x => match x with
      | .Compare l [op, op'] [r, r'] _ => md.nn && decide (op = o.op) && decide (op' = o'.op) && plainX r && plainX r' && (ck g a).e c .b l && (ck g b).e c .b r && (ck g d).e c .b r'
      | _ => false }
  | .nt a => { e := fun c md x => match x with
      | .UnaryOp .Not l _ => md.nn && (ck g a).e c .v l
      | _ => false }
  | .neg a => { e := fun c md x => match x with
      | .UnaryOp .USub l _ => md.nn && (ck g a).e c .v l
      | _ => false }
  | .ands as => { e := fun c md x => match x with
      | .BoolOp .And es _ => md.nn && !es.isEmpty && (ck g as).es c es
      | _ => false }
  | .ors as => { e := fun c md x => match x with
      | .BoolOp .Or es _ => md.nn && !es.isEmpty && (ck g as).es c es
      | _ => false }
  | .ite q a b => { e := fun c md x => match x with
      | .IfExp y l r _ => (ck g q).t c y && (ck g a).e c md l && (ck g b).e c md r
      | _ => false }
  | .ix a i => { e := fun c md x => match x with
      | .Subscript l r _ => md.nn && plainX r && (ck g a).e c .b l && (ck g i).e c .b r
      | _ => false }
  | .sl a lo hi => { e := fun c md x => match x with
      | .Subscript l (.Slice u w none _) _ => md.nn && (ck g a).e c .b l && (ck g lo).o c u && (ck g hi).o c w
      | _ => false }
  | .slL a lo hi => { e := fun c md x => match x with
      | .Subscript l (.Slice u w none _) _ => (ck g a).e c .b l && (ck g lo).o c u && (ck g hi).o c w
      | _ => false }
  | .call f as => { e := fun c md x => match x with
      | .Call (.Name y _) (e :: es) [] _ => md.nn && decide (f = y) && decide (y ∈ g.fns) && glB c.sc y && nmOk y && (e :: es).all plainX && (ck g as).a c (e :: es)
      | _ => false }
  | .callV i fs as => { e := fun c md x => match x with
      | .Call (.Name y _) (e :: es) [] _ => md.nn && decide (c.N[i]? = some y) && visB c.sc y && nmOk y && fs.all (fun z => decide (z ∈ g.fns)) && (e :: es).all plainX && (ck g as).a c (e :: es)
      | _ => false }
  | .blt f as => { e := fun c md x => match x with
      | .Call h (e :: es) [] _ => md.nn && chkG g c f.nm h && (e :: es).all plainX && (ck g as).a c (e :: es)
      | _ => false }
  | .listOf as => { e := fun c md x => match x with
      | .Call h [e] [] _ => chkG g c "list" h && plainX e && (ck g as).a c [e]
      | _ => false }
  | .listR as => { e := fun c md x => match x with
      | .Call h [.Call h2 (e :: es) [] _] [] _ => chkG g c "list" h && chkG g c "range" h2 && (e :: es).all plainX && decide (cnt as = es.length + 1) && decide (es.length ≤ 2) && (ck g as).a c (e :: es)
      | _ => false }
  | .isi a t => { e := fun c md x => match x with
      | .Call h [e, h2] [] _ => md.nn && chkG g c "isinstance" h && chkG g c t.nm h2 && plainX e && (ck g a).e c .b e
      | _ => false }
  | .comp t it q elt own => { e := fun c md x => match x with
      | .ListComp y [gn] scope _ => decide (gn.is_async = 0) && blkB c.N c.sc scope own && t.slots.all (fun j => decide (j ∈ own.map (·.2))) && plainX gn.iter && (ck g it).i c true gn.target gn.iter &&
          chkTg (c.sub scope) t gn.target && (ck g q).c (c.sub scope) gn.ifs && (ck g elt).e (c.sub scope) .v y
      | _ => false }
  | .cat a b => { e := fun c md x => match x with
      | .BinOp l .Add r _ => (ck g a).e c .b l && (ck g b).e c .b r
      | _ => false }
  | .rep a b => { e := fun c md x => match x with
      | .BinOp l .Mult r _ => (ck g a).e c .b l && (ck g b).e c .b r
      | _ => false }
  | .dnew => { e := fun c md x => match x with
      | .Dict [] [] _ => true
      | _ => false }
  | .dict1 k v => { e := fun c md x => match x with
      | .Dict [some y] [z] _ => (ck g k).e c .v y && (ck g v).e c .v z
      | _ => false }
  | .tTru a => { t := fun c x => truX x && (ck g a).e c .b x }
  | .tCmp o a b => { t := fun c x => match x with
      | .Compare l [op] [r] _ => decide (op = o.op) && plainX r && (ck g a).e c .b l && (ck g b).e c .b r
      | _ => false }
  | .tChain o o' a b d => { t := fun c x => match x with
      | .Compare l [op, op'] [r, r'] _ => decide (op = o.op) && decide (op' = o'.op) && plainX r && plainX r' && (ck g a).e c .b l && (ck g b).e c .b r && (ck g d).e c .b r'
      | _ => false }
  | .tNot a => { t := fun c x => match x with
      | .UnaryOp .Not l _ => (ck g a).t c l
      | _ => false }
  | .tAnds as => { t := fun c x => match x with
      | .BoolOp .And es _ => !es.isEmpty && (ck g as).ts c es
      | _ => false }
  | .tOrs as => { t := fun c x => match x with
      | .BoolOp .Or es _ => !es.isEmpty && (ck g as).ts c es
      | _ => false }
  | .iE a => { i := fun c b tg x => (ck g a).e c (if b = true then .b else .v) x }
  | .iRange as => { i := fun c b tg x => match x with
      | .Call h (e :: es) [] _ => chkG g c "range" h && (e :: es).all plainX && decide (cnt as = es.length + 1) && decide (es.length ≤ 1) && (ck g as).a c (e :: es)
      | _ => false }
  | .raises hs e z => { e := fun c md x => match x with
      | .Call (.Name y _) [.Lambda params body scope _, .Constant (.str z') _ _] [] _ => md.nn && decide (y = g.rsn) && decide (hs = g.rsh) && decide (z' = z) && c.lam && glB c.sc y && nmOk y && LamX.lamSB c.sc scope && noArgs params && (ck g e).e (c.lamSub scope) .b body
      | _ => false }
  | .any => { e := fun _ md _ => md.nn, t := fun _ _ => true, i := fun _ _ _ _ => true, a := fun _ _ => true }
  | .iZip a d => { i := fun c _ tg x => match x with
      | .Call h [e1, e2] [] _ => chkG g c "zip" h && isTup tg && plainX e1 && plainX e2 && (ck g a).e c .v e1 && (ck g d).e c .v e2
      | _ => false }
  | .iEnum as => { i := fun c b tg x => match x with
      | .Call h [e] [] _ => chkG g c "enumerate" h && isTup tg && plainX e && (b || argB as) && (ck g as).a c [e]
      | _ => false }
  | .srt as => { e := fun c md x => match x with
      | .Call h [e] [] _ => chkG g c "sorted" h && plainX e && (ck g as).a c [e]
      | _ => false }
  | .sst a => { e := fun c md x => match x with
      | .Call h [.Call h2 [e] [] _] [] _ => chkG g c "sorted" h && chkG g c "set" h2 && plainX e && (ck g a).e c .b e
      | _ => false }
  | .lset a => { e := fun c md x => match x with
      | .Call h [.Call h2 [e] [] _] [] _ => md.nn && chkG g c "len" h && chkG g c "set" h2 && plainX e && (ck g a).e c .b e
      | _ => false }
  | .dict1N k v => { e := fun c md x => match x with
      | .Dict [some y] [z] _ => (ck g k).e c .v y && (ck g v).e c .v z
      | _ => false }
  | .rev a => { e := fun c md x => match x with
      | .Subscript e (.Slice none none (some (.UnaryOp .USub (.Constant (.int 1) _ _) _)) _) _ => (ck g a).e c .b e
      | _ => false }
  | .srtSum a => { e := fun c md x => match x with
      | .Call h [e] [⟨some y, h2, _⟩] _ => chkG g c "sorted" h && chkG g c "sum" h2 && plainX e && decide (y = Str.ofString "key") && (ck g a).e c .b e
      | _ => false }
  | .dctOf as => { e := fun c md x => match x with
      | .Call h [e] [] _ => chkG g c "dict" h && plainX e && (ck g as).a c [e]
      | _ => false }
  | .ldt a => { e := fun c md x => match x with
      | .Call h [.Call h2 [e] [] _] [] _ => md.nn && chkG g c "len" h && chkG g c "dict" h2 && plainX e && (ck g a).e c .b e
      | _ => false }
  | .inRg a as => { e := fun c md x => match x with
      | .Compare e [op] [.Call h [b, d] [] _] _ => md.nn && decide (op = .In) && chkG g c "range" h && plainX b && plainX d && (ck g a).e c .b e && (ck g as).a c [b, d]
      | _ => false }
  | .tInRg a as => { t := fun c x => match x with
      | .Compare e [op] [.Call h [b, d] [] _] _ => decide (op = .In) && chkG g c "range" h && plainX b && plainX d && (ck g a).e c .b e && (ck g as).a c [b, d]
      | _ => false }
  | .srtR a => { e := fun c md x => match x with
      | .Call h [e] [⟨some y, .Constant (.bool z) _ _, _⟩] _ => chkG g c "sorted" h && plainX e && decide (y = Str.ofString "reverse") && z && (ck g a).e c .b e
      | _ => false }
  | .mxd m a z => { e := fun c md x => match x with
      | .Call h [e] [⟨some y, w, _⟩] _ => md.nn && chkG g c (if m = true then "max" else "min") h && plainX e && decide (y = Str.ofString "default") && (ck g a).e c .b e && (ck g z).e c .v w
      | _ => false }
  | .isi2 a t t' => { e := fun c md x => match x with
      | .Call h [e, .Tuple [h2, h3] _ _] [] _ => md.nn && chkG g c "isinstance" h && chkG g c t.nm h2 && chkG g c t'.nm h3 && plainX e && (ck g a).e c .b e
      | _ => false }
  | .get1 o k => { e := fun c md x => match x with
      | .Call (.Attribute y m apos) [e] [] cpos => md.nn && decide (m = Str.ofString "get") && (apos.endLine == cpos.line) && objB y && plainX e && (ck g o).e c .b y && (ck g k).e c .b e
      | _ => false }
  | .get2 o k z => { e := fun c md x => match x with
      | .Call (.Attribute y m apos) [e, w] [] cpos => md.nn && decide (m = Str.ofString "get") && (apos.endLine == cpos.line) && objB y && plainX e && plainX w && (ck g o).e c .b y && (ck g k).e c .b e && (ck g z).e c .v w
      | _ => false }
  | .idx o k => { e := fun c md x => match x with
      | .Call (.Attribute y m apos) [e] [] cpos => md.nn && decide (m = Str.ofString "index") && (apos.endLine == cpos.line) && objB y && plainX e && (ck g o).e c .b y && (ck g k).e c .b e
      | _ => false }
  | .cnt o k => { e := fun c md x => match x with
      | .Call (.Attribute y m apos) [e] [] cpos => md.nn && decide (m = Str.ofString "count") && (apos.endLine == cpos.line) && objB y && plainX e && (ck g o).e c .b y && (ck g k).e c .b e
      | _ => false }
  | .pGet i k => { e := fun c md x => match x with
      | .Subscript l (.Constant (.int z) _ _) _ => md.nn && chkN c i l && decide (z = (k : Int))
      | _ => false }
end M

set_option Elab.async false
set_option linter.all false
set_option maxRecDepth 100000
/-! what is checked is sound: expressions -/
namespace M
open PySem PySem.Spec PyProof.Rows L2
section
variable {X : Cx} {F0 : Addr → Prop} {H0 : Hp} {pa : Pa}
def SM (md : Md) (X : Cx) (F0 : Addr → Prop) (H0 : Hp) (pa : Pa) (x : Expr) (f : En → Pot → Res D) : Prop := match md with
  | .v => SV X F0 H0 pa x f
  | .b => SB X F0 H0 pa x f
  | .n => SN X F0 H0 pa x f
theorem SM.ofV {md : Md} {x : Expr} {f : En → Pot → Res D} (h : md.nn = true) (s : SV X F0 H0 pa x f) : SM md X F0 H0 pa x f := by
  cases md with
  | v => exact s
  | b => exact s.sb
  | n => cases h
theorem SM.ofN {md : Md} {x : Expr} {f : En → Pot → Res D} (s : SN X F0 H0 pa x f) : SM md X F0 H0 pa x f := by
  cases md with
  | v => exact s.sv
  | b => exact s.sv.sb
  | n => exact s
def JO : Hp → (Addr → Prop) → Hp → Option Int → Option Int → Prop := fun _ _ _ a b => a = b
theorem backO : Back pa JO := fun _ _ _ _ _ _ _ _ _ _ h => h
def SO (X : Cx) (F0 : Addr → Prop) (H0 : Hp) (pa : Pa) (x : Option Expr) (f : Option (En → Pot → Res D)) : Prop := ∀ W : XK, Takes X (wx W) → PO X x (tX X.mg F0 H0 pa JO (wx W) (dPart f))
theorem POimp {e : Option Expr} {t t' : TO} (h : PO X e t) (i : ∀ σ H Q, t' σ H Q → t σ H Q) : PO X e t' := ⟨fun pins s σ H Q I q => h.run pins s σ H Q I (i σ H Q q)⟩
theorem so_none : SO X F0 H0 pa none none := fun W tk => POimp po_none fun σ H Q ⟨F, ρ, p, r, q⟩ => q none F H r.base.refl rfl
theorem so_some {e : Expr} {f : En → Pot → Res D} (h : SV X F0 H0 pa e f) : SO X F0 H0 pa (some e) (some f) := fun W tk => POimp (po_some (h W tk)) fun σ H Q ⟨F, ρ, p, r, q⟩ => by
  refine seqE (J := JV X.mg pa) (g := fun d p1 => match partD d with
    | some i => .ok (some i) p1
    | none => .bad) backO r q fun d p1 v F1 H1 s1 j1 r1 q1 => ?_
  cases d with
  | int i =>
    refine ⟨i, ?_, q1 (some i) F1 H1 r1.base.refl rfl⟩
    exact j1
  | _ => exact q1.elim
theorem s_sl0 {J : (Str → Option Value) → Pa → JT} {r : V → Option Int → Option Int → Hp → VK → Prop} {h : D → Option Int → Option Int → Option D} {e : Expr} {lo hi : Option Expr} {p2 pos : Pos} {f : En → Pot → Res D} {l u : Option (En → Pot → Res D)} (bk : Back pa (J X.mg pa)) (ho : SlR X r) (hm : Sl3 X pa J r h)
    (he : SB X F0 H0 pa e f) (hl : SO X F0 H0 pa lo l) (hu : SO X F0 H0 pa hi u) : SE X F0 H0 pa J (.Subscript e (.Slice lo hi none p2) pos) (dSl f l u h) := fun W tk => PEimp (pe_slice ho (he W tk) (hl W tk) (hu W tk)) fun σ H Q ⟨F, ρ, p, rel, q⟩ => by
  refine seqE (J := JB X.mg pa) (g := fun d p1 => (dPart l ρ p1).bind fun l p2 => (dPart u ρ p2).bind fun u p3 => ofO (h d l u) p3) bk rel q fun d p1 v F1 H1 s1 j1 r1 q1 => ?_
  refine seqE (J := JO) (g := fun l p2 => (dPart u ρ p2).bind fun u p3 => ofO (h d l u) p3) bk r1 q1 fun dl p2 vl F2 H2 s2 j2 r2 q2 => ?_
  refine seqE (J := JO) (g := fun u p3 => ofO (h d dl u) p3) bk r2 q2 fun du p3 vu F3 H3 s3 j3 r3 q3 => ?_
  cases e : h d dl du with
  | none => rw [e] at q3; exact q3.elim
  | some x =>
    rw [e] at q3
    obtain rfl : dl = vl := j2
    obtain rfl : du = vu := j3
    exact hm F3 H3 p3 v d x dl du Q r3.base ((j1.step (H₂ := H) r1.base s2).step r2.base s3) e q3
theorem bin_ok (o : Bin) : ∃ r, OpR X (binaryOp o.op) r ∧ Op2 X pa JV r o.d := match o with
  | .add => o_add
  | .sub => ⟨_, op_sub, o_sub⟩
  | .mul => o_mul
  | .fdiv => ⟨_, op_fdivN, o_fdiv⟩
  | .mod => ⟨_, op_modN, o_mod⟩
  | .pow => ⟨_, op_pow, o_pow⟩
theorem units65 {k : Nat} (r : Room k X.A) : X.A.units + 65 < cLine := by have := r.un; omega
theorem cm_ok {k : Nat} (hr : Room k X.A) (o : Cm) : ∃ r, OpR X (compareOp o.op) r ∧ Op2 X pa JV r o.d := match o with
  | .eq => ⟨_, op_eqD hr.units, o_eq⟩
  | .ne => ⟨_, op_neD hr.units, o_ne⟩
  | .lt => o_lt hr.units0
  | .le => ⟨_, op_le, o_le⟩
  | .gt => ⟨_, op_gt, o_gt⟩
  | .ge => ⟨_, op_ge, o_ge⟩
  | .isin => o_in (units65 hr)
  | .notin => o_notIn (units65 hr)
  | .is_ => o_is
  | .isnot => o_isNot
theorem bf_ok (hc : X.calm = true) (hu : X.A.units + 65 < cLine) (f : Bf) : ∃ r v, bootBuiltins f.nm = some v ∧ ((∃ id, v = .builtin id) ∨ (∃ T, v = .type T)) ∧ CallR X v r ∧ CallM X pa JV r f.d := by
  cases f with
  | len => obtain ⟨r, a, b⟩ := c_len (X := X) (pa := pa); exact ⟨r, _, by decide +kernel, .inl ⟨_, rfl⟩, a, b⟩
  | abs => obtain ⟨r, a, b⟩ := c_abs (X := X) (pa := pa); exact ⟨r, _, by decide +kernel, .inl ⟨_, rfl⟩, a, b⟩
  | min2 => obtain ⟨r, a, b⟩ := c_min2 (X := X) (pa := pa) hc; exact ⟨r, _, by decide +kernel, .inl ⟨_, rfl⟩, a, b⟩
  | max2 => obtain ⟨r, a, b⟩ := c_max2 (X := X) (pa := pa) hc; exact ⟨r, _, by decide +kernel, .inl ⟨_, rfl⟩, a, b⟩
  | int => obtain ⟨r, a, b⟩ := c_int (X := X) (pa := pa); exact ⟨r, _, by decide +kernel, .inr ⟨_, rfl⟩, a, b⟩
  | tuple => obtain ⟨r, a, b⟩ := c_tuple (X := X) (pa := pa); exact ⟨r, _, by decide +kernel, .inr ⟨_, rfl⟩, a, b⟩
  | all => obtain ⟨r, a, b⟩ := c_all (X := X) (pa := pa) hc; exact ⟨r, _, by decide +kernel, .inl ⟨_, rfl⟩, a, b⟩
  | any => obtain ⟨r, a, b⟩ := c_any (X := X) (pa := pa) hc; exact ⟨r, _, by decide +kernel, .inl ⟨_, rfl⟩, a, b⟩
  | sum => obtain ⟨r, a, b⟩ := c_sum (X := X) (pa := pa) hc; exact ⟨r, _, by decide +kernel, .inl ⟨_, rfl⟩, a, b⟩
  | max1 => obtain ⟨r, a, b⟩ := c_max1 (X := X) (pa := pa) hc hu; exact ⟨r, _, by decide +kernel, .inl ⟨_, rfl⟩, a, b⟩
  | min1 => obtain ⟨r, a, b⟩ := c_min1 (X := X) (pa := pa) hc hu; exact ⟨r, _, by decide +kernel, .inl ⟨_, rfl⟩, a, b⟩
  | str => obtain ⟨r, a, b⟩ := c_str (X := X) (pa := pa); exact ⟨r, _, by decide +kernel, .inr ⟨_, rfl⟩, a, b⟩
theorem bf_nm (f : Bf) : f.nm ≠ "__name__" ∧ (f.nm == ("__debug__" : Str)) = false := by cases f <;> exact ⟨by decide +kernel, by decide +kernel⟩
theorem ty_nm (t : Ty) : bootBuiltins (Str.ofString t.nm) = some (.type t.nm) ∧ (Str.ofString t.nm) ≠ "__name__" ∧ ((Str.ofString t.nm) == ("__debug__" : Str)) = false := by cases t <;> exact ⟨by decide +kernel, by decide +kernel, by decide +kernel⟩
theorem s_blt {f : Bf} {as : En → Pot → Res (List Sl)} {e : Expr} {es : List Expr} {p pos : Pos} (hc : X.calm = true) (hu : X.A.units + 65 < cLine) (hg : Gl X f.nm) (hx : X.mg f.nm = none) (ha : SA X F0 H0 pa (e :: es) as) (he : plainX e = true) (hes : es.all plainX = true) :
    SV X F0 H0 pa (.Call (.Name f.nm p) (e :: es) [] pos) (dCall as f.d) := by
  obtain ⟨r, v, hb, hv, h1, h2⟩ := bf_ok (X := X) (pa := pa) hc hu f
  obtain ⟨n1, n2⟩ := bf_nm f
  rcases hv with ⟨id, rfl⟩ | ⟨T, rfl⟩
  · exact s_callB backV h1 h2 hg hx hb ha n1 n2 (star_of he) (backTo_of hes)
  · exact s_callTy backV h1 h2 hg hx hb ha n1 n2 (star_of he) (backTo_of hes)
end

section
variable {g : Gc} {k : Nat} {Φ : Str → List Sl → Pot → Res D}
theorem tg_sound {c : Cc} {X : Cx} {pa : Pa} (ct : CtM g c k Φ X pa) {F0 : Addr → Prop} {H0 : Hp} : (t : Tg) → (x : Expr) → chkTg c t x = true → SG X F0 H0 pa x t
  | .nm i, x, h => by
    unfold chkTg at h
    cases x with
    | Name y pos =>
      simp only [Bool.and_eq_true, decide_eq_true_eq] at h
      obtain ⟨⟨h1, h2⟩, h3⟩ := h
      exact sg_name (by rw [ct.hN]; exact ct.nd) (by rw [ct.hN]; exact h1) (by rw [ct.sc]; exact locB_loc h2) (ct.fn y h3)
    | _ => cases h
  | .tup ts, x, h => by
    unfold chkTg at h
    cases x with
    | Tuple es kk pos =>
      have h : chkTgs c ts es = true := h
      have key : ∀ (ts : List Tg) (es : List Expr), (∀ t ∈ ts, ∀ x, chkTg c t x = true → SG X F0 H0 pa x t) → chkTgs c ts es = true →
          SGs X F0 H0 pa es ts ∧ (assignEach es X.env).length = ts.length ∧ (assignEach es X.env).findIdx? (·.1) = none := by
        intro ts
        induction ts with
        | nil =>
          intro es _ h
          unfold chkTgs at h
          cases es with
          | nil => exact ⟨sgs_nil, rfl, rfl⟩
          | cons _ _ => cases h
        | cons t ts ih =>
          intro es hm h
          unfold chkTgs at h
          cases es with
          | nil => cases h
          | cons e es =>
            simp only [Bool.and_eq_true] at h
            obtain ⟨⟨h1, h2⟩, h3⟩ := h
            obtain ⟨a1, a2, a3⟩ := ih es (fun t ht => hm t (List.mem_cons_of_mem _ ht)) h3
            have q := asgn_of (es := es) (env := X.env) h1
            refine ⟨sgs_cons (hm t List.mem_cons_self e h2) a1 (by rw [q]; rfl), by rw [q]; simp [a2], ?_⟩
            rw [q, List.findIdx?_cons, a3]
            rfl
      have hm : ∀ t ∈ ts, ∀ x, chkTg c t x = true → SG X F0 H0 pa x t := fun t ht x hx => tg_sound ct t x hx
      obtain ⟨a1, a2, a3⟩ := key ts es hm h
      exact sg_tup ct.calm a1 a2 rfl a3
    | _ => cases h

theorem chkN_ok {c : Cc} {X : Cx} {pa : Pa} (ct : CtM g c k Φ X pa) {i : Nat} {x : Expr} (h : chkN c i x = true) : ∃ y pos, x = .Name y pos ∧ X.N[i]? = some y ∧ Vis X.env.scope y ∧ (y == ("__debug__" : Str)) = false ∧ (y == ("__classdict__" : Str)) = false := by
  cases x with
  | Name y pos =>
    simp only [chkN, Bool.and_eq_true, decide_eq_true_eq] at h
    obtain ⟨⟨h1, h2⟩, h3⟩ := h
    exact ⟨y, pos, rfl, by rw [ct.hN]; exact h1, by rw [ct.sc]; exact visB_vis h2, nmOk_1 h3, nmOk_2 h3⟩
  | _ => cases h
theorem chkG_ok {c : Cc} {X : Cx} {pa : Pa} (ct : CtM g c k Φ X pa) {y : Str} {x : Expr} (h : chkG g c y x = true) : ∃ pos, x = .Name y pos ∧ Gl X y ∧ X.mg y = none := by
  cases x with
  | Name z pos =>
    simp only [chkG, Bool.and_eq_true, decide_eq_true_eq] at h
    obtain ⟨⟨rfl, h2⟩, h3⟩ := h
    exact ⟨pos, rfl, glB_gl (by rw [ct.sc]; exact h2), ct.free _ h3⟩
  | _ => cases h

structure Sd (g : Gc) (k : Nat) (Φ : Str → List Sl → Pot → Res D) (ee : E) : Prop where
  e : ∀ c X pa, CtM g c k Φ X pa → ∀ F0 H0 md x, (ck g ee).e c md x = true → SM md X F0 H0 pa x (den Φ ee).e := by exact fun _ _ _ _ _ _ _ _ h => (Bool.false_ne_true h).elim
  ands : ∀ c X pa, CtM g c k Φ X pa → ∀ F0 H0 xs pos, xs ≠ [] → (ck g ee).es c xs = true → SV X F0 H0 pa (.BoolOp .And xs pos) (den Φ ee).ands := by exact fun _ _ _ _ _ _ _ _ _ h => (Bool.false_ne_true h).elim
  ors : ∀ c X pa, CtM g c k Φ X pa → ∀ F0 H0 xs pos, xs ≠ [] → (ck g ee).es c xs = true → SV X F0 H0 pa (.BoolOp .Or xs pos) (den Φ ee).ors := by exact fun _ _ _ _ _ _ _ _ _ h => (Bool.false_ne_true h).elim
  a : ∀ c X pa, CtM g c k Φ X pa → ∀ F0 H0 xs, (ck g ee).a c xs = true → SA X F0 H0 pa xs (den Φ ee).a := by exact fun _ _ _ _ _ _ _ h => (Bool.false_ne_true h).elim
  t : ∀ c X pa, CtM g c k Φ X pa → ∀ F0 H0 x, (ck g ee).t c x = true → ST X F0 H0 pa x (den Φ ee).t := by exact fun _ _ _ _ _ _ _ h => (Bool.false_ne_true h).elim
  tands : ∀ c X pa, CtM g c k Φ X pa → ∀ F0 H0 xs pos, xs ≠ [] → (ck g ee).ts c xs = true → SW X F0 H0 pa (.BoolOp .And xs pos) (den Φ ee).tands := by exact fun _ _ _ _ _ _ _ _ _ h => (Bool.false_ne_true h).elim
  tors : ∀ c X pa, CtM g c k Φ X pa → ∀ F0 H0 xs pos, xs ≠ [] → (ck g ee).ts c xs = true → SW X F0 H0 pa (.BoolOp .Or xs pos) (den Φ ee).tors := by exact fun _ _ _ _ _ _ _ _ _ h => (Bool.false_ne_true h).elim
  c : ∀ c X pa, CtM g c k Φ X pa → ∀ F0 H0 xs, (ck g ee).c c xs = true → STs X F0 H0 pa xs (den Φ ee).c := by exact fun _ _ _ _ _ _ _ h => (Bool.false_ne_true h).elim
  o : ∀ c X pa, CtM g c k Φ X pa → ∀ F0 H0 x, (ck g ee).o c x = true → SO X F0 H0 pa x (den Φ ee).o := by exact fun _ _ _ _ _ _ _ h => (Bool.false_ne_true h).elim
  i : ∀ c X pa, CtM g c k Φ X pa → ∀ F0 H0 b tg x, (ck g ee).i c b tg x = true → SI X F0 H0 pa tg x b (den Φ ee).i := by exact fun _ _ _ _ _ _ _ _ _ h => (Bool.false_ne_true h).elim

theorem sd_v {i : Nat} : Sd g k Φ (.v i) where
  e := fun c X pa ct F0 H0 md x h => by
    have h := Bool.and_eq_true_iff.mp (show (md.nn && chkN c i x) = true from h)
    obtain ⟨y, pos, rfl, h1, h2, h3, h4⟩ := chkN_ok ct h.2
    exact SM.ofV h.1 (s_v h1 h2 h3 h4)
theorem sd_b {i : Nat} : Sd g k Φ (.b i) where
  e := fun c X pa ct F0 H0 md x h => by
    have h := Bool.and_eq_true_iff.mp (show (decide (md = .b) && chkN c i x) = true from h)
    obtain ⟨y, pos, rfl, h1, h2, h3, h4⟩ := chkN_ok ct h.2
    obtain rfl := of_decide_eq_true h.1
    exact s_b h1 h2 h3 h4
theorem sd_const : (∀ i, Sd g k Φ (.int i)) ∧ (∀ b, Sd g k Φ (.bl b)) ∧ Sd g k Φ .non ∧ (∀ z, Sd g k Φ (.str z)) := by
  refine ⟨fun i => { e := fun c X pa ct F0 H0 md x h => ?_ }, fun b => { e := fun c X pa ct F0 H0 md x h => ?_ }, { e := fun c X pa ct F0 H0 md x h => ?_ }, fun z => { e := fun c X pa ct F0 H0 md x h => ?_ }⟩
  all_goals (cases x with
    | Constant q j pos =>
      cases q <;> simp only [ck, Bool.and_eq_true, decide_eq_true_eq, Bool.false_eq_true] at h
      first
        | (obtain ⟨h1, rfl⟩ := h; first | exact SM.ofV h1 s_int | exact SM.ofV h1 s_bl | exact SM.ofV h1 s_str)
        | exact SM.ofV h s_non
    | _ => exact (Bool.false_ne_true h).elim)
theorem FnAt.mg {P : Program} {w : World} {K : PySem.W.Frag} {mg : Str → Option Value} {base : Heap} {k : Nat} {x : Str} {φ : List Sl → Pot → Res D} (f : FnAt P w K mg base k x φ) : ∃ a, mg x = some (.ref a) := by
  obtain ⟨a, _, _, h, _⟩ := f.ex
  exact ⟨a, h⟩
theorem sd_fn {z : Str} : Sd g k Φ (.fn z) where
  e := fun c X pa ct F0 H0 md x h => by
    cases x with
    | Name y pos =>
      simp only [ck, Bool.and_eq_true, decide_eq_true_eq] at h
      obtain ⟨⟨⟨⟨h1, rfl⟩, h3⟩, h4⟩, h5⟩ := h
      obtain ⟨a, ha⟩ := (ct.fns _ h4).mg
      exact SM.ofV h1 (s_fn (glB_gl (by rw [ct.sc]; exact h3)) ha (nmOk_1 h5))
    | _ => exact (Bool.false_ne_true h).elim
theorem sd_gint {z : Str} {i : Int} : Sd g k Φ (.gint z i) where
  e := fun c X pa ct F0 H0 md x h => by
    cases x with
    | Name y pos =>
      simp only [ck, Bool.and_eq_true, decide_eq_true_eq] at h
      obtain ⟨⟨⟨⟨h1, rfl⟩, h3⟩, h4⟩, h5⟩ := h
      obtain ⟨t, ha⟩ := ct.gis _ h4
      exact SM.ofV h1 (s_gint (glB_gl (by rw [ct.sc]; exact h3)) ha (nmOk_1 h5))
    | _ => exact (Bool.false_ne_true h).elim
theorem sd_nil : Sd g k Φ .nil where
  ands := fun c X pa ct F0 H0 xs pos hn h => (hn (List.isEmpty_iff.mp h)).elim
  ors := fun c X pa ct F0 H0 xs pos hn h => (hn (List.isEmpty_iff.mp h)).elim
  tands := fun c X pa ct F0 H0 xs pos hn h => (hn (List.isEmpty_iff.mp h)).elim
  tors := fun c X pa ct F0 H0 xs pos hn h => (hn (List.isEmpty_iff.mp h)).elim
  a := fun c X pa ct F0 H0 xs h => by
    obtain rfl := List.isEmpty_iff.mp h
    exact sa_nil
  c := fun c X pa ct F0 H0 xs h => by
    obtain rfl := List.isEmpty_iff.mp h
    exact sts_nil
  o := fun c X pa ct F0 H0 x h => by
    cases x with
    | none => exact so_none
    | some _ => exact (Bool.false_ne_true h).elim
theorem oneNil_eq {r : E} (h : oneNil r = true) : r = .nil := by cases r <;> first | rfl | cases h
theorem ck_es_nil {r : E} {c : Cc} (h : (ck g r).es c [] = true) : oneNil r = true := by cases r <;> first | rfl | exact (Bool.false_ne_true h).elim
theorem ck_ts_nil {r : E} {c : Cc} (h : (ck g r).ts c [] = true) : oneNil r = true := by cases r <;> first | rfl | exact (Bool.false_ne_true h).elim
theorem aMd_arg {X : Cx} {F0 : Addr → Prop} {H0 : Hp} {pa : Pa} {c : Cc} (ct : CtM g c k Φ X pa) {a : E} (ha : Sd g k Φ a) {x : Expr} (h : (ck g a).e c (aMd a) x = true) : SA1 X F0 H0 pa x (aArg a (den Φ a).e) := by
  by_cases hb : ∃ i, a = .b i
  · obtain ⟨i, rfl⟩ := hb
    have h := Bool.and_eq_true_iff.mp (show (decide (Md.b = .b) && chkN c i x) = true from h)
    obtain ⟨y, pos, rfl, h1, h2, h3, h4⟩ := chkN_ok ct h.2
    exact sa_bor h1 h2 h3 h4
  · have e1 : aMd a = .v := by cases a <;> first | rfl | exact (hb ⟨_, rfl⟩).elim
    have e2 : ∀ f, aArg a f = aVal f := by intro f; cases a <;> first | rfl | exact (hb ⟨_, rfl⟩).elim
    rw [e1] at h
    rw [e2]
    exact sa_val (ha.e c X pa ct F0 H0 .v x h)
theorem sd_cons {a r : E} (ha : Sd g k Φ a) (hr : Sd g k Φ r) : Sd g k Φ (.cons a r) where
  ands := fun c X pa ct F0 H0 xs pos hn h => by
    cases xs with
    | nil => exact (hn rfl).elim
    | cons x xs =>
      have h := Bool.and_eq_true_iff.mp (show ((ck g a).e c .v x && (ck g r).es c xs) = true from h)
      have h1 := ha.e c X pa ct F0 H0 .v x h.1
      show SV X F0 H0 pa _ (if oneNil r = true then (den Φ a).e else dAnd (den Φ a).e (den Φ r).ands)
      by_cases hz : oneNil r = true
      · rw [if_pos hz]
        obtain rfl := oneNil_eq hz
        obtain rfl := List.isEmpty_iff.mp (show xs.isEmpty = true from h.2)
        exact s_one h1
      · rw [if_neg hz]
        cases xs with
        | nil => exact (hz (ck_es_nil h.2)).elim
        | cons y ys => exact s_and h1 (hr.ands c X pa ct F0 H0 _ pos (by simp) h.2)
  ors := fun c X pa ct F0 H0 xs pos hn h => by
    cases xs with
    | nil => exact (hn rfl).elim
    | cons x xs =>
      have h := Bool.and_eq_true_iff.mp (show ((ck g a).e c .v x && (ck g r).es c xs) = true from h)
      have h1 := ha.e c X pa ct F0 H0 .v x h.1
      show SV X F0 H0 pa _ (if oneNil r = true then (den Φ a).e else dOr (den Φ a).e (den Φ r).ors)
      by_cases hz : oneNil r = true
      · rw [if_pos hz]
        obtain rfl := oneNil_eq hz
        obtain rfl := List.isEmpty_iff.mp (show xs.isEmpty = true from h.2)
        exact s_one h1
      · rw [if_neg hz]
        cases xs with
        | nil => exact (hz (ck_es_nil h.2)).elim
        | cons y ys => exact s_or h1 (hr.ors c X pa ct F0 H0 _ pos (by simp) h.2)
  tands := fun c X pa ct F0 H0 xs pos hn h => by
    cases xs with
    | nil => exact (hn rfl).elim
    | cons x xs =>
      have h := Bool.and_eq_true_iff.mp (show ((ck g a).t c x && (ck g r).ts c xs) = true from h)
      have h1 := ha.t c X pa ct F0 H0 x h.1
      show SW X F0 H0 pa _ (if oneNil r = true then (den Φ a).t else tAndD (den Φ a).t (den Φ r).tands)
      by_cases hz : oneNil r = true
      · rw [if_pos hz]
        obtain rfl := oneNil_eq hz
        obtain rfl := List.isEmpty_iff.mp (show xs.isEmpty = true from h.2)
        exact sw_and1 h1
      · rw [if_neg hz]
        cases xs with
        | nil => exact (hz (ck_ts_nil h.2)).elim
        | cons y ys => exact sw_and h1 (hr.tands c X pa ct F0 H0 _ pos (by simp) h.2)
  tors := fun c X pa ct F0 H0 xs pos hn h => by
    cases xs with
    | nil => exact (hn rfl).elim
    | cons x xs =>
      have h := Bool.and_eq_true_iff.mp (show ((ck g a).t c x && (ck g r).ts c xs) = true from h)
      have h1 := ha.t c X pa ct F0 H0 x h.1
      show SW X F0 H0 pa _ (if oneNil r = true then (den Φ a).t else tOrD (den Φ a).t (den Φ r).tors)
      by_cases hz : oneNil r = true
      · rw [if_pos hz]
        obtain rfl := oneNil_eq hz
        obtain rfl := List.isEmpty_iff.mp (show xs.isEmpty = true from h.2)
        exact sw_or1 h1
      · rw [if_neg hz]
        cases xs with
        | nil => exact (hz (ck_ts_nil h.2)).elim
        | cons y ys => exact sw_or h1 (hr.tors c X pa ct F0 H0 _ pos (by simp) h.2)
  a := fun c X pa ct F0 H0 xs h => by
    cases xs with
    | nil => exact (Bool.false_ne_true h).elim
    | cons x xs =>
      have h : (plainX x && (ck g a).e c (aMd a) x && (ck g r).a c xs) = true := h
      simp only [Bool.and_eq_true] at h
      obtain ⟨⟨h1, h2⟩, h3⟩ := h
      exact sa_cons (aMd_arg ct ha h2) (hr.a c X pa ct F0 H0 xs h3) (star_of h1)
theorem sd_pt {a : E} (ha : Sd g k Φ a) : Sd g k Φ (.pt a) where
  o := fun c X pa ct F0 H0 x h => by
    cases x with
    | none => exact (Bool.false_ne_true h).elim
    | some x => exact so_some (ha.e c X pa ct F0 H0 .v x h)
  c := fun c X pa ct F0 H0 xs h => by
    match xs, h with
    | [x], h => exact sts_one (ha.t c X pa ct F0 H0 x h)
    | [], h => exact (Bool.false_ne_true h).elim
    | _ :: _ :: _, h => exact (Bool.false_ne_true h).elim
end
end M

set_option Elab.async false
set_option linter.all false
set_option maxRecDepth 100000
/-! what is checked is sound: expressions, the rest -/
namespace M
open PySem PySem.Spec PyProof.Rows L2
section
variable {g : Gc} {k : Nat} {Φ : Str → List Sl → Pot → Res D}
theorem sd_tup {a : E} (ha : Sd g k Φ a) : Sd g k Φ (.tup a) where
  e := fun c X pa ct F0 H0 md x h => by
    cases x with
    | Tuple es kk pos =>
      have h := Bool.and_eq_true_iff.mp (show (md.nn && (ck g a).a c es) = true from h)
      exact SM.ofV h.1 (s_tup (ha.a c X pa ct F0 H0 es h.2))
    | _ => exact (Bool.false_ne_true h).elim
theorem sd_lst {a : E} (ha : Sd g k Φ a) : Sd g k Φ (.lst a) where
  e := fun c X pa ct F0 H0 md x h => by
    cases x with
    | List es pos => exact SM.ofN (s_lst (ha.a c X pa ct F0 H0 es h))
    | _ => exact (Bool.false_ne_true h).elim
theorem sd_bin {o : Bin} {a b : E} (ha : Sd g k Φ a) (hb : Sd g k Φ b) : Sd g k Φ (.bin o a b) where
  e := fun c X pa ct F0 H0 md x h => by
    cases x with
    | BinOp l op r pos =>
      simp only [ck, Bool.and_eq_true, decide_eq_true_eq] at h
      obtain ⟨⟨⟨h1, rfl⟩, h3⟩, h4⟩ := h
      obtain ⟨r, o1, o2⟩ := bin_ok (X := X) (pa := pa) o
      exact SM.ofV h1 (s_bin backV o1 o2 (ha.e c X pa ct F0 H0 .b l h3) (hb.e c X pa ct F0 H0 .b _ h4))
    | _ => exact (Bool.false_ne_true h).elim
theorem cmp1 {α : Type} {l : List α} {m : List Expr} {P : α → Expr → Bool} (h : (match l, m with
    | [a], [b] => P a b
    | _, _ => false) = true) : ∃ a b, l = [a] ∧ m = [b] ∧ P a b = true := by
  match l, m, h with
  | [a], [b], h => exact ⟨a, b, rfl, rfl, h⟩
theorem sd_cmp {o : Cm} {a b : E} (ha : Sd g k Φ a) (hb : Sd g k Φ b) : Sd g k Φ (.cmp o a b) where
  e := fun c X pa ct F0 H0 md x h => by
    match x, h with
    | .Compare l [op] [r] pos, h =>
      simp only [ck, Bool.and_eq_true, decide_eq_true_eq] at h
      obtain ⟨⟨⟨⟨h1, rfl⟩, h3⟩, h4⟩, h5⟩ := h
      obtain ⟨r, o1, o2⟩ := cm_ok (X := X) (pa := pa) ct.room o
      exact SM.ofV h1 (s_cmp backV o1 o2 (ha.e c X pa ct F0 H0 .b l h4) (hb.e c X pa ct F0 H0 .b _ h5) (mark_of h3))
theorem sd_tCmp {o : Cm} {a b : E} (ha : Sd g k Φ a) (hb : Sd g k Φ b) : Sd g k Φ (.tCmp o a b) where
  t := fun c X pa ct F0 H0 x h => by
    match x, h with
    | .Compare l [op] [r] pos, h =>
      simp only [ck, Bool.and_eq_true, decide_eq_true_eq] at h
      obtain ⟨⟨⟨rfl, h3⟩, h4⟩, h5⟩ := h
      obtain ⟨r, o1, o2⟩ := cm_ok (X := X) (pa := pa) ct.room o
      exact st_cmp o1 o2 (ha.e c X pa ct F0 H0 .b l h4) (hb.e c X pa ct F0 H0 .b _ h5) (mark_of h3)
theorem last_of {op op' : CmpOp} {r r' : Expr} (h : plainX r' = true) : lastMarks [op, op'] [r, r'] = false := mark_of h
theorem sd_chain {o o' : Cm} {a b d : E} (ha : Sd g k Φ a) (hb : Sd g k Φ b) (hd : Sd g k Φ d) : Sd g k Φ (.chain o o' a b d) where
  e := fun c X pa ct F0 H0 md x h => by
    match x, h with
    | .Compare l [op, op'] [r, r'] pos, h =>
      simp only [ck, Bool.and_eq_true, decide_eq_true_eq] at h
      obtain ⟨⟨⟨⟨⟨⟨⟨h1, rfl⟩, rfl⟩, h3⟩, h4⟩, h5⟩, h6⟩, h7⟩ := h
      obtain ⟨r1, o1, o2⟩ := cm_ok (X := X) (pa := pa) ct.room o
      obtain ⟨r2, o3, o4⟩ := cm_ok (X := X) (pa := pa) ct.room o'
      exact SM.ofV h1 (s_chain o1 o2 o3 o4 (ha.e c X pa ct F0 H0 .b l h5) (hb.e c X pa ct F0 H0 .b _ h6) (hd.e c X pa ct F0 H0 .b _ h7) (mark_of h3) (mark_of h4) (last_of h4))
theorem sd_tChain {o o' : Cm} {a b d : E} (ha : Sd g k Φ a) (hb : Sd g k Φ b) (hd : Sd g k Φ d) : Sd g k Φ (.tChain o o' a b d) where
  t := fun c X pa ct F0 H0 x h => by
    match x, h with
    | .Compare l [op, op'] [r, r'] pos, h =>
      simp only [ck, Bool.and_eq_true, decide_eq_true_eq] at h
      obtain ⟨⟨⟨⟨⟨⟨rfl, rfl⟩, h3⟩, h4⟩, h5⟩, h6⟩, h7⟩ := h
      obtain ⟨r1, o1, o2⟩ := cm_ok (X := X) (pa := pa) ct.room o
      obtain ⟨r2, o3, o4⟩ := cm_ok (X := X) (pa := pa) ct.room o'
      exact st_chain o1 o2 o3 o4 (ha.e c X pa ct F0 H0 .b l h5) (hb.e c X pa ct F0 H0 .b _ h6) (hd.e c X pa ct F0 H0 .b _ h7) (mark_of h3) (mark_of h4) (last_of h4)
theorem sd_nt {a : E} (ha : Sd g k Φ a) : Sd g k Φ (.nt a) where
  e := fun c X pa ct F0 H0 md x h => by
    match x, h with
    | .UnaryOp .Not l pos, h =>
      have h := Bool.and_eq_true_iff.mp (show (md.nn && (ck g a).e c .v l) = true from h)
      exact SM.ofV h.1 (s_not (ha.e c X pa ct F0 H0 .v l h.2))
theorem sd_neg {a : E} (ha : Sd g k Φ a) : Sd g k Φ (.neg a) where
  e := fun c X pa ct F0 H0 md x h => by
    match x, h with
    | .UnaryOp .USub l pos, h =>
      have h := Bool.and_eq_true_iff.mp (show (md.nn && (ck g a).e c .v l) = true from h)
      exact SM.ofV h.1 (s_neg (ha.e c X pa ct F0 H0 .v l h.2))
theorem ne_nil {α : Type} {l : List α} (h : (!l.isEmpty) = true) : l ≠ [] := by rintro rfl; cases h
theorem sd_ands {a : E} (ha : Sd g k Φ a) : Sd g k Φ (.ands a) where
  e := fun c X pa ct F0 H0 md x h => by
    match x, h with
    | .BoolOp .And es pos, h =>
      have h : (md.nn && !es.isEmpty && (ck g a).es c es) = true := h
      simp only [Bool.and_eq_true] at h
      obtain ⟨⟨h1, h2⟩, h3⟩ := h
      exact SM.ofV h1 (ha.ands c X pa ct F0 H0 es pos (ne_nil h2) h3)
theorem sd_ors {a : E} (ha : Sd g k Φ a) : Sd g k Φ (.ors a) where
  e := fun c X pa ct F0 H0 md x h => by
    match x, h with
    | .BoolOp .Or es pos, h =>
      have h : (md.nn && !es.isEmpty && (ck g a).es c es) = true := h
      simp only [Bool.and_eq_true] at h
      obtain ⟨⟨h1, h2⟩, h3⟩ := h
      exact SM.ofV h1 (ha.ors c X pa ct F0 H0 es pos (ne_nil h2) h3)
theorem sd_ite {q a b : E} (hq : Sd g k Φ q) (ha : Sd g k Φ a) (hb : Sd g k Φ b) : Sd g k Φ (.ite q a b) where
  e := fun c X pa ct F0 H0 md x h => by
    match x, h with
    | .IfExp y l r pos, h =>
      have h : ((ck g q).t c y && (ck g a).e c md l && (ck g b).e c md r) = true := h
      simp only [Bool.and_eq_true] at h
      obtain ⟨⟨h1, h2⟩, h3⟩ := h
      have q1 := hq.t c X pa ct F0 H0 y h1
      have q2 := ha.e c X pa ct F0 H0 md l h2
      have q3 := hb.e c X pa ct F0 H0 md r h3
      cases md with
      | v => exact s_ite backV q1 q2 q3
      | b => exact s_ite backB q1 q2 q3
      | n => exact s_ite backN q1 q2 q3
theorem sd_ix {a b : E} (ha : Sd g k Φ a) (hb : Sd g k Φ b) : Sd g k Φ (.ix a b) where
  e := fun c X pa ct F0 H0 md x h => by
    match x, h with
    | .Subscript l r pos, h =>
      have h : (md.nn && plainX r && (ck g a).e c .b l && (ck g b).e c .b r) = true := h
      simp only [Bool.and_eq_true] at h
      obtain ⟨⟨⟨h1, h2⟩, h3⟩, h4⟩ := h
      exact SM.ofV h1 (s_ix (by have := units65 ct.room; omega) (ha.e c X pa ct F0 H0 .b l h3) (hb.e c X pa ct F0 H0 .b r h4) (ix_of h2))
theorem sd_sl {a l u : E} (ha : Sd g k Φ a) (hl : Sd g k Φ l) (hu : Sd g k Φ u) : Sd g k Φ (.sl a l u) where
  e := fun c X pa ct F0 H0 md x h => by
    match x, h with
    | .Subscript y (.Slice lo hi none p2) pos, h =>
      have h : (md.nn && (ck g a).e c .b y && (ck g l).o c lo && (ck g u).o c hi) = true := h
      simp only [Bool.and_eq_true] at h
      obtain ⟨⟨⟨h1, h2⟩, h3⟩, h4⟩ := h
      obtain ⟨r, o1, o2⟩ := o_sl (X := X) (pa := pa)
      exact SM.ofV h1 (s_sl0 backV o1 o2 (ha.e c X pa ct F0 H0 .b y h2) (hl.o c X pa ct F0 H0 lo h3) (hu.o c X pa ct F0 H0 hi h4))
theorem sd_slL {a l u : E} (ha : Sd g k Φ a) (hl : Sd g k Φ l) (hu : Sd g k Φ u) : Sd g k Φ (.slL a l u) where
  e := fun c X pa ct F0 H0 md x h => by
    match x, h with
    | .Subscript y (.Slice lo hi none p2) pos, h =>
      have h : ((ck g a).e c .b y && (ck g l).o c lo && (ck g u).o c hi) = true := h
      simp only [Bool.and_eq_true] at h
      obtain ⟨⟨h2, h3⟩, h4⟩ := h
      obtain ⟨r, o1, o2⟩ := o_slL (X := X) (pa := pa)
      exact SM.ofN (s_sl0 backN o1 o2 (ha.e c X pa ct F0 H0 .b y h2) (hl.o c X pa ct F0 H0 lo h3) (hu.o c X pa ct F0 H0 hi h4))
theorem all_cons {e : Expr} {es : List Expr} (h : ((e :: es).all plainX) = true) : plainX e = true ∧ es.all plainX = true := by simpa using h
theorem sd_call {f : Str} {a : E} (ha : Sd g k Φ a) : Sd g k Φ (.call f a) where
  e := fun c X pa ct F0 H0 md x h => by
    match x, h with
    | .Call (.Name y p) (e :: es) [] pos, h =>
      have h : (md.nn && decide (f = y) && decide (y ∈ g.fns) && glB c.sc y && nmOk y && (e :: es).all plainX && (ck g a).a c (e :: es)) = true := h
      simp only [Bool.and_eq_true, decide_eq_true_eq] at h
      obtain ⟨⟨⟨⟨⟨⟨h1, rfl⟩, h3⟩, h4⟩, h5⟩, h6⟩, h7⟩ := h
      obtain ⟨e1, e2⟩ := all_cons h6
      exact SM.ofV h1 (s_call (ct.fns _ h3) ct.room (glB_gl (by rw [ct.sc]; exact h4)) (ha.a c X pa ct F0 H0 _ h7) (nmOk_1 h5) (star_of e1) (backTo_of e2))
theorem sd_callV {i : Nat} {fs : List Str} {a : E} (ha : Sd g k Φ a) : Sd g k Φ (.callV i fs a) where
  e := fun c X pa ct F0 H0 md x h => by
    match x, h with
    | .Call (.Name y p) (e :: es) [] pos, h =>
      have h : (md.nn && decide (c.N[i]? = some y) && visB c.sc y && nmOk y && fs.all (fun z => decide (z ∈ g.fns)) && (e :: es).all plainX && (ck g a).a c (e :: es)) = true := h
      simp only [Bool.and_eq_true, decide_eq_true_eq] at h
      obtain ⟨⟨⟨⟨⟨⟨h1, h2⟩, h3⟩, h4⟩, h5⟩, h6⟩, h7⟩ := h
      obtain ⟨e1, e2⟩ := all_cons h6
      refine SM.ofV h1 (s_callV (k := k) (fun z φ hz => ?_) ct.room (by rw [ct.hN]; exact h2) (by rw [ct.sc]; exact visB_vis h3) (ha.a c X pa ct F0 H0 _ h7) (nmOk_1 h4) (nmOk_2 h4) (star_of e1) (backTo_of e2))
      unfold fnsOf at hz
      split at hz
      · rename_i hm
        cases hz
        exact ct.fns _ (of_decide_eq_true (List.all_eq_true.mp h5 z hm))
      · cases hz
theorem sd_blt {f : Bf} {a : E} (ha : Sd g k Φ a) : Sd g k Φ (.blt f a) where
  e := fun c X pa ct F0 H0 md x h => by
    match x, h with
    | .Call y (e :: es) [] pos, h =>
      have h : (md.nn && chkG g c f.nm y && (e :: es).all plainX && (ck g a).a c (e :: es)) = true := h
      simp only [Bool.and_eq_true] at h
      obtain ⟨⟨⟨h1, h2⟩, h3⟩, h4⟩ := h
      obtain ⟨e1, e2⟩ := all_cons h3
      obtain ⟨p, rfl, g1, g2⟩ := chkG_ok ct h2
      exact SM.ofV h1 (s_blt ct.calm (units65 ct.room) g1 g2 (ha.a c X pa ct F0 H0 _ h4) e1 e2)
theorem sd_listOf {a : E} (ha : Sd g k Φ a) : Sd g k Φ (.listOf a) where
  e := fun c X pa ct F0 H0 md x h => by
    match x, h with
    | .Call y [e] [] pos, h =>
      have h : (chkG g c "list" y && plainX e && (ck g a).a c [e]) = true := h
      simp only [Bool.and_eq_true] at h
      obtain ⟨⟨h2, h3⟩, h4⟩ := h
      obtain ⟨p, rfl, g1, g2⟩ := chkG_ok ct h2
      obtain ⟨r, o1, o2⟩ := c_listX (X := X) (pa := pa) ct.calm
      exact SM.ofN (s_callTy backN o1 o2 g1 g2 (by decide +kernel) (ha.a c X pa ct F0 H0 _ h4) (by decide +kernel) (by decide +kernel) (star_of h3) rfl)
theorem sd_listR {a : E} (ha : Sd g k Φ a) : Sd g k Φ (.listR a) where
  e := fun c X pa ct F0 H0 md x h => by
    match x, h with
    | .Call y [.Call y2 (e :: es) [] pos2] [] pos, h =>
      have h : (chkG g c "list" y && chkG g c "range" y2 && (e :: es).all plainX && decide (cnt a = es.length + 1) && decide (es.length ≤ 2) && (ck g a).a c (e :: es)) = true := h
      simp only [Bool.and_eq_true, decide_eq_true_eq] at h
      obtain ⟨⟨⟨⟨⟨h1, h2⟩, h3⟩, h4⟩, h5⟩, h6⟩ := h
      obtain ⟨e1, e2⟩ := all_cons h3
      obtain ⟨p, rfl, g1, g2⟩ := chkG_ok ct h1
      obtain ⟨p', rfl, g3, g4⟩ := chkG_ok ct h2
      have hA := ha.a c X pa ct F0 H0 _ h6
      show SM md X F0 H0 pa _ (dListR (den Φ a).a (dRng (M.cnt a)))
      rw [h4]
      match es, e2, h5, hA with
      | [], e2, h5, hA => exact SM.ofN (s_listR1 ct.calm g3 g4 g1 g2 hA (star_of e1))
      | [e3], e2, h5, hA =>
        refine SM.ofN (s_listR2 ct.calm g3 g4 g1 g2 hA ?_ (backTo_of e2))
        exact star_of e1
      | [e3, e4], e2, h5, hA =>
        refine SM.ofN (s_listR3 ct.calm g3 g4 g1 g2 hA ?_ (backTo_of e2))
        exact star_of e1
theorem sd_isi {a : E} {t : Ty} (ha : Sd g k Φ a) : Sd g k Φ (.isi a t) where
  e := fun c X pa ct F0 H0 md x h => by
    match x, h with
    | .Call y [e, y2] [] pos, h =>
      have h : (md.nn && chkG g c "isinstance" y && chkG g c t.nm y2 && plainX e && (ck g a).e c .b e) = true := h
      simp only [Bool.and_eq_true] at h
      obtain ⟨⟨⟨⟨h1, h2⟩, h3⟩, h4⟩, h5⟩ := h
      obtain ⟨p, rfl, g1, g2⟩ := chkG_ok ct h2
      obtain ⟨p', rfl, g3, g4⟩ := chkG_ok ct h3
      obtain ⟨n1, n2, n3⟩ := ty_nm t
      exact SM.ofV h1 (s_isi g1 g2 g3 g4 n1 (ha.e c X pa ct F0 H0 .b e h5) n2 n3 (star_of h4))
theorem sd_cat {a b : E} (ha : Sd g k Φ a) (hb : Sd g k Φ b) : Sd g k Φ (.cat a b) where
  e := fun c X pa ct F0 H0 md x h => by
    match x, h with
    | .BinOp l .Add r pos, h =>
      have h := Bool.and_eq_true_iff.mp (show ((ck g a).e c .b l && (ck g b).e c .b r) = true from h)
      exact SM.ofN (s_catN (ha.e c X pa ct F0 H0 .b l h.1) (hb.e c X pa ct F0 H0 .b r h.2))
theorem sd_rep {a b : E} (ha : Sd g k Φ a) (hb : Sd g k Φ b) : Sd g k Φ (.rep a b) where
  e := fun c X pa ct F0 H0 md x h => by
    match x, h with
    | .BinOp l .Mult r pos, h =>
      have h := Bool.and_eq_true_iff.mp (show ((ck g a).e c .b l && (ck g b).e c .b r) = true from h)
      exact SM.ofN (s_repN (ha.e c X pa ct F0 H0 .b l h.1) (hb.e c X pa ct F0 H0 .b r h.2))
theorem sd_dnew : Sd g k Φ .dnew where
  e := fun c X pa ct F0 H0 md x h => by
    match x, h with
    | .Dict [] [] pos, h => exact SM.ofN s_dnew
theorem sd_dict1 {a b : E} (ha : Sd g k Φ a) (hb : Sd g k Φ b) : Sd g k Φ (.dict1 a b) where
  e := fun c X pa ct F0 H0 md x h => by
    match x, h with
    | .Dict [some y] [z] pos, h =>
      have h := Bool.and_eq_true_iff.mp (show ((ck g a).e c .v y && (ck g b).e c .v z) = true from h)
      exact SM.ofN (s_dict1 (ha.e c X pa ct F0 H0 .v y h.1) (hb.e c X pa ct F0 H0 .v z h.2))
theorem sd_tTru {a : E} (ha : Sd g k Φ a) : Sd g k Φ (.tTru a) where
  t := fun c X pa ct F0 H0 x h => by
    have h := Bool.and_eq_true_iff.mp (show (truX x && (ck g a).e c .b x) = true from h)
    exact st_tru (ha.e c X pa ct F0 H0 .b x h.2) fun whole => tru_of h.1 whole
theorem sd_tNot {a : E} (ha : Sd g k Φ a) : Sd g k Φ (.tNot a) where
  t := fun c X pa ct F0 H0 x h => by
    match x, h with
    | .UnaryOp .Not l pos, h => exact st_not (ha.t c X pa ct F0 H0 l h)
theorem sd_tAnds {a : E} (ha : Sd g k Φ a) : Sd g k Φ (.tAnds a) where
  t := fun c X pa ct F0 H0 x h => by
    match x, h with
    | .BoolOp .And es pos, h =>
      have h := Bool.and_eq_true_iff.mp (show (!es.isEmpty && (ck g a).ts c es) = true from h)
      exact (ha.tands c X pa ct F0 H0 es pos (ne_nil h.1) h.2).st
theorem sd_tOrs {a : E} (ha : Sd g k Φ a) : Sd g k Φ (.tOrs a) where
  t := fun c X pa ct F0 H0 x h => by
    match x, h with
    | .BoolOp .Or es pos, h =>
      have h := Bool.and_eq_true_iff.mp (show (!es.isEmpty && (ck g a).ts c es) = true from h)
      exact (ha.tors c X pa ct F0 H0 es pos (ne_nil h.1) h.2).st
theorem sd_iE {a : E} (ha : Sd g k Φ a) : Sd g k Φ (.iE a) where
  i := fun c X pa ct F0 H0 b tg x h => by
    have h : (ck g a).e c (if b = true then .b else .v) x = true := h
    cases b with
    | false => exact si_v (ha.e c X pa ct F0 H0 .v x h)
    | true => exact si_b (ha.e c X pa ct F0 H0 .b x h)
theorem sd_iRange {a : E} (ha : Sd g k Φ a) : Sd g k Φ (.iRange a) where
  i := fun c X pa ct F0 H0 b tg x h => by
    match x, h with
    | .Call y (e :: es) [] pos, h =>
      have h : (chkG g c "range" y && (e :: es).all plainX && decide (cnt a = es.length + 1) && decide (es.length ≤ 1) && (ck g a).a c (e :: es)) = true := h
      simp only [Bool.and_eq_true, decide_eq_true_eq] at h
      obtain ⟨⟨⟨⟨h2, h3⟩, h4⟩, h5⟩, h6⟩ := h
      obtain ⟨e1, e2⟩ := all_cons h3
      obtain ⟨p, rfl, g1, g2⟩ := chkG_ok ct h2
      have hA := ha.a c X pa ct F0 H0 _ h6
      show SI X F0 H0 pa tg _ b (dItA (den Φ a).a (dRange (M.cnt a)))
      rw [h4]
      match es, e2, h5, hA with
      | [], e2, h5, hA => exact si_range1 g1 g2 hA (star_of e1)
      | [e3], e2, h5, hA =>
        have e2 := all_cons e2
        exact si_range2 g1 g2 hA (by rw [star_of e1, star_of e2.1]; rfl) (star_of e2.1)
theorem sd_iEnum {a : E} (ha : Sd g k Φ a) (hv : ∀ a', a = .cons a' .nil → Sd g k Φ a') : Sd g k Φ (.iEnum a) where
  i := fun c X pa ct F0 H0 b tg x h => by
    match x, h with
    | .Call y [e] [] pos, h =>
      have h : (chkG g c "enumerate" y && isTup tg && plainX e && (b || argB a) && (ck g a).a c [e]) = true := h
      simp only [Bool.and_eq_true] at h
      obtain ⟨⟨⟨⟨h2, h3⟩, h4⟩, h5⟩, h6⟩ := h
      obtain ⟨p, rfl, g1, g2⟩ := chkG_ok ct h2
      cases tg with
      | Tuple elts kk tpos =>
        cases b with
        | true => exact si_enum (tg := e) g1 g2 (ha.a c X pa ct F0 H0 _ h6) (star_of h4)
        | false =>
          have h5 : argB a = true := h5
          obtain ⟨a', rfl, hn⟩ : ∃ a', a = .cons a' .nil ∧ aMd a' = .v ∧ ∀ f, aArg a' f = aVal f := by
            cases a with
            | cons a' r =>
              have hr : r = .nil := by
                cases r <;> first | rfl | (cases a' <;> cases h5)
              subst hr
              refine ⟨a', rfl, ?_, ?_⟩ <;> (cases a' <;> first | rfl | exact fun _ => rfl | cases h5)
            | _ => cases h5
          have h6 : (plainX e && (ck g a').e c (aMd a') e && (ck g .nil).a c []) = true := h6
          rw [hn.1] at h6
          simp only [Bool.and_eq_true] at h6
          have q := si_enumV (tg := e) (b := false) (elts := elts) (kk := kk) (tpos := tpos) (pos := pos) (p := p) g1 g2 ((hv a' rfl).e c X pa ct F0 H0 .v e h6.1.2) (star_of h4)
          have eq : (dItA (den Φ (.cons a' .nil)).a dEnum) = (fun ρ p => ((den Φ a').e ρ p).bind fun d p1 => ofO (dEnum [d]) p1) := by
            show dItA (aCons (aArg a' (den Φ a').e) aNil) dEnum = _
            rw [hn.2]
            funext ρ p
            simp only [dItA, aCons, aVal, aNil, Res.bind_assoc]
            congr 1
          show SI X F0 H0 pa _ _ false (dItA (den Φ (.cons a' .nil)).a dEnum)
          rw [eq]
          exact q
      | _ => cases h3
/-- what a checked comprehension gives -/
structure CompP (g : Gc) (k : Nat) (Φ : Str → List Sl → Pot → Res D) (X : Cx) (F0 : Addr → Prop) (H0 : Hp) (pa : Pa) (t : Tg) (it q elt : E) (own : List (Str × Nat)) (y tg iter : Expr) (ifs : List Expr) (scope : Scope) : Prop where
  hi : SI X F0 H0 pa tg iter true (den Φ it).i
  ok : BlkOk X.N X.env.scope scope own
  hsl : ∀ j ∈ t.slots, j ∈ own.map (·.2)
  hg : ∀ (s : Shared) (H : Hp) (C : Addr) (cl : List (Str × Addr)) (fp : List Addr), SG (X.blk s H scope (compEnvC scope cl C X.env) fp) F0 H0 pa tg t
  ht : ∀ (s : Shared) (H : Hp) (C : Addr) (cl : List (Str × Addr)) (fp : List Addr), STs (X.blk s H scope (compEnvC scope cl C X.env) fp) F0 H0 pa ifs (den Φ q).c
  he : ∀ (s : Shared) (H : Hp) (C : Addr) (cl : List (Str × Addr)) (fp : List Addr), SV (X.blk s H scope (compEnvC scope cl C X.env) fp) F0 H0 pa y (den Φ elt).e
  hs : ∀ x, foldedSetIterable iter X.env x = pure x
theorem compP {t : Tg} {it q elt : E} {own : List (Str × Nat)} (hi : Sd g k Φ it) (hq : Sd g k Φ q) (he : Sd g k Φ elt) {c : Cc} {X : Cx} {pa : Pa} (ct : CtM g c k Φ X pa) {F0 : Addr → Prop} {H0 : Hp} {md : Md} {y : Expr} {gs : List Comprehension} {scope : Scope} {pos : Pos}
    (h : (ck g (.comp t it q elt own)).e c md (.ListComp y gs scope pos) = true) : ∃ tg iter ifs, gs = [⟨tg, iter, ifs, 0⟩] ∧ CompP g k Φ X F0 H0 pa t it q elt own y tg iter ifs scope := by
  match gs, h with
  | [⟨tg, iter, ifs, z⟩], h =>
    have h : (decide (z = 0) && blkB c.N c.sc scope own && t.slots.all (fun j => decide (j ∈ own.map (·.2))) && plainX iter && (ck g it).i c true tg iter && chkTg (c.sub scope) t tg && (ck g q).c (c.sub scope) ifs && (ck g elt).e (c.sub scope) .v y) = true := h
    simp only [Bool.and_eq_true, decide_eq_true_eq] at h
    obtain ⟨⟨⟨⟨⟨⟨⟨rfl, h2⟩, h3⟩, h4⟩, h5⟩, h6⟩, h7⟩, h8⟩ := h
    have ok := blkB_ok h2
    refine ⟨tg, iter, ifs, rfl, ?_⟩
    exact {
      hi := hi.i c X pa ct F0 H0 true tg iter h5
      ok := by rw [ct.hN, ct.sc]; exact ok
      hsl := fun j hj => of_decide_eq_true (List.all_eq_true.mp h3 j hj)
      hg := fun s H C cl fp => tg_sound (ct.blk ok.kind s H C cl fp) t tg h6
      ht := fun s H C cl fp => hq.c _ _ _ (ct.blk ok.kind s H C cl fp) F0 H0 ifs h7
      he := fun s H C cl fp => he.e _ _ _ (ct.blk ok.kind s H C cl fp) F0 H0 .v y h8
      hs := fold_of h4 }
theorem sd_comp {t : Tg} {it q elt : E} {own : List (Str × Nat)} (hi : Sd g k Φ it) (hq : Sd g k Φ q) (he : Sd g k Φ elt) : Sd g k Φ (.comp t it q elt own) where
  e := fun c X pa ct F0 H0 md x h => by
    cases x with
    | ListComp y gs scope pos =>
      obtain ⟨tg, iter, ifs, rfl, P⟩ := compP hi hq he ct (F0 := F0) (H0 := H0) (pa := pa) h
      exact SM.ofN (s_lc ct.calm (by rw [ct.hN]; exact ct.nd) P.hi P.ok P.hsl P.hg P.ht P.he P.hs)
    | _ => exact (Bool.false_ne_true h).elim
theorem isL_map_int {mg : Str → Option Value} {pa : Pa} {F : Addr → Prop} {H : Hp} : ∀ ns : List Int, IsL mg pa F H (ns.map D.int) (ns.map V.int)
  | [] => rfl
  | n :: ns => ⟨_, _, rfl, rfl, isL_map_int ns⟩
theorem s_pGet {X : Cx} {F0 : Addr → Prop} {H0 : Hp} {pa : Pa} {i n j : Nat} {x : Str} {p p2 pos : Pos} (hN : X.N[i]? = some x) (hv : Vis X.env.scope x) (hd : (x == ("__debug__" : Str)) = false) (hcd : (x == ("__classdict__" : Str)) = false) :
    SV X F0 H0 pa (.Subscript (.Name x p) (.Constant (.int (n : Int)) j p2) pos) (dPGet i n) := fun W tk => PEimp (pe_ix ix_list (pe_var hN hv hd hcd) pe_int fun _ _ => rfl) fun σ H Q ⟨F, ρ, p, r, q⟩ => by
  unfold dPGet at q
  cases e : rdV ρ i with
  | none => rw [e] at q; exact q.elim
  | some d =>
    rw [e] at q
    cases d with
    | pot =>
      have hr : ρ[i]? = some (some (.val .pot)) := by
        unfold rdV at e
        split at e
        · rename_i d h; cases e; exact h
        · cases e
      obtain ⟨v, h1, h2⟩ := r.slot i _ hr
      obtain rfl : v = .ref pa := h2
      obtain ⟨ca, fca, hpa, hca⟩ := r.base.pot.at_
      refine ⟨.ref pa, h1, pa, [.ref ca, .int p.used, .int p.mix, .int p.great], (n : Int), ?_⟩
      have q : post X.mg pa (JV X.mg pa) (wx W) F σ H (ofO (potGet p n) p) Q := q
      match n, q with
      | 0, q => exact ⟨.ref ca, rfl, rfl, SqL.of hpa, rfl, q _ F H r.base.refl ⟨ca, _, rfl, fca, hca, isL_map_int p.cells⟩⟩
      | 1, q => exact ⟨.int p.used, rfl, rfl, SqL.of hpa, rfl, q _ F H r.base.refl rfl⟩
      | 2, q => exact ⟨.int p.mix, rfl, rfl, SqL.of hpa, rfl, q _ F H r.base.refl rfl⟩
      | 3, q => exact ⟨.int p.great, rfl, rfl, SqL.of hpa, rfl, q _ F H r.base.refl rfl⟩
      | n + 4, q => exact q.elim
    | _ => exact q.elim
theorem sd_pGet {i n : Nat} : Sd g k Φ (.pGet i n) where
  e := fun c X pa ct F0 H0 md x h => by
    match x, h with
    | .Subscript l (.Constant (.int z) j p2) pos, h =>
      have h : (md.nn && chkN c i l && decide (z = (n : Int))) = true := h
      simp only [Bool.and_eq_true, decide_eq_true_eq] at h
      obtain ⟨⟨h1, h2⟩, rfl⟩ := h
      obtain ⟨y, p, rfl, q1, q2, q3, q4⟩ := chkN_ok ct h2
      exact SM.ofV h1 (s_pGet q1 q2 q3 q4)
theorem bad_sm {md : Md} {X : Cx} {F0 : Addr → Prop} {H0 : Hp} {pa : Pa} {x : Expr} : SM md X F0 H0 pa x fun _ _ => .bad := by
  have h : ∀ J : (Str → Option Value) → Pa → JT, SE X F0 H0 pa J x fun _ _ => .bad := fun J W tk => ⟨fun pins s σ H Q I ⟨F, ρ, p, r, q⟩ => q.elim⟩
  cases md <;> exact h _
theorem sd_any : Sd g k Φ .any where
  e := fun c X pa ct F0 H0 md x h => bad_sm
  a := fun c X pa ct F0 H0 xs h => fun W tk => ⟨fun pos pins s σ H Q I ⟨F, ρ, p, r, q⟩ => q.elim⟩
  t := fun c X pa ct F0 H0 x h => fun W tk => ⟨fun pins s σ H Q I ⟨F, ρ, p, r, q⟩ => q.elim⟩
  i := fun c X pa ct F0 H0 b tg x h => fun W tk => ⟨fun pins s σ H Q I ⟨F, ρ, p, r, q⟩ => q.elim⟩
theorem sd_iZip {a d : E} (ha : Sd g k Φ a) (hd : Sd g k Φ d) : Sd g k Φ (.iZip a d) where
  i := fun c X pa ct F0 H0 b tg x h => by
    match x, h with
    | .Call y [e1, e2] [] pos, h =>
      have h : (chkG g c "zip" y && isTup tg && plainX e1 && plainX e2 && (ck g a).e c .v e1 && (ck g d).e c .v e2) = true := h
      simp only [Bool.and_eq_true] at h
      obtain ⟨⟨⟨⟨⟨h1, h2⟩, h3⟩, h4⟩, h5⟩, h6⟩ := h
      obtain ⟨p, rfl, g1, g2⟩ := chkG_ok ct h1
      cases tg with
      | Tuple elts kk tpos => exact si_zip g1 g2 (ha.e c X pa ct F0 H0 .v e1 h5) (hd.e c X pa ct F0 H0 .v e2 h6) (star_of h3) (star_of h4) (backTo_of (by simp [h4]))
      | _ => cases h2
theorem sd_raises {hs : List Str} {e : E} {z : Str} (he : Sd g k Φ e) : Sd g k Φ (.raises hs e z) where
  e := fun c X pa ct F0 H0 md x h => by
    match x, h with
    | .Call (.Name y p) [.Lambda params body scope lpos, .Constant (.str z') jc cpos] [] pos, h =>
      have h : (md.nn && decide (y = g.rsn) && decide (hs = g.rsh) && decide (z' = z) && c.lam && glB c.sc y && nmOk y && LamX.lamSB c.sc scope && noArgs params && (ck g e).e (c.lamSub scope) .b body) = true := h
      simp only [Bool.and_eq_true, decide_eq_true_eq] at h
      obtain ⟨⟨⟨⟨⟨⟨⟨⟨⟨h0, rfl⟩, rfl⟩, rfl⟩, h4⟩, h5⟩, h6⟩, h7⟩, h8⟩, h9⟩ := h
      obtain ⟨P, R, rs⟩ := ct.lam h4
      have L : LamX.LamS X.env.scope scope := by rw [ct.sc]; exact LamX.lamS_by h7
      obtain rfl := noArgs_ok h8
      have hg : Gl X g.rsn := glB_gl (by rw [ct.sc]; exact h5)
      exact SM.ofV h0 (s_raises hg (nmOk_1 h6) rs P R L rfl (fun _ _ _ _ _ => rfl) fun E A outer s H f' c' hR => he.e _ _ _ (ct.lamb L hR) F0 H0 .b body h9)
theorem sd_srt {a : E} (ha : Sd g k Φ a) : Sd g k Φ (.srt a) where
  e := fun c X pa ct F0 H0 md x h => by
    match x, h with
    | .Call y [e] [] pos, h =>
      have h : (chkG g c "sorted" y && plainX e && (ck g a).a c [e]) = true := h
      simp only [Bool.and_eq_true] at h
      obtain ⟨⟨h2, h3⟩, h4⟩ := h
      obtain ⟨p, rfl, g1, g2⟩ := chkG_ok ct h2
      obtain ⟨r, o1, o2⟩ := c_srtU (X := X) (pa := pa) ct.calm (units65 ct.room)
      exact SM.ofN (s_callB backN o1 o2 g1 g2 (by decide +kernel) (ha.a c X pa ct F0 H0 _ h4) (by decide +kernel) (by decide +kernel) (star_of h3) rfl)
theorem sd_sst {a : E} (ha : Sd g k Φ a) : Sd g k Φ (.sst a) where
  e := fun c X pa ct F0 H0 md x h => by
    match x, h with
    | .Call y [.Call y2 [e] [] pos2] [] pos, h =>
      have h : (chkG g c "sorted" y && chkG g c "set" y2 && plainX e && (ck g a).e c .b e) = true := h
      simp only [Bool.and_eq_true] at h
      obtain ⟨⟨⟨h1, h2⟩, h3⟩, h4⟩ := h
      obtain ⟨p, rfl, g1, g2⟩ := chkG_ok ct h1
      obtain ⟨p', rfl, g3, g4⟩ := chkG_ok ct h2
      exact SM.ofN (s_sst ct.calm (by have := units65 ct.room; omega) g1 g2 g3 g4 (ha.e c X pa ct F0 H0 .b _ h4) (star_of h3))
theorem sd_ldt {a : E} (ha : Sd g k Φ a) : Sd g k Φ (.ldt a) where
  e := fun c X pa ct F0 H0 md x h => by
    match x, h with
    | .Call y [.Call y2 [e] [] pos2] [] pos, h =>
      have h : (md.nn && chkG g c "len" y && chkG g c "dict" y2 && plainX e && (ck g a).e c .b e) = true := h
      simp only [Bool.and_eq_true] at h
      obtain ⟨⟨⟨⟨h0, h1⟩, h2⟩, h3⟩, h4⟩ := h
      obtain ⟨p, rfl, g1, g2⟩ := chkG_ok ct h1
      obtain ⟨p', rfl, g3, g4⟩ := chkG_ok ct h2
      exact SM.ofV h0 (s_ldt ct.calm (by have := units65 ct.room; omega) g1 g2 g3 g4 (ha.e c X pa ct F0 H0 .b _ h4) (star_of h3))
theorem sd_lset {a : E} (ha : Sd g k Φ a) : Sd g k Φ (.lset a) where
  e := fun c X pa ct F0 H0 md x h => by
    match x, h with
    | .Call y [.Call y2 [e] [] pos2] [] pos, h =>
      have h : (md.nn && chkG g c "len" y && chkG g c "set" y2 && plainX e && (ck g a).e c .b e) = true := h
      simp only [Bool.and_eq_true] at h
      obtain ⟨⟨⟨⟨h0, h1⟩, h2⟩, h3⟩, h4⟩ := h
      obtain ⟨p, rfl, g1, g2⟩ := chkG_ok ct h1
      obtain ⟨p', rfl, g3, g4⟩ := chkG_ok ct h2
      exact SM.ofV h0 (s_lset ct.calm (by have := units65 ct.room; omega) g1 g2 g3 g4 (ha.e c X pa ct F0 H0 .b _ h4) (star_of h3))
theorem sd_dict1N {a b : E} (ha : Sd g k Φ a) (hb : Sd g k Φ b) : Sd g k Φ (.dict1N a b) where
  e := fun c X pa ct F0 H0 md x h => by
    match x, h with
    | .Dict [some y] [z] pos, h =>
      have h := Bool.and_eq_true_iff.mp (show ((ck g a).e c .v y && (ck g b).e c .v z) = true from h)
      exact SM.ofN (s_dict1N (by have := units65 ct.room; omega) (ha.e c X pa ct F0 H0 .v y h.1) (hb.e c X pa ct F0 H0 .v z h.2))
theorem sd_rev {a : E} (ha : Sd g k Φ a) : Sd g k Φ (.rev a) where
  e := fun c X pa ct F0 H0 md x h => by
    match x, h with
    | .Subscript e (.Slice none none (some (.UnaryOp .USub (.Constant (.int 1) _ _) _)) _) pos, h => exact SM.ofN (s_rev (ha.e c X pa ct F0 H0 .b e h))
theorem sd_srtSum {a : E} (ha : Sd g k Φ a) : Sd g k Φ (.srtSum a) where
  e := fun c X pa ct F0 H0 md x h => by
    match x, h with
    | .Call y [e] [⟨some z, y2, p2⟩] pos, h =>
      have h : (chkG g c "sorted" y && chkG g c "sum" y2 && plainX e && decide (z = Str.ofString "key") && (ck g a).e c .b e) = true := h
      simp only [Bool.and_eq_true, decide_eq_true_eq] at h
      obtain ⟨⟨⟨⟨h1, h2⟩, h3⟩, rfl⟩, h4⟩ := h
      obtain ⟨p, rfl, g1, g2⟩ := chkG_ok ct h1
      obtain ⟨p', rfl, g3, g4⟩ := chkG_ok ct h2
      exact SM.ofN (s_srtSum ct.calm (by have := units65 ct.room; omega) g1 g2 g3 g4 (ha.e c X pa ct F0 H0 .b _ h4) (star_of h3))
theorem sd_dctOf {a : E} (ha : Sd g k Φ a) : Sd g k Φ (.dctOf a) where
  e := fun c X pa ct F0 H0 md x h => by
    match x, h with
    | .Call y [e] [] pos, h =>
      have h : (chkG g c "dict" y && plainX e && (ck g a).a c [e]) = true := h
      simp only [Bool.and_eq_true] at h
      obtain ⟨⟨h2, h3⟩, h4⟩ := h
      obtain ⟨p, rfl, g1, g2⟩ := chkG_ok ct h2
      obtain ⟨r, o1, o2⟩ := c_dctOf (X := X) (pa := pa) ct.calm (by have := units65 ct.room; omega)
      exact SM.ofN (s_callTy backN o1 o2 g1 g2 (by decide +kernel) (ha.a c X pa ct F0 H0 _ h4) (by decide +kernel) (by decide +kernel) (star_of h3) rfl)
theorem sd_inRg {a as : E} (ha : Sd g k Φ a) (hb : Sd g k Φ as) : Sd g k Φ (.inRg a as) where
  e := fun c X pa ct F0 H0 md x h => by
    match x, h with
    | .Compare e [op] [.Call y [b, d] [] q] pos, h =>
      have h : (md.nn && decide (op = .In) && chkG g c "range" y && plainX b && plainX d && (ck g a).e c .b e && (ck g as).a c [b, d]) = true := h
      simp only [Bool.and_eq_true, decide_eq_true_eq] at h
      obtain ⟨⟨⟨⟨⟨⟨h1, rfl⟩, h2⟩, h3⟩, h4⟩, h5⟩, h6⟩ := h
      obtain ⟨p, rfl, g1, g2⟩ := chkG_ok ct h2
      exact SM.ofV h1 (s_inRg g1 g2 (ha.e c X pa ct F0 H0 .b _ h5) (hb.a c X pa ct F0 H0 _ h6) (star_of h3) (by rw [star_of h4]; rfl) (by rfl))
theorem sd_tInRg {a as : E} (ha : Sd g k Φ a) (hb : Sd g k Φ as) : Sd g k Φ (.tInRg a as) where
  t := fun c X pa ct F0 H0 x h => by
    match x, h with
    | .Compare e [op] [.Call y [b, d] [] q] pos, h =>
      have h : (decide (op = .In) && chkG g c "range" y && plainX b && plainX d && (ck g a).e c .b e && (ck g as).a c [b, d]) = true := h
      simp only [Bool.and_eq_true, decide_eq_true_eq] at h
      obtain ⟨⟨⟨⟨⟨rfl, h2⟩, h3⟩, h4⟩, h5⟩, h6⟩ := h
      obtain ⟨p, rfl, g1, g2⟩ := chkG_ok ct h2
      exact st_inRg g1 g2 (ha.e c X pa ct F0 H0 .b _ h5) (hb.a c X pa ct F0 H0 _ h6) (star_of h3) (by rw [star_of h4]; rfl) (by rfl)
theorem sd_srtR {a : E} (ha : Sd g k Φ a) : Sd g k Φ (.srtR a) where
  e := fun c X pa ct F0 H0 md x h => by
    match x, h with
    | .Call y [e] [⟨some z, .Constant (.bool b) j p1, p2⟩] pos, h =>
      have h : (chkG g c "sorted" y && plainX e && decide (z = Str.ofString "reverse") && b && (ck g a).e c .b e) = true := h
      simp only [Bool.and_eq_true, decide_eq_true_eq] at h
      obtain ⟨⟨⟨⟨h2, h3⟩, rfl⟩, rfl⟩, h4⟩ := h
      obtain ⟨p, rfl, g1, g2⟩ := chkG_ok ct h2
      exact SM.ofN (s_srtRU (units65 ct.room) g1 g2 (ha.e c X pa ct F0 H0 .b _ h4) (star_of h3))
theorem sd_mxd {m : Bool} {a z : E} (ha : Sd g k Φ a) (hz : Sd g k Φ z) : Sd g k Φ (.mxd m a z) where
  e := fun c X pa ct F0 H0 md x h => by
    match x, h with
    | .Call y [e] [⟨some t, w, p2⟩] pos, h =>
      have h : (md.nn && chkG g c (if m = true then "max" else "min") y && plainX e && decide (t = Str.ofString "default") && (ck g a).e c .b e && (ck g z).e c .v w) = true := h
      simp only [Bool.and_eq_true, decide_eq_true_eq] at h
      obtain ⟨⟨⟨⟨⟨h1, h2⟩, h3⟩, rfl⟩, h4⟩, h5⟩ := h
      obtain ⟨p, rfl, g1, g2⟩ := chkG_ok ct h2
      cases m with
      | true => exact SM.ofV h1 (s_mxD (f := mxD) (call_mxD ct.calm (units65 ct.room)) g1 g2 (by decide +kernel) (by decide +kernel) (by decide +kernel) (ha.e c X pa ct F0 H0 .b _ h4) (hz.e c X pa ct F0 H0 .v _ h5) (star_of h3))
      | false => exact SM.ofV h1 (s_mxD (f := mnD) (call_mnD ct.calm (units65 ct.room)) g1 g2 (by decide +kernel) (by decide +kernel) (by decide +kernel) (ha.e c X pa ct F0 H0 .b _ h4) (hz.e c X pa ct F0 H0 .v _ h5) (star_of h3))
theorem sd_isi2 {a : E} {t t' : Ty} (ha : Sd g k Φ a) : Sd g k Φ (.isi2 a t t') where
  e := fun c X pa ct F0 H0 md x h => by
    match x, h with
    | .Call y [e, .Tuple [y2, y3] kt pt] [] pos, h =>
      have h : (md.nn && chkG g c "isinstance" y && chkG g c t.nm y2 && chkG g c t'.nm y3 && plainX e && (ck g a).e c .b e) = true := h
      simp only [Bool.and_eq_true] at h
      obtain ⟨⟨⟨⟨⟨h1, h2⟩, h3⟩, h3'⟩, h4⟩, h5⟩ := h
      obtain ⟨p, rfl, g1, g2⟩ := chkG_ok ct h2
      obtain ⟨p', rfl, g3, g4⟩ := chkG_ok ct h3
      obtain ⟨p'', rfl, g5, g6⟩ := chkG_ok ct h3'
      obtain ⟨n1, n2, n3⟩ := ty_nm t
      obtain ⟨m1, m2, m3⟩ := ty_nm t'
      exact SM.ofV h1 (s_isiT2 g1 g2 g3 g4 n1 g5 g6 m1 (ha.e c X pa ct F0 H0 .b e h5) n2 n3 m2 m3 (star_of h4))
theorem sd_get1 {o a : E} (ho : Sd g k Φ o) (ha : Sd g k Φ a) : Sd g k Φ (.get1 o a) where
  e := fun c X pa ct F0 H0 md x h => by
    match x, h with
    | .Call (.Attribute y m apos) [e] [] cpos, h =>
      have h : (md.nn && decide (m = Str.ofString "get") && (apos.endLine == cpos.line) && objB y && plainX e && (ck g o).e c .b y && (ck g a).e c .b e) = true := h
      simp only [Bool.and_eq_true, decide_eq_true_eq] at h
      obtain ⟨⟨⟨⟨⟨⟨h1, rfl⟩, h2⟩, h3⟩, h4⟩, h5⟩, h6⟩ := h
      exact SM.ofV h1 (s_get1 (by have := units65 ct.room; omega) (ho.e c X pa ct F0 H0 .b _ h5) (ha.e c X pa ct F0 H0 .b _ h6) h3 (star_of h4) h2)
theorem sd_get2 {o a z : E} (ho : Sd g k Φ o) (ha : Sd g k Φ a) (hz : Sd g k Φ z) : Sd g k Φ (.get2 o a z) where
  e := fun c X pa ct F0 H0 md x h => by
    match x, h with
    | .Call (.Attribute y m apos) [e, w] [] cpos, h =>
      have h : (md.nn && decide (m = Str.ofString "get") && (apos.endLine == cpos.line) && objB y && plainX e && plainX w && (ck g o).e c .b y && (ck g a).e c .b e && (ck g z).e c .v w) = true := h
      simp only [Bool.and_eq_true, decide_eq_true_eq] at h
      obtain ⟨⟨⟨⟨⟨⟨⟨⟨h1, rfl⟩, h2⟩, h3⟩, h4⟩, h4'⟩, h5⟩, h6⟩, h7⟩ := h
      exact SM.ofV h1 (s_get2 (by have := units65 ct.room; omega) (ho.e c X pa ct F0 H0 .b _ h5) (ha.e c X pa ct F0 H0 .b _ h6) (hz.e c X pa ct F0 H0 .v _ h7) h3 (by rw [star_of h4, star_of h4']; rfl) h2)
theorem sd_idx {o a : E} (ho : Sd g k Φ o) (ha : Sd g k Φ a) : Sd g k Φ (.idx o a) where
  e := fun c X pa ct F0 H0 md x h => by
    match x, h with
    | .Call (.Attribute y m apos) [e] [] cpos, h =>
      have h : (md.nn && decide (m = Str.ofString "index") && (apos.endLine == cpos.line) && objB y && plainX e && (ck g o).e c .b y && (ck g a).e c .b e) = true := h
      simp only [Bool.and_eq_true, decide_eq_true_eq] at h
      obtain ⟨⟨⟨⟨⟨⟨h1, rfl⟩, h2⟩, h3⟩, h4⟩, h5⟩, h6⟩ := h
      exact SM.ofV h1 (s_idx (ho.e c X pa ct F0 H0 .b _ h5) (ha.e c X pa ct F0 H0 .b _ h6) h3 (star_of h4) h2)
theorem sd_cnt {o a : E} (ho : Sd g k Φ o) (ha : Sd g k Φ a) : Sd g k Φ (.cnt o a) where
  e := fun c X pa ct F0 H0 md x h => by
    match x, h with
    | .Call (.Attribute y m apos) [e] [] cpos, h =>
      have h : (md.nn && decide (m = Str.ofString "count") && (apos.endLine == cpos.line) && objB y && plainX e && (ck g o).e c .b y && (ck g a).e c .b e) = true := h
      simp only [Bool.and_eq_true, decide_eq_true_eq] at h
      obtain ⟨⟨⟨⟨⟨⟨h1, rfl⟩, h2⟩, h3⟩, h4⟩, h5⟩, h6⟩ := h
      exact SM.ofV h1 (s_cnt (ho.e c X pa ct F0 H0 .b _ h5) (ha.e c X pa ct F0 H0 .b _ h6) h3 (star_of h4) h2)
theorem sound : (e : E) → Sd g k Φ e
  | .v _ => sd_v
  | .b _ => sd_b
  | .int i => sd_const.1 i
  | .bl b => sd_const.2.1 b
  | .non => sd_const.2.2.1
  | .str z => sd_const.2.2.2 z
  | .fn _ => sd_fn
  | .gint _ _ => sd_gint
  | .nil => sd_nil
  | .cons a r => sd_cons (sound a) (sound r)
  | .pt a => sd_pt (sound a)
  | .tup a => sd_tup (sound a)
  | .lst a => sd_lst (sound a)
  | .bin _ a b => sd_bin (sound a) (sound b)
  | .cmp _ a b => sd_cmp (sound a) (sound b)
  | .chain _ _ a b d => sd_chain (sound a) (sound b) (sound d)
  | .nt a => sd_nt (sound a)
  | .neg a => sd_neg (sound a)
  | .ands a => sd_ands (sound a)
  | .ors a => sd_ors (sound a)
  | .ite q a b => sd_ite (sound q) (sound a) (sound b)
  | .ix a b => sd_ix (sound a) (sound b)
  | .sl a b d => sd_sl (sound a) (sound b) (sound d)
  | .slL a b d => sd_slL (sound a) (sound b) (sound d)
  | .call _ a => sd_call (sound a)
  | .callV _ _ a => sd_callV (sound a)
  | .blt _ a => sd_blt (sound a)
  | .listOf a => sd_listOf (sound a)
  | .listR a => sd_listR (sound a)
  | .isi a _ => sd_isi (sound a)
  | .comp _ it q elt _ => sd_comp (sound it) (sound q) (sound elt)
  | .cat a b => sd_cat (sound a) (sound b)
  | .rep a b => sd_rep (sound a) (sound b)
  | .dnew => sd_dnew
  | .dict1 a b => sd_dict1 (sound a) (sound b)
  | .tTru a => sd_tTru (sound a)
  | .tCmp _ a b => sd_tCmp (sound a) (sound b)
  | .tChain _ _ a b d => sd_tChain (sound a) (sound b) (sound d)
  | .tNot a => sd_tNot (sound a)
  | .tAnds a => sd_tAnds (sound a)
  | .tOrs a => sd_tOrs (sound a)
  | .iE a => sd_iE (sound a)
  | .iRange a => sd_iRange (sound a)
  | .iEnum (.cons a r) => sd_iEnum (sound (.cons a r)) fun a' h => by cases h; exact sound a
  | .iEnum a => sd_iEnum (sound a) fun a' h => by subst h; exact sound a'
  | .pGet _ _ => sd_pGet
  | .raises _ e _ => sd_raises (sound e)
  | .any => sd_any
  | .iZip a d => sd_iZip (sound a) (sound d)
  | .srt a => sd_srt (sound a)
  | .srtR a => sd_srtR (sound a)
  | .sst a => sd_sst (sound a)
  | .inRg a as => sd_inRg (sound a) (sound as)
  | .ldt a => sd_ldt (sound a)
  | .lset a => sd_lset (sound a)
  | .dict1N a b => sd_dict1N (sound a) (sound b)
  | .rev a => sd_rev (sound a)
  | .srtSum a => sd_srtSum (sound a)
  | .dctOf a => sd_dctOf (sound a)
  | .tInRg a as => sd_tInRg (sound a) (sound as)
  | .mxd _ a z => sd_mxd (sound a) (sound z)
  | .isi2 a _ _ => sd_isi2 (sound a)
  | .get1 o a => sd_get1 (sound o) (sound a)
  | .get2 o a z => sd_get2 (sound o) (sound a) (sound z)
  | .idx o a => sd_idx (sound o) (sound a)
  | .cnt o a => sd_cnt (sound o) (sound a)
end
end M

set_option Elab.async false
set_option linter.all false
set_option maxRecDepth 100000
/-! what is checked is sound: statements -/
namespace M
open PySem PySem.Spec PyProof.Rows L2
section
variable {X : Cx} {F0 : Addr → Prop} {H0 : Hp} {pa : Pa}
theorem Rel.frz {mg : Str → Option Value} {F : Addr → Prop} {σ : L2.St} {H : Hp} {ρ : En} {p : Pot} (r : Rel mg F0 H0 pa F σ H ρ p) {i : Nat} {d : D} (h : ρ[i]? = some (some (.own d))) : ∃ F', Pres F H F' H ∧ Rel mg F0 H0 pa F' σ H (ρ.set i (some (.val d))) p := by
  obtain ⟨v, h1, a, rfl, nf, n0, t⟩ := r.slot i _ h
  have np : a ≠ pa := r.np0 n0
  obtain ⟨o, ho⟩ : ∃ o, H a = some o := by
    cases d with
    | lst ds => obtain ⟨xs, e, _⟩ := t; exact ⟨_, e⟩
    | dct ds => obtain ⟨xs, e, _⟩ := t; exact ⟨_, e⟩
    | dcn ds => obtain ⟨xs, e, _⟩ := t; exact ⟨_, e⟩
    | _ => exact t.elim
  have nt : NT o := t.nt ho
  have pr : Pres F H (fun x => F x ∨ x = a) H := Pres.freeze
  refine ⟨fun x => F x ∨ x = a, pr, ?_⟩
  exact {
    base := r.base.freeze ho np nt
    gr := ⟨fun x hx => .inl (r.gr.fr x hx), r.gr.keep, r.gr.tbl, fun x hx hn => by
      rcases hx with hx | rfl
      · exact r.gr.new x hx hn
      · exact n0⟩
    len := by rw [List.length_set]; exact r.len
    slot := fun j s hj => by
      by_cases hij : i = j
      · subst hij
        have hlt : i < ρ.length := by
          rcases Nat.lt_or_ge i ρ.length with z | z
          · exact z
          · rw [List.getElem?_eq_none z] at h; cases h
        rw [List.getElem?_set_self hlt] at hj
        cases hj
        exact ⟨_, h1, t.freeze⟩
      · rw [List.getElem?_set_ne hij] at hj
        obtain ⟨v, q1, q2⟩ := r.slot j s hj
        refine ⟨v, q1, ?_⟩
        cases s with
        | val e => exact q2.mono pr
        | own e =>
          obtain ⟨b, rfl, e2, e3, e4⟩ := q2
          refine ⟨b, rfl, fun z => ?_, e3, e4.mono pr fun _ h _ => h⟩
          rcases z with z | z
          · exact e2 z
          · subst z
            exact r.apart i j _ _ _ hij h hj h1 q1
        | bor e =>
          obtain ⟨b, rfl, e2, e3, e4, e5⟩ := q2
          refine ⟨b, rfl, fun z => ?_, e3, e4, e5.mono pr fun _ h _ => h⟩
          rcases z with z | z
          · exact e2 z
          · subst z
            obtain ⟨o', ho'⟩ := e3
            rw [n0] at ho'
            cases ho'
    apart := fun j l d' e' b hjl hj hl => by
      have f : ∀ {m : Nat} {e : D}, (ρ.set i (some (.val d)))[m]? = some (some (.own e)) → ρ[m]? = some (some (.own e)) := fun {m e} hm => by
        by_cases him : i = m
        · subst him
          by_cases hlt : i < ρ.length
          · rw [List.getElem?_set_self hlt] at hm; cases hm
          · rw [List.getElem?_eq_none (by rw [List.length_set]; omega)] at hm; cases hm
        · rw [List.getElem?_set_ne him] at hm; exact hm
      exact r.apart j l d' e' b hjl (f hj) (f hl)
    b0 := r.b0 }
theorem ss_frz {i : Nat} {sts : List Stmt} {f : En → Pot → Res Out} (h : SSs X F0 H0 pa sts f) : SSs X F0 H0 pa sts (sSeq (sFrz i) f) := fun W tk => PSsimp (h W tk) fun Ds σ H ⟨F, ρ, p, r, q⟩ => by
  unfold sSeq sFrz at q
  cases e : ρ[i]? with
  | none => rw [e] at q; exact q.elim
  | some o =>
    rw [e] at q
    cases o with
    | none => exact q.elim
    | some s =>
      cases s with
      | val d => exact ⟨F, ρ, p, r, q⟩
      | own d =>
        obtain ⟨F', pr, r'⟩ := r.frz e
        exact ⟨F', _, p, r', posts.back pr q⟩
      | bor d => exact q.elim

theorem sws_noLc {tg e : Expr} {l : Nat} {env : Env} (h : noLc e = true) : swapsWithSole [tg] e l env = pure false := sw_noLc h
theorem ss_noTup {tg e : Expr} {env : Env} (h : isTup e = false) : swappedStores [tg] e env = pure none := by
  unfold swappedStores
  cases e with
  | Tuple => cases h
  | _ => cases tg <;> rfl
def notLocB (sc : Scope) : Expr → Bool
  | .Name id _ => !(sc.names.lookup id == some .local)
  | _ => true
def notSw (sc : Scope) (tg x : Expr) : Bool := match tg with
  | .Tuple ts _ _ => (match x with
    | .Tuple _ _ _ => ts.any (notLocB sc)
    | _ => false)
  | _ => false
theorem filterMap_lt {α β : Type} {f : α → Option β} : ∀ {l : List α}, (∃ x ∈ l, f x = none) → (l.filterMap f).length ≠ l.length
  | [], ⟨x, h, _⟩ => by cases h
  | a :: l, ⟨x, h, e⟩ => by
    have hle := List.length_filterMap_le f l
    rw [List.filterMap_cons]
    cases ha : f a with
    | none => simp only [List.length_cons]; omega
    | some b =>
      simp only [List.length_cons]
      rcases List.mem_cons.mp h with rfl | h
      · rw [ha] at e; cases e
      · have := filterMap_lt ⟨x, h, e⟩
        omega
theorem ss_notSw {tg e : Expr} {env : Env} (h : notSw env.scope tg e = true) : swappedStores [tg] e env = pure none := by
  unfold notSw at h
  cases tg with
  | Tuple ts k1 p1 =>
    cases e with
    | Tuple vs k2 p2 =>
      have h : ts.any (notLocB env.scope) = true := h
      obtain ⟨t, ht, hn⟩ := List.any_eq_true.mp h
      unfold swappedStores
      dsimp only
      split
      · rfl
      · split
        · rfl
        · split
          · rfl
          · rename_i hh
            exfalso
            apply hh
            rw [Bool.or_eq_true]
            left
            rw [bne_iff_ne]
            refine filterMap_lt ⟨t, ht, ?_⟩
            unfold notLocB at hn
            split at hn
            · rename_i id pos
              have : (env.kindOf id == some .local) = false := by simpa [Env.kindOf] using hn
              simp [this]
            · split
              · rename_i id pos hne
                exact (hne id pos rfl).elim
              · rfl
    | _ => cases h
  | _ => cases h
theorem ss_noTup' {o i e : Expr} {pos : Pos} {env : Env} : swappedStores [.Subscript o i pos] e env = pure none := rfl
theorem asg_of {tg : Expr} {env : Env} (h : plainX tg = true) : (assignEach [tg] env).map (·.2) = [assign tg env] := by
  rw [asgn_of h]; rfl
theorem asgIx_of {o b : Expr} {spos : Pos} {env : Env} (h : plainX b = true) (v : Value) : assign (.Subscript o b spos) env v = (do let ov ← holding [v] (eval o env); let iv ← holding [v, ov] (eval b env); standAt spos; holding [v, ov, iv] (setItem ov iv v); release [v, ov, iv] []) := by
  cases b <;> first | rfl | cases h
theorem par_sw {x y : Str} {px py pt pt2 : Pos} {kt k2 : Nat} {a b : Expr} {env : Env} (hk : env.scope.kind = .function) (hx : env.scope.names.lookup x = some .local) (hy : env.scope.names.lookup y = some .local) (hl : (py.line == px.line) = true) (hne : (x == y) = false)
    (h1 : ([a, b].all (foldedForSure 8)) = false) (h2 : ([a, b].all (constantsAlone 8)) = false) (ha : plainX a = true) (hb : plainX b = true) :
    swappedStores [.Tuple [.Name x px, .Name y py] kt pt] (.Tuple [a, b] k2 pt2) env = pure (some [x, y]) := by
  have hbk : env.blockKind = .function := by unfold Env.blockKind; rw [hk]; rfl
  have kx : env.kindOf x = some .local := hx
  have ky : env.kindOf y = some .local := hy
  have hl' : py.line = px.line := by simpa using hl
  have sa : ∀ e : Expr, plainX e = true → PySem.swappedStores.match_5 (fun _ => Bool) e (fun _ _ => true) (fun _ => false) = false := by
    intro e he
    cases e <;> first | rfl | cases he
  have hs : ([a, b].any fun x => PySem.swappedStores.match_5 (fun _ => Bool) x (fun _ _ => true) (fun _ => false)) = false := by
    rw [List.any_cons, List.any_cons, List.any_nil, sa a ha, sa b hb]
    rfl
  have hyx : (y == x) = false := by
    have : x ≠ y := fun e => by subst e; simp at hne
    simpa using fun e => this e.symm
  unfold swappedStores
  simp only [hbk]
  rw [hs, h1, h2]
  simp [kx, ky, hl', Expr.pos, List.eraseDups, List.eraseDupsBy, List.eraseDupsBy.loop, hyx]
def swB (sc : Scope) (y : Str) (py : Pos) : Expr → Bool
  | .ListComp _ _ s vp => decide (sc.names.lookup y = some .local) && (py.line == vp.line) && !(s.names.any fun (n, k) => n == y && (k == .local || k == .cell))
  | _ => false
theorem sw_lc {elt : Expr} {gs : List Comprehension} {s : Scope} {vp py : Pos} {y : Str} {l : Nat} {env : Env} (hk : env.scope.kind = .function) (h : swB env.scope y py (.ListComp elt gs s vp) = false) : swapsWith (.ListComp elt gs s vp) (some (.Name y py)) l env = pure false := by
  have hb : env.blockKind = .function := by unfold Env.blockKind; rw [hk]; rfl
  unfold swapsWith
  simp only [hb, Env.kindOf, Expr.pos]
  unfold swB at h
  show pure _ = _
  congr 1
  rw [← h]
  cases e : env.scope.names.lookup y with
  | none => rfl
  | some kd => cases kd <;> rfl
end

end M

set_option Elab.async false
set_option linter.all false
set_option maxRecDepth 100000
namespace M
open PySem PySem.Spec PyProof.Rows L2
/-! ### the checker -/
structure StM (g : Gc) (c : Cc) (k : Nat) (Φ : Str → List Sl → Pot → Res D) (X : Cx) (pa : Pa) : Prop where
  ct : CtM g c k Φ X pa
  pass : PassesOwn (model X.prog X.w) X.A X.env X.xe
  excs : ∀ x ∈ g.excs, ∃ C, X.mg x = some (.ref C) ∧ PySem.W.excIn X.K C [.type "ValueError", .type "Exception", .type "BaseException", .type "object"] "ValueError.__new__" = true ∧ PySem.W.keepIn X.K (.ref C) = true ∧ Raises X (.ref C)
  fnT : ∀ x, X.fn x = true
structure Cs where
  s : Cc → Stmt → Bool := fun _ _ => false
  ss : Cc → List Stmt → Bool := fun _ _ => false
def isFrz : S → Bool
  | .frz _ => true
  | _ => false
def chkL (c : Cc) (i : Nat) : Expr → Bool
  | .Name y _ => decide (c.N[i]? = some y) && locB c.sc y
  | _ => false

def onAsg (P : Expr → Expr → Bool) : Stmt → Bool
  | .Assign l x _ => match l with
    | [t] => P t x
    | _ => false
  | _ => false
theorem onAsg_ok {P : Expr → Expr → Bool} {st : Stmt} (h : onAsg P st = true) : ∃ t x pos, st = .Assign [t] x pos ∧ P t x = true := by
  unfold onAsg at h
  cases st with
  | Assign l x pos =>
    match l, h with
    | [t], h => exact ⟨t, x, pos, rfl, h⟩
  | _ => cases h
def onExp (P : Expr → Bool) : Stmt → Bool
  | .Expr x _ => P x
  | _ => false
theorem onExp_ok {P : Expr → Bool} {st : Stmt} (h : onExp P st = true) : ∃ x pos, st = .Expr x pos ∧ P x = true := by
  cases st with
  | Expr x pos => exact ⟨x, pos, rfl, h⟩
  | _ => cases h
def onRet (P : Expr → Bool) : Stmt → Bool
  | .Return o _ => match o with
    | some x => P x
    | none => false
  | _ => false
theorem onRet_ok {P : Expr → Bool} {st : Stmt} (h : onRet P st = true) : ∃ x pos, st = .Return (some x) pos ∧ P x = true := by
  unfold onRet at h
  cases st with
  | Return o pos =>
    cases o with
    | some x => exact ⟨x, pos, rfl, h⟩
    | none => cases h
  | _ => cases h
def onRetN : Stmt → Bool
  | .Return o _ => o.isNone
  | _ => false
theorem onRetN_ok {st : Stmt} (h : onRetN st = true) : ∃ pos, st = .Return none pos := by
  unfold onRetN at h
  cases st with
  | Return o pos =>
    cases o with
    | some x => cases h
    | none => exact ⟨pos, rfl⟩
  | _ => cases h
def onAug (P : Expr → Operator → Expr → Bool) : Stmt → Bool
  | .AugAssign t op x _ => P t op x
  | _ => false
theorem onAug_ok {P : Expr → Operator → Expr → Bool} {st : Stmt} (h : onAug P st = true) : ∃ t op x pos, st = .AugAssign t op x pos ∧ P t op x = true := by
  cases st with
  | AugAssign t op x pos => exact ⟨t, op, x, pos, rfl, h⟩
  | _ => cases h
def onIf (P : Expr → List Stmt → List Stmt → Bool) : Stmt → Bool
  | .If x a b _ => P x a b
  | _ => false
theorem onIf_ok {P : Expr → List Stmt → List Stmt → Bool} {st : Stmt} (h : onIf P st = true) : ∃ x a b pos, st = .If x a b pos ∧ P x a b = true := by
  cases st with
  | If x a b pos => exact ⟨x, a, b, pos, rfl, h⟩
  | _ => cases h
def onWhl (P : Expr → List Stmt → Bool) : Stmt → Bool
  | .While x a b _ => b.isEmpty && P x a
  | _ => false
theorem onWhl_ok {P : Expr → List Stmt → Bool} {st : Stmt} (h : onWhl P st = true) : ∃ x a pos, st = .While x a [] pos ∧ P x a = true := by
  unfold onWhl at h
  cases st with
  | While x a b pos =>
    have h := Bool.and_eq_true_iff.mp h
    obtain rfl := List.isEmpty_iff.mp h.1
    exact ⟨x, a, pos, rfl, h.2⟩
  | _ => cases h
def onFor (P : Expr → Expr → List Stmt → Bool) : Stmt → Bool
  | .For t x a b _ => b.isEmpty && P t x a
  | _ => false
theorem onFor_ok {P : Expr → Expr → List Stmt → Bool} {st : Stmt} (h : onFor P st = true) : ∃ t x a pos, st = .For t x a [] pos ∧ P t x a = true := by
  unfold onFor at h
  cases st with
  | For t x a b pos =>
    have h := Bool.and_eq_true_iff.mp h
    obtain rfl := List.isEmpty_iff.mp h.1
    exact ⟨t, x, a, pos, rfl, h.2⟩
  | _ => cases h
def onCall (P : Expr → List Expr → Pos → Bool) : Expr → Bool
  | .Call f as ks pos => ks.isEmpty && P f as pos
  | _ => false
theorem onCall_ok {P : Expr → List Expr → Pos → Bool} {x : Expr} (h : onCall P x = true) : ∃ f as pos, x = .Call f as [] pos ∧ P f as pos = true := by
  unfold onCall at h
  cases x with
  | Call f as ks pos =>
    have h := Bool.and_eq_true_iff.mp h
    obtain rfl := List.isEmpty_iff.mp h.1
    exact ⟨f, as, pos, rfl, h.2⟩
  | _ => cases h
def onAtt (P : Expr → Str → Pos → Bool) : Expr → Bool
  | .Attribute y m pos => P y m pos
  | _ => false
theorem onAtt_ok {P : Expr → Str → Pos → Bool} {x : Expr} (h : onAtt P x = true) : ∃ y m pos, x = .Attribute y m pos ∧ P y m pos = true := by
  cases x with
  | Attribute y m pos => exact ⟨y, m, pos, rfl, h⟩
  | _ => cases h
def onSub (P : Expr → Expr → Bool) : Expr → Bool
  | .Subscript y z _ => P y z
  | _ => false
theorem onSub_ok {P : Expr → Expr → Bool} {x : Expr} (h : onSub P x = true) : ∃ y z pos, x = .Subscript y z pos ∧ P y z = true := by
  cases x with
  | Subscript y z pos => exact ⟨y, z, pos, rfl, h⟩
  | _ => cases h
def onNm (P : Str → Pos → Bool) : Expr → Bool
  | .Name y pos => P y pos
  | _ => false
theorem onNm_ok {P : Str → Pos → Bool} {x : Expr} (h : onNm P x = true) : ∃ y pos, x = .Name y pos ∧ P y pos = true := by
  cases x with
  | Name y pos => exact ⟨y, pos, rfl, h⟩
  | _ => cases h
def on1 (P : Expr → Bool) : List Expr → Bool
  | [x] => P x
  | _ => false
theorem on1_ok {P : Expr → Bool} {l : List Expr} (h : on1 P l = true) : ∃ x, l = [x] ∧ P x = true := by
  match l, h with
  | [x], h => exact ⟨x, rfl, h⟩
def on2 (P : Expr → Expr → Bool) : List Expr → Bool
  | [x, y] => P x y
  | _ => false
theorem on2_ok {P : Expr → Expr → Bool} {l : List Expr} (h : on2 P l = true) : ∃ x y, l = [x, y] ∧ P x y = true := by
  match l, h with
  | [x, y], h => exact ⟨x, y, rfl, h⟩
def onTup (P : List Expr → Bool) : Expr → Bool
  | .Tuple es _ _ => P es
  | _ => false
theorem onTup_ok {P : List Expr → Bool} {x : Expr} (h : onTup P x = true) : ∃ es k pos, x = .Tuple es k pos ∧ P es = true := by
  cases x with
  | Tuple es k pos => exact ⟨es, k, pos, rfl, h⟩
  | _ => cases h
def onRaise (P : Expr → Bool) : Stmt → Bool
  | .Raise o w _ => match o with
    | some x => w.isNone && P x
    | none => false
  | _ => false
theorem onRaise_ok {P : Expr → Bool} {st : Stmt} (h : onRaise P st = true) : ∃ x pos, st = .Raise (some x) none pos ∧ P x = true := by
  unfold onRaise at h
  cases st with
  | Raise o w pos =>
    cases o with
    | some x =>
      have h := Bool.and_eq_true_iff.mp h
      cases w with
      | none => exact ⟨x, pos, rfl, h.2⟩
      | some _ => cases h.1
    | none => cases h
  | _ => cases h
def isPass : Stmt → Bool
  | .Pass _ => true
  | _ => false
theorem isPass_ok {st : Stmt} (h : isPass st = true) : ∃ pos, st = .Pass pos := by
  cases st with
  | Pass pos => exact ⟨pos, rfl⟩
  | _ => cases h
def isBrk : Stmt → Bool
  | .Break _ => true
  | _ => false
theorem isBrk_ok {st : Stmt} (h : isBrk st = true) : ∃ pos, st = .Break pos := by
  cases st with
  | Break pos => exact ⟨pos, rfl⟩
  | _ => cases h
def isCnt : Stmt → Bool
  | .Continue _ => true
  | _ => false
theorem isCnt_ok {st : Stmt} (h : isCnt st = true) : ∃ pos, st = .Continue pos := by
  cases st with
  | Continue pos => exact ⟨pos, rfl⟩
  | _ => cases h
def bMeth (c : Cc) (i : Nat) (m : Str) (P : List Expr → Bool) : Expr → Bool := onCall fun f as cpos => onAtt (fun y m' apos => chkN c i y && decide (m' = m) && (apos.endLine == cpos.line)) f && P as
theorem bMeth_ok {c : Cc} {i : Nat} {m : Str} {P : List Expr → Bool} {x : Expr} (h : bMeth c i m P x = true) : ∃ y apos as cpos, x = .Call (.Attribute y m apos) as [] cpos ∧ chkN c i y = true ∧ (apos.endLine == cpos.line) = true ∧ P as = true := by
  obtain ⟨f, as, pos, rfl, h⟩ := onCall_ok h
  have h := Bool.and_eq_true_iff.mp h
  obtain ⟨y, m', apos, rfl, h1⟩ := onAtt_ok h.1
  simp only [Bool.and_eq_true, decide_eq_true_eq] at h1
  obtain ⟨⟨q1, rfl⟩, q3⟩ := h1
  exact ⟨y, apos, as, pos, rfl, q1, q3, h.2⟩
def bSet (g : Gc) (c : Cc) (i : Nat) (e : E) : Stmt → Bool := onAsg fun t x => chkL c i t && noLc x && (ck g e).e c .v x
def bOwn (g : Gc) (c : Cc) (i : Nat) (e : E) : Stmt → Bool := onAsg fun t x => chkL c i t && (ck g e).e c .n x
def bTgt (g : Gc) (c : Cc) (t : Tg) (e : E) : Stmt → Bool := onAsg fun tg x => plainX tg && chkTg c t tg && noLc x && (!isTup x || notSw c.sc tg x) && (ck g e).e c .v x
def bPar (g : Gc) (c : Cc) (i j : Nat) (as : E) : Stmt → Bool := onAsg fun t v => onTup (on2 fun tx ty => onNm (fun x px => onNm (fun y py => onTup (on2 fun a b =>
  decide (c.N[i]? = some x) && decide (c.N[j]? = some y) && decide (i ≠ j) && decide (c.sc.names.lookup x = some .local) && decide (c.sc.names.lookup y = some .local) &&
          (py.line == px.line) && !(x == y) && !([a, b].all (foldedForSure 8)) && !([a, b].all (constantsAlone 8)) && plainX a && plainX b && (ck g as).a c [a, b]) v) ty) tx) t
def mdO (m : Bool) : Md := if m = true then .n else .v
def bParO (g : Gc) (c : Cc) (m m' : Bool) (i j : Nat) (ea eb : E) : Stmt → Bool := onAsg fun t v => onTup (on2 fun tx ty => onNm (fun x px => onNm (fun y py => onTup (on2 fun a b =>
  decide (c.N[i]? = some x) && decide (c.N[j]? = some y) && decide (i ≠ j) && decide (c.sc.names.lookup x = some .local) && decide (c.sc.names.lookup y = some .local) &&
          (py.line == px.line) && !(x == y) && !([a, b].all (foldedForSure 8)) && !([a, b].all (constantsAlone 8)) && plainX a && plainX b && ((ck g ea).e c (mdO m) a && (ck g eb).e c (mdO m') b)) v) ty) tx) t
def bTgtO (g : Gc) (c : Cc) (m m' : Bool) (i j : Nat) (ea eb : E) : Stmt → Bool := onAsg fun t v => onTup (on2 fun tx ty => onTup (on2 fun a b => plainX t && chkL c i tx && chkL c j ty && noLc v && notSw c.sc t v && plainX a && plainX b && plainX tx && plainX ty && ((ck g ea).e c (mdO m) a && (ck g eb).e c (mdO m') b)) v) t
def bAug (g : Gc) (c : Cc) (i : Nat) (sub : Bool) (e : E) : Stmt → Bool := onAug fun t op x => chkL c i t && decide (op = if sub = true then .Sub else .Add) && (ck g e).e c .v x
def bApp (g : Gc) (c : Cc) (i : Nat) (e : E) : Stmt → Bool := onExp (bMeth c i "append" (on1 fun x => plainX x && (ck g e).e c .v x))
def bExt (g : Gc) (c : Cc) (i : Nat) (e : E) : Stmt → Bool := onExp (bMeth c i "extend" (on1 fun x => plainX x && (ck g e).e c .b x))
def bPut (g : Gc) (c : Cc) (i : Nat) (e b : E) : Stmt → Bool := onAsg fun t x => onSub (fun y z => chkN c i y && noLc x && plainX z && (ck g e).e c .v x && (ck g b).e c .v z) t
def bPop (c : Cc) (t : Tg) (i : Nat) : Stmt → Bool := onAsg fun tg x => plainX tg && chkTg c t tg && bMeth c i "pop" (·.isEmpty) x
def bPopAt (g : Gc) (c : Cc) (t : Tg) (i : Nat) (e : E) : Stmt → Bool := onAsg fun tg x => plainX tg && chkTg c t tg && bMeth c i "pop" (on1 fun x => plainX x && (ck g e).e c .v x) x
def bRaise (g : Gc) (c : Cc) (z : Str) : Stmt → Bool := onRaise (onCall fun f as _ => as.isEmpty && onNm (fun y _ => decide (z = y) && decide (y ∈ g.excs) && glB c.sc y && nmOk y) f)
def onInt (P : Int → Bool) : Expr → Bool
  | .Constant v _ _ => match v with
    | .int z => P z
    | _ => false
  | _ => false
theorem onInt_ok {P : Int → Bool} {x : Expr} (h : onInt P x = true) : ∃ z j pos, x = .Constant (.int z) j pos ∧ P z = true := by
  unfold onInt at h
  cases x with
  | Constant v j pos =>
    cases v with
    | int z => exact ⟨z, j, pos, rfl, h⟩
    | _ => cases h
  | _ => cases h
def bPSet (g : Gc) (c : Cc) (i k : Nat) (e : E) : Stmt → Bool := onAsg fun t x => onSub (fun y z => chkN c i y && noLc x && (ck g e).e c .v x && onInt (fun w => decide (w = (k : Int))) z) t
def bCons (s : Bool) (p : Stmt → Bool) (q : List Stmt → Bool) (sts : List Stmt) : Bool := if s = true then q sts else match sts with
  | st :: sts => p st && q sts
  | [] => false
def cs (g : Gc) : S → Cs
  | .nil => { ss := fun _ sts => sts.isEmpty }
  | .cons s r => { ss := fun c sts => bCons (isFrz s) ((cs g s).s c) ((cs g r).ss c) sts }
  | .frz _ => {}
  | .expr e => { s := fun c => onExp fun x => noLc x && (ck g e).e c .b x }
  | .ret e => { s := fun c => onRet fun x => (ck g e).e c .v x }
  | .retN => { s := fun _ => onRetN }
  | .retO i => { s := fun c => onRet fun x => chkN c i x }
  | .set i e => { s := fun c => bSet g c i e }
  | .own i e => { s := fun c => bOwn g c i e }
  | .tgt t e => { s := fun c => bTgt g c t e }
  | .par i j as => { s := fun c => bPar g c i j as }
  | .parO m m' i j a b => { s := fun c => bParO g c m m' i j a b }
  | .tgtO m m' i j a b => { s := fun c => bTgtO g c m m' i j a b }
  | .aug i sub e => { s := fun c => bAug g c i sub e }
  | .app i e => { s := fun c => bApp g c i e }
  | .ext i e => { s := fun c => bExt g c i e }
  | .setIx i e b => { s := fun c => bPut g c i e b }
  | .put i e b => { s := fun c => bPut g c i e b }
  | .pop t i => { s := fun c => bPop c t i }
  | .popAt t i e => { s := fun c => bPopAt g c t i e }
  | .iff q a b => { s := fun c => onIf fun x y z => (ck g q).t c x && (cs g a).ss c y && (cs g b).ss c z }
  | .whl q a _ => { s := fun c => onWhl fun x y => (ck g q).t c x && (cs g a).ss c y }
  | .for_ t it a _ => { s := fun c => onFor fun tg x y => plainX x && chkTg c t tg && (ck g it).i c false tg x && (cs g a).ss c y }
  | .brk => { s := fun _ => isBrk }
  | .cnt => { s := fun _ => isCnt }
  | .pass => { s := fun _ => isPass }
  | .raise z => { s := fun c => bRaise g c z }
  | .pSet i k e => { s := fun c => bPSet g c i k e }
  | .any => { s := fun _ _ => true }
  | .anyR => { ss := fun _ _ => true }
end M

set_option Elab.async false
set_option linter.all false
set_option maxRecDepth 100000
namespace M
open PySem PySem.Spec PyProof.Rows L2
section
variable {g : Gc} {k : Nat} {Φ : Str → List Sl → Pot → Res D}
structure Sf (g : Gc) (k : Nat) (Φ : Str → List Sl → Pot → Res D) (q : S) : Prop where
  s : ∀ c X pa, StM g c k Φ X pa → ∀ F0 H0 st, (cs g q).s c st = true → SS X F0 H0 pa st (dens Φ q).s := by exact fun _ _ _ _ _ _ _ h => (Bool.false_ne_true h).elim
  ss : ∀ c X pa, StM g c k Φ X pa → ∀ F0 H0 sts, (cs g q).ss c sts = true → SSs X F0 H0 pa sts (dens Φ q).ss := by exact fun _ _ _ _ _ _ _ h => (Bool.false_ne_true h).elim
theorem chkL_ok {c : Cc} {X : Cx} {pa : Pa} (ct : CtM g c k Φ X pa) {i : Nat} {x : Expr} (h : chkL c i x = true) : ∃ y pos, x = .Name y pos ∧ X.N[i]? = some y ∧ Loc X.env.scope y := by
  cases x with
  | Name y pos =>
    simp only [chkL, Bool.and_eq_true, decide_eq_true_eq] at h
    exact ⟨y, pos, rfl, by rw [ct.hN]; exact h.1, by rw [ct.sc]; exact locB_loc h.2⟩
  | _ => cases h
theorem CtM.nd' {c : Cc} {X : Cx} {pa : Pa} (ct : CtM g c k Φ X pa) : X.N.Nodup := by rw [ct.hN]; exact ct.nd
theorem sf_cons {s r : S} (hs : Sf g k Φ s) (hr : Sf g k Φ r) : Sf g k Φ (.cons s r) where
  ss := fun c X pa ct F0 H0 sts h => by
    have h : bCons (isFrz s) ((cs g s).s c) ((cs g r).ss c) sts = true := h
    unfold bCons at h
    by_cases hf : isFrz s = true
    · rw [if_pos hf] at h
      cases s with
      | frz i => exact ss_frz (hr.ss c X pa ct F0 H0 sts h)
      | _ => cases hf
    · rw [if_neg hf] at h
      cases sts with
      | nil => cases h
      | cons st sts =>
        have h := Bool.and_eq_true_iff.mp h
        exact ss_cons (hs.s c X pa ct F0 H0 st h.1) (hr.ss c X pa ct F0 H0 sts h.2)
theorem sf_nil : Sf g k Φ .nil where
  ss := fun c X pa ct F0 H0 sts h => by
    obtain rfl := List.isEmpty_iff.mp h
    exact ss_nil
theorem sf_expr {e : E} : Sf g k Φ (.expr e) where
  s := fun c X pa ct F0 H0 st h => by
    obtain ⟨x, pos, rfl, h⟩ := onExp_ok (show onExp (fun x => noLc x && (ck g e).e c .b x) st = true from h)
    ·
      have h := Bool.and_eq_true_iff.mp (show (noLc x && (ck g e).e c .b x) = true from h)
      exact ss_expr ((sound e).e c X pa ct.ct F0 H0 .b x h.2) (sw_noLc h.1)
theorem sf_ret {e : E} : Sf g k Φ (.ret e) where
  s := fun c X pa ct F0 H0 st h => by
    obtain ⟨x, pos, rfl, h⟩ := onRet_ok (show onRet (fun x => (ck g e).e c .v x) st = true from h)
    · exact ss_ret ((sound e).e c X pa ct.ct F0 H0 .v x h)
theorem sf_retN : Sf g k Φ .retN where
  s := fun c X pa ct F0 H0 st h => by
    obtain ⟨pos, rfl⟩ := onRetN_ok (show onRetN st = true from h)
    · exact ss_retN
theorem sf_retO {i : Nat} : Sf g k Φ (.retO i) where
  s := fun c X pa ct F0 H0 st h => by
    obtain ⟨x, pos, rfl, h⟩ := onRet_ok (show onRet (fun x => chkN c i x) st = true from h)
    ·
      obtain ⟨y, p, rfl, h1, h2, h3, h4⟩ := chkN_ok ct.ct (show chkN c i x = true from h)
      exact ss_retO h1 h2 h3 h4
theorem sf_set {i : Nat} {e : E} : Sf g k Φ (.set i e) where
  s := fun c X pa ct F0 H0 st h => by
    obtain ⟨t, x, pos, rfl, h⟩ := onAsg_ok (show bSet g c i e st = true from h)
    ·
      have h : (chkL c i t && noLc x && (ck g e).e c .v x) = true := h
      simp only [Bool.and_eq_true] at h
      obtain ⟨⟨h1, h2⟩, h3⟩ := h
      obtain ⟨y, p, rfl, q1, q2⟩ := chkL_ok ct.ct h1
      exact ss_set ct.ct.nd' q1 q2 ((sound e).e c X pa ct.ct F0 H0 .v x h3) (sw_noLc h2) (.inl (ct.fnT y))
theorem ck_lc {e : E} {c : Cc} {y : Expr} {gs : List Comprehension} {s : Scope} {pos : Pos} (h : (ck g e).e c .n (.ListComp y gs s pos) = true) : ∃ t it q elt own, e = .comp t it q elt own := by
  cases e with
  | comp t it q elt own => exact ⟨t, it, q, elt, own, rfl⟩
  | _ => exact (Bool.false_ne_true h).elim
theorem ck_noLc {e : E} {c : Cc} {x : Expr} (h : (ck g e).e c .n x = true) : noLc x = true ∨ ∃ y gs s pos, x = .ListComp y gs s pos := by
  cases x with
  | ListComp y gs s pos => exact .inr ⟨y, gs, s, pos, rfl⟩
  | SetComp y gs s pos => cases e <;> exact (Bool.false_ne_true h).elim
  | DictComp y z gs s pos => cases e <;> exact (Bool.false_ne_true h).elim
  | _ => exact .inl rfl
theorem sf_own {i : Nat} {e : E} : Sf g k Φ (.own i e) where
  s := fun c X pa ct F0 H0 st h => by
    obtain ⟨t, x, pos, rfl, h⟩ := onAsg_ok (show bOwn g c i e st = true from h)
    ·
      have h := Bool.and_eq_true_iff.mp (show (chkL c i t && (ck g e).e c .n x) = true from h)
      obtain ⟨y, p, rfl, q1, q2⟩ := chkL_ok ct.ct h.1
      rcases ck_noLc h.2 with hl | ⟨z, gs, s, vp, rfl⟩
      · exact ss_own ct.ct.nd' q1 q2 ((sound e).e c X pa ct.ct F0 H0 .n x h.2) (sw_noLc hl) (.inl (ct.fnT y))
      · have hk : X.env.scope.kind = .function := by rw [ct.ct.sc]; exact ct.ct.kind
        cases hb : swB X.env.scope y p (.ListComp z gs s vp) with
        | false => exact ss_own ct.ct.nd' q1 q2 ((sound e).e c X pa ct.ct F0 H0 .n _ h.2) (sw_lc hk hb) (.inl (ct.fnT y))
        | true =>
          obtain ⟨t, it, q, elt, own, rfl⟩ := ck_lc h.2
          obtain ⟨tg, iter, ifs, rfl, P⟩ := compP (sound it) (sound q) (sound elt) ct.ct (F0 := F0) (H0 := H0) (pa := pa) h.2
          simp only [swB, Bool.and_eq_true, decide_eq_true_eq, Bool.not_eq_true'] at hb
          exact ss_ownLc ct.ct.calm ct.ct.nd' q1 hb.1.1 (sw_true hk hb.1.1 hb.1.2 hb.2) P.hi P.ok P.hsl P.hg P.ht P.he P.hs
theorem sf_tgt {t : Tg} {e : E} : Sf g k Φ (.tgt t e) where
  s := fun c X pa ct F0 H0 st h => by
    obtain ⟨tg, x, pos, rfl, h⟩ := onAsg_ok (show bTgt g c t e st = true from h)
    ·
      have h : (plainX tg && chkTg c t tg && noLc x && (!isTup x || notSw c.sc tg x) && (ck g e).e c .v x) = true := h
      simp only [Bool.and_eq_true] at h
      obtain ⟨⟨⟨⟨h1, h2⟩, h3⟩, h4⟩, h5⟩ := h
      have h6 : swappedStores [tg] x X.env = pure none := by
        rcases Bool.or_eq_true_iff.mp h4 with h4 | h4
        · exact ss_noTup (by simpa using h4)
        · exact ss_notSw (by rw [ct.ct.sc]; exact h4)
      exact ss_tgt (tg_sound ct.ct t tg h2) ((sound e).e c X pa ct.ct F0 H0 .v x h5) (sws_noLc h3) h6 (asg_of h1)
theorem sf_par {i j : Nat} {as : E} : Sf g k Φ (.par i j as) where
  s := fun c X pa ct F0 H0 st h => by
    obtain ⟨t, v, pos, rfl, h⟩ := onAsg_ok (show bPar g c i j as st = true from h)
    obtain ⟨es, kt, pt, rfl, h⟩ := onTup_ok h
    obtain ⟨tx, ty, rfl, h⟩ := on2_ok h
    obtain ⟨x, px, rfl, h⟩ := onNm_ok h
    obtain ⟨y, py, rfl, h⟩ := onNm_ok h
    obtain ⟨es, k2, pt2, rfl, h⟩ := onTup_ok h
    obtain ⟨a, b, rfl, h⟩ := on2_ok h
    ·
      have h : (decide (c.N[i]? = some x) && decide (c.N[j]? = some y) && decide (i ≠ j) && decide (c.sc.names.lookup x = some .local) && decide (c.sc.names.lookup y = some .local) &&
          (py.line == px.line) && !(x == y) && !([a, b].all (foldedForSure 8)) && !([a, b].all (constantsAlone 8)) && plainX a && plainX b && (ck g as).a c [a, b]) = true := h
      simp only [Bool.and_eq_true, Bool.not_eq_true', decide_eq_true_eq] at h
      obtain ⟨⟨⟨⟨⟨⟨⟨⟨⟨⟨⟨h1, h2⟩, h3⟩, h4⟩, h5⟩, h6⟩, h7⟩, h8⟩, h9⟩, h10⟩, h11⟩, h12⟩ := h
      have hk : X.env.scope.kind = .function := by rw [ct.ct.sc]; exact ct.ct.kind
      have e4 : X.env.scope.names.lookup x = some .local := by rw [ct.ct.sc]; exact h4
      have e5 : X.env.scope.names.lookup y = some .local := by rw [ct.ct.sc]; exact h5
      exact ss_par ct.ct.calm ct.ct.nd' (by rw [ct.ct.hN]; exact h1) (by rw [ct.ct.hN]; exact h2) h3 e4 e5 ((sound as).a c X pa ct.ct F0 H0 _ h12) (par_sw hk e4 e5 h6 h7 h8 h9 h10 h11) rfl
theorem sm_jm {m : Bool} {X : Cx} {F0 : Addr → Prop} {H0 : Hp} {pa : Pa} {x : Expr} {f : En → Pot → Res D} (h : SM (mdO m) X F0 H0 pa x f) : SE X F0 H0 pa (JM m) x f := by
  cases m with
  | true => exact h
  | false => exact h
theorem sf_parO {m m' : Bool} {i j : Nat} {ea eb : E} : Sf g k Φ (.parO m m' i j ea eb) where
  s := fun c X pa ct F0 H0 st h => by
    obtain ⟨t, v, pos, rfl, h⟩ := onAsg_ok (show bParO g c m m' i j ea eb st = true from h)
    obtain ⟨es, kt, pt, rfl, h⟩ := onTup_ok h
    obtain ⟨tx, ty, rfl, h⟩ := on2_ok h
    obtain ⟨x, px, rfl, h⟩ := onNm_ok h
    obtain ⟨y, py, rfl, h⟩ := onNm_ok h
    obtain ⟨es, k2, pt2, rfl, h⟩ := onTup_ok h
    obtain ⟨a, b, rfl, h⟩ := on2_ok h
    have h : (decide (c.N[i]? = some x) && decide (c.N[j]? = some y) && decide (i ≠ j) && decide (c.sc.names.lookup x = some .local) && decide (c.sc.names.lookup y = some .local) &&
        (py.line == px.line) && !(x == y) && !([a, b].all (foldedForSure 8)) && !([a, b].all (constantsAlone 8)) && plainX a && plainX b && ((ck g ea).e c (mdO m) a && (ck g eb).e c (mdO m') b)) = true := h
    simp only [Bool.and_eq_true, Bool.not_eq_true', decide_eq_true_eq] at h
    obtain ⟨⟨⟨⟨⟨⟨⟨⟨⟨⟨⟨h1, h2⟩, h3⟩, h4⟩, h5⟩, h6⟩, h7⟩, h8⟩, h9⟩, h10⟩, h11⟩, h12, h13⟩ := h
    have hk : X.env.scope.kind = .function := by rw [ct.ct.sc]; exact ct.ct.kind
    have e4 : X.env.scope.names.lookup x = some .local := by rw [ct.ct.sc]; exact h4
    have e5 : X.env.scope.names.lookup y = some .local := by rw [ct.ct.sc]; exact h5
    exact ss_parO ct.ct.calm ct.ct.nd' (by rw [ct.ct.hN]; exact h1) (by rw [ct.ct.hN]; exact h2) h3 e4 e5 (sm_jm ((sound ea).e c X pa ct.ct F0 H0 _ _ h12)) (sm_jm ((sound eb).e c X pa ct.ct F0 H0 _ _ h13)) (star_of h10) (star_of h11) (par_sw hk e4 e5 h6 h7 h8 h9 h10 h11) rfl
theorem ss_tgtO {X : Cx} {F0 : Addr → Prop} {H0 : Hp} {pa : Pa} {m m' : Bool} {i j : Nat} {x y : Str} {a b : Expr} {px py pt pos : Pos} {kt k2 : Nat} {pt2 : Pos} {f g : En → Pot → Res D} (hc : X.calm = true) (hN : X.N.Nodup) (hi : X.N[i]? = some x) (hj : X.N[j]? = some y)
    (hx : Loc X.env.scope x) (hy : Loc X.env.scope y) (fx : X.fn x = true ∨ X.env.scope.names.lookup x = some .local) (fy : X.fn y = true ∨ X.env.scope.names.lookup y = some .local) (ha : SE X F0 H0 pa (JM m) a f) (hb : SE X F0 H0 pa (JM m') b g)
    (h1 : starEach [a, b] X.env = (false, eval a X.env) :: starEach [b] X.env) (h2 : starEach [b] X.env = (false, eval b X.env) :: starEach [] X.env)
    (hs : swapsWithSole [.Tuple [.Name x px, .Name y py] kt pt] (.Tuple [a, b] k2 pt2) pos.line X.env = pure false) (hw : swappedStores [.Tuple [.Name x px, .Name y py] kt pt] (.Tuple [a, b] k2 pt2) X.env = pure none)
    (h3 : (assignEach [.Tuple [.Name x px, .Name y py] kt pt] X.env).map (·.2) = [assign (.Tuple [.Name x px, .Name y py] kt pt) X.env]) :
    SS X F0 H0 pa (.Assign [.Tuple [.Name x px, .Name y py] kt pt] (.Tuple [a, b] k2 pt2) pos) (sParO m m' i j f g) := fun W tk => PSimp (ps_asg (pe_tup (pa_cons (ha W tk) (pa_cons (hb W tk) pa_nil h2) h1)) (pg_tup hc (pgs_cons (pg_name hN hi hx fx) (pgs_cons (pg_name hN hj hy fy) pgs_nil))) hs hw (h1 := h3)) fun Ds σ H ⟨F, ρ, p, r, q⟩ => by
  simp only [sParO] at q
  refine seqS (J := JM m X.mg pa) (g := fun d p1 => (g ρ p1).bind fun e p2 => .ok (.nx ((ρ.set i (some (mkS m d))).set j (some (mkS m' e)))) p2) r q fun d p1 v F1 H1 s1 j1 r1 q1 => ?_
  refine seqS (J := JM m' X.mg pa) (g := fun e p2 => .ok (.nx ((ρ.set i (some (mkS m d))).set j (some (mkS m' e)))) p2) r1 q1 fun e p2 w F2 H2 s2 j2 r2 q2 => ?_
  have rr := (r.setM s1 m i j1).setM s2 m' j j2
  refine ⟨by rw [sizeLine_eq]; show 2 ≤ 16777216; omega, fun t ht => ?_⟩
  have st : Stp pa F2 H2 F2 (upd H2 t (.tup [v, w])) p2 := rr.base.laid ht
  exact ⟨t, [v, w], rfl, SqT.of upd_same, rfl, v, [w], rfl, w, [], rfl, rfl, q2 F2 _ _ (st.pres rr.base) (rr.step st)⟩
theorem sf_tgtO {m m' : Bool} {i j : Nat} {ea eb : E} : Sf g k Φ (.tgtO m m' i j ea eb) where
  s := fun c X pa ct F0 H0 st h => by
    obtain ⟨t, v, pos, rfl, h⟩ := onAsg_ok (show bTgtO g c m m' i j ea eb st = true from h)
    obtain ⟨es, kt, pt, rfl, h⟩ := onTup_ok h
    obtain ⟨tx, ty, rfl, h⟩ := on2_ok h
    obtain ⟨es, k2, pt2, rfl, h⟩ := onTup_ok h
    obtain ⟨a, b, rfl, h⟩ := on2_ok h
    have h : (plainX (.Tuple [tx, ty] kt pt) && chkL c i tx && chkL c j ty && noLc (.Tuple [a, b] k2 pt2) && notSw c.sc (.Tuple [tx, ty] kt pt) (.Tuple [a, b] k2 pt2) && plainX a && plainX b && plainX tx && plainX ty && ((ck g ea).e c (mdO m) a && (ck g eb).e c (mdO m') b)) = true := h
    simp only [Bool.and_eq_true] at h
    obtain ⟨⟨⟨⟨⟨⟨⟨⟨⟨h1, h2⟩, h3⟩, h4⟩, h5⟩, h6⟩, h7⟩, h8⟩, h9⟩, h10, h11⟩ := h
    obtain ⟨x, px, rfl, q1, q2⟩ := chkL_ok ct.ct h2
    obtain ⟨y, py, rfl, q3, q4⟩ := chkL_ok ct.ct h3
    exact ss_tgtO ct.ct.calm ct.ct.nd' q1 q3 q2 q4 (.inl (ct.fnT x)) (.inl (ct.fnT y)) (sm_jm ((sound ea).e c X pa ct.ct F0 H0 _ _ h10)) (sm_jm ((sound eb).e c X pa ct.ct F0 H0 _ _ h11)) (star_of h6) (star_of h7) (sws_noLc h4) (ss_notSw (by rw [ct.ct.sc]; exact h5)) (asg_of h1)
theorem sf_aug {i : Nat} {sub : Bool} {e : E} : Sf g k Φ (.aug i sub e) where
  s := fun c X pa ct F0 H0 st h => by
    obtain ⟨t, op, x, pos, rfl, h⟩ := onAug_ok (show bAug g c i sub e st = true from h)
    ·
      have h : (chkL c i t && decide (op = if sub = true then .Sub else .Add) && (ck g e).e c .v x) = true := h
      simp only [Bool.and_eq_true, decide_eq_true_eq] at h
      obtain ⟨⟨h1, rfl⟩, h3⟩ := h
      obtain ⟨y, p, rfl, q1, q2⟩ := chkL_ok ct.ct h1
      have he := (sound e).e c X pa ct.ct F0 H0 .v x h3
      cases sub with
      | true => exact ss_aug ct.ct.nd' q1 q2 he ip_sub (.inl (ct.fnT y))
      | false => exact ss_aug ct.ct.nd' q1 q2 he ip_add (.inl (ct.fnT y))
theorem sf_app {i : Nat} {e : E} : Sf g k Φ (.app i e) where
  s := fun c X pa ct F0 H0 st h => by
    obtain ⟨x, pos, rfl, h⟩ := onExp_ok (show bApp g c i e st = true from h)
    obtain ⟨y, apos, as, cpos, rfl, h1, h4, h⟩ := bMeth_ok h
    obtain ⟨x, rfl, h⟩ := on1_ok h
    have h := Bool.and_eq_true_iff.mp h
    have h3 := h.1
    have h5 := h.2
    obtain ⟨y, p, rfl, q1, q2, q3, q4⟩ := chkN_ok ct.ct h1
    exact ss_app q1 q2 q3 q4 ((sound e).e c X pa ct.ct F0 H0 .v x h5) (star_of h3) h4
theorem sf_ext {i : Nat} {e : E} : Sf g k Φ (.ext i e) where
  s := fun c X pa ct F0 H0 st h => by
    obtain ⟨x, pos, rfl, h⟩ := onExp_ok (show bExt g c i e st = true from h)
    obtain ⟨y, apos, as, cpos, rfl, h1, h4, h⟩ := bMeth_ok h
    obtain ⟨x, rfl, h⟩ := on1_ok h
    have h := Bool.and_eq_true_iff.mp h
    have h3 := h.1
    have h5 := h.2
    obtain ⟨y, p, rfl, q1, q2, q3, q4⟩ := chkN_ok ct.ct h1
    exact ss_ext q1 q2 q3 q4 ((sound e).e c X pa ct.ct F0 H0 .b x h5) (star_of h3) h4
theorem sf_setIx {i : Nat} {e b : E} : Sf g k Φ (.setIx i e b) where
  s := fun c X pa ct F0 H0 st h => by
    obtain ⟨t, x, pos, rfl, h⟩ := onAsg_ok (show bPut g c i e b st = true from h)
    obtain ⟨y, z, spos, rfl, h⟩ := onSub_ok h
    ·
      have h : (chkN c i y && noLc x && plainX z && (ck g e).e c .v x && (ck g b).e c .v z) = true := h
      simp only [Bool.and_eq_true] at h
      obtain ⟨⟨⟨⟨h1, h2⟩, h3⟩, h4⟩, h5⟩ := h
      obtain ⟨y, p, rfl, q1, q2, q3, q4⟩ := chkN_ok ct.ct h1
      exact ss_setIx q1 q2 q3 q4 ((sound e).e c X pa ct.ct F0 H0 .v x h4) ((sound b).e c X pa ct.ct F0 H0 .v z h5) (sws_noLc h2) ss_noTup' (asgIx_of h3)
theorem sf_put {i : Nat} {e b : E} : Sf g k Φ (.put i e b) where
  s := fun c X pa ct F0 H0 st h => by
    obtain ⟨t, x, pos, rfl, h⟩ := onAsg_ok (show bPut g c i e b st = true from h)
    obtain ⟨y, z, spos, rfl, h⟩ := onSub_ok h
    ·
      have h : (chkN c i y && noLc x && plainX z && (ck g e).e c .v x && (ck g b).e c .v z) = true := h
      simp only [Bool.and_eq_true] at h
      obtain ⟨⟨⟨⟨h1, h2⟩, h3⟩, h4⟩, h5⟩ := h
      obtain ⟨y, p, rfl, q1, q2, q3, q4⟩ := chkN_ok ct.ct h1
      exact ss_put (by have := units65 ct.ct.room; omega) q1 q2 q3 q4 ((sound e).e c X pa ct.ct F0 H0 .v x h4) ((sound b).e c X pa ct.ct F0 H0 .v z h5) (sw_noLc h2)
theorem sf_pop {t : Tg} {i : Nat} : Sf g k Φ (.pop t i) where
  s := fun c X pa ct F0 H0 st h => by
    obtain ⟨tg, x, pos, rfl, h⟩ := onAsg_ok (show bPop c t i st = true from h)
    have h : (plainX tg && chkTg c t tg && bMeth c i "pop" (·.isEmpty) x) = true := h
    simp only [Bool.and_eq_true] at h
    obtain ⟨⟨h1, h2⟩, h3⟩ := h
    obtain ⟨y, apos, as, cpos, rfl, k3, h5, h6⟩ := bMeth_ok h3
    obtain rfl := List.isEmpty_iff.mp h6
    obtain ⟨y, p, rfl, q1, q2, q3, q4⟩ := chkN_ok ct.ct k3
    exact ss_pop (tg_sound ct.ct t tg h2) q1 q2 q3 q4 h5 rfl (ss_noTup rfl) (asg_of h1)
theorem sf_popAt {t : Tg} {i : Nat} {e : E} : Sf g k Φ (.popAt t i e) where
  s := fun c X pa ct F0 H0 st h => by
    obtain ⟨tg, x, pos, rfl, h⟩ := onAsg_ok (show bPopAt g c t i e st = true from h)
    have h : (plainX tg && chkTg c t tg && bMeth c i "pop" (on1 fun x => plainX x && (ck g e).e c .v x) x) = true := h
    simp only [Bool.and_eq_true] at h
    obtain ⟨⟨h1, h2⟩, h3⟩ := h
    obtain ⟨y, apos, as, cpos, rfl, k3, h6, h7⟩ := bMeth_ok h3
    obtain ⟨x, rfl, k7⟩ := on1_ok h7
    have h7 := Bool.and_eq_true_iff.mp k7
    obtain ⟨y, p, rfl, q1, q2, q3, q4⟩ := chkN_ok ct.ct k3
    exact ss_popAt (tg_sound ct.ct t tg h2) q1 q2 q3 q4 ((sound e).e c X pa ct.ct F0 H0 .v x h7.2) (star_of h7.1) h6 rfl (ss_noTup rfl) (asg_of h1)
theorem sf_iff {q : E} {a b : S} (ha : Sf g k Φ a) (hb : Sf g k Φ b) : Sf g k Φ (.iff q a b) where
  s := fun c X pa ct F0 H0 st h => by
    obtain ⟨x, y, z, pos, rfl, h⟩ := onIf_ok (show onIf (fun x y z => (ck g q).t c x && (cs g a).ss c y && (cs g b).ss c z) st = true from h)
    ·
      have h : ((ck g q).t c x && (cs g a).ss c y && (cs g b).ss c z) = true := h
      simp only [Bool.and_eq_true] at h
      exact ss_if ((sound q).t c X pa ct.ct F0 H0 x h.1.1) (ha.ss c X pa ct F0 H0 y h.1.2) (hb.ss c X pa ct F0 H0 z h.2)
theorem sf_whl {q : E} {a : S} {w : List Nat} (ha : Sf g k Φ a) : Sf g k Φ (.whl q a w) where
  s := fun c X pa ct F0 H0 st h => by
    obtain ⟨x, y, pos, rfl, h⟩ := onWhl_ok (show onWhl (fun x y => (ck g q).t c x && (cs g a).ss c y) st = true from h)
    ·
      have h : ((ck g q).t c x && (cs g a).ss c y) = true := h
      simp only [Bool.and_eq_true] at h
      exact ss_while ct.pass ((sound q).t c X pa ct.ct F0 H0 x h.1) (ha.ss c X pa ct F0 H0 y h.2)
theorem sf_for {t : Tg} {it : E} {a : S} {w : List Nat} (ha : Sf g k Φ a) : Sf g k Φ (.for_ t it a w) where
  s := fun c X pa ct F0 H0 st h => by
    obtain ⟨tg, x, y, pos, rfl, h⟩ := onFor_ok (show onFor (fun tg x y => plainX x && chkTg c t tg && (ck g it).i c false tg x && (cs g a).ss c y) st = true from h)
    ·
      have h : (plainX x && chkTg c t tg && (ck g it).i c false tg x && (cs g a).ss c y) = true := h
      simp only [Bool.and_eq_true] at h
      obtain ⟨⟨⟨h1, h2⟩, h3⟩, h4⟩ := h
      exact ss_for ct.pass ct.ct.calm ((sound it).i c X pa ct.ct F0 H0 false tg x h3) (tg_sound ct.ct t tg h2) (ha.ss c X pa ct F0 H0 y h4) (fold_of h1)
theorem sf_brk : Sf g k Φ .brk where
  s := fun c X pa ct F0 H0 st h => by
    obtain ⟨pos, rfl⟩ := isBrk_ok (show isBrk st = true from h)
    · exact ss_brk
theorem sf_cnt : Sf g k Φ .cnt where
  s := fun c X pa ct F0 H0 st h => by
    obtain ⟨pos, rfl⟩ := isCnt_ok (show isCnt st = true from h)
    · exact ss_cnt
theorem sf_pass : Sf g k Φ .pass where
  s := fun c X pa ct F0 H0 st h => by
    obtain ⟨pos, rfl⟩ := isPass_ok (show isPass st = true from h)
    · exact ss_pass
theorem sf_raise {z : Str} : Sf g k Φ (.raise z) where
  s := fun c X pa ct F0 H0 st h => by
    obtain ⟨x, pos, rfl, h⟩ := onRaise_ok (show bRaise g c z st = true from h)
    obtain ⟨f, as, p2, rfl, h⟩ := onCall_ok h
    have h := Bool.and_eq_true_iff.mp h
    obtain rfl := List.isEmpty_iff.mp h.1
    obtain ⟨y, p, rfl, h'⟩ := onNm_ok h.2
    have h : (decide (z = y) && decide (y ∈ g.excs) && glB c.sc y && nmOk y) = true := h'
    simp only [Bool.and_eq_true, decide_eq_true_eq] at h
    obtain ⟨⟨⟨rfl, h2⟩, h3⟩, h4⟩ := h
    obtain ⟨C, q1, q2, q3, q4⟩ := ct.excs _ h2
    exact ss_raise0 ct.ct.calm q2 q1 q3 q4 (glB_gl (by rw [ct.ct.sc]; exact h3)) (nmOk_1 h4)
theorem potOkB_ok {p : Pot} (h : potOkB p = true) : p.Ok := by
  simp only [potOkB, Bool.and_eq_true, List.all_eq_true, decide_eq_true_eq] at h
  exact ⟨h.1.1.1.1.1, h.1.1.1.1.2, h.1.1.1.2, h.1.1.2, h.1.2, h.2⟩
theorem Rel.writePot {mg : Str → Option Value} {F0 : Addr → Prop} {H0 : Hp} {pa : Pa} {F : Addr → Prop} {σ : L2.St} {H : Hp} {ρ : En} {p p' : Pot} (r : Rel mg F0 H0 pa F σ H ρ p) {ca : Addr} (fca : F ca) (hpa : H pa = some (.lst [.ref ca, .int p.used, .int p.mix, .int p.great])) (hca : H ca = some (.lst (p.cells.map V.int)))
    (hc : p'.cells = p.cells) (ok : p'.Ok) : Rel mg F0 H0 pa F σ (upd H pa (.lst [.ref ca, .int p'.used, .int p'.mix, .int p'.great])) ρ p' ∧ Pres F H F (upd H pa (.lst [.ref ca, .int p'.used, .int p'.mix, .int p'.great])) := by
  have nf := r.base.pot.nf
  have nca : ca ≠ pa := fun z => nf (z ▸ fca)
  have pr : Pres F H F (upd H pa (.lst [.ref ca, .int p'.used, .int p'.mix, .int p'.great])) := Pres.write nf fun xs z => by rw [hpa] at z; cases z
  refine ⟨⟨⟨⟨ok, nf, ca, fca, upd_same, by rw [upd_ne nca, hc]; exact hca⟩, fun a ha => ?_, tabs_write r.base.tabs (.inl ⟨_, hpa⟩)⟩, ⟨r.gr.fr, fun b u e nb nt => by rw [upd_ne nb]; exact r.gr.keep b u e nb nt, fun b ps e => by
      obtain ⟨ps', e'⟩ := r.gr.tbl b ps e
      have : b ≠ pa := fun z => by
        rw [z, hpa] at e'
        cases e'
      exact ⟨ps', by rw [upd_ne this]; exact e'⟩, r.gr.new⟩, r.len, fun j s e => ?_, r.apart, r.b0⟩, pr⟩
  · obtain ⟨o, ho, nt⟩ := r.base.dom a ha
    have na : a ≠ pa := fun z => nf (z ▸ ha)
    exact ⟨o, by rw [upd_ne na]; exact ho, nt⟩
  · obtain ⟨v, h1, h2⟩ := r.slot j s e
    refine ⟨v, h1, ?_⟩
    cases s with
    | val d => exact Is.mono pr _ _ h2
    | own d =>
      obtain ⟨b, rfl, e2, e3, e4⟩ := h2
      exact ⟨b, rfl, e2, e3, e4.mono pr fun u q _ => by rw [upd_ne (r.np0 e3)]; exact q⟩
    | bor d =>
      obtain ⟨b, rfl, e2, e3, e4, e5⟩ := h2
      exact ⟨b, rfl, e2, e3, e4, e5.mono pr fun u q _ => by rw [upd_ne e4]; exact q⟩
theorem ss_pSet {X : Cx} {F0 : Addr → Prop} {H0 : Hp} {pa : Pa} {i n jj : Nat} {x : Str} {e : Expr} {p p2 spos pos : Pos} {f : En → Pot → Res D} (hN : X.N[i]? = some x) (hv : Vis X.env.scope x) (hd : (x == ("__debug__" : Str)) = false) (hcd : (x == ("__classdict__" : Str)) = false) (h : SV X F0 H0 pa e f)
    (hs1 : swapsWithSole [.Subscript (.Name x p) (.Constant (.int (n : Int)) jj p2) spos] e pos.line X.env = pure false) : SS X F0 H0 pa (.Assign [.Subscript (.Name x p) (.Constant (.int (n : Int)) jj p2) spos] e pos) (sPSet i n f) := fun W tk =>
  PSimp (ps_asg (h W tk) (pg_sub (pe_var hN hv hd hcd) pe_int set_list (ha := asgIx_of rfl)) hs1 ss_noTup' (by rfl)) fun Ds σ H ⟨F, ρ, p, r, q⟩ => by
    unfold sPSet at q
    cases e : rdV ρ i with
    | none => rw [e] at q; exact q.elim
    | some d =>
      rw [e] at q
      cases d with
      | pot =>
        have hr : ρ[i]? = some (some (.val .pot)) := by
          unfold rdV at e
          split at e
          · rename_i d h; cases e; exact h
          · cases e
        refine seqS (J := JV X.mg pa) (g := fun d p1 => match potSet p1 n d with
          | some p2 => .ok (.nx ρ) p2
          | none => .bad) r q fun d p1 v F1 H1 s1 j1 r1 q1 => ?_
        obtain ⟨v', h1, h2⟩ := r1.slot i _ hr
        obtain rfl : v' = .ref pa := h2
        obtain ⟨ca, fca, hpa, hca⟩ := r1.base.pot.at_
        refine ⟨.ref pa, h1, ?_⟩
        cases d with
        | int w =>
          obtain rfl : v = .int w := j1
          match n, q1 with
          | 0, q1 => exact q1.elim
          | 1, q1 =>
            simp only [potSet] at q1
            split at q1
            · rename_i p3 h3
              split at h3
              · rename_i hb
                cases h3
                obtain ⟨r2, pr⟩ := r1.writePot (p' := { p1 with used := w }) fca hpa hca rfl (potOkB_ok hb)
                exact ⟨pa, _, 1, 1, rfl, rfl, hpa, rfl, q1 F1 σ _ pr r2⟩
              · cases h3
            · exact q1.elim
          | 2, q1 =>
            simp only [potSet] at q1
            split at q1
            · rename_i p3 h3
              split at h3
              · rename_i hb
                cases h3
                obtain ⟨r2, pr⟩ := r1.writePot (p' := { p1 with mix := w }) fca hpa hca rfl (potOkB_ok hb)
                exact ⟨pa, _, 2, 2, rfl, rfl, hpa, rfl, q1 F1 σ _ pr r2⟩
              · cases h3
            · exact q1.elim
          | 3, q1 =>
            simp only [potSet] at q1
            split at q1
            · rename_i p3 h3
              split at h3
              · rename_i hb
                cases h3
                obtain ⟨r2, pr⟩ := r1.writePot (p' := { p1 with great := w }) fca hpa hca rfl (potOkB_ok hb)
                exact ⟨pa, _, 3, 3, rfl, rfl, hpa, rfl, q1 F1 σ _ pr r2⟩
              · cases h3
            · exact q1.elim
          | n + 4, q1 => exact q1.elim
        | _ => (match n, q1 with
          | 0, q1 => exact q1.elim
          | 1, q1 => exact q1.elim
          | 2, q1 => exact q1.elim
          | 3, q1 => exact q1.elim
          | n + 4, q1 => exact q1.elim)
      | _ => exact q.elim
theorem sf_pSet {i n : Nat} {e : E} : Sf g k Φ (.pSet i n e) where
  s := fun c X pa ct F0 H0 st h => by
    obtain ⟨t, x, pos, rfl, h⟩ := onAsg_ok (show bPSet g c i n e st = true from h)
    obtain ⟨y, z, spos, rfl, h⟩ := onSub_ok h
    have h : (chkN c i y && noLc x && (ck g e).e c .v x && onInt (fun w => decide (w = (n : Int))) z) = true := h
    simp only [Bool.and_eq_true] at h
    obtain ⟨⟨⟨h1, h2⟩, h3⟩, h4⟩ := h
    obtain ⟨z, jj, p2, rfl, h4⟩ := onInt_ok h4
    obtain rfl := of_decide_eq_true h4
    obtain ⟨y, p, rfl, q1, q2, q3, q4⟩ := chkN_ok ct.ct h1
    exact ss_pSet q1 q2 q3 q4 ((sound e).e c X pa ct.ct F0 H0 .v x h3) (sws_noLc h2)
theorem sf_any : Sf g k Φ .any where
  s := fun c X pa ct F0 H0 st h W tk => ⟨fun pins s σ H D I ⟨F, ρ, p, r, q⟩ => q.elim⟩
theorem sf_anyR : Sf g k Φ .anyR where
  ss := fun c X pa ct F0 H0 sts h W tk => ⟨fun pins s σ H D I ⟨F, ρ, p, r, q⟩ => q.elim⟩
theorem soundS : (q : S) → Sf g k Φ q
  | .nil => sf_nil
  | .cons s r => sf_cons (soundS s) (soundS r)
  | .frz _ => {}
  | .expr _ => sf_expr
  | .ret _ => sf_ret
  | .retN => sf_retN
  | .retO _ => sf_retO
  | .set _ _ => sf_set
  | .own _ _ => sf_own
  | .tgt _ _ => sf_tgt
  | .par _ _ _ => sf_par
  | .parO _ _ _ _ _ _ => sf_parO
  | .tgtO _ _ _ _ _ _ => sf_tgtO
  | .aug _ _ _ => sf_aug
  | .app _ _ => sf_app
  | .ext _ _ => sf_ext
  | .setIx _ _ _ => sf_setIx
  | .put _ _ _ => sf_put
  | .pop _ _ => sf_pop
  | .popAt _ _ _ => sf_popAt
  | .iff _ a b => sf_iff (soundS a) (soundS b)
  | .whl _ a _ => sf_whl (soundS a)
  | .for_ _ _ a _ => sf_for (soundS a)
  | .brk => sf_brk
  | .cnt => sf_cnt
  | .pass => sf_pass
  | .raise _ => sf_raise
  | .pSet _ _ _ => sf_pSet
  | .any => sf_any
  | .anyR => sf_anyR
end
end M

set_option Elab.async false
set_option linter.all false
set_option maxRecDepth 100000
/-! defs: what their texts mean, level by level -/
namespace M
open PySem PySem.Spec PyProof.Rows L2
/-- a def: its name, its slots (the parameters first), how many parameters, its text -/
structure Df where
  nm : Str
  N : List Str
  np : Nat
  body : S
@[simp] def entry (n : Nat) (ss : List Sl) : En := ss.map some ++ List.replicate (n - ss.length) none
@[simp] def runD (Φ : Str → List Sl → Pot → Res D) (d : Df) (ss : List Sl) (p : Pot) : Res D :=
  if ss.length = d.np then (match (dens Φ d.body).ss (entry d.N.length ss) p with
    | .ok (.ret x) p' => .ok x p'
    | .ok (.nx _) p' => .ok .non p'
    | .ok _ _ => .bad
    | .exc c p' => .exc c p'
    | .bad => .bad) else .bad
abbrev Phi : Type := Str → List Sl → Pot → Res D
/-- the facts of a module that its defs lean on -/
structure Fx (g : Gc) (K : PySem.W.Frag) (mg : Str → Option Value) : Prop where
  free : ∀ x ∈ g.free, mg x = none
  gis : ∀ q ∈ g.gis, ∃ t, mg q.1 = some (.int q.2 t)
  excs : ∀ x ∈ g.excs, ∃ C, mg x = some (.ref C) ∧ PySem.W.excIn K C [.type "ValueError", .type "Exception", .type "BaseException", .type "object"] "ValueError.__new__" = true ∧ PySem.W.keepIn K (.ref C) = true ∧
    PySem.W.subIn K (.ref C) (.type "BaseException") = some true ∧ PySem.W.typeIn K (.ref C) = some (.type "type")
/-- what is checked of a def, by its text -/
structure DfOk (g : Gc) (d : Df) (params : Arguments) (body : List Stmt) (scope : Scope) : Prop where
  chk : (cs g d.body).ss { N := d.N, sc := scope, blk := none } body = true
  sc : FnScope d.N (d.N.take d.np) scope
  np : d.np ≤ d.N.length
  bind : ∀ (kV doc pm : Value) (an : Option Addr) (cdv ct : Value) (us : List Value), us.length = (d.N.take d.np).length → bindArgs (PySem.W.fnOf d.nm d.nm params body scope .none kV doc pm an cdv ct) ⟨us, []⟩ = pure ((d.N.take d.np).zip us)
theorem JAs.len {mg : Str → Option Value} {pa : Pa} {F : Addr → Prop} {H : Hp} : ∀ {ss : List Sl} {vs : List V}, JAs mg pa F H ss vs → vs.length = ss.length
  | [], vs, h => by rw [show vs = [] from h]; rfl
  | s :: ss, vs, h => by
    obtain ⟨v, r, rfl, _, h2⟩ := h
    simp [JAs.len h2]
theorem JAs.get {mg : Str → Option Value} {pa : Pa} {F : Addr → Prop} {H : Hp} : ∀ {ss : List Sl} {vs : List V} {i : Nat} {s : Sl}, JAs mg pa F H ss vs → ss[i]? = some s → ∃ v, vs[i]? = some v ∧ JA mg pa H F H s v
  | [], vs, i, s, h, e => by simp at e
  | s0 :: ss, vs, i, s, h, e => by
    obtain ⟨v, r, rfl, h1, h2⟩ := h
    cases i with
    | zero =>
      simp at e
      subst e
      exact ⟨v, rfl, h1⟩
    | succ i =>
      obtain ⟨w, q1, q2⟩ := JAs.get (i := i) h2 (by simpa using e)
      exact ⟨w, by simpa using q1, q2⟩
theorem at_there {mg : Str → Option Value} {pa : Pa} {F : Addr → Prop} {H : Hp} {a : Addr} {d : D} (t : At mg pa F H a d) : ∃ o, H a = Option.some o := by
  cases d with
  | lst ds => obtain ⟨xs, e, _⟩ := t; exact ⟨_, e⟩
  | dct ds => obtain ⟨xs, e, _⟩ := t; exact ⟨_, e⟩
  | dcn ds => obtain ⟨xs, e, _⟩ := t; exact ⟨_, e⟩
  | _ => exact t.elim
theorem entry_get {n : Nat} {ss : List Sl} {i : Nat} {s : Sl} (h : (entry n ss)[i]? = some (some s)) : ss[i]? = some s := by
  unfold entry at h
  by_cases hi : i < ss.length
  · rw [List.getElem?_append_left (by simpa using hi)] at h
    simpa using h
  · rw [List.getElem?_append_right (by simpa using hi)] at h
    have := List.mem_of_getElem? h
    have := List.eq_of_mem_replicate this
    cases this
theorem start_get {N : List Str} {vs : List V} {i : Nat} {v : V} (h : vs[i]? = some v) : (L2.start N vs)[i]? = some (some v) := by
  unfold L2.start
  have hi : i < vs.length := by
    rcases Nat.lt_or_ge i vs.length with z | z
    · exact z
    · rw [List.getElem?_eq_none z] at h; cases h
  rw [List.getElem?_append_left (by simpa using hi)]
  simpa using h
/-- the entry of a def -/
theorem rel_entry {mg : Str → Option Value} {pa : Pa} {F : Addr → Prop} {H : Hp} {p : Pot} {ss : List Sl} {vs : List V} {N : List Str} (b : Base pa F H p) (j : JAs mg pa F H ss vs) : Rel mg F H pa F (L2.start N vs) H (entry N.length ss) p where
  base := b
  gr := Gr.refl
  len := by simp [L2.start, entry, j.len]
  slot := fun i s h => by
    obtain ⟨v, q1, q2⟩ := j.get (entry_get h)
    refine ⟨v, start_get q1, ?_⟩
    cases s with
    | val d => exact q2
    | own d => exact q2.elim
    | bor d =>
      obtain ⟨a, e1, e2, e3, e4⟩ := q2
      exact ⟨a, e1, e2, at_there e4, e3, e4⟩
  apart := fun i k d e a hik hi hk => by
    obtain ⟨v, q1, q2⟩ := j.get (entry_get hi)
    exact q2.elim
  b0 := ⟨p, b⟩
theorem def_ok {P : Program} {w : World} {K : PySem.W.Frag} {mg : Str → Option Value} {base : Heap} {k : Nat} {g : Gc} {Φ : Phi} {d : Df} {params : Arguments} {body : List Stmt} {scope : Scope} {f : Addr} {fd : FuncData}
    (Fd : FunD K d.nm d.nm params body scope [] [] f fd) (hm : mg d.nm = some (.ref f)) (ok : DfOk g d params body scope) (fx : Fx g K mg) (fns : ∀ x ∈ g.fns, FnAt P w K mg base k x (Φ x)) : FnAt P w K mg base (k + 1) d.nm (runD Φ d) := by
  refine ⟨f, fd, d.N.take d.np, hm, Fd.kp, Fd.bindsN ok.bind, ?_⟩
  refine Fd.ok ok.sc (fun vs H Q E h => ?_) (fun cdv A outer s H vs Q E hr h => ?_)
  · obtain ⟨F, pa, p, ss, b, j, q⟩ := h
    rw [j.len]
    by_cases hl : ss.length = d.np
    · rw [hl, List.length_take, Nat.min_eq_left ok.np]
    · unfold runD at q
      rw [if_neg hl] at q
      exact q.elim
  · obtain ⟨F, pa, p, ss, b, j, q⟩ := h
    have hX : StM g { N := d.N, sc := scope, blk := none } k Φ (cxOf (L2.CX P w) P w K mg base d.N d.nm scope f cdv A outer s H E) pa := {
      ct := {
        hN := rfl
        nd := ok.sc.nd
        sc := rfl
        kind := ok.sc.kind
        calm := rfl
        room := hr
        fn := fun _ _ => .inl rfl
        free := fx.free
        fns := fns
        gis := fx.gis
        lam := fun h => by cases h }
      pass := passes_of rfl
      excs := fun x hx => by
        obtain ⟨C, h1, h2, h3, h4, h5⟩ := fx.excs x hx
        exact ⟨C, h1, h2, h3, raises_own h4 h5⟩
      fnT := fun _ => rfl }
    have hS := (soundS d.body).ss _ _ _ hX F H body ok.chk E (takes_of rfl rfl rfl rfl)
    refine ⟨_, hS, F, _, p, rel_entry b j, ?_⟩
    unfold runD at q
    by_cases hl : ss.length = d.np
    · rw [if_pos hl] at q
      cases e : (dens Φ d.body).ss (entry d.N.length ss) p with
      | ok o p' =>
        rw [e] at q
        cases o with
        | nx ρ => exact fun F' σ' H' _ r => q .non F' H' ⟨r.gr, r.base⟩ rfl
        | ret x => exact fun v F' H' g' b' i => q v F' H' ⟨g', b'⟩ i
        | brk ρ => exact q.elim
        | cnt ρ => exact q.elim
      | exc c p' =>
        rw [e] at q
        exact fun C F' H' hC g' b' => q C F' H' hC ⟨g', b'⟩
      | bad => rw [e] at q; exact q.elim
    · rw [if_neg hl] at q
      exact q.elim
end M

set_option Elab.async false
set_option linter.all false
set_option maxRecDepth 100000
/-! _law_pot, the law's def -/
namespace M
open PySem PySem.Spec PyProof.Rows L2
def absI (i : Int) : Int := if i < 0 then -i else i
def cellsOf (ns : List Int) : List Int := (ns.take 63).map absI
def spPot (K : PySem.W.Frag) : Sp := fun vs H Q _ => ∃ (a : Addr) (ns : List Int), vs = [.ref a] ∧ SqL K H a (ns.map V.int) ∧ ns.length ≤ sizeLine ∧
  ∀ ca q H', (∀ b o, H b = some o → H' b = some o) → ca ≠ q → H' ca = some (.lst ((cellsOf ns).map V.int)) → H' q = some (.lst [.ref ca, .int 0, .int 20011, .int 0]) → Q (.ref q) H'
/-- the text of the draws state made -/
abbrev potB (p1 p2 p3 p4 p5 p6 p7 p8 p9 p10 p11 p12 p13 p14 : Pos) (k1 k2 k3 k4 : Nat) (scope : Scope) : List Stmt :=
  [.Return (some (.List [.ListComp (.Call (.Name "abs" p1) [.Name "cell" p2] [] p3) [⟨.Name "cell" p4, .Subscript (.Name "script" p5) (.Slice none (some (.Constant (.int 63) k1 p6)) none p7) p8, [], 0⟩] scope p9,
    .Constant (.int 0) k2 p10, .Constant (.int 20011) k3 p11, .Constant (.int 0) k4 p12] p13)) p14]
def rAbs : List V → Hp → VK → Prop := fun xs H Q => ∃ i, xs = [.int i] ∧ Q (.int (if i < 0 then -i else i)) H
def tPot (K : PySem.W.Frag) : TS := tRet (tLst (tCons (tLc (iList K (tSl (rSlL K) (tVar 0) tNoPart (tPart (tC (.int 63))))) (gName 1) tYes (tCB rAbs (tCons (tVar 1) tNil)) [1]) (tCons (tC (.int 0)) (tCons (tC (.int 20011)) (tCons (tC (.int 0)) tNil)))))
theorem cut63 (ns : List Int) (h : ns.length ≤ sizeLine) : cutV (ns.map V.int) none (some 63) = (ns.take 63).map V.int := by
  unfold cutV
  simp only [List.length_map]
  have e1 : HT.sIx ns.length 0 none = 0 := rfl
  have e2 : HT.sIx ns.length ns.length (some 63) = min 63 ns.length := by
    first
      | rfl
      | (unfold HT.sIx; simp; done)
      | (unfold HT.sIx; simp; omega)
      | (unfold HT.sIx; simp; split <;> omega)
  rw [e1, e2]
  simp only [List.drop_zero, Nat.sub_zero]
  rw [← List.map_take]
  congr 1
  rw [Nat.min_def]
  split
  · rfl
  · rw [List.take_of_length_le (by omega), List.take_of_length_le (by omega)]
theorem pot_run {K : PySem.W.Frag} {vs : List V} {H : Hp} {Q : VK} {E : XK} (h : spPot K vs H Q E) : tPot K { nx := fun _ H' => Q .non H', rt := Q } (L2.start ["script", "cell"] vs) H := by
  obtain ⟨a, ns, rfl, hs, hn, q⟩ := h
  have hsz : 63 ≤ sizeLine := by decide
  refine ⟨.ref a, rfl, 63, rfl, a, ns.map V.int, rfl, hs, fun t ht => ?_⟩
  rw [cut63 ns hn]
  refine ⟨t, rfl, ⟨_, .inl (.inl upd_same)⟩, fun D hD => ?_⟩
  have hDt : D ≠ t := fun z => by rw [z, upd_same] at hD; cases hD
  have hDH : H D = none := by rw [upd_ne hDt] at hD; exact hD
  refine lc_list (xs := (ns.take 63).map V.int) (fun i H' => (∀ b o, H b = some o → H' b = some o) ∧ H' t = some (.lst ((ns.take 63).map V.int)) ∧ H' D = some (.lst (((ns.take 63).take i).map fun z => V.int (absI z)))) ⟨fun b o e => ?_, ?_, ?_⟩ (fun i H' _ p => SqL.of p.2.1) (fun i x H' hx p => ?_) (fun H' p => ?_)
  · rw [upd_ne (ne_of_none e hDH), upd_ne (ne_of_none e ht)]
    exact e
  · rw [upd_ne (Ne.symm hDt), upd_same]
  · exact upd_same
  · rw [List.getElem?_map] at hx
    cases hz : (ns.take 63)[i]? with
    | none => rw [hz] at hx; cases hx
    | some z =>
      rw [hz] at hx
      cases hx
      refine ⟨rfl, .int z, rfl, z, rfl, ?_⟩
      obtain ⟨p1, p2, p3⟩ := p
      refine ⟨_, p3, ?_, fun b o e => ?_, ?_, ?_⟩
      · rw [List.length_map, List.length_take, List.length_take]
        have : 63 < sizeLine := by decide
        omega
      · rw [upd_ne (ne_of_none e hDH)]; exact p1 b o e
      · rw [upd_ne (Ne.symm hDt)]; exact p2
      · rw [upd_same]
        have e1 : (ns.take 63).take (i + 1) = (ns.take 63).take i ++ [z] := by
          rw [List.take_add_one, hz]
          rfl
        rw [e1, List.map_append]
        rfl
  · obtain ⟨p1, p2, p3⟩ := p
    refine ⟨show 4 ≤ sizeLine by decide, fun q' hq => ?_⟩
    have hDq : D ≠ q' := ne_of_none p3 hq
    refine q D q' _ (fun b o e => ?_) hDq ?_ upd_same
    · rw [upd_ne (ne_of_none (p1 b o e) hq)]
      exact p1 b o e
    · rw [upd_ne hDq, p3, cellsOf]
      have : (ns.take 63).take ((ns.take 63).map V.int).length = ns.take 63 := by
        rw [List.length_map, List.take_length]
      rw [this, List.map_map]
      rfl
section
variable {P : Program} {w : World} {K : PySem.W.Frag} {mg : Str → Option Value} {base : Heap}
theorem ok_pot {CX : CXT} {f : Addr} {fd : FuncData} {params : Arguments} {bd : List Stmt} {sc scope : Scope} {p1 p2 p3 p4 p5 p6 p7 p8 p9 p10 p11 p12 p13 p14 : Pos} {k1 k2 k3 k4 : Nat} (F : FunD K "_law_pot" "_law_pot" params bd sc [] [] f fd) (S : FnScope ["script", "cell"] ["script"] sc)
    (hb : bd = potB p1 p2 p3 p4 p5 p6 p7 p8 p9 p10 p11 p12 p13 p14 k1 k2 k3 k4 scope) (hblk : blkB ["script", "cell"] sc scope [("cell", 1)] = true) (hv : visB sc "script" = true) (hc1 : locB (relS scope sc) "cell" = true) (hc2 : (scope.names.lookup ("cell" : Str) == some .cell || (relS scope sc).names.lookup ("cell" : Str) == some .local) = true)
    (ha : glB (relS scope sc) "abs" = true) (mA : mg "abs" = none) : FnOk P w K mg base CX 1 f fd ["script"] (spPot K) := by
  refine F.ok (CX := CX) S (fun vs H Q E h => ?_) (fun cdv A outer s H vs Q E hr h => ⟨tPot K, ?_, pot_run h⟩)
  · obtain ⟨a, ns, rfl, _⟩ := h
    rfl
  · rw [hb]
    have ok := blkB_ok hblk
    refine pss_one (ps_ret (pe_lst (pa_cons (pe_lc (own := [("cell", 1)]) rfl S.nd (pi_list (pe_slice sl_list (pe_var (i := 0) rfl (visB_vis hv)) po_none (po_some pe_int))) ok (fun s H C cl fp => ?_) (fun s H C cl fp => pts_nil) (fun s H C cl fp => ?_)) (pa_cons pe_int (pa_cons pe_int (pa_cons pe_int pa_nil))))))
    · refine pg_name (i := 1) S.nd rfl (locB_loc hc1) ?_
      rcases Bool.or_eq_true_iff.mp hc2 with z | z
      · exact .inl z
      · exact .inr (eq_of_beq z)
    · exact pe_callB call_abs (glB_gl ha) mA (by decide +kernel) (pa_cons (pe_var (i := 1) rfl (by rcases locB_loc hc1 with z | z; exact .inl z; exact .inr (.inl z))) pa_nil)
/-! the law's def -/
theorem PSs_ex {X : Cx} {sts : List Stmt} {ι : Type} {t : ι → TS} (h : ∀ i, PSs X sts (t i)) : PSs X sts (fun D σ H => ∃ i, t i D σ H) := ⟨fun pins s σ H D I ⟨i, q⟩ => (h i).run pins s σ H D I q⟩
def pot0 (ns : List Int) : Pot := ⟨cellsOf ns, 0, 20011, 0⟩
theorem pot0_ok (ns : List Int) : (pot0 ns).Ok where
  cells := fun c hc => by
    obtain ⟨z, _, rfl⟩ := List.mem_map.mp hc
    unfold absI
    split <;> omega
  used := Int.le_refl 0
  mix0 := show (0 : Int) ≤ 20011 by decide
  mix1 := show (20011 : Int) < 2147483647 by decide
  great := Int.le_refl 0
  few := by
    show (cellsOf ns).length ≤ 63
    simp only [cellsOf, List.length_map, List.length_take]
    omega
/-- what the law's text behind its first row answers -/
def lawSays (Φ : Phi) (b : S) (n : Nat) : Prop := ∀ ns : List Int, ns.length ≤ 63 → ∃ p', (dens Φ b).ss (none :: some (.val .pot) :: List.replicate n none) (pot0 ns) = .ok (.ret (.bl true)) p'
def lawQ : Str := ("law" : Str) ++ (".<locals>." : Str) ++ ("<lambda>" : Str)
def spLaw (K : PySem.W.Frag) (T : List (Addr × Str)) (Φ : Phi) (b : S) (n : Nat) : Sp := fun vs H Q _ => ∃ (a : Addr) (ns : List Int) (p' : Pot), vs = [.ref a] ∧ SqL K H a (ns.map V.int) ∧ LamX.Tabs T H ∧ ns.length ≤ 63 ∧ (dens Φ b).ss (none :: some (.val .pot) :: List.replicate n none) (pot0 ns) = .ok (.ret (.bl true)) p' ∧ ∀ H', Q (.bl true) H'
/-- the rule for a def, with the code object at hand -/
theorem FunD.okC {x qual : Str} {params : Arguments} {body : List Stmt} {scope : Scope} {dvs : List V} {kws : List (Str × V)} {f : Addr} {fd : FuncData} {CX : CXT} {N ps : List Str} {k : Nat} {sp : Sp} (F : FunD K x qual params body scope dvs kws f fd) (S : FnScope N ps scope)
    (len : ∀ vs H Q E, sp vs H Q E → vs.length = ps.length)
    (hbody : ∀ (A : Around) (outer : List Env) (s : Shared) (H : Hp) (vs : List V) (Q : VK) (E : XK), Room k (A.deeper (envOfC qual scope s.heap.objs.size f fd.code)) → sp vs H Q E →
      ∃ t, PSs (cxOf CX P w K mg base N qual scope f fd.code A outer s H E) body t ∧ t { nx := fun _ H' => Q .non H', rt := Q } (start N vs) H) : FnOk P w K mg base CX (k + 1) f fd ps sp := by
  obtain ⟨oc, od, dV, kV, doc, pm, an, cdv, ct, osl, rfl, lk, hcd, _, _⟩ := F.ex
  exact fn_of lk hcd S len fun A outer s H vs Q E hr hsp => hbody A outer s H vs Q E hr hsp
theorem ok_law {k : Nat} {g : Gc} {Φ : Phi} {b : S} {n : Nat} {N : List Str} {params : Arguments} {bd rest : List Stmt} {sc : Scope} {f fp : Addr} {fd fdp : FuncData} {p1 p2 p3 p4 p5 : Pos} {lam : Bool} {T : List (Addr × Str)} (Fd : FunD K "law" "law" params bd sc [] [] f fd) (S : FnScope N ["script"] sc) (hN0 : N[0]? = some ("script" : Str)) (hN1 : N[1]? = some ("pot" : Str)) (hNl : N.length = n + 2)
    (hb : bd = .Assign [.Name "pot" p1] (.Call (.Name "_law_pot" p2) [.Name "script" p3] [] p4) p5 :: rest) (chk : (cs g b).ss { N := N, sc := sc, blk := none, lam := lam } rest = true) (hv : visB sc "script" = true) (hl : locB sc "pot" = true) (hgl : glB sc "_law_pot" = true)
    (fx : Fx g K mg) (fns : ∀ x ∈ g.fns, FnAt P w K mg base k x (Φ x)) (Fp : FnOk P w K mg base (L2.CX P w) 1 fp fdp ["script"] (spPot K)) (mp : mg "_law_pot" = some (.ref fp)) (kp : PySem.W.keepIn K (.ref fp) = true) (bp : L2.Binds K fdp ["script"] []) (hk : 1 ≤ k)
    (hlam : lam = true → (∃ c P, LamX.TabB base mg c P ∧ fd.code = .ref c ∧ T = [(P, lawQ)]) ∧ RsAt K mg g.rsn g.rsh) :
    FnOk P w K mg base (L2.CX P w) (k + 3) f fd ["script"] (spLaw K T Φ b n) := by
  refine FunD.okC Fd S (fun vs H Q E h => ?_) (fun A outer s H vs Q E hr h => ?_)
  · obtain ⟨a, ns, p', rfl, _⟩ := h
    rfl
  · obtain ⟨a, ns, p', rfl, hs, hT, hn, hrun, hQ⟩ := h
    have hX : ∀ q : Addr, StM g { N := N, sc := sc, blk := none, lam := lam } k Φ (cxOf (L2.CX P w) P w K mg base N "law" sc f fd.code A outer s H E) ⟨q, T⟩ := fun q => {
      ct := {
        hN := rfl
        nd := S.nd
        sc := rfl
        kind := S.kind
        calm := rfl
        room := hr.mono (by omega)
        fn := fun _ _ => .inl rfl
        free := fx.free
        fns := fns
        gis := fx.gis
        lam := fun e => by
          obtain ⟨⟨c, P, t1, t2, t3⟩, rs⟩ := hlam e
          refine ⟨⟨c, P, t1, t2, ?_, ?_⟩, hr, rs⟩
          · rw [t3]; exact List.mem_singleton.mpr rfl
          · intro p hp _
            rw [t3] at hp
            rw [List.mem_singleton.mp hp]
            rfl }
      pass := passes_of rfl
      excs := fun x hx => by
        obtain ⟨C, h1, h2, h3, h4, h5⟩ := fx.excs x hx
        exact ⟨C, h1, h2, h3, raises_own h4 h5⟩
      fnT := fun _ => rfl }
    have tk : Takes (cxOf (L2.CX P w) P w K mg base N "law" sc f fd.code A outer s H E) (wx E) := takes_of rfl rfl rfl rfl
    rw [hb]
    have h2 := PSs_ex (ι := (Addr → Prop) × Hp × Addr) (t := fun i => tS mg i.1 i.2.1 ⟨i.2.2, T⟩ E (dens Φ b).ss) fun i => (soundS b).ss _ _ _ (hX i.2.2) i.1 i.2.1 rest chk E tk
    have h1 : PS (cxOf (L2.CX P w) P w K mg base N "law" sc f fd.code A outer s H E) (.Assign [.Name "pot" p1] (.Call (.Name "_law_pot" p2) [.Name "script" p3] [] p4) p5) _ :=
      ps_set (i := 1) S.nd hN1 (locB_loc hl) (pe_call Fp (hr.mono (by omega)) (glB_gl hgl) mp kp bp .nil (fun pins σ H s e s' I c => passes_call tk (fun _ _ _ _ z => z) pins σ H s e s' I c) (pa_cons (pe_var (i := 0) hN0 (visB_vis hv)) pa_nil)) rfl (.inl rfl)
    refine ⟨_, pss_cons h1 h2, ?_⟩
    refine ⟨.ref a, by rw [L2.start]; rfl, a, ns, rfl, hs, ?_, fun ca q H' hkeep hne hca hq => ?_⟩
    · have : 63 ≤ sizeLine := by decide
      omega
    refine ⟨(fun x => x = ca, H', q), fun x => x = ca, none :: some (.val .pot) :: List.replicate n none, pot0 ns, ?_, ?_⟩
    · have bs : Base ⟨q, T⟩ (fun x => x = ca) H' (pot0 ns) := ⟨⟨pot0_ok ns, fun z => hne z.symm, ca, rfl, hq, hca⟩, fun x hx => by
        obtain rfl : x = ca := hx
        exact ⟨_, hca, nt_lst⟩, hT.ext hkeep⟩
      refine ⟨bs, Gr.refl, by simp [L2.start, hNl], fun i sl e => ?_, fun i j d e a' _ h1 => ?_, ⟨_, bs⟩⟩
      · match i, e with
        | 0, e => cases e
        | 1, e =>
          cases e
          refine ⟨.ref q, ?_, rfl⟩
          simp [L2.start, hNl]
        | i + 2, e =>
          have := List.mem_of_getElem? (show (List.replicate n (none : Option Sl))[i]? = some (some sl) from e)
          have := List.eq_of_mem_replicate this
          cases this
      · match i, h1 with
        | 0, h1 => cases h1
        | 1, h1 => cases h1
        | i + 2, h1 =>
          have := List.mem_of_getElem? (show (List.replicate n (none : Option Sl))[i]? = some (some (.own d)) from h1)
          have := List.eq_of_mem_replicate this
          cases this
    · rw [hrun]
      intro v F' H2 _ _ i
      obtain rfl : v = .bl true := i
      exact hQ H2
end
end M

set_option Elab.async false
set_option linter.all false
set_option maxRecDepth 100000
/-! the table of a law's defs, level by level; the facts of its head -/
namespace M
open PySem PySem.Spec PyProof.Rows L2
def callD (T : List Df) : Nat → Phi
  | 0 => fun _ _ _ => .bad
  | k + 1 => fun x => match T.find? fun d => decide (d.nm = x) with
    | some d => runD (callD T k) d
    | none => fun _ _ => .bad
def HasD (g : Gc) (K : PySem.W.Frag) (mg : Str → Option Value) (d : Df) : Prop := ∃ (f : Addr) (fd : FuncData) (params : Arguments) (body : List Stmt) (scope : Scope), FunD K d.nm d.nm params body scope [] [] f fd ∧ mg d.nm = some (.ref f) ∧ DfOk g d params body scope
theorem levels {P : Program} {w : World} {K : PySem.W.Frag} {mg : Str → Option Value} {base : Heap} {g : Gc} {T : List Df} (hT : ∀ d ∈ T, HasD g K mg d) (hg : ∀ x ∈ g.fns, ∃ d ∈ T, d.nm = x) (fx : Fx g K mg) : ∀ (k : Nat), ∀ x ∈ g.fns, FnAt P w K mg base k x (callD T k x)
  | 0, x, hx => by
    obtain ⟨d, hd, rfl⟩ := hg x hx
    obtain ⟨f, fd, params, body, scope, F, hm, ok⟩ := hT d hd
    exact ⟨f, fd, d.N.take d.np, hm, F.kp, F.bindsN ok.bind, ⟨fun vs H Q E ⟨_, _, _, _, _, _, z⟩ => z.elim, fun A outer s H args us vs Q E hr he hb hv ⟨_, _, _, _, _, _, z⟩ => z.elim⟩⟩
  | k + 1, x, hx => by
    obtain ⟨d0, hd0, e0⟩ := hg x hx
    have hs : ∃ d, T.find? (fun d => decide (d.nm = x)) = some d := by
      cases e : T.find? (fun d => decide (d.nm = x)) with
      | some d => exact ⟨d, rfl⟩
      | none =>
        have := List.find?_eq_none.mp e d0 hd0
        exact absurd (decide_eq_true e0) this
    obtain ⟨d, hf⟩ := hs
    have hd : d ∈ T := List.mem_of_find?_eq_some hf
    have hn : d.nm = x := of_decide_eq_true (List.find?_some (p := fun d : Df => decide (d.nm = x)) hf)
    obtain ⟨f, fd, params, body, scope, F, hm, ok⟩ := hT d hd
    have r := def_ok (P := P) (w := w) (base := base) F hm ok fx (levels hT hg fx k)
    have e : callD T (k + 1) x = runD (callD T k) d := by
      show (match T.find? fun d => decide (d.nm = x) with
        | some d => runD (callD T k) d
        | none => fun _ _ => .bad) = _
      rw [hf]
    rw [e, ← hn]
    exact r

/-- the law's end, exceptions of the program's own allowed within -/
theorem walk_ofM {l : PySem.W.OpenLaw} {n k : Nat} {q : Program} {loose : List Str} {XP : (Str → Option Value) → Heap → Prop} {YP : World → Heap → Prop} {d : DefRec} {x : Str}
    (hn : l.most = some n) (hn2 : n ≤ sizeLine) (hdf : d.params.defaults = []) (hr : Room k callerA)
    (F : ∀ (w : World) (mg : Str → Option Value) (fa : Addr) (h : Heap), YP w h → h.Ns mainGlobals mg → mg d.name = some (.ref fa) →
      ∃ (K : PySem.W.Frag) (fd : FuncData) (sp : Sp), K.In h ∧ (∀ (s : Shared) (u : Value), BindsTo s fd ⟨[u], []⟩ [(x, u)]) ∧
        (∀ (H : Hp) (a : Addr) (ns : List Int), ns.length ≤ n → Only H → SqL K H a (ns.map V.int) → sp [.ref a] H (fun v _ => v = .bl true) fun _ _ _ => False) ∧
        ∀ base : Heap, K.In base → base.Ns mainGlobals mg → FnOk l.prog w K mg base (L2.CX l.prog w) k fa fd [x] sp) :
    PySem.W.WalkO q loose XP YP l.row.toRowW d [] (fun f vs => PySem.call f vs) := by
  refine Att.attach_call hn hdf fun w s₀ s₁ mg mb fa o pm cd doc a vs ns G Y ho hd hcd hmg hobj hints hlen hg => ?_
  obtain ⟨K, fd, sp, KX, hb, hsp, hF⟩ := F w mg fa _ Y G.T.g hmg
  refine law_call KX G.T.g G.T.b G.T.builtins G.T.nolimit hg hobj hints (Nat.le_trans hlen hn2) hr hF hb (fun H hO hS => hsp H a ns hlen hO hS) fun H e s' hc => ?_
  obtain ⟨_, _, _, _, _, _, _, _, _, _, _, _, z⟩ := hc
  exact z
/-- the def that tells refusals -/
theorem rsAt_of {K : PySem.W.Frag} {mg : Str → Option Value} {x a b : Str} {hs Ng : List Str} {params : Arguments} {body : List Stmt} {scope : Scope} {f : Addr} {fd : FuncData} {Cf : Str → Addr} (F : FunD K x x params body scope [] [] f fd) (hm : mg x = some (.ref f)) (S : FnScope Ng [a, b] scope) (hrs : rsBody scope a b hs body = true)
    (bind : ∀ (kV doc pm : Value) (an : Option Addr) (cdv ct : Value) (us : List Value), us.length = [a, b].length → bindArgs (PySem.W.fnOf x x params body scope .none kV doc pm an cdv ct) ⟨us, []⟩ = pure ([a, b].zip us))
    (h0 : Ng[0]? = some a) (h1 : Ng[1]? = some b) (hl : Ng.length = 2) (va : visB scope a = true) (vb : visB scope b = true) (na : nmOk a = true) (nb : nmOk b = true) (hc : ∀ y ∈ hs, mg y = some (.ref (Cf y))) (he : ∀ y ∈ hs, ∀ z ∈ hs, PySem.W.exmOne K (.ref (Cf y)) (.ref (Cf z)) = some (decide (y = z))) : RsAt K mg x hs := by
  have B := F.bindsN bind
  have kp := F.kp
  obtain ⟨oc, od, dV, kV, doc, pm, an, cdv, ct, osl, rfl, lk, hcd, _, _⟩ := F.ex
  exact ⟨f, params, body, scope, dV, kV, doc, pm, cdv, ct, oc, an, od, osl, Ng, a, b, Cf, hm, kp, lk, hcd, B, S, h0, visB_vis va, hrs, h1, visB_vis vb, nmOk_1 na, nmOk_2 na, nmOk_1 nb, nmOk_2 nb, hl, hc, he⟩
theorem code_of {K : PySem.W.Frag} {x qual : Str} {params : Arguments} {body : List Stmt} {scope : Scope} {dvs : List V} {kws : List (Str × V)} {fd : FuncData} {p : Str × Option Str} (F : FunD K x qual params body scope dvs kws (He.fAd K p) fd) : fd.code = .ref (He.cT K p).1 := by
  obtain ⟨oc, od, dV, kV, doc, pm, an, cdv, ct, osl, rfl, lk, hcd, _, _⟩ := F.ex
  obtain ⟨c, e⟩ := He.codeIn_ref hcd
  subst e
  exact congrArg Value.ref (He.codeOf_eq lk rfl).symm
end M

set_option Elab.async false
set_option linter.all false
set_option maxRecDepth 100000
/-! reading a text's meaning: the simp set, comprehensions, loops -/
namespace M
open PySem PySem.Spec PyProof.Rows L2
section
variable {α β : Type}
@[simp ↓] theorem bind_def (r : Res α) (f : α → Pot → Res β) : r.bind f = (match r with
  | .ok a p => f a p
  | .exc c p => .exc c p
  | .bad => .bad) := rfl
theorem bind_ok (a : α) (p : Pot) (f : α → Pot → Res β) : (Res.ok a p).bind f = f a p := rfl
@[simp] theorem ofO_some (a : α) (p : Pot) : ofO (some a) p = .ok a p := rfl
@[simp] theorem ofO_none (p : Pot) : (ofO none p : Res α) = .bad := rfl
end
theorem pos {k n : Nat} (h : n + 1 ≤ k) : ∃ j, k = j + 1 ∧ n ≤ j := ⟨k - 1, by omega, by omega⟩
/-! comprehensions -/
theorem compR_map {tg : D → En → Option En} {cond : En → Pot → Res Bool} {elt : En → Pot → Res D} {ρ : En} {p : Pot} (f : D → D) : ∀ {xs : List D}, (∀ x ∈ xs, ∃ ρ1, tg x ρ = some ρ1 ∧ cond ρ1 p = .ok true p ∧ elt ρ1 p = .ok (f x) p) → compR tg cond elt ρ xs p = .ok (xs.map f) p
  | [], _ => rfl
  | x :: xs, h => by
    obtain ⟨ρ1, h1, h2, h3⟩ := h x List.mem_cons_self
    simp only [compR, h1, h2, h3]
    rw [compR_map f fun y hy => h y (List.mem_cons_of_mem _ hy)]
    rfl
theorem compR_filter {tg : D → En → Option En} {cond : En → Pot → Res Bool} {elt : En → Pot → Res D} {ρ : En} {p : Pot} (f : D → D) (c : D → Bool) : ∀ {xs : List D}, (∀ x ∈ xs, ∃ ρ1, tg x ρ = some ρ1 ∧ cond ρ1 p = .ok (c x) p ∧ (c x = true → elt ρ1 p = .ok (f x) p)) → compR tg cond elt ρ xs p = .ok ((xs.filter c).map f) p
  | [], _ => rfl
  | x :: xs, h => by
    obtain ⟨ρ1, h1, h2, h3⟩ := h x List.mem_cons_self
    have ih := compR_filter f c (p := p) (elt := elt) (cond := cond) (ρ := ρ) (tg := tg) fun y hy => h y (List.mem_cons_of_mem _ hy)
    cases hc : c x with
    | true => simp only [compR, h1, h2, hc, h3 hc, ih, Res.bind, List.filter_cons_of_pos, List.map_cons]
    | false =>
      have : ¬ c x = true := by rw [hc]; simp
      simp only [compR, h1, h2, hc, ih, Res.bind, List.filter_cons_of_neg this]
/-- with draws in the element: a property of each -/
theorem compR_drawn {tg : D → En → Option En} {cond : En → Pot → Res Bool} {elt : En → Pot → Res D} {ρ : En} {I : Pot → Prop} (P : D → D → Prop) : ∀ {xs : List D} {p : Pot}, I p → (∀ x ∈ xs, ∀ p, I p → ∃ ρ1, tg x ρ = some ρ1 ∧ cond ρ1 p = .ok true p ∧ ∃ d p', elt ρ1 p = .ok d p' ∧ I p' ∧ P x d) →
    ∃ ds p', compR tg cond elt ρ xs p = .ok ds p' ∧ I p' ∧ ds.length = xs.length ∧ ∀ (i : Nat) (x d : D), xs[i]? = some x → ds[i]? = some d → P x d
  | [], p, hp, _ => ⟨[], p, rfl, hp, rfl, fun i x d h => by simp at h⟩
  | x :: xs, p, hp, h => by
    obtain ⟨ρ1, h1, h2, d, p1, h3, h4, h5⟩ := h x List.mem_cons_self p hp
    obtain ⟨ds, p2, q1, q2, q3, q4⟩ := compR_drawn P h4 fun y hy => h y (List.mem_cons_of_mem _ hy)
    refine ⟨d :: ds, p2, by simp only [compR, h1, h2, h3, q1, Res.bind], q2, by simp [q3], fun i y e a b => ?_⟩
    cases i with
    | zero => simp at a b; subst a; subst b; exact h5
    | succ i => exact q4 i y e (by simpa using a) (by simpa using b)
/-- with draws in the test -/
theorem compR_sieved {tg : D → En → Option En} {cond : En → Pot → Res Bool} {elt : En → Pot → Res D} {ρ : En} {I : Pot → Prop} (f : D → D) : ∀ {xs : List D} {p : Pot}, I p → (∀ x ∈ xs, ∀ p, I p → ∃ ρ1, tg x ρ = some ρ1 ∧ ∃ b p', cond ρ1 p = .ok b p' ∧ I p' ∧ elt ρ1 p' = .ok (f x) p') →
    ∃ (ys : List D) (p' : Pot), compR tg cond elt ρ xs p = .ok (ys.map f) p' ∧ I p' ∧ ys.Sublist xs
  | [], p, hp, _ => ⟨[], p, rfl, hp, List.Sublist.slnil⟩
  | x :: xs, p, hp, h => by
    obtain ⟨ρ1, h1, b, p1, h2, h4, h3⟩ := h x List.mem_cons_self p hp
    obtain ⟨ys, p2, q1, q2, q3⟩ := compR_sieved f h4 fun y hy => h y (List.mem_cons_of_mem _ hy)
    cases b with
    | true => exact ⟨x :: ys, p2, by simp only [compR, h1, h2, h3, q1, Res.bind, List.map_cons], q2, q3.cons₂ x⟩
    | false => exact ⟨ys, p2, by simp only [compR, h1, h2, q1], q2, q3.cons x⟩
theorem fin_ok {ds : List D} {p : Pot} (h : ds.length ≤ sizeLine) : fin [] (.ok ds p) = .ok (.lst ds) p := by
  unfold fin
  simp [h]
/-! loops -/
theorem forR_inv {σ : Type} {tg : D → En → Option En} {body : En → Pot → Res Out} {w : List Nat} {p : Pot} (enc : σ → En) (step : σ → D → σ) : ∀ {xs : List D} {s : σ}, (∀ i x, xs[i]? = some x → ∃ ρ1 ρ2, tg x (enc ((xs.take i).foldl step s)) = some ρ1 ∧ body ρ1 p = .ok (.nx ρ2) p ∧ wipeE ρ2 w = enc (step ((xs.take i).foldl step s) x)) →
    forR tg body w xs (enc s) p = .ok (.nx (enc (xs.foldl step s))) p
  | [], s, _ => rfl
  | x :: xs, s, h => by
    obtain ⟨ρ1, ρ2, h1, h2, h3⟩ := h 0 x rfl
    simp only [List.take_zero, List.foldl_nil] at h1 h3
    simp only [forR, h1, h2, turnEnd, Res.bind, h3, List.foldl_cons]
    exact forR_inv enc step fun i y hy => by
      obtain ⟨r1, r2, q1, q2, q3⟩ := h (i + 1) y (by simpa using hy)
      exact ⟨r1, r2, by simpa using q1, q2, by simpa using q3⟩
/-- by the turn's number: the state after i turns -/
theorem forR_at {tg : D → En → Option En} {body : En → Pot → Res Out} {w : List Nat} {p : Pot} (st : Nat → En) {xs : List D} (h : ∀ i x, xs[i]? = some x → ∃ ρ1 ρ2, tg x (st i) = some ρ1 ∧ body ρ1 p = .ok (.nx ρ2) p ∧ wipeE ρ2 w = st (i + 1)) :
    forR tg body w xs (st 0) p = .ok (.nx (st xs.length)) p := by
  have key : ∀ (n : Nat) (i : Nat), xs.length - i = n → i ≤ xs.length → forR tg body w (xs.drop i) (st i) p = .ok (.nx (st xs.length)) p := by
    intro n
    induction n with
    | zero =>
      intro i hn hi
      obtain rfl : i = xs.length := by omega
      rw [List.drop_length]
      rfl
    | succ n ih =>
      intro i hn hi
      have hlt : i < xs.length := by omega
      obtain ⟨ρ1, ρ2, h1, h2, h3⟩ := h i xs[i] (List.getElem?_eq_getElem hlt)
      rw [List.drop_eq_getElem_cons hlt]
      simp only [forR, h1, h2, turnEnd, Res.bind, h3]
      exact ih (i + 1) (by omega) hlt
  have := key xs.length 0 (by omega) (Nat.zero_le _)
  simpa using this
/-- with draws: an invariant of the pot, the same slots each turn -/
theorem forR_pot {tg : D → En → Option En} {body : En → Pot → Res Out} {w : List Nat} {I : Pot → Prop} {ρ : En} : ∀ {xs : List D} {p : Pot}, I p → (∀ x ∈ xs, ∀ p, I p → ∃ ρ1 ρ2 p', tg x ρ = some ρ1 ∧ body ρ1 p = .ok (.nx ρ2) p' ∧ wipeE ρ2 w = ρ ∧ I p') → ∃ p', forR tg body w xs ρ p = .ok (.nx ρ) p' ∧ I p'
  | [], p, hp, _ => ⟨p, rfl, hp⟩
  | x :: xs, p, hp, h => by
    obtain ⟨ρ1, ρ2, p1, h1, h2, h3, h4⟩ := h x List.mem_cons_self p hp
    obtain ⟨p2, q1, q2⟩ := forR_pot h4 fun y hy => h y (List.mem_cons_of_mem _ hy)
    exact ⟨p2, by simp only [forR, h1, h2, turnEnd, Res.bind, h3, q1], q2⟩
/-! lists of data -/
theorem exists_ints {ds : List D} {Q : Int → Prop} (h : ∀ d ∈ ds, ∃ i, d = .int i ∧ Q i) : ∃ ns : List Int, ds = ns.map D.int ∧ ∀ n ∈ ns, Q n := by
  induction ds with
  | nil => exact ⟨[], rfl, fun _ z => nomatch z⟩
  | cons d ds ih =>
    obtain ⟨i, rfl, hi⟩ := h d List.mem_cons_self
    obtain ⟨ns, rfl, hn⟩ := ih fun e he => h e (List.mem_cons_of_mem _ he)
    refine ⟨i :: ns, rfl, fun n hn' => ?_⟩
    rcases List.mem_cons.mp hn' with rfl | z
    · exact hi
    · exact hn n z
theorem ixN_nat {n i : Nat} (h : i < n) : ixN n (i : Int) = some i := by
  unfold ixN
  rw [if_pos (by omega), if_pos (by omega)]
  all_goals rfl
theorem atI_nat {α : Type} {xs : List α} {i : Nat} : i < xs.length → atI xs (i : Int) = xs[i]? := fun h => by
  unfold atI
  rw [ixN_nat h]
  rfl
theorem eqb_refl : ∀ d : D, dat 64 d = true → eqb d d = true := by
  have key : ∀ n, (∀ d : D, dat n d = true → eqb d d = true) ∧ ∀ ds : List D, dats n ds = true → eqbs ds ds = true := by
    intro n
    induction n with
    | zero =>
      have h1 : ∀ d : D, dat 0 d = true → eqb d d = true := fun d h => by cases d <;> simp_all [dat, eqb]
      refine ⟨h1, fun ds => ?_⟩
      induction ds with
      | nil => intro _; rfl
      | cons d ds ih =>
        intro h
        simp only [dats, Bool.and_eq_true] at h
        simp only [eqbs, Bool.and_eq_true]
        exact ⟨h1 d h.1, ih h.2⟩
    | succ n ihn =>
      have h1 : ∀ d : D, dat (n + 1) d = true → eqb d d = true := fun d h => by
        cases d with
        | tup ds => simp only [dat] at h; simp only [eqb]; exact ihn.2 ds h
        | lst ds => simp only [dat] at h; simp only [eqb]; exact ihn.2 ds h
        | _ => simp_all [dat, eqb]
      refine ⟨h1, fun ds => ?_⟩
      induction ds with
      | nil => intro _; rfl
      | cons d ds ih =>
        intro h
        simp only [dats, Bool.and_eq_true] at h
        simp only [eqbs, Bool.and_eq_true]
        exact ⟨h1 d h.1, ih h.2⟩
  exact fun d h => (key 64).1 d h
theorem ixD_tup {xs : List D} {n : Nat} {d : D} (h : xs[n]? = some d) : ixD (.tup xs) (.int (n : Int)) = some d := by
  have hn : n < xs.length := by
    rcases Nat.lt_or_ge n xs.length with z | z
    · exact z
    · rw [List.getElem?_eq_none z] at h; cases h
  show atI xs (n : Int) = some d
  rw [atI_nat hn, h]
theorem ixD_lst {xs : List D} {n : Nat} {d : D} (h : xs[n]? = some d) : ixD (.lst xs) (.int (n : Int)) = some d := ixD_tup h
theorem ixD_tup0 {d : D} {xs : List D} : ixD (.tup (d :: xs)) (.int 0) = some d := ixD_tup (n := 0) rfl
theorem ixD_tup1 {d e : D} {xs : List D} : ixD (.tup (d :: e :: xs)) (.int 1) = some e := ixD_tup (n := 1) rfl
theorem ixD_tup2 {d e f : D} {xs : List D} : ixD (.tup (d :: e :: f :: xs)) (.int 2) = some f := ixD_tup (n := 2) rfl
theorem ixD_lst0 {d : D} {xs : List D} : ixD (.lst (d :: xs)) (.int 0) = some d := ixD_tup (n := 0) rfl
theorem ixD_lst1 {d e : D} {xs : List D} : ixD (.lst (d :: e :: xs)) (.int 1) = some e := ixD_tup (n := 1) rfl
theorem map_get {α : Type} {f : α → D} {xs : List α} {n : Nat} {x : α} (h : xs[n]? = some x) : (xs.map f)[n]? = some (f x) := by rw [List.getElem?_map, h]; rfl
theorem rng_ok {i : Int} (h1 : -1000000 ≤ i) (h2 : i ≤ 1000000) : rgOk i = true := by
  exact bnd_of (by omega)
theorem small {n : Nat} (h : n ≤ 1000) : n ≤ sizeLine := Nat.le_trans h (by decide)
theorem blsOf_const {α : Type} (xs : List α) (b : Bool) : blsOf (xs.map fun _ => D.bl b) = some (xs.map fun _ => b) := by
  induction xs with
  | nil => rfl
  | cons x xs ih => simp [blsOf, ih]
theorem all_const {α : Type} (xs : List α) : allD (.lst (xs.map fun _ => D.bl true)) = some (.bl true) := by
  show (blsOf (xs.map fun _ => D.bl true)).map (fun bs => D.bl (bs.all id)) = _
  rw [blsOf_const]
  simp
@[simp] theorem le_size {n : Nat} (h : n ≤ 1000) : (n ≤ sizeLine) = True := eq_true (small h)
/-! by stages -/
theorem step {Φ : Phi} {s r : S} {ρ ρ1 : En} {p p1 : Pot} {x : Res Out} (h : (dens Φ s).s ρ p = .ok (.nx ρ1) p1) (k : (dens Φ r).ss ρ1 p1 = x) : (dens Φ (.cons s r)).ss ρ p = x := by
  show ((dens Φ s).s ρ p).bind _ = x
  rw [h]
  exact k
theorem last {Φ : Phi} {s r : S} {ρ : En} {p p1 : Pot} {d : D} (h : (dens Φ s).s ρ p = .ok (.ret d) p1) : (dens Φ (.cons s r)).ss ρ p = .ok (.ret d) p1 := by
  show ((dens Φ s).s ρ p).bind _ = _
  rw [h]
  rfl
theorem done {Φ : Phi} {ρ : En} {p : Pot} : (dens Φ .nil).ss ρ p = .ok (.nx ρ) p := rfl
theorem run_ret {Φ : Phi} {d : Df} {ss : List Sl} {p p1 : Pot} {x : D} (hl : ss.length = d.np) (h : (dens Φ d.body).ss (entry d.N.length ss) p = .ok (.ret x) p1) : runD Φ d ss p = .ok x p1 := by
  unfold runD
  rw [if_pos hl, h]
theorem for_run {Φ : Phi} {t : Tg} {it : E} {a : S} {w : List Nat} {ρ ρ1 : En} {p p1 p2 : Pot} {xs : List D} (h : (den Φ it).i ρ p = .ok xs p1) (k : forR t.asg (dens Φ a).ss w xs (wipeE ρ w) p1 = .ok (.nx ρ1) p2) : (dens Φ (.for_ t it a w)).s ρ p = .ok (.nx ρ1) p2 := by
  show ((den Φ it).i ρ p).bind _ = _
  rw [h]
  exact k
theorem comp_run {Φ : Phi} {t : Tg} {it c e : E} {own : List (Str × Nat)} {ρ : En} {p p1 p2 : Pot} {xs ds : List D} (h : (den Φ it).i ρ p = .ok xs p1) (k : compR t.asg (den Φ c).c (den Φ e).e (wipeE ρ (own.map (·.2))) xs p1 = .ok ds p2) (hl : ds.length ≤ 1000) : (den Φ (.comp t it c e own)).e ρ p = .ok (.lst ds) p2 := by
  show ((den Φ it).i ρ p).bind (fun xs p1 => fin [] (compR t.asg (den Φ c).c (den Φ e).e (wipeE ρ (own.map (·.2))) xs p1)) = _
  rw [h]
  show fin [] (compR t.asg (den Φ c).c (den Φ e).e (wipeE ρ (own.map (·.2))) xs p1) = _
  rw [k, fin_ok (small hl)]
theorem lstEnd_ok {ds : List D} {p : Pot} (h : ds.length ≤ 1000) : lstEnd (some ds) p = .ok (.lst ds) p := by
  unfold lstEnd
  exact if_pos (small h)
end M

set_option Elab.async false
set_option linter.all false
set_option maxRecDepth 100000
set_option maxHeartbeats 2000000
/-! the texts of tramforks_k02_whole_ways, printed by wip/gen.py -/
namespace M.T
open PySem PySem.Spec PyProof.Rows L2
def top (i : Nat) : Stmt := PySem.Challenge.pw_tramforks_k02_whole_ways.main.body.getD i (.Pass ⟨0, 0, 0, 0⟩)
def g : Gc := { fns := (["is_number", "is_row", "do_rise", "is_track", "is_net", "need_net", "need_place", "near_places", "time_between", "is_way", "way_time", "time_of", "ways", "times_from", "least_time", "quickest", "_law_draw", "_law_pick", "_law_same", "_law_odd", "_law_bent", "_law_within", "_law_unlike", "_law_net", "_law_is_net"] : List Str) ++ (["_law_near", "_law_all_ways", "_law_is_way"] : List Str), gis := [("MOST_PLACES", 8), ("MOST_TIME", 9)], free := ["abs", "all", "bool", "dict", "int", "isinstance", "len", "list", "max", "min", "range", "set", "sorted", "str", "sum", "tuple"], excs := ["NoNet", "NotThere"], rsn := "_law_raises", rsh := ["NoNet", "NotThere"] }
@[simp] def b_is_number : S := (.cons (.ret (.ands (.cons (.isi (.v 0) .int) (.cons (.nt (.isi (.v 0) .bool)) (.cons (.chain .le .le (.v 1) (.v 0) (.v 2)) .nil)))))
    .nil)
@[simp] def d_is_number : Df := ⟨"is_number", ["value", "least", "most"], 3, b_is_number⟩
@[simp] def b_is_row : S := (.cons (.iff (.tOrs (.cons (.tNot (.tTru (.isi (.v 0) .tuple))) (.cons (.tNot (.tChain .le .le (.v 1) (.blt .len (.cons (.v 0) .nil)) (.v 2))) .nil)))
    (.cons (.ret (.bl false))
    .nil)
    .nil)
    (.cons (.ret (.blt .all (.cons (.comp (.nm 5) (.iE (.v 0)) .nil (.call "is_number" (.cons (.v 5) (.cons (.v 3) (.cons (.v 4) .nil)))) [("one", 5)]) .nil)))
    .nil))
@[simp] def d_is_row : Df := ⟨"is_row", ["value", "least", "most", "low", "high", "one"], 5, b_is_row⟩
@[simp] def b_do_rise : S := (.cons (.ret (.blt .all (.cons (.comp (.nm 1) (.iRange (.cons (.bin .sub (.blt .len (.cons (.v 0) .nil)) (.int 1)) .nil)) .nil (.cmp .lt (.ix (.v 0) (.v 1)) (.ix (.v 0) (.bin .add (.v 1) (.int 1)))) [("at", 1)]) .nil)))
    .nil)
@[simp] def d_do_rise : Df := ⟨"do_rise", ["value", "at"], 1, b_do_rise⟩
@[simp] def b_is_track : S := (.cons (.iff (.tOrs (.cons (.tNot (.tTru (.isi (.v 1) .tuple))) (.cons (.tCmp .ne (.blt .len (.cons (.v 1) .nil)) (.int 3)) (.cons (.tNot (.tTru (.call "is_row" (.cons (.sl (.v 1) .nil (.pt (.int 2))) (.cons (.int 2) (.cons (.int 2) (.cons (.int 0) (.cons (.bin .sub (.v 0) (.int 1)) .nil)))))))) .nil))))
    (.cons (.ret (.bl false))
    .nil)
    .nil)
    (.cons (.ret (.ands (.cons (.cmp .lt (.ix (.v 1) (.int 0)) (.ix (.v 1) (.int 1))) (.cons (.call "is_number" (.cons (.ix (.v 1) (.int 2)) (.cons (.int 1) (.cons (.gint "MOST_TIME" 9) .nil)))) .nil))))
    .nil))
@[simp] def d_is_track : Df := ⟨"is_track", ["many", "value"], 2, b_is_track⟩
@[simp] def b_is_net : S := (.cons (.iff (.tOrs (.cons (.tNot (.tTru (.isi (.v 0) .tuple))) (.cons (.tCmp .ne (.blt .len (.cons (.v 0) .nil)) (.int 2)) (.cons (.tNot (.tTru (.call "is_row" (.cons (.ix (.v 0) (.int 0)) (.cons (.int 1) (.cons (.gint "MOST_PLACES" 8) (.cons (.int 1) (.cons (.int 3) .nil)))))))) .nil))))
    (.cons (.ret (.bl false))
    .nil)
    .nil)
    (.cons (.set 1 (.ix (.v 0) (.int 1)))
    (.cons (.iff (.tOrs (.cons (.tNot (.tTru (.isi (.v 1) .tuple))) (.cons (.tNot (.tTru (.blt .all (.cons (.comp (.nm 2) (.iE (.v 1)) .nil (.call "is_track" (.cons (.blt .len (.cons (.ix (.v 0) (.int 0)) .nil)) (.cons (.v 2) .nil))) [("track", 2)]) .nil)))) .nil)))
    (.cons (.ret (.bl false))
    .nil)
    .nil)
    (.cons (.ret (.call "do_rise" (.cons (.blt .tuple (.cons (.comp (.nm 2) (.iE (.v 1)) .nil (.sl (.v 2) .nil (.pt (.int 2))) [("track", 2)]) .nil)) .nil)))
    .nil))))
@[simp] def d_is_net : Df := ⟨"is_net", ["value", "tracks", "track"], 1, b_is_net⟩
@[simp] def b_need_net : S := (.cons (.iff (.tNot (.tTru (.call "is_net" (.cons (.v 0) .nil))))
    (.cons (.raise "NoNet")
    .nil)
    .nil)
    .nil)
@[simp] def d_need_net : Df := ⟨"need_net", ["net"], 1, b_need_net⟩
@[simp] def b_need_place : S := (.cons (.expr (.call "need_net" (.cons (.v 0) .nil)))
    (.cons (.iff (.tNot (.tTru (.call "is_number" (.cons (.v 1) (.cons (.int 0) (.cons (.bin .sub (.blt .len (.cons (.ix (.v 0) (.int 0)) .nil)) (.int 1)) .nil))))))
    (.cons (.raise "NotThere")
    .nil)
    .nil)
    .nil))
@[simp] def d_need_place : Df := ⟨"need_place", ["net", "place"], 2, b_need_place⟩
@[simp] def b_near_places : S := (.cons (.own 2 (.comp (.tup [(.nm 3), (.nm 4), (.nm 5)]) (.iE (.ix (.v 0) (.int 1))) (.pt (.tCmp .eq (.v 3) (.v 1))) (.tup (.cons (.v 4) (.cons (.v 5) .nil))) [("one", 3), ("other", 4), ("time", 5)]))
    (.cons (.ext 2 (.comp (.tup [(.nm 3), (.nm 4), (.nm 5)]) (.iE (.ix (.v 0) (.int 1))) (.pt (.tCmp .eq (.v 4) (.v 1))) (.tup (.cons (.v 3) (.cons (.v 5) .nil))) [("one", 3), ("other", 4), ("time", 5)]))
    (.cons (.ret (.blt .tuple (.cons (.srt (.cons (.b 2) .nil)) .nil)))
    .nil)))
@[simp] def d_near_places : Df := ⟨"near_places", ["net", "place", "found", "one", "other", "time"], 2, b_near_places⟩
def l1_time_between : S := (.cons (.iff (.tCmp .eq (.sl (.v 3) .nil (.pt (.int 2))) (.tup (.cons (.blt .min2 (.cons (.v 1) (.cons (.v 2) .nil))) (.cons (.blt .max2 (.cons (.v 1) (.cons (.v 2) .nil))) .nil))))
    (.cons (.ret (.ix (.v 3) (.int 2)))
    .nil)
    .nil)
    .nil)
@[simp] def b_time_between : S := (.cons (.for_ (.nm 3) (.iE (.ix (.v 0) (.int 1))) l1_time_between [3])
    (.cons (.ret (.int 0))
    .nil))
@[simp] def d_time_between : Df := ⟨"time_between", ["net", "one", "other", "track"], 3, b_time_between⟩
@[simp] def b_is_way : S := (.cons (.iff (.tOrs (.cons (.tNot (.tTru (.call "is_net" (.cons (.v 0) .nil)))) (.cons (.tNot (.tTru (.call "is_row" (.cons (.v 1) (.cons (.int 1) (.cons (.gint "MOST_PLACES" 8) (.cons (.int 0) (.cons (.bin .sub (.blt .len (.cons (.ix (.v 0) (.int 0)) .nil)) (.int 1)) .nil)))))))) (.cons (.tCmp .lt (.lset (.v 1)) (.blt .len (.cons (.v 1) .nil))) .nil))))
    (.cons (.ret (.bl false))
    .nil)
    .nil)
    (.cons (.ret (.blt .all (.cons (.comp (.nm 2) (.iRange (.cons (.bin .sub (.blt .len (.cons (.v 1) .nil)) (.int 1)) .nil)) .nil (.cmp .gt (.call "time_between" (.cons (.v 0) (.cons (.ix (.v 1) (.v 2)) (.cons (.ix (.v 1) (.bin .add (.v 2) (.int 1))) .nil)))) (.int 0)) [("at", 2)]) .nil)))
    .nil))
@[simp] def d_is_way : Df := ⟨"is_way", ["net", "value", "at"], 2, b_is_way⟩
@[simp] def b_way_time : S := (.cons (.expr (.call "need_net" (.cons (.v 0) .nil)))
    (.cons (.iff (.tNot (.tTru (.call "is_way" (.cons (.v 0) (.cons (.v 1) .nil)))))
    (.cons (.raise "NotThere")
    .nil)
    .nil)
    (.cons (.ret (.call "time_of" (.cons (.v 0) (.cons (.v 1) .nil))))
    .nil)))
@[simp] def d_way_time : Df := ⟨"way_time", ["net", "way"], 2, b_way_time⟩
@[simp] def b_time_of : S := (.cons (.ret (.blt .sum (.cons (.comp (.nm 2) (.iRange (.cons (.bin .sub (.blt .len (.cons (.v 1) .nil)) (.int 1)) .nil)) .nil (.call "time_between" (.cons (.v 0) (.cons (.ix (.v 1) (.v 2)) (.cons (.ix (.v 1) (.bin .add (.v 2) (.int 1))) .nil)))) [("at", 2)]) .nil)))
    .nil)
@[simp] def d_time_of : Df := ⟨"time_of", ["net", "way", "at"], 2, b_time_of⟩
def l1_ways : S := (.cons (.iff (.tAnds (.cons (.tCmp .notin (.v 8) (.v 6)) (.cons (.tCmp .le (.bin .add (.v 7) (.v 9)) (.v 3)) .nil)))
    (.cons (.app 5 (.tup (.cons (.bin .add (.v 6) (.tup (.cons (.v 8) .nil))) (.cons (.bin .add (.v 7) (.v 9)) .nil))))
    .nil)
    .nil)
    .nil)
def l2_ways : S := (.cons (.pop (.tup [(.nm 6), (.nm 7)]) 5)
    (.cons (.iff (.tCmp .eq (.ix (.v 6) (.neg (.int 1))) (.v 2))
    (.cons (.app 4 (.v 6))
    .nil)
    (.cons (.for_ (.tup [(.nm 8), (.nm 9)]) (.iE (.call "near_places" (.cons (.v 0) (.cons (.ix (.v 6) (.neg (.int 1))) .nil)))) l1_ways [8, 9])
    .nil))
    .nil))
@[simp] def b_ways : S := (.cons (.expr (.call "need_place" (.cons (.v 0) (.cons (.v 1) .nil))))
    (.cons (.expr (.call "need_place" (.cons (.v 0) (.cons (.v 2) .nil))))
    (.cons (.iff (.tNot (.tTru (.call "is_number" (.cons (.v 3) (.cons (.int 0) (.cons (.int 99) .nil))))))
    (.cons (.raise "NotThere")
    .nil)
    .nil)
    (.cons (.own 4 (.lst .nil))
    (.cons (.own 5 (.lst (.cons (.tup (.cons (.tup (.cons (.v 1) .nil)) (.cons (.int 0) .nil))) .nil)))
    (.cons (.whl (.tCmp .gt (.blt .len (.cons (.b 5) .nil)) (.int 0)) l2_ways [6, 7, 8, 9])
    (.cons (.ret (.blt .tuple (.cons (.srt (.cons (.b 4) .nil)) .nil)))
    .nil)))))))
@[simp] def d_ways : Df := ⟨"ways", ["net", "start", "end", "most", "found", "stack", "way", "time", "other", "more"], 4, b_ways⟩
def l1_times_from : S := (.cons (.iff (.tAnds (.cons (.tCmp .isin (.v 7) (.b 2)) (.cons (.tCmp .gt (.get2 (.b 2) (.v 8) (.int 999)) (.bin .add (.ix (.b 2) (.v 7)) (.v 6))) .nil)))
    (.cons (.put 2 (.bin .add (.ix (.b 2) (.v 7)) (.v 6)) (.v 8))
    (.cons (.set 3 (.bl true))
    .nil))
    .nil)
    .nil)
def l2_times_from : S := (.cons (.for_ (.tup [(.nm 7), (.nm 8)]) (.iE (.tup (.cons (.tup (.cons (.v 4) (.cons (.v 5) .nil))) (.cons (.tup (.cons (.v 5) (.cons (.v 4) .nil))) .nil)))) l1_times_from [7, 8])
    .nil)
def l3_times_from : S := (.cons (.set 3 (.bl false))
    (.cons (.for_ (.tup [(.nm 4), (.nm 5), (.nm 6)]) (.iE (.ix (.v 0) (.int 1))) l2_times_from [4, 5, 6, 7, 8])
    .nil))
@[simp] def b_times_from : S := (.cons (.own 2 (.dict1 (.v 1) (.int 0)))
    (.cons (.set 3 (.bl true))
    (.cons (.whl (.tTru (.v 3)) l3_times_from [4, 5, 6, 7, 8])
    (.cons (.retO 2)
    .nil))))
@[simp] def d_times_from : Df := ⟨"times_from", ["net", "start", "found", "is_changed", "one", "other", "time", "first", "second"], 2, b_times_from⟩
@[simp] def b_least_time : S := (.cons (.expr (.call "need_place" (.cons (.v 0) (.cons (.v 1) .nil))))
    (.cons (.expr (.call "need_place" (.cons (.v 0) (.cons (.v 2) .nil))))
    (.cons (.ret (.get1 (.call "times_from" (.cons (.v 0) (.cons (.v 1) .nil))) (.v 2)))
    .nil)))
@[simp] def d_least_time : Df := ⟨"least_time", ["net", "start", "end"], 3, b_least_time⟩
@[simp] def b_quickest : S := (.cons (.set 3 (.call "least_time" (.cons (.v 0) (.cons (.v 1) (.cons (.v 2) .nil)))))
    (.cons (.ret (.ite (.tCmp .is_ (.v 3) .non) .non (.blt .min1 (.cons (.comp (.nm 4) (.iE (.call "ways" (.cons (.v 0) (.cons (.v 1) (.cons (.v 2) (.cons (.v 3) .nil)))))) (.pt (.tCmp .eq (.call "time_of" (.cons (.v 0) (.cons (.v 4) .nil))) (.v 3))) (.v 4) [("way", 4)]) .nil))))
    .nil))
@[simp] def d_quickest : Df := ⟨"quickest", ["net", "start", "end", "time", "way"], 3, b_quickest⟩
@[simp] def b__law_draw : S := (.cons (.iff (.tCmp .lt (.v 1) (.int 2))
    (.cons (.ret (.int 0))
    .nil) .nil)
    (.cons (.iff (.tCmp .gt (.pGet 0 3) (.int 0))
    (.cons (.set 2 (.bin .mod (.blt .int (.cons (.pGet 0 3) .nil)) (.v 1)))
    (.cons (.pSet 0 3 (.bin .fdiv (.pGet 0 3) (.v 1)))
    (.cons (.ret (.v 2))
    .nil))) .nil)
    (.cons (.set 3 (.int 0))
    (.cons (.iff (.tCmp .lt (.pGet 0 1) (.blt .len (.cons (.pGet 0 0) .nil)))
    (.cons (.set 3 (.ix (.pGet 0 0) (.pGet 0 1)))
    (.cons (.pSet 0 1 (.bin .add (.pGet 0 1) (.int 1)))
    (.cons (.iff (.tCmp .ge (.v 3) (.bin .pow (.int 10) (.int 18)))
    (.cons (.pSet 0 3 (.bin .fdiv (.v 3) (.v 1)))
    (.cons (.ret (.bin .mod (.blt .int (.cons (.v 3) .nil)) (.v 1)))
    .nil)) .nil)
    .nil))) .nil)
    (.cons (.pSet 0 2 (.bin .mod (.blt .int (.cons (.bin .add (.bin .add (.bin .mul (.pGet 0 2) (.int 48271)) (.v 3)) (.int 12345)) .nil)) (.int 2147483647)))
    (.cons (.ret (.bin .mod (.blt .int (.cons (.bin .add (.bin .fdiv (.bin .mul (.pGet 0 2) (.pGet 0 2)) (.int 64)) (.bin .fdiv (.pGet 0 2) (.int 7))) .nil)) (.v 1)))
    .nil))))))
@[simp] def d__law_draw : Df := ⟨"_law_draw", ["pot", "many", "found", "cell"], 2, b__law_draw⟩
@[simp] def b__law_pick : S := (.cons (.ret (.ix (.v 1) (.call "_law_draw" (.cons (.v 0) (.cons (.blt .len (.cons (.v 1) .nil)) .nil)))))
    .nil)
@[simp] def d__law_pick : Df := ⟨"_law_pick", ["pot", "row"], 2, b__law_pick⟩
@[simp] def b__law_same : S := (.cons (.iff (.tOrs (.cons (.tTru (.isi (.v 1) .tuple)) (.cons (.tTru (.isi (.v 1) .list)) .nil)))
    (.cons (.iff (.tOrs (.cons (.tCmp .ne (.isi (.v 1) .tuple) (.isi (.v 0) .tuple)) (.cons (.tCmp .ne (.isi (.v 1) .list) (.isi (.v 0) .list)) .nil)))
    (.cons (.ret (.bl false))
    .nil)
    .nil)
    (.cons (.iff (.tCmp .ne (.blt .len (.cons (.v 0) .nil)) (.blt .len (.cons (.v 1) .nil)))
    (.cons (.ret (.bl false))
    .nil)
    .nil)
    (.cons (.ret (.cmp .eq (.comp (.nm 2) (.iRange (.cons (.blt .len (.cons (.v 1) .nil)) .nil)) (.pt (.tNot (.tTru (.call "_law_same" (.cons (.ix (.v 0) (.v 2)) (.cons (.ix (.v 1) (.v 2)) .nil)))))) (.v 2) [("k", 2)]) (.lst .nil)))
    .nil)))
    .nil)
    (.cons (.iff (.tCmp .is_ (.v 1) .non)
    (.cons (.ret (.cmp .is_ (.v 0) .non))
    .nil)
    .nil)
    (.cons (.iff (.tTru (.isi (.v 1) .str))
    (.cons (.ret (.ands (.cons (.isi (.v 0) .str) (.cons (.cmp .eq (.v 0) (.v 1)) .nil))))
    .nil)
    .nil)
    (.cons (.ret (.ands (.cons (.isi (.v 0) .int) (.cons (.cmp .eq (.isi (.v 0) .bool) (.isi (.v 1) .bool)) (.cons (.cmp .eq (.v 0) (.v 1)) .nil)))))
    .nil))))
@[simp] def d__law_same : Df := ⟨"_law_same", ["found", "due", "k"], 2, b__law_same⟩
@[simp] def b__law_odd : S := (.cons (.iff (.tTru (.isi (.v 1) .int))
    (.cons (.ret (.call "_law_pick" (.cons (.v 0) (.cons (.lst (.cons (.bin .add (.v 1) (.int 1)) (.cons (.bin .sub (.v 1) (.int 1)) (.cons (.int 10) (.cons (.neg (.int 10)) (.cons (.int 100) (.cons (.bl true) (.cons .non (.cons (.blt .str (.cons (.v 1) .nil)) (.cons (.tup (.cons (.v 1) .nil)) .nil)))))))))) .nil))))
    .nil)
    .nil)
    (.cons (.iff (.tTru (.isi (.v 1) .str))
    (.cons (.set 2 (.lst (.cons (.bin .add (.v 1) (.str "a")) (.cons (.sl (.v 1) (.pt (.int 1)) .nil) (.cons (.str "") (.cons (.str "A") (.cons (.str "node") (.cons (.str "stop") (.cons (.int 0) (.cons .non (.cons (.tup (.cons (.v 1) .nil)) (.cons (.lst (.cons (.v 1) .nil)) (.cons (.str "abcdefghi") .nil)))))))))))))
    (.cons (.ret (.call "_law_pick" (.cons (.v 0) (.cons (.v 2) .nil))))
    .nil))
    .nil)
    (.cons (.iff (.tTru (.isi (.v 1) .tuple))
    (.cons (.set 2 (.lst (.cons (.bin .add (.v 1) (.sl (.v 1) (.pt (.neg (.int 1))) .nil)) (.cons (.sl (.v 1) (.pt (.int 1)) .nil) (.cons (.listOf (.cons (.v 1) .nil)) (.cons (.tup .nil) (.cons .non (.cons (.int 3) (.cons (.str "x") (.cons (.tup (.cons (.v 1) .nil)) (.cons (.sl (.v 1) .nil (.pt (.neg (.int 1)))) (.cons (.bin .add (.v 1) (.tup (.cons (.int 1) .nil))) .nil))))))))))))
    (.cons (.ret (.call "_law_pick" (.cons (.v 0) (.cons (.v 2) .nil))))
    .nil))
    .nil)
    (.cons (.ret (.call "_law_pick" (.cons (.v 0) (.cons (.lst (.cons .non (.cons (.int 0) (.cons (.str "ab") (.cons .dnew (.cons (.bl true) .nil)))))) .nil))))
    .nil))))
@[simp] def d__law_odd : Df := ⟨"_law_odd", ["pot", "thing", "some"], 2, b__law_odd⟩
@[simp] def b__law_bent : S := (.cons (.iff (.tAnds (.cons (.tTru (.isi2 (.v 1) .list .tuple)) (.cons (.tCmp .gt (.blt .len (.cons (.v 1) .nil)) (.int 0)) (.cons (.tCmp .gt (.v 2) (.int 0)) (.cons (.tCmp .gt (.call "_law_draw" (.cons (.v 0) (.cons (.int 5) .nil))) (.int 0)) .nil)))))
    (.cons (.set 3 (.call "_law_draw" (.cons (.v 0) (.cons (.blt .len (.cons (.v 1) .nil)) .nil))))
    (.cons (.set 4 (.call "_law_bent" (.cons (.v 0) (.cons (.ix (.v 1) (.v 3)) (.cons (.bin .sub (.v 2) (.int 1)) .nil)))))
    (.cons (.iff (.tTru (.isi (.v 1) .list))
    (.cons (.ret (.bin .add (.bin .add (.sl (.v 1) .nil (.pt (.v 3))) (.lst (.cons (.v 4) .nil))) (.sl (.v 1) (.pt (.bin .add (.v 3) (.int 1))) .nil)))
    .nil)
    .nil)
    (.cons (.ret (.bin .add (.bin .add (.sl (.v 1) .nil (.pt (.v 3))) (.tup (.cons (.v 4) .nil))) (.sl (.v 1) (.pt (.bin .add (.v 3) (.int 1))) .nil)))
    .nil))))
    .nil)
    (.cons (.ret (.call "_law_odd" (.cons (.v 0) (.cons (.v 1) .nil))))
    .nil))
@[simp] def d__law_bent : Df := ⟨"_law_bent", ["pot", "thing", "left", "at", "part"], 3, b__law_bent⟩
@[simp] def b__law_within : S := (.cons (.ret (.ands (.cons (.isi (.v 0) .int) (.cons (.nt (.isi (.v 0) .bool)) (.cons (.chain .le .le (.v 1) (.v 0) (.v 2)) .nil)))))
    .nil)
@[simp] def d__law_within : Df := ⟨"_law_within", ["thing", "low", "high"], 3, b__law_within⟩
@[simp] def b__law_unlike : S := (.cons (.ret (.cmp .eq (.blt .len (.cons (.dctOf (.cons (.comp (.nm 1) (.iE (.v 0)) .nil (.tup (.cons (.v 1) (.cons (.int 0) .nil))) [("one", 1)]) .nil)) .nil)) (.blt .len (.cons (.v 0) .nil))))
    .nil)
@[simp] def d__law_unlike : Df := ⟨"_law_unlike", ["rows", "one"], 1, b__law_unlike⟩
def l1__law_net : S := (.cons (.iff (.tCmp .gt (.call "_law_draw" (.cons (.v 0) (.cons (.int 8) .nil))) (.int 0))
    (.cons (.app 2 (.tup (.cons (.call "_law_draw" (.cons (.v 0) (.cons (.v 3) .nil))) (.cons (.v 3) .nil))))
    .nil)
    .nil)
    .nil)
def l2__law_net : S := (.cons (.par 5 6 (.cons (.call "_law_draw" (.cons (.v 0) (.cons (.v 1) .nil))) (.cons (.call "_law_draw" (.cons (.v 0) (.cons (.v 1) .nil))) .nil)))
    (.cons (.iff (.tCmp .ne (.v 5) (.v 6))
    (.cons (.app 2 (.tup (.cons (.blt .min2 (.cons (.v 5) (.cons (.v 6) .nil))) (.cons (.blt .max2 (.cons (.v 5) (.cons (.v 6) .nil))) .nil))))
    .nil)
    .nil)
    .nil))
@[simp] def b__law_net : S := (.cons (.own 2 (.lst .nil))
    (.cons (.for_ (.nm 3) (.iRange (.cons (.int 1) (.cons (.v 1) .nil))) l1__law_net [3])
    (.cons (.for_ (.nm 4) (.iRange (.cons (.call "_law_draw" (.cons (.v 0) (.cons (.int 4) .nil))) .nil)) l2__law_net [4, 5, 6])
    (.cons (.set 7 (.blt .tuple (.cons (.comp (.nm 8) (.iE (.sst (.b 2))) .nil (.bin .add (.v 8) (.tup (.cons (.bin .add (.int 1) (.call "_law_draw" (.cons (.v 0) (.cons (.int 3) .nil)))) .nil))) [("pair", 8)]) .nil)))
    (.cons (.ret (.tup (.cons (.blt .tuple (.cons (.comp (.nm 3) (.iRange (.cons (.v 1) .nil)) .nil (.call "_law_pick" (.cons (.v 0) (.cons (.lst (.cons (.int 1) (.cons (.int 1) (.cons (.int 1) (.cons (.int 2) (.cons (.int 3) .nil)))))) .nil))) [("place", 3)]) .nil)) (.cons (.v 7) .nil))))
    .nil)))))
@[simp] def d__law_net : Df := ⟨"_law_net", ["pot", "many", "tracks", "place", "turn", "one", "other", "rows", "pair"], 2, b__law_net⟩
def l1__law_is_net : S := (.cons (.iff (.tOrs (.cons (.tNot (.tTru (.isi (.v 4) .tuple))) (.cons (.tCmp .ne (.blt .len (.cons (.v 4) .nil)) (.int 3)) .nil)))
    (.cons (.ret (.bl false))
    .nil)
    .nil)
    (.cons (.iff (.tOrs (.cons (.tCmp .ne (.comp (.nm 5) (.iE (.sl (.v 4) .nil (.pt (.int 2)))) (.pt (.tNot (.tTru (.call "_law_within" (.cons (.v 5) (.cons (.int 0) (.cons (.bin .sub (.blt .len (.cons (.v 2) .nil)) (.int 1)) .nil))))))) (.v 5) [("k", 5)]) (.lst .nil)) (.cons (.tNot (.tTru (.call "_law_within" (.cons (.ix (.v 4) (.int 2)) (.cons (.int 1) (.cons (.int 9) .nil)))))) .nil)))
    (.cons (.ret (.bl false))
    .nil)
    .nil)
    (.cons (.iff (.tCmp .ge (.ix (.v 4) (.int 0)) (.ix (.v 4) (.int 1)))
    (.cons (.ret (.bl false))
    .nil)
    .nil)
    .nil)))
@[simp] def b__law_is_net : S := (.cons (.iff (.tOrs (.cons (.tNot (.tTru (.isi (.v 0) .tuple))) (.cons (.tCmp .ne (.blt .len (.cons (.v 0) .nil)) (.int 2)) (.cons (.tCmp .ne (.comp (.nm 1) (.iE (.v 0)) (.pt (.tNot (.tTru (.isi (.v 1) .tuple)))) (.v 1) [("part", 1)]) (.lst .nil)) .nil))))
    (.cons (.ret (.bl false))
    .nil)
    .nil)
    (.cons (.tgt (.tup [(.nm 2), (.nm 3)]) (.v 0))
    (.cons (.iff (.tOrs (.cons (.tNot (.tChain .le .le (.int 1) (.blt .len (.cons (.v 2) .nil)) (.int 8))) (.cons (.tCmp .ne (.comp (.nm 4) (.iE (.v 2)) (.pt (.tNot (.tTru (.call "_law_within" (.cons (.v 4) (.cons (.int 1) (.cons (.int 3) .nil))))))) (.v 4) [("one", 4)]) (.lst .nil)) .nil)))
    (.cons (.ret (.bl false))
    .nil)
    .nil)
    (.cons (.for_ (.nm 4) (.iE (.v 3)) l1__law_is_net [4])
    (.cons (.own 6 (.comp (.nm 4) (.iE (.v 3)) .nil (.sl (.v 4) .nil (.pt (.int 2))) [("one", 4)]))
    (.cons (.frz 6)
    (.cons (.ret (.ands (.cons (.cmp .eq (.v 6) (.srt (.cons (.v 6) .nil))) (.cons (.call "_law_unlike" (.cons (.v 6) .nil)) .nil))))
    .nil)))))))
@[simp] def d__law_is_net : Df := ⟨"_law_is_net", ["value", "part", "holds", "tracks", "one", "k", "pairs"], 1, b__law_is_net⟩
def l1__law_near : S := (.cons (.iff (.tCmp .eq (.tup (.cons (.v 4) (.cons (.v 5) .nil))) (.tup (.cons (.blt .min2 (.cons (.v 1) (.cons (.v 3) .nil))) (.cons (.blt .max2 (.cons (.v 1) (.cons (.v 3) .nil))) .nil))))
    (.cons (.app 2 (.tup (.cons (.v 3) (.cons (.v 6) .nil))))
    .nil)
    .nil)
    .nil)
def l2__law_near : S := (.cons (.for_ (.tup [(.nm 4), (.nm 5), (.nm 6)]) (.iE (.ix (.v 0) (.int 1))) l1__law_near [4, 5, 6])
    .nil)
@[simp] def b__law_near : S := (.cons (.own 2 (.lst .nil))
    (.cons (.for_ (.nm 3) (.iRange (.cons (.blt .len (.cons (.ix (.v 0) (.int 0)) .nil)) .nil)) l2__law_near [3, 4, 5, 6])
    (.cons (.retO 2)
    .nil)))
@[simp] def d__law_near : Df := ⟨"_law_near", ["net", "place", "found", "other", "one", "two", "time"], 2, b__law_near⟩
def l1__law_all_ways : S := (.cons (.iff (.tCmp .notin (.v 7) (.v 5))
    (.cons (.app 4 (.tup (.cons (.bin .add (.v 5) (.tup (.cons (.v 7) .nil))) (.cons (.bin .add (.v 6) (.v 8)) .nil))))
    .nil)
    .nil)
    .nil)
def l2__law_all_ways : S := (.cons (.for_ (.tup [(.nm 7), (.nm 8)]) (.iE (.call "_law_near" (.cons (.v 0) (.cons (.ix (.v 5) (.neg (.int 1))) .nil)))) l1__law_all_ways [7, 8])
    .nil)
def l3__law_all_ways : S := (.cons (.set 3 (.bin .add (.v 3) (.v 2)))
    (.cons (.own 4 (.lst .nil))
    (.cons (.for_ (.tup [(.nm 5), (.nm 6)]) (.iE (.v 2)) l2__law_all_ways [5, 6, 7, 8])
    (.cons (.frz 4)
    (.cons (.set 2 (.v 4))
    .nil)))))
@[simp] def b__law_all_ways : S := (.cons (.par 2 3 (.cons (.lst (.cons (.tup (.cons (.tup (.cons (.v 1) .nil)) (.cons (.int 0) .nil))) .nil)) (.cons (.lst .nil) .nil)))
    (.cons (.whl (.tCmp .ne (.v 2) (.lst .nil)) l3__law_all_ways [4, 5, 6, 7, 8])
    (.cons (.ret (.srt (.cons (.v 3) .nil)))
    .nil)))
@[simp] def d__law_all_ways : Df := ⟨"_law_all_ways", ["net", "start", "rows", "found", "later", "way", "time", "other", "more"], 2, b__law_all_ways⟩
@[simp] def b__law_is_way : S := (.cons (.iff (.tOrs (.cons (.tNot (.tTru (.call "_law_is_net" (.cons (.v 0) .nil)))) (.cons (.tNot (.tTru (.isi (.v 1) .tuple))) (.cons (.tCmp .eq (.v 1) (.tup .nil)) .nil))))
    (.cons (.ret (.bl false))
    .nil)
    .nil)
    (.cons (.iff (.tOrs (.cons (.tCmp .ne (.comp (.nm 2) (.iE (.v 1)) (.pt (.tNot (.tTru (.call "_law_within" (.cons (.v 2) (.cons (.int 0) (.cons (.bin .sub (.blt .len (.cons (.ix (.v 0) (.int 0)) .nil)) (.int 1)) .nil))))))) (.v 2) [("one", 2)]) (.lst .nil)) (.cons (.tNot (.tTru (.call "_law_unlike" (.cons (.v 1) .nil)))) .nil)))
    (.cons (.ret (.bl false))
    .nil)
    .nil)
    (.cons (.own 3 (.comp (.nm 4) (.iE (.ix (.v 0) (.int 1))) .nil (.sl (.v 4) .nil (.pt (.int 2))) [("track", 4)]))
    (.cons (.frz 3)
    (.cons (.ret (.cmp .eq (.comp (.nm 5) (.iRange (.cons (.int 1) (.cons (.blt .len (.cons (.v 1) .nil)) .nil))) (.pt (.tCmp .notin (.blt .tuple (.cons (.srt (.cons (.sl (.v 1) (.pt (.bin .sub (.v 5) (.int 1))) (.pt (.bin .add (.v 5) (.int 1)))) .nil)) .nil)) (.v 3))) (.v 5) [("k", 5)]) (.lst .nil)))
    .nil)))))
@[simp] def d__law_is_way : Df := ⟨"_law_is_way", ["net", "value", "one", "pairs", "track", "k"], 2, b__law_is_way⟩
def l1_law : S := (.cons (.set 3 (.call "_law_net" (.cons (.v 1) (.cons (.bin .add (.int 1) (.call "_law_draw" (.cons (.v 1) (.cons (.int 6) .nil)))) .nil))))
    (.cons (.tgt (.tup [(.nm 4), (.nm 5)]) (.tup (.cons (.call "_law_draw" (.cons (.v 1) (.cons (.blt .len (.cons (.ix (.v 3) (.int 0)) .nil)) .nil))) (.cons (.call "_law_draw" (.cons (.v 1) (.cons (.blt .len (.cons (.ix (.v 3) (.int 0)) .nil)) .nil))) .nil))))
    (.cons (.set 6 (.call "_law_all_ways" (.cons (.v 3) (.cons (.v 4) .nil))))
    (.cons (.own 7 (.comp (.tup [(.nm 10), (.nm 11)]) (.iE (.v 6)) (.pt (.tCmp .eq (.ix (.v 10) (.neg (.int 1))) (.v 5))) (.tup (.cons (.v 11) (.cons (.v 10) .nil))) [("time", 11), ("way", 10)]))
    (.cons (.frz 7)
    (.cons (.set 8 (.call "_law_draw" (.cons (.v 1) (.cons (.int 20) .nil))))
    (.cons (.iff (.tNot (.tTru (.call "_law_same" (.cons (.call "ways" (.cons (.v 3) (.cons (.v 4) (.cons (.v 5) (.cons (.v 8) .nil))))) (.cons (.blt .tuple (.cons (.srt (.cons (.comp (.tup [(.nm 11), (.nm 10)]) (.iE (.v 7)) (.pt (.tCmp .le (.v 11) (.v 8))) (.v 10) [("time", 11), ("way", 10)]) .nil)) .nil)) .nil)))))
    (.cons (.ret (.bl false))
    .nil)
    .nil)
    (.cons (.set 9 (.ite (.tCmp .ne (.v 7) (.lst .nil)) (.blt .min1 (.cons (.v 7) .nil)) (.tup (.cons .non (.cons .non .nil)))))
    (.cons (.iff (.tOrs (.cons (.tNot (.tTru (.call "_law_same" (.cons (.call "least_time" (.cons (.v 3) (.cons (.v 4) (.cons (.v 5) .nil)))) (.cons (.ix (.v 9) (.int 0)) .nil))))) (.cons (.tNot (.tTru (.call "_law_same" (.cons (.call "quickest" (.cons (.v 3) (.cons (.v 4) (.cons (.v 5) .nil)))) (.cons (.ix (.v 9) (.int 1)) .nil))))) .nil)))
    (.cons (.ret (.bl false))
    .nil)
    .nil)
    (.cons (.tgt (.tup [(.nm 10), (.nm 11)]) (.call "_law_pick" (.cons (.v 1) (.cons (.v 6) .nil))))
    (.cons (.iff (.tOrs (.cons (.tNot (.tTru (.call "_law_same" (.cons (.call "way_time" (.cons (.v 3) (.cons (.v 10) .nil))) (.cons (.v 11) .nil))))) (.cons (.tNot (.tTru (.call "_law_same" (.cons (.call "is_way" (.cons (.v 3) (.cons (.v 10) .nil))) (.cons (.bl true) .nil))))) .nil)))
    (.cons (.ret (.bl false))
    .nil)
    .nil)
    (.cons (.set 12 (.call "_law_bent" (.cons (.v 1) (.cons (.v 10) (.cons (.int 2) .nil)))))
    (.cons (.iff (.tNot (.tTru (.call "_law_same" (.cons (.call "is_way" (.cons (.v 3) (.cons (.v 12) .nil))) (.cons (.call "_law_is_way" (.cons (.v 3) (.cons (.v 12) .nil))) .nil)))))
    (.cons (.ret (.bl false))
    .nil)
    .nil)
    (.cons (.iff (.tAnds (.cons (.tNot (.tTru (.call "_law_is_way" (.cons (.v 3) (.cons (.v 12) .nil))))) (.cons (.tNot (.tTru (.raises ["NoNet", "NotThere"] (.call "way_time" (.cons (.v 3) (.cons (.v 12) .nil))) "NotThere"))) .nil)))
    (.cons (.ret (.bl false))
    .nil)
    .nil)
    (.cons (.set 13 (.call "_law_pick" (.cons (.v 1) (.cons (.lst (.cons (.blt .len (.cons (.ix (.v 3) (.int 0)) .nil)) (.cons (.neg (.int 1)) (.cons (.bl true) (.cons .non .nil))))) .nil))))
    (.cons (.iff (.tNot (.tTru (.raises ["NoNet", "NotThere"] (.call "least_time" (.cons (.v 3) (.cons (.v 13) (.cons (.v 5) .nil)))) "NotThere")))
    (.cons (.ret (.bl false))
    .nil)
    .nil)
    (.cons (.iff (.tNot (.tTru (.raises ["NoNet", "NotThere"] (.call "quickest" (.cons (.v 3) (.cons (.v 4) (.cons (.v 13) .nil)))) "NotThere")))
    (.cons (.ret (.bl false))
    .nil)
    .nil)
    (.cons (.iff (.tNot (.tTru (.raises ["NoNet", "NotThere"] (.call "ways" (.cons (.v 3) (.cons (.v 4) (.cons (.v 5) (.cons (.call "_law_pick" (.cons (.v 1) (.cons (.lst (.cons (.int 100) (.cons (.neg (.int 1)) (.cons (.bl true) (.cons .non .nil))))) .nil))) .nil))))) "NotThere")))
    (.cons (.ret (.bl false))
    .nil)
    .nil)
    (.cons (.iff (.tCmp .isnot (.call "is_way" (.cons (.call "_law_pick" (.cons (.v 1) (.cons (.lst (.cons .non (.cons (.tup (.cons (.v 3) .nil)) (.cons (.ix (.v 3) (.int 1)) .nil)))) .nil))) (.cons (.v 10) .nil))) (.bl false))
    (.cons (.ret (.bl false))
    .nil)
    .nil)
    (.cons (.iff (.tNot (.tTru (.raises ["NoNet", "NotThere"] (.call "way_time" (.cons (.int 3) (.cons (.v 10) .nil))) "NoNet")))
    (.cons (.ret (.bl false))
    .nil)
    .nil)
    .nil))))))))))))))))))))
@[simp] def b_law : S := (.cons (.for_ (.nm 2) (.iRange (.cons (.int 6) .nil)) l1_law [2, 3, 4, 5, 6, 7, 8, 9, 10, 11, 12, 13])
    (.cons (.ret (.bl true))
    .nil))
def N_law : List Str := ["script", "pot", "turn", "net", "start", "end", "every", "here", "most", "best", "way", "time", "odd", "bad"]
def T : List Df := [d_is_number, d_is_row, d_do_rise, d_is_track, d_is_net, d_need_net, d_need_place, d_near_places, d_time_between, d_is_way, d_way_time, d_time_of, d_ways, d_times_from, d_least_time, d_quickest, d__law_draw, d__law_pick, d__law_same, d__law_odd, d__law_bent, d__law_within, d__law_unlike, d__law_net, d__law_is_net, d__law_near, d__law_all_ways, d__law_is_way]
theorem ok_is_number : DfOk g d_is_number (defArgs (top 5)) (defBody (top 5)) (defScope (top 5)) where
  chk := by decide +kernel
  sc := ⟨rfl, rfl, rfl, by decide +kernel, rfl, by decide +kernel, by decide +kernel⟩
  np := by decide
  bind := fun _ _ _ _ _ _ us hl => match us, hl with | [_, _, _], _ => rfl
theorem call_is_number (k : Nat) : callD T (k+1) "is_number" = runD (callD T k) d_is_number := by kernel_rfl
theorem ok_is_row : DfOk g d_is_row (defArgs (top 6)) (defBody (top 6)) (defScope (top 6)) where
  chk := by decide +kernel
  sc := ⟨rfl, rfl, rfl, by decide +kernel, rfl, by decide +kernel, by decide +kernel⟩
  np := by decide
  bind := fun _ _ _ _ _ _ us hl => match us, hl with | [_, _, _, _, _], _ => rfl
theorem call_is_row (k : Nat) : callD T (k+1) "is_row" = runD (callD T k) d_is_row := by kernel_rfl
theorem ok_do_rise : DfOk g d_do_rise (defArgs (top 7)) (defBody (top 7)) (defScope (top 7)) where
  chk := by decide +kernel
  sc := ⟨rfl, rfl, rfl, by decide +kernel, rfl, by decide +kernel, by decide +kernel⟩
  np := by decide
  bind := fun _ _ _ _ _ _ us hl => match us, hl with | [_], _ => rfl
theorem call_do_rise (k : Nat) : callD T (k+1) "do_rise" = runD (callD T k) d_do_rise := by kernel_rfl
theorem ok_is_track : DfOk g d_is_track (defArgs (top 11)) (defBody (top 11)) (defScope (top 11)) where
  chk := by decide +kernel
  sc := ⟨rfl, rfl, rfl, by decide +kernel, rfl, by decide +kernel, by decide +kernel⟩
  np := by decide
  bind := fun _ _ _ _ _ _ us hl => match us, hl with | [_, _], _ => rfl
theorem call_is_track (k : Nat) : callD T (k+1) "is_track" = runD (callD T k) d_is_track := by kernel_rfl
theorem ok_is_net : DfOk g d_is_net (defArgs (top 12)) (defBody (top 12)) (defScope (top 12)) where
  chk := by decide +kernel
  sc := ⟨rfl, rfl, rfl, by decide +kernel, rfl, by decide +kernel, by decide +kernel⟩
  np := by decide
  bind := fun _ _ _ _ _ _ us hl => match us, hl with | [_], _ => rfl
theorem call_is_net (k : Nat) : callD T (k+1) "is_net" = runD (callD T k) d_is_net := by kernel_rfl
theorem ok_need_net : DfOk g d_need_net (defArgs (top 13)) (defBody (top 13)) (defScope (top 13)) where
  chk := by decide +kernel
  sc := ⟨rfl, rfl, rfl, by decide +kernel, rfl, by decide +kernel, by decide +kernel⟩
  np := by decide
  bind := fun _ _ _ _ _ _ us hl => match us, hl with | [_], _ => rfl
theorem call_need_net (k : Nat) : callD T (k+1) "need_net" = runD (callD T k) d_need_net := by kernel_rfl
theorem ok_need_place : DfOk g d_need_place (defArgs (top 14)) (defBody (top 14)) (defScope (top 14)) where
  chk := by decide +kernel
  sc := ⟨rfl, rfl, rfl, by decide +kernel, rfl, by decide +kernel, by decide +kernel⟩
  np := by decide
  bind := fun _ _ _ _ _ _ us hl => match us, hl with | [_, _], _ => rfl
theorem call_need_place (k : Nat) : callD T (k+1) "need_place" = runD (callD T k) d_need_place := by kernel_rfl
theorem ok_near_places : DfOk g d_near_places (defArgs (top 15)) (defBody (top 15)) (defScope (top 15)) where
  chk := by decide +kernel
  sc := ⟨rfl, rfl, rfl, by decide +kernel, rfl, by decide +kernel, by decide +kernel⟩
  np := by decide
  bind := fun _ _ _ _ _ _ us hl => match us, hl with | [_, _], _ => rfl
theorem call_near_places (k : Nat) : callD T (k+1) "near_places" = runD (callD T k) d_near_places := by kernel_rfl
theorem ok_time_between : DfOk g d_time_between (defArgs (top 16)) (defBody (top 16)) (defScope (top 16)) where
  chk := by decide +kernel
  sc := ⟨rfl, rfl, rfl, by decide +kernel, rfl, by decide +kernel, by decide +kernel⟩
  np := by decide
  bind := fun _ _ _ _ _ _ us hl => match us, hl with | [_, _, _], _ => rfl
theorem call_time_between (k : Nat) : callD T (k+1) "time_between" = runD (callD T k) d_time_between := by kernel_rfl
theorem ok_is_way : DfOk g d_is_way (defArgs (top 17)) (defBody (top 17)) (defScope (top 17)) where
  chk := by decide +kernel
  sc := ⟨rfl, rfl, rfl, by decide +kernel, rfl, by decide +kernel, by decide +kernel⟩
  np := by decide
  bind := fun _ _ _ _ _ _ us hl => match us, hl with | [_, _], _ => rfl
theorem call_is_way (k : Nat) : callD T (k+1) "is_way" = runD (callD T k) d_is_way := by kernel_rfl
theorem ok_way_time : DfOk g d_way_time (defArgs (top 18)) (defBody (top 18)) (defScope (top 18)) where
  chk := by decide +kernel
  sc := ⟨rfl, rfl, rfl, by decide +kernel, rfl, by decide +kernel, by decide +kernel⟩
  np := by decide
  bind := fun _ _ _ _ _ _ us hl => match us, hl with | [_, _], _ => rfl
theorem call_way_time (k : Nat) : callD T (k+1) "way_time" = runD (callD T k) d_way_time := by kernel_rfl
theorem ok_time_of : DfOk g d_time_of (defArgs (top 19)) (defBody (top 19)) (defScope (top 19)) where
  chk := by decide +kernel
  sc := ⟨rfl, rfl, rfl, by decide +kernel, rfl, by decide +kernel, by decide +kernel⟩
  np := by decide
  bind := fun _ _ _ _ _ _ us hl => match us, hl with | [_, _], _ => rfl
theorem call_time_of (k : Nat) : callD T (k+1) "time_of" = runD (callD T k) d_time_of := by kernel_rfl
theorem ok_ways : DfOk g d_ways (defArgs (top 20)) (defBody (top 20)) (defScope (top 20)) where
  chk := by decide +kernel
  sc := ⟨rfl, rfl, rfl, by decide +kernel, rfl, by decide +kernel, by decide +kernel⟩
  np := by decide
  bind := fun _ _ _ _ _ _ us hl => match us, hl with | [_, _, _, _], _ => rfl
theorem call_ways (k : Nat) : callD T (k+1) "ways" = runD (callD T k) d_ways := by kernel_rfl
theorem ok_times_from : DfOk g d_times_from (defArgs (top 21)) (defBody (top 21)) (defScope (top 21)) where
  chk := by decide +kernel
  sc := ⟨rfl, rfl, rfl, by decide +kernel, rfl, by decide +kernel, by decide +kernel⟩
  np := by decide
  bind := fun _ _ _ _ _ _ us hl => match us, hl with | [_, _], _ => rfl
theorem call_times_from (k : Nat) : callD T (k+1) "times_from" = runD (callD T k) d_times_from := by kernel_rfl
theorem ok_least_time : DfOk g d_least_time (defArgs (top 22)) (defBody (top 22)) (defScope (top 22)) where
  chk := by decide +kernel
  sc := ⟨rfl, rfl, rfl, by decide +kernel, rfl, by decide +kernel, by decide +kernel⟩
  np := by decide
  bind := fun _ _ _ _ _ _ us hl => match us, hl with | [_, _, _], _ => rfl
theorem call_least_time (k : Nat) : callD T (k+1) "least_time" = runD (callD T k) d_least_time := by kernel_rfl
theorem ok_quickest : DfOk g d_quickest (defArgs (top 23)) (defBody (top 23)) (defScope (top 23)) where
  chk := by decide +kernel
  sc := ⟨rfl, rfl, rfl, by decide +kernel, rfl, by decide +kernel, by decide +kernel⟩
  np := by decide
  bind := fun _ _ _ _ _ _ us hl => match us, hl with | [_, _, _], _ => rfl
theorem call_quickest (k : Nat) : callD T (k+1) "quickest" = runD (callD T k) d_quickest := by kernel_rfl
theorem ok__law_draw : DfOk g d__law_draw (defArgs (top 26)) (defBody (top 26)) (defScope (top 26)) where
  chk := by decide +kernel
  sc := ⟨rfl, rfl, rfl, by decide +kernel, rfl, by decide +kernel, by decide +kernel⟩
  np := by decide
  bind := fun _ _ _ _ _ _ us hl => match us, hl with | [_, _], _ => rfl
theorem call__law_draw (k : Nat) : callD T (k+1) "_law_draw" = runD (callD T k) d__law_draw := by kernel_rfl
theorem ok__law_pick : DfOk g d__law_pick (defArgs (top 27)) (defBody (top 27)) (defScope (top 27)) where
  chk := by decide +kernel
  sc := ⟨rfl, rfl, rfl, by decide +kernel, rfl, by decide +kernel, by decide +kernel⟩
  np := by decide
  bind := fun _ _ _ _ _ _ us hl => match us, hl with | [_, _], _ => rfl
theorem call__law_pick (k : Nat) : callD T (k+1) "_law_pick" = runD (callD T k) d__law_pick := by kernel_rfl
theorem ok__law_same : DfOk g d__law_same (defArgs (top 28)) (defBody (top 28)) (defScope (top 28)) where
  chk := by decide +kernel
  sc := ⟨rfl, rfl, rfl, by decide +kernel, rfl, by decide +kernel, by decide +kernel⟩
  np := by decide
  bind := fun _ _ _ _ _ _ us hl => match us, hl with | [_, _], _ => rfl
theorem call__law_same (k : Nat) : callD T (k+1) "_law_same" = runD (callD T k) d__law_same := by kernel_rfl
theorem ok__law_odd : DfOk g d__law_odd (defArgs (top 29)) (defBody (top 29)) (defScope (top 29)) where
  chk := by decide +kernel
  sc := ⟨rfl, rfl, rfl, by decide +kernel, rfl, by decide +kernel, by decide +kernel⟩
  np := by decide
  bind := fun _ _ _ _ _ _ us hl => match us, hl with | [_, _], _ => rfl
theorem call__law_odd (k : Nat) : callD T (k+1) "_law_odd" = runD (callD T k) d__law_odd := by kernel_rfl
theorem ok__law_bent : DfOk g d__law_bent (defArgs (top 30)) (defBody (top 30)) (defScope (top 30)) where
  chk := by decide +kernel
  sc := ⟨rfl, rfl, rfl, by decide +kernel, rfl, by decide +kernel, by decide +kernel⟩
  np := by decide
  bind := fun _ _ _ _ _ _ us hl => match us, hl with | [_, _, _], _ => rfl
theorem call__law_bent (k : Nat) : callD T (k+1) "_law_bent" = runD (callD T k) d__law_bent := by kernel_rfl
theorem ok__law_within : DfOk g d__law_within (defArgs (top 31)) (defBody (top 31)) (defScope (top 31)) where
  chk := by decide +kernel
  sc := ⟨rfl, rfl, rfl, by decide +kernel, rfl, by decide +kernel, by decide +kernel⟩
  np := by decide
  bind := fun _ _ _ _ _ _ us hl => match us, hl with | [_, _, _], _ => rfl
theorem call__law_within (k : Nat) : callD T (k+1) "_law_within" = runD (callD T k) d__law_within := by kernel_rfl
theorem ok__law_unlike : DfOk g d__law_unlike (defArgs (top 32)) (defBody (top 32)) (defScope (top 32)) where
  chk := by decide +kernel
  sc := ⟨rfl, rfl, rfl, by decide +kernel, rfl, by decide +kernel, by decide +kernel⟩
  np := by decide
  bind := fun _ _ _ _ _ _ us hl => match us, hl with | [_], _ => rfl
theorem call__law_unlike (k : Nat) : callD T (k+1) "_law_unlike" = runD (callD T k) d__law_unlike := by kernel_rfl
theorem ok__law_net : DfOk g d__law_net (defArgs (top 33)) (defBody (top 33)) (defScope (top 33)) where
  chk := by decide +kernel
  sc := ⟨rfl, rfl, rfl, by decide +kernel, rfl, by decide +kernel, by decide +kernel⟩
  np := by decide
  bind := fun _ _ _ _ _ _ us hl => match us, hl with | [_, _], _ => rfl
theorem call__law_net (k : Nat) : callD T (k+1) "_law_net" = runD (callD T k) d__law_net := by kernel_rfl
theorem ok__law_is_net : DfOk g d__law_is_net (defArgs (top 34)) (defBody (top 34)) (defScope (top 34)) where
  chk := by decide +kernel
  sc := ⟨rfl, rfl, rfl, by decide +kernel, rfl, by decide +kernel, by decide +kernel⟩
  np := by decide
  bind := fun _ _ _ _ _ _ us hl => match us, hl with | [_], _ => rfl
theorem call__law_is_net (k : Nat) : callD T (k+1) "_law_is_net" = runD (callD T k) d__law_is_net := by kernel_rfl
theorem ok__law_near : DfOk g d__law_near (defArgs (top 35)) (defBody (top 35)) (defScope (top 35)) where
  chk := by decide +kernel
  sc := ⟨rfl, rfl, rfl, by decide +kernel, rfl, by decide +kernel, by decide +kernel⟩
  np := by decide
  bind := fun _ _ _ _ _ _ us hl => match us, hl with | [_, _], _ => rfl
theorem call__law_near (k : Nat) : callD T (k+1) "_law_near" = runD (callD T k) d__law_near := by kernel_rfl
theorem ok__law_all_ways : DfOk g d__law_all_ways (defArgs (top 36)) (defBody (top 36)) (defScope (top 36)) where
  chk := by decide +kernel
  sc := ⟨rfl, rfl, rfl, by decide +kernel, rfl, by decide +kernel, by decide +kernel⟩
  np := by decide
  bind := fun _ _ _ _ _ _ us hl => match us, hl with | [_, _], _ => rfl
theorem call__law_all_ways (k : Nat) : callD T (k+1) "_law_all_ways" = runD (callD T k) d__law_all_ways := by kernel_rfl
theorem ok__law_is_way : DfOk g d__law_is_way (defArgs (top 37)) (defBody (top 37)) (defScope (top 37)) where
  chk := by decide +kernel
  sc := ⟨rfl, rfl, rfl, by decide +kernel, rfl, by decide +kernel, by decide +kernel⟩
  np := by decide
  bind := fun _ _ _ _ _ _ us hl => match us, hl with | [_, _], _ => rfl
theorem call__law_is_way (k : Nat) : callD T (k+1) "_law_is_way" = runD (callD T k) d__law_is_way := by kernel_rfl
end M.T

set_option Elab.async false
set_option linter.all false
set_option maxRecDepth 100000
set_option maxHeartbeats 0
namespace M.T
open PySem PySem.Spec PyProof.Rows L2
def D_is_number : He.DefD := ⟨("is_number", none), "is_number", "is_number", defArgs (top 5), defBody (top 5), defScope (top 5), [], []⟩
def D_is_row : He.DefD := ⟨("is_row", none), "is_row", "is_row", defArgs (top 6), defBody (top 6), defScope (top 6), [], []⟩
def D_do_rise : He.DefD := ⟨("do_rise", none), "do_rise", "do_rise", defArgs (top 7), defBody (top 7), defScope (top 7), [], []⟩
def D_is_track : He.DefD := ⟨("is_track", none), "is_track", "is_track", defArgs (top 11), defBody (top 11), defScope (top 11), [], []⟩
def D_is_net : He.DefD := ⟨("is_net", none), "is_net", "is_net", defArgs (top 12), defBody (top 12), defScope (top 12), [], []⟩
def D_need_net : He.DefD := ⟨("need_net", none), "need_net", "need_net", defArgs (top 13), defBody (top 13), defScope (top 13), [], []⟩
def D_need_place : He.DefD := ⟨("need_place", none), "need_place", "need_place", defArgs (top 14), defBody (top 14), defScope (top 14), [], []⟩
def D_near_places : He.DefD := ⟨("near_places", none), "near_places", "near_places", defArgs (top 15), defBody (top 15), defScope (top 15), [], []⟩
def D_time_between : He.DefD := ⟨("time_between", none), "time_between", "time_between", defArgs (top 16), defBody (top 16), defScope (top 16), [], []⟩
def D_is_way : He.DefD := ⟨("is_way", none), "is_way", "is_way", defArgs (top 17), defBody (top 17), defScope (top 17), [], []⟩
def D_way_time : He.DefD := ⟨("way_time", none), "way_time", "way_time", defArgs (top 18), defBody (top 18), defScope (top 18), [], []⟩
def D_time_of : He.DefD := ⟨("time_of", none), "time_of", "time_of", defArgs (top 19), defBody (top 19), defScope (top 19), [], []⟩
def D_ways : He.DefD := ⟨("ways", none), "ways", "ways", defArgs (top 20), defBody (top 20), defScope (top 20), [], []⟩
def D_times_from : He.DefD := ⟨("times_from", none), "times_from", "times_from", defArgs (top 21), defBody (top 21), defScope (top 21), [], []⟩
def D_least_time : He.DefD := ⟨("least_time", none), "least_time", "least_time", defArgs (top 22), defBody (top 22), defScope (top 22), [], []⟩
def D_quickest : He.DefD := ⟨("quickest", none), "quickest", "quickest", defArgs (top 23), defBody (top 23), defScope (top 23), [], []⟩
def D__law_draw : He.DefD := ⟨("_law_draw", none), "_law_draw", "_law_draw", defArgs (top 26), defBody (top 26), defScope (top 26), [], []⟩
def D__law_pick : He.DefD := ⟨("_law_pick", none), "_law_pick", "_law_pick", defArgs (top 27), defBody (top 27), defScope (top 27), [], []⟩
def D__law_same : He.DefD := ⟨("_law_same", none), "_law_same", "_law_same", defArgs (top 28), defBody (top 28), defScope (top 28), [], []⟩
def D__law_odd : He.DefD := ⟨("_law_odd", none), "_law_odd", "_law_odd", defArgs (top 29), defBody (top 29), defScope (top 29), [], []⟩
def D__law_bent : He.DefD := ⟨("_law_bent", none), "_law_bent", "_law_bent", defArgs (top 30), defBody (top 30), defScope (top 30), [], []⟩
def D__law_within : He.DefD := ⟨("_law_within", none), "_law_within", "_law_within", defArgs (top 31), defBody (top 31), defScope (top 31), [], []⟩
def D__law_unlike : He.DefD := ⟨("_law_unlike", none), "_law_unlike", "_law_unlike", defArgs (top 32), defBody (top 32), defScope (top 32), [], []⟩
def D__law_net : He.DefD := ⟨("_law_net", none), "_law_net", "_law_net", defArgs (top 33), defBody (top 33), defScope (top 33), [], []⟩
def D__law_is_net : He.DefD := ⟨("_law_is_net", none), "_law_is_net", "_law_is_net", defArgs (top 34), defBody (top 34), defScope (top 34), [], []⟩
def D__law_near : He.DefD := ⟨("_law_near", none), "_law_near", "_law_near", defArgs (top 35), defBody (top 35), defScope (top 35), [], []⟩
def D__law_all_ways : He.DefD := ⟨("_law_all_ways", none), "_law_all_ways", "_law_all_ways", defArgs (top 36), defBody (top 36), defScope (top 36), [], []⟩
def D__law_is_way : He.DefD := ⟨("_law_is_way", none), "_law_is_way", "_law_is_way", defArgs (top 37), defBody (top 37), defScope (top 37), [], []⟩
def D__law_raises : He.DefD := ⟨("_law_raises", none), "_law_raises", "_law_raises", defArgs (top 38), defBody (top 38), defScope (top 38), [], []⟩
def D__law_pot : He.DefD := ⟨("_law_pot", none), "_law_pot", "_law_pot", defArgs (top 25), defBody (top 25), defScope (top 25), [], []⟩
def D_law : He.DefD := ⟨("law", none), "law", "law", defArgs (top 39), defBody (top 39), defScope (top 39), [], []⟩
def fn : List He.DefD := [D_is_number, D_is_row, D_do_rise, D_is_track, D_is_net, D_need_net, D_need_place, D_near_places, D_time_between, D_is_way, D_way_time, D_time_of, D_ways, D_times_from, D_least_time, D_quickest, D__law_draw, D__law_pick, D__law_same, D__law_odd, D__law_bent, D__law_within, D__law_unlike, D__law_net, D__law_is_net, D__law_near, D__law_all_ways, D__law_is_way, D__law_raises, D__law_pot, D_law]
def fa : List He.Fa := ([.glo "is_number", .glo "is_row", .glo "do_rise", .glo "is_track", .glo "is_net", .glo "need_net", .glo "need_place", .glo "near_places", .glo "time_between", .glo "is_way", .glo "way_time", .glo "time_of", .glo "ways", .glo "times_from", .glo "least_time", .glo "quickest", .glo "_law_draw", .glo "_law_pick", .glo "_law_same", .glo "_law_odd", .glo "_law_bent", .glo "_law_within", .glo "_law_unlike", .glo "_law_net", .glo "_law_is_net", .glo "_law_near", .glo "_law_all_ways", .glo "_law_is_way", .glo "_law_raises", .glo "_law_pot"] : List He.Fa) ++ ([.glo "law", .free "abs", .free "all", .free "bool", .free "dict", .free "int", .free "isinstance", .free "len", .free "list", .free "max", .free "min", .free "range", .free "set", .free "sorted", .free "str", .free "sum", .free "tuple", .int "MOST_PLACES" 8, .int "MOST_TIME" 9, .glo "NoNet", .glo "NotThere", .exc "NoNet", .exc "NotThere", .exm "NoNet" "NoNet" true, .exm "NoNet" "NotThere" false, .exm "NotThere" "NoNet" false, .exm "NotThere" "NotThere" true] : List He.Fa)
def loose : List Str := (["TramError", "NoNet", "NotThere", "is_number", "is_row", "do_rise", "MOST_PLACES", "MOST_TIME", "is_track", "is_net", "need_net", "need_place", "near_places", "time_between", "is_way", "way_time", "time_of", "ways", "times_from", "least_time", "quickest", "_law_pot", "_law_draw", "_law_pick", "_law_same", "_law_odd", "_law_bent", "_law_within", "_law_unlike", "_law_net"] : List Str) ++ (["_law_is_net", "_law_near", "_law_all_ways", "_law_is_way", "_law_raises"] : List Str)
abbrev R : PySem.W.OpenRow := PySem.W.OpenLaw.row PySem.Challenge.rw_tramforks_k02_whole_ways
def tf : List He.Defn := [("law", none)]
def exT : PySem.W.Frag → Bool := fun _ => true
abbrev hk : PySem.W.Hook := He.hookX 4 fa fn [] tf exT
def ob (s : PySem.W.SharedT) : He.AlX := He.obsX 4 fa fn [] tf exT (HandSHeadRun.getT s)
theorem ob_eq (s : PySem.W.SharedT) : ob s = hk.obs s.abs := He.obsX_eq (HandSHeadRun.getT_eq s)
theorem run (w : World) : HandSHeadRun.RunEq R (PySem.W.view R.prog [39]) hk ob 2200 loose w := by
  intro os
  kernel_rfl
section
variable {K : PySem.W.Frag} {h : Heap} {mg : Str → Option Value}
theorem has_is_number (X : K.In h) (G : h.Ns mainGlobals mg) (c : He.SaysD fa fn K) : HasD g K mg d_is_number := by
  obtain ⟨fd, F⟩ := c.def_ 0 (d := D_is_number) rfl
  exact ⟨_, fd, _, _, _, F, He.glo_ok X G (c.fact 0 (f := .glo "is_number") rfl), ok_is_number⟩
theorem has_is_row (X : K.In h) (G : h.Ns mainGlobals mg) (c : He.SaysD fa fn K) : HasD g K mg d_is_row := by
  obtain ⟨fd, F⟩ := c.def_ 1 (d := D_is_row) rfl
  exact ⟨_, fd, _, _, _, F, He.glo_ok X G (c.fact 1 (f := .glo "is_row") rfl), ok_is_row⟩
theorem has_do_rise (X : K.In h) (G : h.Ns mainGlobals mg) (c : He.SaysD fa fn K) : HasD g K mg d_do_rise := by
  obtain ⟨fd, F⟩ := c.def_ 2 (d := D_do_rise) rfl
  exact ⟨_, fd, _, _, _, F, He.glo_ok X G (c.fact 2 (f := .glo "do_rise") rfl), ok_do_rise⟩
theorem has_is_track (X : K.In h) (G : h.Ns mainGlobals mg) (c : He.SaysD fa fn K) : HasD g K mg d_is_track := by
  obtain ⟨fd, F⟩ := c.def_ 3 (d := D_is_track) rfl
  exact ⟨_, fd, _, _, _, F, He.glo_ok X G (c.fact 3 (f := .glo "is_track") rfl), ok_is_track⟩
theorem has_is_net (X : K.In h) (G : h.Ns mainGlobals mg) (c : He.SaysD fa fn K) : HasD g K mg d_is_net := by
  obtain ⟨fd, F⟩ := c.def_ 4 (d := D_is_net) rfl
  exact ⟨_, fd, _, _, _, F, He.glo_ok X G (c.fact 4 (f := .glo "is_net") rfl), ok_is_net⟩
theorem has_need_net (X : K.In h) (G : h.Ns mainGlobals mg) (c : He.SaysD fa fn K) : HasD g K mg d_need_net := by
  obtain ⟨fd, F⟩ := c.def_ 5 (d := D_need_net) rfl
  exact ⟨_, fd, _, _, _, F, He.glo_ok X G (c.fact 5 (f := .glo "need_net") rfl), ok_need_net⟩
theorem has_need_place (X : K.In h) (G : h.Ns mainGlobals mg) (c : He.SaysD fa fn K) : HasD g K mg d_need_place := by
  obtain ⟨fd, F⟩ := c.def_ 6 (d := D_need_place) rfl
  exact ⟨_, fd, _, _, _, F, He.glo_ok X G (c.fact 6 (f := .glo "need_place") rfl), ok_need_place⟩
theorem has_near_places (X : K.In h) (G : h.Ns mainGlobals mg) (c : He.SaysD fa fn K) : HasD g K mg d_near_places := by
  obtain ⟨fd, F⟩ := c.def_ 7 (d := D_near_places) rfl
  exact ⟨_, fd, _, _, _, F, He.glo_ok X G (c.fact 7 (f := .glo "near_places") rfl), ok_near_places⟩
theorem has_time_between (X : K.In h) (G : h.Ns mainGlobals mg) (c : He.SaysD fa fn K) : HasD g K mg d_time_between := by
  obtain ⟨fd, F⟩ := c.def_ 8 (d := D_time_between) rfl
  exact ⟨_, fd, _, _, _, F, He.glo_ok X G (c.fact 8 (f := .glo "time_between") rfl), ok_time_between⟩
theorem has_is_way (X : K.In h) (G : h.Ns mainGlobals mg) (c : He.SaysD fa fn K) : HasD g K mg d_is_way := by
  obtain ⟨fd, F⟩ := c.def_ 9 (d := D_is_way) rfl
  exact ⟨_, fd, _, _, _, F, He.glo_ok X G (c.fact 9 (f := .glo "is_way") rfl), ok_is_way⟩
theorem has_way_time (X : K.In h) (G : h.Ns mainGlobals mg) (c : He.SaysD fa fn K) : HasD g K mg d_way_time := by
  obtain ⟨fd, F⟩ := c.def_ 10 (d := D_way_time) rfl
  exact ⟨_, fd, _, _, _, F, He.glo_ok X G (c.fact 10 (f := .glo "way_time") rfl), ok_way_time⟩
theorem has_time_of (X : K.In h) (G : h.Ns mainGlobals mg) (c : He.SaysD fa fn K) : HasD g K mg d_time_of := by
  obtain ⟨fd, F⟩ := c.def_ 11 (d := D_time_of) rfl
  exact ⟨_, fd, _, _, _, F, He.glo_ok X G (c.fact 11 (f := .glo "time_of") rfl), ok_time_of⟩
theorem has_ways (X : K.In h) (G : h.Ns mainGlobals mg) (c : He.SaysD fa fn K) : HasD g K mg d_ways := by
  obtain ⟨fd, F⟩ := c.def_ 12 (d := D_ways) rfl
  exact ⟨_, fd, _, _, _, F, He.glo_ok X G (c.fact 12 (f := .glo "ways") rfl), ok_ways⟩
theorem has_times_from (X : K.In h) (G : h.Ns mainGlobals mg) (c : He.SaysD fa fn K) : HasD g K mg d_times_from := by
  obtain ⟨fd, F⟩ := c.def_ 13 (d := D_times_from) rfl
  exact ⟨_, fd, _, _, _, F, He.glo_ok X G (c.fact 13 (f := .glo "times_from") rfl), ok_times_from⟩
theorem has_least_time (X : K.In h) (G : h.Ns mainGlobals mg) (c : He.SaysD fa fn K) : HasD g K mg d_least_time := by
  obtain ⟨fd, F⟩ := c.def_ 14 (d := D_least_time) rfl
  exact ⟨_, fd, _, _, _, F, He.glo_ok X G (c.fact 14 (f := .glo "least_time") rfl), ok_least_time⟩
theorem has_quickest (X : K.In h) (G : h.Ns mainGlobals mg) (c : He.SaysD fa fn K) : HasD g K mg d_quickest := by
  obtain ⟨fd, F⟩ := c.def_ 15 (d := D_quickest) rfl
  exact ⟨_, fd, _, _, _, F, He.glo_ok X G (c.fact 15 (f := .glo "quickest") rfl), ok_quickest⟩
theorem has__law_draw (X : K.In h) (G : h.Ns mainGlobals mg) (c : He.SaysD fa fn K) : HasD g K mg d__law_draw := by
  obtain ⟨fd, F⟩ := c.def_ 16 (d := D__law_draw) rfl
  exact ⟨_, fd, _, _, _, F, He.glo_ok X G (c.fact 16 (f := .glo "_law_draw") rfl), ok__law_draw⟩
theorem has__law_pick (X : K.In h) (G : h.Ns mainGlobals mg) (c : He.SaysD fa fn K) : HasD g K mg d__law_pick := by
  obtain ⟨fd, F⟩ := c.def_ 17 (d := D__law_pick) rfl
  exact ⟨_, fd, _, _, _, F, He.glo_ok X G (c.fact 17 (f := .glo "_law_pick") rfl), ok__law_pick⟩
theorem has__law_same (X : K.In h) (G : h.Ns mainGlobals mg) (c : He.SaysD fa fn K) : HasD g K mg d__law_same := by
  obtain ⟨fd, F⟩ := c.def_ 18 (d := D__law_same) rfl
  exact ⟨_, fd, _, _, _, F, He.glo_ok X G (c.fact 18 (f := .glo "_law_same") rfl), ok__law_same⟩
theorem has__law_odd (X : K.In h) (G : h.Ns mainGlobals mg) (c : He.SaysD fa fn K) : HasD g K mg d__law_odd := by
  obtain ⟨fd, F⟩ := c.def_ 19 (d := D__law_odd) rfl
  exact ⟨_, fd, _, _, _, F, He.glo_ok X G (c.fact 19 (f := .glo "_law_odd") rfl), ok__law_odd⟩
theorem has__law_bent (X : K.In h) (G : h.Ns mainGlobals mg) (c : He.SaysD fa fn K) : HasD g K mg d__law_bent := by
  obtain ⟨fd, F⟩ := c.def_ 20 (d := D__law_bent) rfl
  exact ⟨_, fd, _, _, _, F, He.glo_ok X G (c.fact 20 (f := .glo "_law_bent") rfl), ok__law_bent⟩
theorem has__law_within (X : K.In h) (G : h.Ns mainGlobals mg) (c : He.SaysD fa fn K) : HasD g K mg d__law_within := by
  obtain ⟨fd, F⟩ := c.def_ 21 (d := D__law_within) rfl
  exact ⟨_, fd, _, _, _, F, He.glo_ok X G (c.fact 21 (f := .glo "_law_within") rfl), ok__law_within⟩
theorem has__law_unlike (X : K.In h) (G : h.Ns mainGlobals mg) (c : He.SaysD fa fn K) : HasD g K mg d__law_unlike := by
  obtain ⟨fd, F⟩ := c.def_ 22 (d := D__law_unlike) rfl
  exact ⟨_, fd, _, _, _, F, He.glo_ok X G (c.fact 22 (f := .glo "_law_unlike") rfl), ok__law_unlike⟩
theorem has__law_net (X : K.In h) (G : h.Ns mainGlobals mg) (c : He.SaysD fa fn K) : HasD g K mg d__law_net := by
  obtain ⟨fd, F⟩ := c.def_ 23 (d := D__law_net) rfl
  exact ⟨_, fd, _, _, _, F, He.glo_ok X G (c.fact 23 (f := .glo "_law_net") rfl), ok__law_net⟩
theorem has__law_is_net (X : K.In h) (G : h.Ns mainGlobals mg) (c : He.SaysD fa fn K) : HasD g K mg d__law_is_net := by
  obtain ⟨fd, F⟩ := c.def_ 24 (d := D__law_is_net) rfl
  exact ⟨_, fd, _, _, _, F, He.glo_ok X G (c.fact 24 (f := .glo "_law_is_net") rfl), ok__law_is_net⟩
theorem has__law_near (X : K.In h) (G : h.Ns mainGlobals mg) (c : He.SaysD fa fn K) : HasD g K mg d__law_near := by
  obtain ⟨fd, F⟩ := c.def_ 25 (d := D__law_near) rfl
  exact ⟨_, fd, _, _, _, F, He.glo_ok X G (c.fact 25 (f := .glo "_law_near") rfl), ok__law_near⟩
theorem has__law_all_ways (X : K.In h) (G : h.Ns mainGlobals mg) (c : He.SaysD fa fn K) : HasD g K mg d__law_all_ways := by
  obtain ⟨fd, F⟩ := c.def_ 26 (d := D__law_all_ways) rfl
  exact ⟨_, fd, _, _, _, F, He.glo_ok X G (c.fact 26 (f := .glo "_law_all_ways") rfl), ok__law_all_ways⟩
theorem has__law_is_way (X : K.In h) (G : h.Ns mainGlobals mg) (c : He.SaysD fa fn K) : HasD g K mg d__law_is_way := by
  obtain ⟨fd, F⟩ := c.def_ 27 (d := D__law_is_way) rfl
  exact ⟨_, fd, _, _, _, F, He.glo_ok X G (c.fact 27 (f := .glo "_law_is_way") rfl), ok__law_is_way⟩
theorem hasT (X : K.In h) (G : h.Ns mainGlobals mg) (c : He.SaysD fa fn K) : ∀ d ∈ T, HasD g K mg d := (List.forall_mem_cons.mpr ⟨has_is_number X G c, (List.forall_mem_cons.mpr ⟨has_is_row X G c, (List.forall_mem_cons.mpr ⟨has_do_rise X G c, (List.forall_mem_cons.mpr ⟨has_is_track X G c, (List.forall_mem_cons.mpr ⟨has_is_net X G c, (List.forall_mem_cons.mpr ⟨has_need_net X G c, (List.forall_mem_cons.mpr ⟨has_need_place X G c, (List.forall_mem_cons.mpr ⟨has_near_places X G c, (List.forall_mem_cons.mpr ⟨has_time_between X G c, (List.forall_mem_cons.mpr ⟨has_is_way X G c, (List.forall_mem_cons.mpr ⟨has_way_time X G c, (List.forall_mem_cons.mpr ⟨has_time_of X G c, (List.forall_mem_cons.mpr ⟨has_ways X G c, (List.forall_mem_cons.mpr ⟨has_times_from X G c, (List.forall_mem_cons.mpr ⟨has_least_time X G c, (List.forall_mem_cons.mpr ⟨has_quickest X G c, (List.forall_mem_cons.mpr ⟨has__law_draw X G c, (List.forall_mem_cons.mpr ⟨has__law_pick X G c, (List.forall_mem_cons.mpr ⟨has__law_same X G c, (List.forall_mem_cons.mpr ⟨has__law_odd X G c, (List.forall_mem_cons.mpr ⟨has__law_bent X G c, (List.forall_mem_cons.mpr ⟨has__law_within X G c, (List.forall_mem_cons.mpr ⟨has__law_unlike X G c, (List.forall_mem_cons.mpr ⟨has__law_net X G c, (List.forall_mem_cons.mpr ⟨has__law_is_net X G c, (List.forall_mem_cons.mpr ⟨has__law_near X G c, (List.forall_mem_cons.mpr ⟨has__law_all_ways X G c, (List.forall_mem_cons.mpr ⟨has__law_is_way X G c, (fun _ z => nomatch z)⟩)⟩)⟩)⟩)⟩)⟩)⟩)⟩)⟩)⟩)⟩)⟩)⟩)⟩)⟩)⟩)⟩)⟩)⟩)⟩)⟩)⟩)⟩)⟩)⟩)⟩)⟩)⟩)
theorem fnsT : ∀ x ∈ g.fns, ∃ d ∈ T, d.nm = x := fun x hx => List.mem_map.mp (show x ∈ T.map Df.nm from hx)
theorem fxT (X : K.In h) (G : h.Ns mainGlobals mg) (c : He.SaysD fa fn K) : Fx g K mg where
  free := (List.forall_mem_cons.mpr ⟨He.free_ok X G (c.fact 31 (f := .free "abs") rfl), (List.forall_mem_cons.mpr ⟨He.free_ok X G (c.fact 32 (f := .free "all") rfl), (List.forall_mem_cons.mpr ⟨He.free_ok X G (c.fact 33 (f := .free "bool") rfl), (List.forall_mem_cons.mpr ⟨He.free_ok X G (c.fact 34 (f := .free "dict") rfl), (List.forall_mem_cons.mpr ⟨He.free_ok X G (c.fact 35 (f := .free "int") rfl), (List.forall_mem_cons.mpr ⟨He.free_ok X G (c.fact 36 (f := .free "isinstance") rfl), (List.forall_mem_cons.mpr ⟨He.free_ok X G (c.fact 37 (f := .free "len") rfl), (List.forall_mem_cons.mpr ⟨He.free_ok X G (c.fact 38 (f := .free "list") rfl), (List.forall_mem_cons.mpr ⟨He.free_ok X G (c.fact 39 (f := .free "max") rfl), (List.forall_mem_cons.mpr ⟨He.free_ok X G (c.fact 40 (f := .free "min") rfl), (List.forall_mem_cons.mpr ⟨He.free_ok X G (c.fact 41 (f := .free "range") rfl), (List.forall_mem_cons.mpr ⟨He.free_ok X G (c.fact 42 (f := .free "set") rfl), (List.forall_mem_cons.mpr ⟨He.free_ok X G (c.fact 43 (f := .free "sorted") rfl), (List.forall_mem_cons.mpr ⟨He.free_ok X G (c.fact 44 (f := .free "str") rfl), (List.forall_mem_cons.mpr ⟨He.free_ok X G (c.fact 45 (f := .free "sum") rfl), (List.forall_mem_cons.mpr ⟨He.free_ok X G (c.fact 46 (f := .free "tuple") rfl), (fun _ z => nomatch z)⟩)⟩)⟩)⟩)⟩)⟩)⟩)⟩)⟩)⟩)⟩)⟩)⟩)⟩)⟩)⟩)
  gis := (List.forall_mem_cons.mpr ⟨He.int_ok X G (c.fact 47 (f := .int "MOST_PLACES" 8) rfl), (List.forall_mem_cons.mpr ⟨He.int_ok X G (c.fact 48 (f := .int "MOST_TIME" 9) rfl), (fun _ z => nomatch z)⟩)⟩)
  excs := (List.forall_mem_cons.mpr ⟨⟨_, He.glo_ok X G (c.fact 49 (f := .glo "NoNet") rfl), (He.exc_ok (c.fact 51 (f := .exc "NoNet") rfl))⟩, (List.forall_mem_cons.mpr ⟨⟨_, He.glo_ok X G (c.fact 50 (f := .glo "NotThere") rfl), (He.exc_ok (c.fact 52 (f := .exc "NotThere") rfl))⟩, (fun _ z => nomatch z)⟩)⟩)
theorem rsT (X : K.In h) (G : h.Ns mainGlobals mg) (c : He.SaysD fa fn K) : RsAt K mg g.rsn g.rsh := by
  obtain ⟨fd, F⟩ := c.def_ 28 (d := D__law_raises) rfl
  exact rsAt_of (Ng := ["work", "name"]) (a := "work") (b := "name") (Cf := He.ga K) F (He.glo_ok X G (c.fact 28 (f := .glo "_law_raises") rfl)) ⟨rfl, rfl, rfl, by decide +kernel, rfl, by decide +kernel, by decide +kernel⟩ (by decide +kernel)
    (fun _ _ _ _ _ _ us hl => match us, hl with | [_, _], _ => rfl) rfl rfl rfl (by decide +kernel) (by decide +kernel) (by decide +kernel) (by decide +kernel)
    (List.forall_mem_cons.mpr ⟨He.glo_ok X G (c.fact 49 (f := .glo "NoNet") rfl), (List.forall_mem_cons.mpr ⟨He.glo_ok X G (c.fact 50 (f := .glo "NotThere") rfl), (fun _ z => nomatch z)⟩)⟩)
    (List.forall_mem_cons.mpr ⟨(List.forall_mem_cons.mpr ⟨(He.exm_ok (c.fact 53 (f := .exm "NoNet" "NoNet" true) rfl)).trans (by decide +kernel), (List.forall_mem_cons.mpr ⟨(He.exm_ok (c.fact 54 (f := .exm "NoNet" "NotThere" false) rfl)).trans (by decide +kernel), (fun _ z => nomatch z)⟩)⟩), (List.forall_mem_cons.mpr ⟨(List.forall_mem_cons.mpr ⟨(He.exm_ok (c.fact 55 (f := .exm "NotThere" "NoNet" false) rfl)).trans (by decide +kernel), (List.forall_mem_cons.mpr ⟨(He.exm_ok (c.fact 56 (f := .exm "NotThere" "NotThere" true) rfl)).trans (by decide +kernel), (fun _ z => nomatch z)⟩)⟩), (fun _ z => nomatch z)⟩)⟩)
theorem facts {P : Program} {w : World} {f : Addr} (k : Nat) (X : K.In h) (G : h.Ns mainGlobals mg) (hfa : mg ("law" : Str) = some (.ref f)) (c : He.SaysD fa fn K) :
    ∃ fd : FuncData, (∀ (s : Shared) (v : Value), BindsTo s fd ⟨[v], []⟩ [("script", v)]) ∧ ∀ base : Heap, K.In base → base.Ns mainGlobals mg → (LamX.TabB base mg (He.cT K ("law", none)).1 (He.cT K ("law", none)).2) → FnOk P w K mg base (L2.CX P w) (k + 4) f fd ["script"] (spLaw K [((He.cT K ("law", none)).2, lawQ)] (callD M.T.T (k + 1)) b_law 12) := by
  obtain ⟨fd, F⟩ := c.def_ 30 (d := D_law) rfl
  obtain ⟨fdp, Fp⟩ := c.def_ 29 (d := D__law_pot) rfl
  have e := hfa.symm.trans (He.glo_ok X G (c.fact 30 (f := .glo "law") rfl))
  cases e
  have b := FunD.bindsA (ps := ["script"]) F fun _ _ _ _ _ _ us hl => match us, hl with | [_], _ => rfl
  have bp : L2.Binds K fdp ["script"] [] := Fp.bindsN fun _ _ _ _ _ _ us hl => match us, hl with | [_], _ => rfl
  refine ⟨fd, fun s v => b s [v] rfl, fun base _ _ TB => ?_⟩
  have hp := ok_pot (CX := L2.CX P w) (P := P) (w := w) (base := base) Fp ⟨rfl, rfl, rfl, by decide +kernel, rfl, by decide +kernel, by decide +kernel⟩ rfl (by decide +kernel) (by decide +kernel) (by decide +kernel) (by decide +kernel) (by decide +kernel) ((fxT X G c).free _ (by decide +kernel))
  exact ok_law (lam := true) (T := [((He.cT K ("law", none)).2, lawQ)]) F ⟨rfl, rfl, rfl, by decide +kernel, rfl, by decide +kernel, by decide +kernel⟩ (N := N_law) rfl rfl rfl rfl (by decide +kernel) (by decide +kernel) (by decide +kernel) (by decide +kernel) (fxT X G c) (levels (hasT X G c) fnsT (fxT X G c) (k + 1)) hp
    (He.glo_ok X G (c.fact 29 (f := .glo "_law_pot") rfl)) Fp.kp bp (Nat.le_add_left 1 k) (fun _ => ⟨⟨(He.cT K ("law", none)).1, (He.cT K ("law", none)).2, TB, code_of (p := ("law", none)) F, rfl⟩, rsT X G c⟩)
end
end M.T

set_option Elab.async false
set_option linter.all false
set_option maxRecDepth 100000
set_option maxHeartbeats 2000000
namespace M.T
open PySem PySem.Spec PyProof.Rows L2
theorem e_is_number {k : Nat} (hk : 1 ≤ k) (i lo hi : Int) (p : Pot) : callD T k "is_number" [.val (.int i), .val (.int lo), .val (.int hi)] p = .ok (.bl (decide (lo ≤ i ∧ i ≤ hi))) p := by
  obtain ⟨k, rfl, hk⟩ := pos hk
  rw [call_is_number]
  by_cases h : lo ≤ i <;> simp [h]
theorem e_is_row {k : Nat} (hk : 2 ≤ k) (ns : List Int) (a b lo hi : Int) (p : Pot) (h1 : a ≤ ns.length) (h2 : (ns.length : Int) ≤ b) (h3 : ∀ n ∈ ns, lo ≤ n ∧ n ≤ hi) (hs : ns.length ≤ 1000) :
    callD T k "is_row" [.val (.tup (ns.map .int)), .val (.int a), .val (.int b), .val (.int lo), .val (.int hi)] p = .ok (.bl true) p := by
  obtain ⟨k, rfl, hk'⟩ := pos hk
  rw [call_is_row]
  simp [h1, h2]
  rw [compR_map (fun _ => .bl true)]
  · rw [fin_ok (by rw [List.length_map, List.length_map]; exact small hs)]
    simp [Function.comp_def, all_const]
  · intro x hx
    obtain ⟨n, hn, rfl⟩ := List.mem_map.mp hx
    refine ⟨_, rfl, rfl, ?_⟩
    simp [e_is_number hk', h3 n hn]
theorem e_do_rise {k : Nat} (hk : 1 ≤ k) (ns : List Int) (p : Pot) (h : ns.Pairwise (· < ·)) (hs : ns.length ≤ 1000) :
    callD T k "do_rise" [.val (.tup (ns.map .int))] p = .ok (.bl true) p := by
  obtain ⟨k, rfl, hk'⟩ := pos hk
  rw [call_do_rise]
  have hr : rgOk ((ns.length : Int) - 1) = true := rng_ok (by omega) (by omega)
  simp [dRange1, hr, rangeItems]
  rw [compR_map (fun _ => .bl true)]
  · rw [fin_ok (by simp; have := small hs; omega)]
    simp [Function.comp_def, all_const]
  · intro x hx
    obtain ⟨n, hn, rfl⟩ := List.mem_map.mp hx
    have hn := List.mem_range.mp hn
    have h1 : n + 1 < ns.length := by omega
    refine ⟨_, rfl, rfl, ?_⟩
    have hp := List.pairwise_iff_getElem.mp h n (n + 1) (by omega) h1 (by omega)
    have e1 := ixD_tup (map_get (f := D.int) (List.getElem?_eq_getElem (show n < ns.length by omega)))
    have e2 : ixD (.tup (ns.map D.int)) (.int ((n : Int) + 1)) = some (.int ns[n + 1]) := ixD_tup (map_get (f := D.int) (List.getElem?_eq_getElem h1))
    simp [e1, e2, hp]
theorem ret_tup {Φ : Phi} {e : E} {ρ : En} {p p1 : Pot} {ds : List D} (ha : ∀ f, aArg e f = aVal f) (h : (den Φ e).e ρ p = .ok (.lst ds) p1) : (dens Φ (.ret (.blt .tuple (.cons e .nil)))).s ρ p = .ok (.ret (.tup ds)) p1 := by
  show ((dCall (aCons (aArg e (den Φ e).e) aNil) (d1 tupleD)) ρ p).bind _ = _
  rw [ha]
  unfold dCall aCons aVal aNil
  rw [h]
  rfl
theorem ret_comp {Φ : Phi} {e : E} {ρ : En} {p p1 : Pot} {d : D} (h : (den Φ e).e ρ p = .ok d p1) : (dens Φ (.ret e)).s ρ p = .ok (.ret d) p1 := by
  show ((den Φ e).e ρ p).bind _ = _
  rw [h]
  rfl
theorem if_t {Φ : Phi} {c : E} {a b : S} {ρ : En} {p p1 : Pot} {x : Res Out} (h : (den Φ c).t ρ p = .ok true p1) (k : (dens Φ a).ss ρ p1 = x) : (dens Φ (.iff c a b)).s ρ p = x := by
  show ((den Φ c).t ρ p).bind _ = x
  rw [h]
  exact k
theorem if_f {Φ : Phi} {c : E} {a b : S} {ρ : En} {p p1 : Pot} {x : Res Out} (h : (den Φ c).t ρ p = .ok false p1) (k : (dens Φ b).ss ρ p1 = x) : (dens Φ (.iff c a b)).s ρ p = x := by
  show ((den Φ c).t ρ p).bind _ = x
  rw [h]
  exact k
theorem not_in (ss : List Int) (i : Int) : notInO (.int i) (.tup (ss.map D.int)) = some (.bl (!(ss.contains i))) := by
  have h : (ss.map D.int).all flatD = true := by simp [flatD]
  have key : ∀ ss : List Int, ((ss.map D.int).any fun z => eqb z (.int i)) = ss.contains i := by
    intro ss
    induction ss with
    | nil => rfl
    | cons s ss ih =>
      rw [List.map_cons, List.any_cons, ih, List.contains_cons]
      congr 1
      show (s == i) = (i == s)
      by_cases e : s = i
      · subst e; rfl
      · have : ¬ i = s := fun z => e z.symm
        rw [beq_eq_false_iff_ne.mpr e, beq_eq_false_iff_ne.mpr this]
  show Option.map (fun b => D.bl (!b)) (if flatD (.int i) = true ∧ (ss.map D.int).all flatD = true then some ((ss.map D.int).any fun z => eqb z (.int i)) else none) = _
  rw [if_pos ⟨rfl, h⟩, key]
  rfl
theorem retO_own {Φ : Phi} {i : Nat} {ρ : En} {p : Pot} {d : D} (h : ρ[i]? = some (some (.own d))) : (dens Φ (.retO i)).s ρ p = .ok (.ret d) p := by
  show sRetO i ρ p = _
  unfold sRetO
  rw [h]
theorem ext_run {Φ : Phi} {i : Nat} {e : E} {ρ : En} {p p1 : Pot} {ds es : List D} (h0 : rdL ρ i = some ds) (h : (den Φ e).e ρ p = .ok (.lst es) p1) (hl : ds.length + es.length ≤ 1000) : (dens Φ (.ext i e)).s ρ p = .ok (.nx (ρ.set i (some (.own (.lst (ds ++ es)))))) p1 := by
  show sWrL i (den Φ e).e extD ρ p = _
  unfold sWrL
  rw [h0]
  dsimp only
  rw [h, bind_ok]
  have : extD ds (.lst es) = some (ds ++ es) := by
    unfold extD
    exact if_pos (small hl)
  rw [this]
  rfl
mutual
def flt : Nat → D → Bool
  | _, .int _ => true
  | _, .bl _ => true
  | n + 1, .tup ds => decide (ds.length ≤ 1000) && flts n ds
  | _, _ => false
def flts : Nat → List D → Bool
  | _, [] => true
  | n, d :: ds => flt n d && flts n ds
end
theorem flts_mem {n : Nat} : ∀ {ds : List D}, flts n ds = true → ∀ d ∈ ds, flt n d = true
  | d :: ds, h, e, he => by
    simp only [flts, Bool.and_eq_true] at h
    rcases List.mem_cons.mp he with rfl | z
    · exact h.1
    · exact flts_mem h.2 e z
theorem flts_of {n : Nat} : ∀ {ds : List D}, (∀ d ∈ ds, flt n d = true) → flts n ds = true
  | [], _ => by simp [flts]
  | d :: ds, h => by
    simp only [flts, Bool.and_eq_true]
    exact ⟨h d List.mem_cons_self, flts_of fun e he => h e (List.mem_cons_of_mem _ he)⟩
theorem e_same : ∀ (n : Nat) {k : Nat} (d : D) (p : Pot), n + 1 ≤ k → flt n d = true → callD T k "_law_same" [.val d, .val d] p = .ok (.bl true) p := by
  intro n
  induction n with
  | zero =>
    intro k d p hk h
    obtain ⟨k, rfl, hk'⟩ := pos hk
    rw [call__law_same]
    cases d with
    | int i => simp [isO, isD, isNon, eqD, dat, eqb]
    | bl i => simp [isO, isD, isNon, eqD, dat, eqb]
    | _ => simp [flt] at h
  | succ n ih =>
    intro k d p hk h
    obtain ⟨k, rfl, hk'⟩ := pos hk
    rw [call__law_same]
    cases d with
    | int i => simp [isO, isD, isNon, eqD, dat, eqb]
    | bl i => simp [isO, isD, isNon, eqD, dat, eqb]
    | tup ds =>
      simp only [flt, Bool.and_eq_true, decide_eq_true_eq] at h
      have hr : rgOk (ds.length : Int) = true := rng_ok (by omega) (by omega)
      refine run_ret rfl ?_
      show (dens (callD T k) b__law_same).ss [some (.val (.tup ds)), some (.val (.tup ds)), none] p = _
      unfold b__law_same
      refine last (p1 := p) (if_t (p1 := p) (by simp) ?_)
      refine step (p1 := p) (if_f (p1 := p) (by simp [neD, dat, eqb]) done) ?_
      refine step (p1 := p) (if_f (p1 := p) (by simp [neD, dat, eqb]) done) ?_
      have hc := comp_run (Φ := callD T k) (t := .nm 2) (it := .iRange (.cons (.blt .len (.cons (.v 1) .nil)) .nil)) (c := .pt (.tNot (.tTru (.call "_law_same" (.cons (.ix (.v 0) (.v 2)) (.cons (.ix (.v 1) (.v 2)) .nil)))))) (e := .v 2) (own := [("k", 2)])
        (ρ := [some (.val (.tup ds)), some (.val (.tup ds)), none]) (p := p) (p1 := p) (p2 := p) (xs := rangeItems 0 ds.length) (ds := []) (by simp [dRange1, hr]) ?_ (by simp)
      · refine last (p1 := p) (ret_comp ?_)
        show d2 _ _ eqD _ p = _
        unfold d2
        have e1 : (den (callD T k) (E.comp (.nm 2) (.iRange (.cons (.blt .len (.cons (.v 1) .nil)) .nil)) (.pt (.tNot (.tTru (.call "_law_same" (.cons (.ix (.v 0) (.v 2)) (.cons (.ix (.v 1) (.v 2)) .nil)))))) (.v 2) [("k", 2)])).e [some (.val (.tup ds)), some (.val (.tup ds)), none] p = .ok (.lst []) p := hc
        rw [e1, bind_ok]
        rfl
      · have := compR_filter (tg := (Tg.nm 2).asg) (cond := (den (callD T k) (.pt (.tNot (.tTru (.call "_law_same" (.cons (.ix (.v 0) (.v 2)) (.cons (.ix (.v 1) (.v 2)) .nil))))))).c) (elt := (den (callD T k) (.v 2)).e) (ρ := [some (.val (.tup ds)), some (.val (.tup ds)), none]) (p := p) (fun d => d) (fun _ => false) (xs := rangeItems 0 ds.length) fun x hx => ?_
        · have e : ((rangeItems 0 ds.length).filter fun _ => false) = [] := by rw [List.filter_eq_nil_iff]; simp
          rw [e] at this
          exact this
        · obtain ⟨i, hi, rfl⟩ := List.mem_map.mp hx
          have hi := List.mem_range.mp hi
          refine ⟨_, rfl, ?_, fun z => nomatch z⟩
          have q := ixD_tup (List.getElem?_eq_getElem hi)
          have := ih ds[i] p hk' (flts_mem h.2 _ (List.getElem_mem hi))
          simp [q, this]
    | _ => simp [flt] at h
abbrev IP (p : Pot) : Prop := potOkB p = true
theorem ip {p : Pot} (h : IP p) : (∀ c ∈ p.cells, 0 ≤ c) ∧ 0 ≤ p.used ∧ 0 ≤ p.mix ∧ p.mix < 2147483647 ∧ 0 ≤ p.great ∧ p.cells.length ≤ 63 := by
  simp only [IP, potOkB, Bool.and_eq_true, List.all_eq_true, decide_eq_true_eq] at h
  exact ⟨h.1.1.1.1.1, h.1.1.1.1.2, h.1.1.1.2, h.1.1.2, h.1.2, h.2⟩
theorem ip_of {p : Pot} (h1 : ∀ c ∈ p.cells, 0 ≤ c) (h2 : 0 ≤ p.used) (h3 : 0 ≤ p.mix) (h4 : p.mix < 2147483647) (h5 : 0 ≤ p.great) (h6 : p.cells.length ≤ 63) : IP p := by
  simp only [IP, potOkB, Bool.and_eq_true, List.all_eq_true, decide_eq_true_eq]
  exact ⟨⟨⟨⟨⟨h1, h2⟩, h3⟩, h4⟩, h5⟩, h6⟩
theorem fm {a m : Int} (hm : 2 ≤ m) : 0 ≤ a.fmod m ∧ a.fmod m < m := ⟨Int.fmod_nonneg_of_pos a (by omega), Int.fmod_lt_of_pos a (by omega)⟩
theorem fd {a m : Int} (ha : 0 ≤ a) (hm : 2 ≤ m) : 0 ≤ a.fdiv m := Int.fdiv_nonneg ha (by omega)
theorem modD_ok {a m : Int} (hm : 2 ≤ m) : modD (.int a) (.int m) = some (.int (a.fmod m)) := by
  have : m ≠ 0 := by omega
  simp [modD, this]
theorem fdivD_ok {a m : Int} (hm : 2 ≤ m) (h2 : m < 1073741824) : fdivD (.int a) (.int m) = some (.int (a.fdiv m)) := by
  have : m ≠ 0 := by omega
  have h3 : m.natAbs < 1073741824 := by omega
  simp [fdivD, this, h3]
theorem draw_end {Φ : Phi} {m : Int} (hm : 2 ≤ m) (h2 : m < 1073741824) {p : Pot} (hp : IP p) {o : Option Sl} {c : Int} (hc : 0 ≤ c) : ∃ r p', (dens Φ (.cons (.pSet 0 2 (.bin .mod (.blt .int (.cons (.bin .add (.bin .add (.bin .mul (.pGet 0 2) (.int 48271)) (.v 3)) (.int 12345)) .nil)) (.int 2147483647)))
    (.cons (.ret (.bin .mod (.blt .int (.cons (.bin .add (.bin .fdiv (.bin .mul (.pGet 0 2) (.pGet 0 2)) (.int 64)) (.bin .fdiv (.pGet 0 2) (.int 7))) .nil)) (.v 1))) .nil))).ss [some (.val .pot), some (.val (.int m)), o, some (.val (.int c))] p = .ok (.ret (.int r)) p' ∧ IP p' ∧ 0 ≤ r ∧ r < m := by
  obtain ⟨a1, a2, a3, a4, a5, a6⟩ := ip hp
  have hb := fm (a := p.mix * 48271 + c + 12345) (m := 2147483647) (by omega)
  generalize hx : (p.mix * 48271 + c + 12345).fmod 2147483647 = x at hb
  have hp2 : IP { p with mix := x } := ip_of a1 a2 hb.1 hb.2 a5 a6
  have e1 : mulD (.int p.mix) (.int 48271) = some (.int (p.mix * 48271)) := by
    have : bnd 18446744073709551615 48271 = true := bnd_of (by decide)
    simp [mulD, imulD, this]
  have e2 : mulD (.int x) (.int x) = some (.int (x * x)) := by
    have : bnd 18446744073709551615 x = true := bnd_of (by omega)
    simp [mulD, imulD, this]
  have e3 := modD_ok (a := p.mix * 48271 + c + 12345) (m := 2147483647) (by omega)
  rw [hx] at e3
  have e4 := fdivD_ok (a := x * x) (m := 64) (by omega) (by omega)
  have e5 := fdivD_ok (a := x) (m := 7) (by omega) (by omega)
  have e6 := modD_ok (a := (x * x).fdiv 64 + x.fdiv 7) hm
  refine ⟨((x * x).fdiv 64 + x.fdiv 7).fmod m, { p with mix := x }, ?_, hp2, fm hm⟩
  refine step (p1 := { p with mix := x }) (ρ1 := [some (.val .pot), some (.val (.int m)), o, some (.val (.int c))]) ?_ (last ?_)
  · simp [-modD, -fdivD, e1, e3, potSet, hp2]
  · simp [-modD, -fdivD, e2, e4, e5, e6]
theorem run_ex {Φ : Phi} {d : Df} {ss : List Sl} {p : Pot} {P : Int → Pot → Prop} (hl : ss.length = d.np) (h : ∃ r p', (dens Φ d.body).ss (entry d.N.length ss) p = .ok (.ret (.int r)) p' ∧ P r p') : ∃ r p', runD Φ d ss p = .ok (.int r) p' ∧ P r p' := by
  obtain ⟨r, p', h1, h2⟩ := h
  exact ⟨r, p', run_ret hl h1, h2⟩
theorem step_ex {Φ : Phi} {s r : S} {ρ ρ1 : En} {p p1 : Pot} {P : Int → Pot → Prop} (h : (dens Φ s).s ρ p = .ok (.nx ρ1) p1) (k : ∃ x p', (dens Φ r).ss ρ1 p1 = .ok (.ret (.int x)) p' ∧ P x p') : ∃ x p', (dens Φ (.cons s r)).ss ρ p = .ok (.ret (.int x)) p' ∧ P x p' := by
  obtain ⟨x, p', h1, h2⟩ := k
  exact ⟨x, p', step h h1, h2⟩
theorem e_draw {k : Nat} (hk : 1 ≤ k) {m : Int} (hm : 1 ≤ m) (h2 : m < 1073741824) {p : Pot} (hp : IP p) : ∃ r p', callD T k "_law_draw" [.val .pot, .val (.int m)] p = .ok (.int r) p' ∧ IP p' ∧ 0 ≤ r ∧ r < m := by
  obtain ⟨k, rfl, hk'⟩ := pos hk
  obtain ⟨a1, a2, a3, a4, a5, a6⟩ := ip hp
  rw [call__law_draw]
  refine run_ex rfl ?_
  show ∃ r p', (dens (callD T k) b__law_draw).ss [some (.val .pot), some (.val (.int m)), none, none] p = _ ∧ _
  unfold b__law_draw
  by_cases h1 : m < 2
  · exact ⟨0, p, last (p1 := p) (if_t (p1 := p) (by simp [h1]) (last (p1 := p) (by simp))), hp, by omega, by omega⟩
  have hm2 : 2 ≤ m := by omega
  refine step_ex (p1 := p) (ρ1 := [some (.val .pot), some (.val (.int m)), none, none]) (if_f (p1 := p) (by simp [h1]) done) ?_
  by_cases hg : 0 < p.great
  · have e1 := modD_ok (a := p.great) hm2
    have e2 := fdivD_ok (a := p.great) hm2 h2
    have hp2 : IP { p with great := p.great.fdiv m } := ip_of a1 a2 a3 a4 (fd a5 hm2) a6
    refine ⟨p.great.fmod m, { p with great := p.great.fdiv m }, last (p1 := { p with great := p.great.fdiv m }) (if_t (p1 := p) (by simp [hg]) ?_), hp2, fm hm2⟩
    refine step (p1 := p) (ρ1 := [some (.val .pot), some (.val (.int m)), some (.val (.int (p.great.fmod m))), none]) (by simp [-modD, e1]) ?_
    refine step (p1 := { p with great := p.great.fdiv m }) (ρ1 := [some (.val .pot), some (.val (.int m)), some (.val (.int (p.great.fmod m))), none]) (by simp [-fdivD, e2, potSet, hp2]) ?_
    exact last (p1 := { p with great := p.great.fdiv m }) (by simp)
  · refine step_ex (p1 := p) (ρ1 := [some (.val .pot), some (.val (.int m)), none, none]) (if_f (p1 := p) (by simp [hg]) done) ?_
    refine step_ex (p1 := p) (ρ1 := [some (.val .pot), some (.val (.int m)), none, some (.val (.int 0))]) (by simp) ?_
    by_cases hu : p.used < (p.cells.length : Int)
    · obtain ⟨u, hu'⟩ : ∃ u : Nat, p.used = (u : Int) := ⟨p.used.toNat, by omega⟩
      have hul : u < p.cells.length := by omega
      have hc0 : 0 ≤ p.cells[u] := a1 _ (List.getElem_mem hul)
      have e1 : ixD (.lst (p.cells.map D.int)) (.int p.used) = some (.int p.cells[u]) := by
        rw [hu']
        exact ixD_lst (map_get (List.getElem?_eq_getElem hul))
      generalize p.cells[u] = c at hc0 e1
      have hp2 : IP { p with used := p.used + 1 } := ip_of a1 (by show 0 ≤ p.used + 1; omega) a3 a4 a5 a6
      have e3 : powD (.int 10) (.int 18) = some (.int 1000000000000000000) := by
        have : (10 : Int).natAbs < 2 ^ 64 := by decide
        simp [powD, this]
      by_cases hbig : 1000000000000000000 ≤ c
      · have hp3 : IP { p with used := p.used + 1, great := c.fdiv m } := ip_of a1 (by show 0 ≤ p.used + 1; omega) a3 a4 (fd hc0 hm2) a6
        have e4 := fdivD_ok (a := c) hm2 h2
        have e5 := modD_ok (a := c) hm2
        refine ⟨c.fmod m, { p with used := p.used + 1, great := c.fdiv m }, last (p1 := { p with used := p.used + 1, great := c.fdiv m }) (if_t (p1 := p) (by simp [hu]) ?_), hp3, fm hm2⟩
        refine step (p1 := p) (ρ1 := [some (.val .pot), some (.val (.int m)), none, some (.val (.int c))]) (by simp [e1]) ?_
        refine step (p1 := { p with used := p.used + 1 }) (ρ1 := [some (.val .pot), some (.val (.int m)), none, some (.val (.int c))]) (by simp [potSet, hp2]) ?_
        refine last (p1 := { p with used := p.used + 1, great := c.fdiv m }) (if_t (p1 := { p with used := p.used + 1 }) (by simp [-powD, e3, hbig]) ?_)
        refine step (p1 := { p with used := p.used + 1, great := c.fdiv m }) (ρ1 := [some (.val .pot), some (.val (.int m)), none, some (.val (.int c))]) (by simp [-fdivD, e4, potSet, hp3]) ?_
        exact last (p1 := { p with used := p.used + 1, great := c.fdiv m }) (by simp [-modD, e5])
      · refine step_ex (p1 := { p with used := p.used + 1 }) (ρ1 := [some (.val .pot), some (.val (.int m)), none, some (.val (.int c))]) (if_t (p1 := p) (by simp [hu]) ?_) (draw_end hm2 h2 hp2 hc0)
        refine step (p1 := p) (ρ1 := [some (.val .pot), some (.val (.int m)), none, some (.val (.int c))]) (by simp [e1]) ?_
        refine step (p1 := { p with used := p.used + 1 }) (ρ1 := [some (.val .pot), some (.val (.int m)), none, some (.val (.int c))]) (by simp [potSet, hp2]) ?_
        exact step (p1 := { p with used := p.used + 1 }) (if_f (p1 := { p with used := p.used + 1 }) (by simp [-powD, e3, hbig]) done) done
    · exact step_ex (p1 := p) (ρ1 := [some (.val .pot), some (.val (.int m)), none, some (.val (.int 0))]) (if_f (p1 := p) (by simp [hu]) done) (draw_end hm2 h2 hp (by omega))
theorem e_pick {k : Nat} (hk : 2 ≤ k) {xs : List D} (h1 : 1 ≤ xs.length) (h2 : xs.length ≤ 1000) {p : Pot} (hp : IP p) : ∃ x p', callD T k "_law_pick" [.val .pot, .val (.lst xs)] p = .ok x p' ∧ IP p' ∧ x ∈ xs := by
  obtain ⟨k, rfl, hk'⟩ := pos hk
  obtain ⟨r, p', e1, e2, e3, e4⟩ := e_draw hk' (m := (xs.length : Int)) (by omega) (by omega) hp
  obtain ⟨i, rfl⟩ : ∃ i : Nat, r = (i : Int) := ⟨r.toNat, by omega⟩
  have hi : i < xs.length := by omega
  have q := ixD_lst (List.getElem?_eq_getElem hi)
  refine ⟨xs[i], p', ?_, e2, List.getElem_mem hi⟩
  rw [call__law_pick]
  simp [e1, q]
theorem tupE {Φ : Phi} {e : E} {ρ : En} {p p1 : Pot} {ds : List D} (ha : ∀ f, aArg e f = aVal f) (h : (den Φ e).e ρ p = .ok (.lst ds) p1) : (den Φ (.blt .tuple (.cons e .nil))).e ρ p = .ok (.tup ds) p1 := by
  show dCall (aCons (aArg e (den Φ e).e) aNil) (d1 tupleD) ρ p = _
  rw [ha]
  unfold dCall aCons aVal aNil
  rw [h]
  rfl
theorem set_run {Φ : Phi} {i : Nat} {e : E} {ρ : En} {p p1 : Pot} {d : D} (h : (den Φ e).e ρ p = .ok d p1) : (dens Φ (.set i e)).s ρ p = .ok (.nx (ρ.set i (some (.val d)))) p1 := by
  show sSet i (den Φ e).e ρ p = _
  unfold sSet
  rw [h]
  rfl
mutual
def gd : Nat → D → Bool
  | _, .non => true
  | _, .bl _ => true
  | _, .int _ => true
  | _, .str x => PyData.strOk x
  | n + 1, .tup ds => decide (ds.length ≤ 1000) && gds n ds
  | n + 1, .lst ds => decide (ds.length ≤ 1000) && gds n ds
  | _, _ => false
def gds : Nat → List D → Bool
  | _, [] => true
  | n, d :: ds => gd n d && gds n ds
end
theorem gds_mem {n : Nat} : ∀ {ds : List D}, gds n ds = true → ∀ d ∈ ds, gd n d = true
  | d :: ds, h, e, he => by
    simp only [gds, Bool.and_eq_true] at h
    rcases List.mem_cons.mp he with rfl | z
    · exact h.1
    · exact gds_mem h.2 e z
theorem gds_of {n : Nat} : ∀ {ds : List D}, (∀ d ∈ ds, gd n d = true) → gds n ds = true
  | [], _ => by simp [gds]
  | d :: ds, h => by
    simp only [gds, Bool.and_eq_true]
    exact ⟨h d List.mem_cons_self, gds_of fun e he => h e (List.mem_cons_of_mem _ he)⟩
theorem gd_up {d : D} : ∀ {n m : Nat}, n ≤ m → gd n d = true → gd m d = true := by
  have key : ∀ n, (∀ d m, n ≤ m → gd n d = true → gd m d = true) := by
    intro n
    induction n with
    | zero => intro d m _ h; cases d <;> simp_all [gd]
    | succ n ih =>
      intro d m hm h
      obtain ⟨m, rfl⟩ : ∃ j, m = j + 1 := ⟨m - 1, by omega⟩
      cases d with
      | tup ds =>
        simp only [gd, Bool.and_eq_true] at h ⊢
        exact ⟨h.1, gds_of fun e he => ih e m (by omega) (gds_mem h.2 e he)⟩
      | lst ds =>
        simp only [gd, Bool.and_eq_true] at h ⊢
        exact ⟨h.1, gds_of fun e he => ih e m (by omega) (gds_mem h.2 e he)⟩
      | _ => simp_all [gd]
  exact fun {n m} hm h => key n d m hm h
theorem gd_dat : ∀ (n : Nat) (d : D), gd n d = true → dat n d = true := by
  intro n
  induction n with
  | zero => intro d h; cases d <;> simp_all [gd, dat]
  | succ n ih =>
    have hs : ∀ ds : List D, gds n ds = true → dats n ds = true := by
      intro ds
      induction ds with
      | nil => intro _; simp [dats]
      | cons d ds ihd =>
        intro h
        simp only [gds, Bool.and_eq_true] at h
        simp only [dats, Bool.and_eq_true]
        exact ⟨ih d h.1, ihd h.2⟩
    intro d h
    cases d with
    | tup ds => simp only [gd, Bool.and_eq_true] at h; simp only [dat]; exact hs ds h.2
    | lst ds => simp only [gd, Bool.and_eq_true] at h; simp only [dat]; exact hs ds h.2
    | _ => simp_all [gd, dat]
theorem dats_of {n : Nat} : ∀ {ds : List D}, (∀ d ∈ ds, dat n d = true) → dats n ds = true
  | [], _ => by simp [dats]
  | d :: ds, h => by
    simp only [dats, Bool.and_eq_true]
    exact ⟨h d List.mem_cons_self, dats_of fun e he => h e (List.mem_cons_of_mem _ he)⟩
theorem gds_dats {n : Nat} (hn : n ≤ 63) {ds : List D} (h : ∀ d ∈ ds, gd n d = true) : dats 63 ds = true := dats_of fun d hd => gd_dat 63 d (gd_up hn (h d hd))
theorem ne_nilG {n : Nat} (hn : n ≤ 63) {ds : List D} (h : ∀ d ∈ ds, gd n d = true) : neD (.lst ds) (.lst []) = some (.bl (!ds.isEmpty)) := by
  unfold neD
  rw [if_pos ⟨by simp only [dat]; exact gds_dats hn h, by simp [dat, dats]⟩]
  cases ds <;> simp [eqb, eqbs]
theorem eq_nilG {n : Nat} (hn : n ≤ 63) {ds : List D} (h : ∀ d ∈ ds, gd n d = true) : eqD (.lst ds) (.lst []) = some (.bl ds.isEmpty) := by
  unfold eqD
  rw [if_pos ⟨by simp only [dat]; exact gds_dats hn h, by simp [dat, dats]⟩]
  cases ds <;> simp [eqb, eqbs]
theorem blsOf_mapf {α : Type} (f : α → Bool) (xs : List α) : blsOf (xs.map fun x => D.bl (f x)) = some (xs.map f) := by
  induction xs with
  | nil => rfl
  | cons x xs ih => simp [blsOf, ih]
theorem all_mapf {α : Type} (f : α → Bool) (xs : List α) : allD (.lst (xs.map fun x => D.bl (f x))) = some (.bl (xs.all f)) := by
  show (blsOf (xs.map fun x => D.bl (f x))).map (fun bs => D.bl (bs.all id)) = _
  rw [blsOf_mapf]
  simp [List.all_map, Function.comp_def]
theorem filt_all {α : Type} (f : α → Bool) (xs : List α) : (xs.filter fun x => !f x).isEmpty = xs.all f := by
  induction xs with
  | nil => rfl
  | cons x xs ih =>
    rw [List.filter_cons]
    cases h : f x <;> simp [h, ← ih]
theorem blt_run {Φ : Phi} {f : Bf} {e : E} {ρ : En} {p p1 : Pot} {x d : D} (ha : ∀ f, aArg e f = aVal f) (h : (den Φ e).e ρ p = .ok x p1) (hf : f.d [x] = some d) : (den Φ (.blt f (.cons e .nil))).e ρ p = .ok d p1 := by
  show dCall (aCons (aArg e (den Φ e).e) aNil) f.d ρ p = _
  rw [ha]
  simp only [dCall, aCons, aVal, aNil, Res.bind, h, List.map_cons, List.map_nil, Sl.d, hf]
  rfl
theorem cmp_run {Φ : Phi} {o : Cm} {a b : E} {ρ : En} {p p1 p2 : Pot} {x y d : D} (h1 : (den Φ a).e ρ p = .ok x p1) (h2 : (den Φ b).e ρ p1 = .ok y p2) (h : o.d x y = some d) : (den Φ (.cmp o a b)).e ρ p = .ok d p2 := by
  show ((den Φ a).e ρ p).bind (fun d1 p1 => ((den Φ b).e ρ p1).bind fun d2 p2 => ofO (o.d d1 d2) p2) = _
  rw [h1, bind_ok, h2, bind_ok, h]
  rfl
theorem tcmp_run {Φ : Phi} {o : Cm} {a b : E} {ρ : En} {p p1 p2 : Pot} {x y : D} {c : Bool} (h1 : (den Φ a).e ρ p = .ok x p1) (h2 : (den Φ b).e ρ p1 = .ok y p2) (h : o.d x y = some (.bl c)) : (den Φ (.tCmp o a b)).t ρ p = .ok c p2 := by
  show dBl (fun ρ p => ((den Φ a).e ρ p).bind (fun d1 p1 => ((den Φ b).e ρ p1).bind fun d2 p2 => ofO (o.d d1 d2) p2)) ρ p = _
  simp only [dBl, h1, bind_ok, h2, h]
  rfl
def numB (lo hi : Int) : D → Bool
  | .int i => decide (lo ≤ i ∧ i ≤ hi)
  | _ => false
theorem e_numG {k : Nat} (hk : 1 ≤ k) {n : Nat} {d : D} (h : gd n d = true) (lo hi : Int) (p : Pot) : callD T k "is_number" [.val d, .val (.int lo), .val (.int hi)] p = .ok (.bl (numB lo hi d)) p := by
  obtain ⟨k, rfl, hk⟩ := pos hk
  rw [call_is_number]
  cases d with
  | int i => by_cases h : lo ≤ i <;> simp [h, numB]
  | fn x => cases n <;> simp [gd] at h
  | pot => cases n <;> simp [gd] at h
  | dct x => cases n <;> simp [gd] at h
  | dcn x => cases n <;> simp [gd] at h
  | _ => simp [numB]
theorem e_within {k : Nat} (hk : 1 ≤ k) {n : Nat} {d : D} (h : gd n d = true) (lo hi : Int) (p : Pot) : callD T k "_law_within" [.val d, .val (.int lo), .val (.int hi)] p = .ok (.bl (numB lo hi d)) p := by
  obtain ⟨k, rfl, hk⟩ := pos hk
  rw [call__law_within]
  cases d with
  | int i => by_cases h : lo ≤ i <;> simp [h, numB]
  | fn x => cases n <;> simp [gd] at h
  | pot => cases n <;> simp [gd] at h
  | dct x => cases n <;> simp [gd] at h
  | dcn x => cases n <;> simp [gd] at h
  | _ => simp [numB]
theorem all_nums {lo hi : Int} {ds : List D} (h : ds.all (numB lo hi) = true) : ∃ ns : List Int, ds = ns.map .int ∧ ∀ n ∈ ns, lo ≤ n ∧ n ≤ hi := by
  refine exists_ints fun d hd => ?_
  have := List.all_eq_true.mp h d hd
  unfold numB at this
  split at this
  · exact ⟨_, rfl, of_decide_eq_true this⟩
  · cases this
def rowB (a b lo hi : Int) : D → Bool
  | .tup ds => decide (a ≤ ds.length ∧ (ds.length : Int) ≤ b) && ds.all (numB lo hi)
  | _ => false
theorem e_rowG {k : Nat} (hk : 2 ≤ k) {n : Nat} {d : D} (h : gd n d = true) (a b lo hi : Int) (p : Pot) : callD T k "is_row" [.val d, .val (.int a), .val (.int b), .val (.int lo), .val (.int hi)] p = .ok (.bl (rowB a b lo hi d)) p := by
  obtain ⟨k, rfl, hk'⟩ := pos hk
  rw [call_is_row]
  cases d with
  | tup ds =>
    cases n with
    | zero => simp [gd] at h
    | succ n =>
    simp only [gd, Bool.and_eq_true, decide_eq_true_eq] at h
    have hc : compR (Tg.nm 5).asg (den (callD T k) E.nil).c (den (callD T k) (.call "is_number" (.cons (.v 5) (.cons (.v 3) (.cons (.v 4) .nil))))).e [some (.val (.tup ds)), some (.val (.int a)), some (.val (.int b)), some (.val (.int lo)), some (.val (.int hi)), none] ds p = .ok (ds.map fun d => .bl (numB lo hi d)) p := by
      refine compR_map _ fun x hx => ⟨_, rfl, rfl, ?_⟩
      simp [e_numG hk' (gds_mem h.2 x hx)]
    by_cases h1 : a ≤ ds.length
    · by_cases h2 : (ds.length : Int) ≤ b
      · refine run_ret rfl ?_
        show (dens (callD T k) b_is_row).ss [some (.val (.tup ds)), some (.val (.int a)), some (.val (.int b)), some (.val (.int lo)), some (.val (.int hi)), none] p = _
        unfold b_is_row
        refine step (p1 := p) (if_f (p1 := p) (by simp [h1, h2]) done) ?_
        refine last (ret_comp ?_)
        have hcomp := comp_run (Φ := callD T k) (t := .nm 5) (it := .iE (.v 0)) (c := .nil) (e := .call "is_number" (.cons (.v 5) (.cons (.v 3) (.cons (.v 4) .nil)))) (own := [("one", 5)]) (ρ := [some (.val (.tup ds)), some (.val (.int a)), some (.val (.int b)), some (.val (.int lo)), some (.val (.int hi)), none]) (p := p) (p1 := p) (p2 := p) (xs := ds) (by simp) hc (by simpa using h.1)
        have := blt_run (f := .all) (fun _ => rfl) hcomp (all_mapf (numB lo hi) ds)
        rw [this]
        simp [rowB, h1, h2]
      · simp [h1, h2, rowB]
    · simp [h1, rowB]
  | fn x => cases n <;> simp [gd] at h
  | pot => cases n <;> simp [gd] at h
  | dct x => cases n <;> simp [gd] at h
  | dcn x => cases n <;> simp [gd] at h
  | _ => simp [rowB]
def riseB (ns : List Int) : Bool := (List.range (ns.length - 1)).all fun i => decide (ns.getD i 0 < ns.getD (i + 1) 0)
theorem e_riseG {k : Nat} (hk : 1 ≤ k) (ns : List Int) (p : Pot) (hs : ns.length ≤ 1000) : callD T k "do_rise" [.val (.tup (ns.map .int))] p = .ok (.bl (riseB ns)) p := by
  obtain ⟨k, rfl, hk'⟩ := pos hk
  rw [call_do_rise]
  refine run_ret rfl ?_
  show (dens (callD T k) b_do_rise).ss [some (.val (.tup (ns.map .int))), none] p = _
  unfold b_do_rise
  have hr : rgOk ((ns.length : Int) - 1) = true := rng_ok (by omega) (by omega)
  have e0 : ((ns.length : Int) - 1).toNat = ns.length - 1 := by omega
  refine last (ret_comp (blt_run (f := .all) (fun _ => rfl) (comp_run (p1 := p) (xs := rangeItems 0 (ns.length - 1)) (ds := (List.range (ns.length - 1)).map fun i => .bl (decide (ns.getD i 0 < ns.getD (i + 1) 0))) ?_ ?_ (by simp; omega)) (all_mapf _ _)))
  · simp [dRange1, hr, e0]
  · have hm : ((List.range (ns.length - 1)).map fun i => D.bl (decide (ns.getD i 0 < ns.getD (i + 1) 0))) = (rangeItems 0 (ns.length - 1)).map fun d => match d with
        | .int i => .bl (decide (ns.getD i.toNat 0 < ns.getD (i.toNat + 1) 0))
        | d => d := by
      simp [rangeItems, Function.comp_def]
    rw [hm]
    refine compR_map _ fun x hx => ?_
    obtain ⟨n, hn, rfl⟩ := List.mem_map.mp hx
    have hn := List.mem_range.mp hn
    have h1 : n + 1 < ns.length := by omega
    refine ⟨_, rfl, rfl, ?_⟩
    have e1 := ixD_tup (map_get (f := D.int) (List.getElem?_eq_getElem (show n < ns.length by omega)))
    have e2 : ixD (.tup (ns.map D.int)) (.int ((n : Int) + 1)) = some (.int ns[n + 1]) := ixD_tup (map_get (f := D.int) (List.getElem?_eq_getElem h1))
    simp [e1, e2, List.getD_eq_getElem?_getD, List.getElem?_eq_getElem h1, List.getElem?_eq_getElem (show n < ns.length by omega)]
theorem riseB_iff {ns : List Int} : riseB ns = true ↔ ns.Pairwise (· < ·) := by
  unfold riseB
  rw [List.all_eq_true]
  constructor
  · intro h
    have key : ∀ i j, i < j → j < ns.length → ns.getD i 0 < ns.getD j 0 := by
      intro i j hij
      induction j with
      | zero => omega
      | succ j ih =>
        intro hj
        have h1 := of_decide_eq_true (h j (List.mem_range.mpr (by omega)))
        rcases Nat.lt_or_ge i j with z | z
        · exact Int.lt_trans (ih z (by omega)) h1
        · obtain rfl : i = j := by omega
          exact h1
    rw [List.pairwise_iff_getElem]
    intro i j hi hj hij
    have := key i j hij hj
    simpa [List.getD_eq_getElem?_getD, List.getElem?_eq_getElem hi, List.getElem?_eq_getElem hj] using this
  · intro h i hi
    have hi := List.mem_range.mp hi
    have := List.pairwise_iff_getElem.mp h i (i + 1) (by omega) (by omega) (by omega)
    simpa [List.getD_eq_getElem?_getD, List.getElem?_eq_getElem (show i < ns.length by omega), List.getElem?_eq_getElem (show i + 1 < ns.length by omega)] using this
def toI : D → Int
  | .int i => i
  | _ => 0
theorem toI_map (ns : List Int) : (ns.map D.int).map toI = ns := by
  rw [List.map_map]
  exact List.map_id' ns
theorem toI_map' (ns : List Int) : ns.map (toI ∘ D.int) = ns := List.map_id' ns
theorem rowB_tup {a b lo hi : Int} {d : D} (h : rowB a b lo hi d = true) : ∃ ns : List Int, d = .tup (ns.map .int) ∧ a ≤ ns.length ∧ (ns.length : Int) ≤ b ∧ ∀ n ∈ ns, lo ≤ n ∧ n ≤ hi := by
  cases d with
  | tup ds =>
    simp only [rowB, Bool.and_eq_true, decide_eq_true_eq] at h
    obtain ⟨ns, rfl, hb⟩ := all_nums h.2
    exact ⟨ns, rfl, by simpa using h.1.1, by simpa using h.1.2, hb⟩
  | _ => simp [rowB] at h
section
variable {Φ : Phi} {a r : E} {ρ : En} {p p1 : Pot}
theorem or_t (h : (den Φ a).t ρ p = .ok true p1) : (den Φ (.tOrs (.cons a r))).t ρ p = .ok true p1 := by
  show (if oneNil r = true then (den Φ a).t else tOrD (den Φ a).t (den Φ r).tors) ρ p = _
  split
  · exact h
  · simp [tOrD, h]
theorem or_f {x : Res Bool} (hr : oneNil r = false) (h : (den Φ a).t ρ p = .ok false p1) (k : (den Φ (.tOrs r)).t ρ p1 = x) : (den Φ (.tOrs (.cons a r))).t ρ p = x := by
  show (if oneNil r = true then (den Φ a).t else tOrD (den Φ a).t (den Φ r).tors) ρ p = _
  rw [hr, if_neg (by simp)]
  simp only [tOrD, h, Res.bind]
  rw [if_neg (by simp)]
  exact k
theorem or_1 {x : Res Bool} (h : (den Φ a).t ρ p = x) : (den Φ (.tOrs (.cons a .nil))).t ρ p = x := h
theorem and_f (h : (den Φ a).t ρ p = .ok false p1) : (den Φ (.tAnds (.cons a r))).t ρ p = .ok false p1 := by
  show (if oneNil r = true then (den Φ a).t else tAndD (den Φ a).t (den Φ r).tands) ρ p = _
  split
  · exact h
  · simp [tAndD, h]
theorem and_t {x : Res Bool} (hr : oneNil r = false) (h : (den Φ a).t ρ p = .ok true p1) (k : (den Φ (.tAnds r)).t ρ p1 = x) : (den Φ (.tAnds (.cons a r))).t ρ p = x := by
  show (if oneNil r = true then (den Φ a).t else tAndD (den Φ a).t (den Φ r).tands) ρ p = _
  rw [hr, if_neg (by simp)]
  simp only [tAndD, h, Res.bind, if_true]
  exact k
theorem and_1 {x : Res Bool} (h : (den Φ a).t ρ p = x) : (den Φ (.tAnds (.cons a .nil))).t ρ p = x := h
theorem vand_f (h : (den Φ a).e ρ p = .ok (.bl false) p1) : (den Φ (.ands (.cons a r))).e ρ p = .ok (.bl false) p1 := by
  show (if oneNil r = true then (den Φ a).e else dAnd (den Φ a).e (den Φ r).ands) ρ p = _
  split
  · exact h
  · simp [dAnd, h]
theorem vand_t {x : Res D} (hr : oneNil r = false) (h : (den Φ a).e ρ p = .ok (.bl true) p1) (k : (den Φ (.ands r)).e ρ p1 = x) : (den Φ (.ands (.cons a r))).e ρ p = x := by
  show (if oneNil r = true then (den Φ a).e else dAnd (den Φ a).e (den Φ r).ands) ρ p = _
  rw [hr, if_neg (by simp)]
  simp only [dAnd, h, Res.bind]
  exact k
theorem vand_1 {x : Res D} (h : (den Φ a).e ρ p = x) : (den Φ (.ands (.cons a .nil))).e ρ p = x := h
theorem not_run {b : Bool} (h : (den Φ a).t ρ p = .ok b p1) : (den Φ (.tNot a)).t ρ p = .ok (!b) p1 := by
  show ((den Φ a).t ρ p).bind _ = _
  rw [h]
  rfl
theorem tru_bl {b : Bool} (h : (den Φ a).e ρ p = .ok (.bl b) p1) : (den Φ (.tTru a)).t ρ p = .ok b p1 := by
  show dTru (den Φ a).e ρ p = _
  simp [dTru, h]
end
/-- [x for x in xs if not c(x)] -/
theorem sieve {Φ : Phi} {it c : E} {i : Nat} {x : Str} {ρ : En} {p : Pot} {xs : List D} (f : D → Bool) (hit : (den Φ it).i ρ p = .ok xs p) (hi : ∀ ρ' : En, ∀ d, (Tg.nm i).asg d ρ' = some (ρ'.set i (some (.val d)))) (hr : ∀ d, rdV ((wipeE ρ [i]).set i (some (.val d))) i = some d)
    (hc : ∀ d ∈ xs, (den Φ c).t ((wipeE ρ [i]).set i (some (.val d))) p = .ok (!f d) p) (hl : xs.length ≤ 1000) : (den Φ (.comp (.nm i) it (.pt c) (.v i) [(x, i)])).e ρ p = .ok (.lst (xs.filter fun d => !f d)) p := by
  have e : (xs.filter fun d => !f d) = ((xs.filter fun d => !f d).map fun d => d) := by simp
  rw [e]
  refine comp_run hit (compR_filter (fun d => d) (fun d => !f d) fun d hd => ⟨_, hi _ _, hc d hd, fun _ => ?_⟩) ?_
  · show ofO (rdV ((wipeE ρ [i]).set i (some (.val d))) i) p = _
    rw [hr]
    rfl
  · rw [List.length_map]
    exact Nat.le_trans (List.length_filter_le _ _) hl
def isT : D → Bool
  | .tup _ => true
  | _ => false
theorem isT_is {d : D} (h : isT d = true) : ∃ ds, d = .tup ds := by
  cases d <;> first | exact ⟨_, rfl⟩ | cases h
theorem row_T {a b lo hi : Int} {d : D} (h : isT d = false) : rowB a b lo hi d = false := by
  cases d <;> first | rfl | cases h
theorem step_exc {Φ : Phi} {s r : S} {ρ : En} {p p1 : Pot} {c : Str} (h : (dens Φ s).s ρ p = .exc c p1) : (dens Φ (.cons s r)).ss ρ p = .exc c p1 := by
  show ((dens Φ s).s ρ p).bind _ = _
  rw [h]
  rfl
theorem run_exc {Φ : Phi} {d : Df} {ss : List Sl} {p p1 : Pot} {c : Str} (hl : ss.length = d.np) (h : (dens Φ d.body).ss (entry d.N.length ss) p = .exc c p1) : runD Φ d ss p = .exc c p1 := by
  unfold runD
  rw [if_pos hl, h]
section
variable {k : Nat} {n : Nat} {d : D}
end
theorem strOk_iff {x : Str} : PyData.strOk x = true ↔ ∀ c ∈ x.cps.toList, (c : Nat) < 0x110000 := by
  unfold PyData.strOk
  rw [Array.all_eq_true']
  simp
theorem strOk_s (s : String) : PyData.strOk (Str.ofString s) = true := by
  rw [strOk_iff]
  intro c hc
  rw [Str.ofString_eq_toList] at hc
  have hc : c ∈ s.toList.map Char.toNat := by simpa using hc
  obtain ⟨ch, _, rfl⟩ := List.mem_map.mp hc
  have := ch.valid
  simp only [UInt32.isValidChar, Nat.isValidChar] at this
  show ch.val.toNat < _
  omega
theorem strOk_app {x y : Str} (hx : PyData.strOk x = true) (hy : PyData.strOk y = true) : PyData.strOk (x ++ y) = true := by
  rw [strOk_iff] at *
  intro c hc
  have : (x ++ y).cps = x.cps ++ y.cps := rfl
  rw [this, Array.toList_append, List.mem_append] at hc
  exact hc.elim (hx c) (hy c)
theorem strOk_cut {x : Str} (hx : PyData.strOk x = true) (lo hi : Option Int) : PyData.strOk (cutS x lo hi) = true := by
  rw [strOk_iff] at *
  intro c hc
  unfold cutS at hc
  exact hx c (List.mem_of_mem_drop (List.mem_of_mem_take hc))
mutual
def sr : Nat → D → Bool
  | _, .int i => decide (-100000 ≤ i ∧ i ≤ 100000)
  | _, .str x => PyData.strOk x && decide (x.length ≤ 300)
  | n + 1, .tup ds => decide (ds.length ≤ 300) && srs n ds
  | _, _ => false
def srs : Nat → List D → Bool
  | _, [] => true
  | n, d :: ds => sr n d && srs n ds
end
theorem srs_mem {n : Nat} : ∀ {ds : List D}, srs n ds = true → ∀ d ∈ ds, sr n d = true
  | d :: ds, h, e, he => by
    simp only [srs, Bool.and_eq_true] at h
    rcases List.mem_cons.mp he with rfl | z
    · exact h.1
    · exact srs_mem h.2 e z
theorem srs_of {n : Nat} : ∀ {ds : List D}, (∀ d ∈ ds, sr n d = true) → srs n ds = true
  | [], _ => by simp [srs]
  | d :: ds, h => by
    simp only [srs, Bool.and_eq_true]
    exact ⟨h d List.mem_cons_self, srs_of fun e he => h e (List.mem_cons_of_mem _ he)⟩
theorem sr_gd : ∀ (n : Nat) (d : D), sr n d = true → gd n d = true := by
  intro n
  induction n with
  | zero => intro d h; cases d <;> simp_all [sr, gd]
  | succ n ih =>
    intro d h
    cases d with
    | tup ds =>
      simp only [sr, Bool.and_eq_true, decide_eq_true_eq] at h
      simp only [gd, Bool.and_eq_true, decide_eq_true_eq]
      exact ⟨by omega, gds_of fun e he => ih e (srs_mem h.2 e he)⟩
    | _ => simp_all [sr, gd]
theorem cut_len {α : Type} (xs : List α) (lo hi : Option Int) : (cutG xs lo hi).length ≤ xs.length := by
  unfold cutG
  rw [List.length_take, List.length_drop]
  omega
theorem cut_mem {α : Type} {xs : List α} {lo hi : Option Int} {x : α} (h : x ∈ cutG xs lo hi) : x ∈ xs := List.mem_of_mem_drop (List.mem_of_mem_take h)
theorem gd_tup {n : Nat} {ds : List D} (h1 : ds.length ≤ 1000) (h : ∀ d ∈ ds, gd n d = true) : gd (n + 1) (.tup ds) = true := by
  simp only [gd, Bool.and_eq_true, decide_eq_true_eq]
  exact ⟨h1, gds_of h⟩
theorem gd_lst {n : Nat} {ds : List D} (h1 : ds.length ≤ 1000) (h : ∀ d ∈ ds, gd n d = true) : gd (n + 1) (.lst ds) = true := by
  simp only [gd, Bool.and_eq_true, decide_eq_true_eq]
  exact ⟨h1, gds_of h⟩
theorem log2_small {i : Int} (h : -100000 ≤ i ∧ i ≤ 100000) : i.natAbs.log2 < 1920 := by
  have : i.natAbs < 2 ^ 17 := by omega
  by_cases h0 : i.natAbs = 0
  · rw [h0]; decide
  · exact Nat.lt_of_lt_of_le ((Nat.log2_lt h0).mpr this) (by decide)
theorem e_odd {k : Nat} (hk : 3 ≤ k) {n : Nat} {d : D} (h : sr n d = true) {p : Pot} (hp : IP p) : ∃ x p', callD T k "_law_odd" [.val .pot, .val d] p = .ok x p' ∧ IP p' ∧ gd (n + 2) x = true := by
  obtain ⟨k, rfl, hk'⟩ := pos hk
  cases d with
  | int i =>
    have hb : -100000 ≤ i ∧ i ≤ 100000 := by cases n <;> simpa [sr] using h
    have hl := log2_small hb
    obtain ⟨z, hz, hzo⟩ : ∃ z, strD (.int i) = some (.str z) ∧ PyData.strOk z = true := ⟨toString i, if_pos hl, strOk_s _⟩
    obtain ⟨x, p', e, i', m⟩ := e_pick (k := k) hk' (xs := [.int (i + 1), .int (i - 1), .int 10, .int (-10), .int 100, .bl true, .non, .str z, .tup [.int i]]) (by simp) (by simp) hp
    refine ⟨x, p', ?_, i', ?_⟩
    · rw [call__law_odd]
      simp [hz, e]
    · simp only [List.mem_cons, List.not_mem_nil, or_false] at m
      rcases m with rfl | rfl | rfl | rfl | rfl | rfl | rfl | rfl | rfl <;> first | rfl | exact hzo | simp [gd, gds]
  | str x =>
    have hb : PyData.strOk x = true ∧ x.length ≤ 300 := by cases n <;> simpa [sr] using h
    obtain ⟨y, p', e, i', m⟩ := e_pick (k := k) hk' (xs := [.str (x ++ "a"), .str (cutS x (some 1) none), .str "", .str "A", .str "node", .str "stop", .int 0, .non, .tup [.str x], .lst [.str x], .str "abcdefghi"]) (by simp) (by simp) hp
    refine ⟨y, p', ?_, i', ?_⟩
    · have h1 : addD (.str x) (.str "a") = some (.str (x ++ "a")) := by
        have h1 : ("a" : Str).length = 1 := by decide
        exact if_pos (small (n := x.length + ("a" : Str).length) (by omega))
      have h2 : slD (.str x) (some 1) none = some (.str (cutS x (some 1) none)) := if_pos (small (by omega))
      rw [call__law_odd]
      refine run_ret rfl ?_
      show (dens (callD T k) b__law_odd).ss [some (.val .pot), some (.val (.str x)), none] p = _
      unfold b__law_odd
      refine step (p1 := p) (if_f (p1 := p) (by simp) done) ?_
      refine last (if_t (p1 := p) (by simp) ?_)
      refine step (p1 := p) (set_run (d := .lst [.str (x ++ "a"), .str (cutS x (some 1) none), .str "", .str "A", .str "node", .str "stop", .int 0, .non, .tup [.str x], .lst [.str x], .str "abcdefghi"]) (by simp [-addD, h1, h2])) ?_
      exact last (p1 := p') (by simp [e])
    · simp only [List.mem_cons, List.not_mem_nil, or_false] at m
      rcases m with rfl | rfl | rfl | rfl | rfl | rfl | rfl | rfl | rfl | rfl | rfl <;> first | rfl | exact strOk_app hb.1 (strOk_s _) | exact strOk_cut hb.1 _ _ | exact strOk_s _ | simp [gd, gds, hb.1]
  | tup ds =>
    cases n with
    | zero => simp [sr] at h
    | succ n =>
    simp only [sr, Bool.and_eq_true, decide_eq_true_eq] at h
    have hg : ∀ d ∈ ds, gd n d = true := fun d hd => sr_gd n d (srs_mem h.2 d hd)
    have hc1 := cut_len ds (some (-1)) none
    have hc2 := cut_len ds (some 1) none
    have hc3 := cut_len ds none (some (-1))
    obtain ⟨y, p', e, i', m⟩ := e_pick (k := k) hk' (xs := [.tup (ds ++ cutG ds (some (-1)) none), .tup (cutG ds (some 1) none), .lst ds, .tup [], .non, .int 3, .str "x", .tup [.tup ds], .tup (cutG ds none (some (-1))), .tup (ds ++ [.int 1])]) (by simp) (by simp) hp
    refine ⟨y, p', ?_, i', ?_⟩
    · have h1 : addD (.tup ds) (.tup (cutG ds (some (-1)) none)) = some (.tup (ds ++ cutG ds (some (-1)) none)) := if_pos (small (n := ds.length + (cutG ds (some (-1)) none).length) (by omega))
      have h2 : addD (.tup ds) (.tup [.int 1]) = some (.tup (ds ++ [.int 1])) := if_pos (small (n := ds.length + 1) (by omega))
      rw [call__law_odd]
      refine run_ret rfl ?_
      show (dens (callD T k) b__law_odd).ss [some (.val .pot), some (.val (.tup ds)), none] p = _
      unfold b__law_odd
      refine step (p1 := p) (if_f (p1 := p) (by simp) done) ?_
      refine step (p1 := p) (if_f (p1 := p) (by simp) done) ?_
      refine last (if_t (p1 := p) (by simp) ?_)
      refine step (p1 := p) (set_run (d := .lst [.tup (ds ++ cutG ds (some (-1)) none), .tup (cutG ds (some 1) none), .lst ds, .tup [], .non, .int 3, .str "x", .tup [.tup ds], .tup (cutG ds none (some (-1))), .tup (ds ++ [.int 1])]) (by simp [-addD, h1, h2, slD])) ?_
      exact last (p1 := p') (by simp [e])
    · simp only [List.mem_cons, List.not_mem_nil, or_false] at m
      have up : ∀ d ∈ ds, gd (n + 1) d = true := fun d hd => gd_up (Nat.le_succ n) (hg d hd)
      have up2 : ∀ d ∈ ds, gd (n + 2) d = true := fun d hd => gd_up (by omega) (hg d hd)
      rcases m with rfl | rfl | rfl | rfl | rfl | rfl | rfl | rfl | rfl | rfl
      · exact gd_tup (by rw [List.length_append]; omega) fun d hd => up2 d ((List.mem_append.mp hd).elim id cut_mem)
      · exact gd_tup (by omega) fun d hd => up2 d (cut_mem hd)
      · exact gd_lst (by omega) up2
      · exact gd_tup (by simp) fun d hd => by cases hd
      · rfl
      · rfl
      · exact strOk_s _
      · exact gd_tup (by simp) fun d hd => by
          rw [List.mem_singleton.mp hd]
          exact gd_tup (by omega) up
      · exact gd_tup (by omega) fun d hd => up2 d (cut_mem hd)
      · exact gd_tup (by simp; omega) fun d hd => by
          rcases List.mem_append.mp hd with hd | hd
          · exact up2 d hd
          · rw [List.mem_singleton.mp hd]; rfl
  | _ => cases n <;> simp [sr] at h
theorem e_bent : ∀ (m : Nat) {k n : Nat} {d : D} {p : Pot}, m + 4 ≤ k → sr n d = true → IP p → ∃ x p', callD T k "_law_bent" [.val .pot, .val d, .val (.int m)] p = .ok x p' ∧ IP p' ∧ gd (n + 2) x = true := by
  intro m
  induction m with
  | zero =>
    intro k n d p hk h hp
    obtain ⟨k, rfl, hk'⟩ := pos hk
    obtain ⟨x, p', e, i, g⟩ := e_odd (k := k) (by omega) h hp
    refine ⟨x, p', ?_, i, g⟩
    rw [call__law_bent]
    cases d with
    | int z => simp [e, isTys]
    | str z => simp [e, isTys]
    | tup ds => cases ds <;> simp [e, isTys]
    | _ => cases n <;> simp [sr] at h
  | succ m ih =>
    intro k n d p hk h hp
    obtain ⟨k, rfl, hk'⟩ := pos hk
    have plain : (∃ ds, d = .tup ds ∧ ds ≠ []) ∨ ∃ x p', callD T (k + 1) "_law_bent" [.val .pot, .val d, .val (.int ((m + 1 : Nat) : Int))] p = .ok x p' ∧ IP p' ∧ gd (n + 2) x = true := by
      obtain ⟨x, p', e, i, g⟩ := e_odd (k := k) (by omega) h hp
      cases d with
      | int z => exact .inr ⟨x, p', by rw [call__law_bent]; simp [e, isTys], i, g⟩
      | str z => exact .inr ⟨x, p', by rw [call__law_bent]; simp [e, isTys], i, g⟩
      | tup ds =>
        cases ds with
        | nil => exact .inr ⟨x, p', by rw [call__law_bent]; simp [e, isTys], i, g⟩
        | cons a r => exact .inl ⟨_, rfl, by simp⟩
      | _ => cases n <;> simp [sr] at h
    rcases plain with ⟨ds, rfl, hne⟩ | q
    · cases n with
      | zero => simp [sr] at h
      | succ n =>
      have hl0 : 0 < ds.length := List.length_pos_iff.mpr hne
      obtain ⟨r, p1, e1, i1, r1, r2⟩ := e_draw (k := k) (by omega) (m := 5) (by omega) (by omega) hp
      have c1 : (den (callD T k) (.tTru (.isi2 (.v 1) .list .tuple))).t [some (.val .pot), some (.val (.tup ds)), some (.val (.int ((m + 1 : Nat) : Int))), none, none] p = .ok true p := by simp [isTys]
      have c2 : (den (callD T k) (.tCmp .gt (.blt .len (.cons (.v 1) .nil)) (.int 0))).t [some (.val .pot), some (.val (.tup ds)), some (.val (.int ((m + 1 : Nat) : Int))), none, none] p = .ok true p := by
        simp [hl0]
      have c3 : (den (callD T k) (.tCmp .gt (.v 2) (.int 0))).t [some (.val .pot), some (.val (.tup ds)), some (.val (.int ((m + 1 : Nat) : Int))), none, none] p = .ok true p := by
        have : (0 : Int) < (m : Int) + 1 := by omega
        simp [this]
      have c4 : (den (callD T k) (.tCmp .gt (.call "_law_draw" (.cons (.v 0) (.cons (.int 5) .nil))) (.int 0))).t [some (.val .pot), some (.val (.tup ds)), some (.val (.int ((m + 1 : Nat) : Int))), none, none] p = .ok (decide (r > 0)) p1 := by
        simp [e1]
      by_cases hr : r > 0
      · rw [decide_eq_true hr] at c4
        have h' := h
        simp only [sr, Bool.and_eq_true, decide_eq_true_eq] at h'
        obtain ⟨z, p2, e2, i2, z1, z2⟩ := e_draw (k := k) (by omega) (m := (ds.length : Int)) (by omega) (by omega) i1
        obtain ⟨j, rfl⟩ : ∃ j : Nat, z = (j : Int) := ⟨z.toNat, by omega⟩
        have hj : j < ds.length := by omega
        obtain ⟨y, p3, e3, i3, g3⟩ := ih (k := k) (n := n) (d := ds[j]) (p := p2) (by omega) (srs_mem h'.2 _ (List.getElem_mem hj)) i2
        have ix := ixD_tup (List.getElem?_eq_getElem hj)
        have l1 := cut_len ds none (some (j : Int))
        have l2 := cut_len ds (some ((j : Int) + 1)) none
        have a1 : addD (.tup (cutG ds none (some (j : Int)))) (.tup [y]) = some (.tup (cutG ds none (some (j : Int)) ++ [y])) := if_pos (small (n := (cutG ds none (some (j : Int))).length + 1) (by omega))
        have a2 : addD (.tup (cutG ds none (some (j : Int)) ++ [y])) (.tup (cutG ds (some ((j : Int) + 1)) none)) = some (.tup ((cutG ds none (some (j : Int)) ++ [y]) ++ cutG ds (some ((j : Int) + 1)) none)) := if_pos (small (n := (cutG ds none (some (j : Int)) ++ [y]).length + (cutG ds (some ((j : Int) + 1)) none).length) (by rw [List.length_append, List.length_singleton]; omega))
        refine ⟨.tup ((cutG ds none (some (j : Int)) ++ [y]) ++ cutG ds (some ((j : Int) + 1)) none), p3, ?_, i3, ?_⟩
        · rw [call__law_bent]
          refine run_ret rfl ?_
          show (dens (callD T k) b__law_bent).ss [some (.val .pot), some (.val (.tup ds)), some (.val (.int ((m + 1 : Nat) : Int))), none, none] p = _
          unfold b__law_bent
          have hs : ∀ {s r : S} {ρ : En} {p p1 : Pot} {d : D}, (dens (callD T k) s).s ρ p = .ok (.ret d) p1 → (dens (callD T k) (.cons s r)).ss ρ p = .ok (.ret d) p1 := fun h => last h
          refine hs (if_t (p1 := p1) (and_t rfl c1 (and_t rfl c2 (and_t rfl c3 (and_1 c4)))) ?_)
          refine step (p1 := p2) (ρ1 := [some (.val .pot), some (.val (.tup ds)), some (.val (.int ((m + 1 : Nat) : Int))), some (.val (.int (j : Int))), none]) (by simp [e2]) ?_
          refine step (p1 := p3) (ρ1 := [some (.val .pot), some (.val (.tup ds)), some (.val (.int ((m + 1 : Nat) : Int))), some (.val (.int (j : Int))), some (.val y)]) ?_ ?_
          · have e4 : ((m + 1 : Nat) : Int) - 1 = (m : Int) := by omega
            have e3' : callD T k "_law_bent" [.val .pot, .val ds[j], .val (.int (((m : Int) + 1) - 1))] p2 = .ok y p3 := by
              rw [show ((m : Int) + 1) - 1 = (m : Int) by omega]
              exact e3
            simp [ix, -Int.add_sub_cancel, e3']
          refine step (p1 := p3) (if_f (p1 := p3) (by simp) done) ?_
          have a0 : addD (.int (j : Int)) (.int 1) = some (.int ((j : Int) + 1)) := rfl
          exact hs (by simp [-addD, slD, a0, a1, a2])
        · refine gd_tup (by rw [List.length_append, List.length_append, List.length_singleton]; omega) fun d hd => ?_
          have up : ∀ d ∈ ds, gd (n + 2) d = true := fun d hd => gd_up (by omega) (sr_gd n d (srs_mem h'.2 d hd))
          rcases List.mem_append.mp hd with hd | hd
          · rcases List.mem_append.mp hd with hd | hd
            · exact up d (cut_mem hd)
            · rw [List.mem_singleton.mp hd]; exact g3
          · exact up d (cut_mem hd)
      · rw [decide_eq_false hr] at c4
        obtain ⟨x, p', e, i, g⟩ := e_odd (k := k) (by omega) h i1
        refine ⟨x, p', ?_, i, g⟩
        rw [call__law_bent]
        refine run_ret rfl ?_
        show (dens (callD T k) b__law_bent).ss [some (.val .pot), some (.val (.tup ds)), some (.val (.int ((m + 1 : Nat) : Int))), none, none] p = _
        unfold b__law_bent
        refine step (p1 := p1) (if_f (p1 := p1) (and_t rfl c1 (and_t rfl c2 (and_t rfl c3 (and_1 c4)))) done) ?_
        exact last (p1 := p') (by simp [e])
    · exact q
theorem bin_run {Φ : Phi} {o : Bin} {a b : E} {ρ : En} {p p1 p2 : Pot} {x y d : D} (h1 : (den Φ a).e ρ p = .ok x p1) (h2 : (den Φ b).e ρ p1 = .ok y p2) (h : o.d x y = some d) : (den Φ (.bin o a b)).e ρ p = .ok d p2 := by
  show ((den Φ a).e ρ p).bind (fun d1 p1 => ((den Φ b).e ρ p1).bind fun d2 p2 => ofO (o.d d1 d2) p2) = _
  rw [h1, bind_ok, h2, bind_ok, h]
  rfl
theorem mxD_int : ∀ (ns : List Int) (a : Int), mxD (.int a) (ns.map D.int) = .int (ns.foldl max a)
  | [], a => rfl
  | n :: ns, a => by
    have ih := mxD_int ns (max a n)
    have e : (if PySem.W.dataLt (toPy (.int a)) (toPy (.int n)) then D.int n else D.int a) = .int (max a n) := by
      simp only [toPy, PySem.W.dataLt_int]
      by_cases h : a < n
      · simp [h]; omega
      · simp [h]; omega
    simp only [mxD, List.map_cons, List.foldl_cons] at ih ⊢
    rw [e]
    exact ih
theorem mxB_int (ns : List Int) : mxB (ns.map D.int) = true := by
  simp only [mxB, Bool.and_eq_true]
  refine ⟨⟨dats_of fun d hd => ?_, ?_⟩, ?_⟩
  · obtain ⟨n, _, rfl⟩ := List.mem_map.mp hd
    simp [dat]
  · simp only [alksD, List.all_eq_true]
    intro x hx y hy
    obtain ⟨n, _, rfl⟩ := List.mem_map.mp hx
    obtain ⟨m, _, rfl⟩ := List.mem_map.mp hy
    simp [toPy, PySem.W.alike]
  · rw [List.all_eq_true]
    intro x hx
    obtain ⟨n, _, rfl⟩ := List.mem_map.mp hx
    rfl
theorem mx1_int (a : Int) (ns : List Int) : mx1 mxD (.lst (D.int a :: ns.map D.int)) = some (.int (ns.foldl max a)) := by
  have h := mxB_int (a :: ns)
  rw [List.map_cons] at h
  show (if mxB (D.int a :: ns.map D.int) = true then some (mxD (.int a) (ns.map D.int)) else none) = _
  rw [if_pos h, mxD_int]
theorem raise_run {Φ : Phi} {hs : List Str} {e : E} {z c : Str} {ρ : En} {p p1 : Pot} (h : (den Φ e).e ρ p = .exc c p1) (hc : c ∈ hs) : (den Φ (.raises hs e z)).e ρ p = .ok (.bl (decide (z = c))) p1 := by
  show dRaises hs z (den Φ e).e ρ p = _
  simp only [dRaises, h]
  rw [if_pos hc]
theorem ip_pot0 (ns : List Int) : IP (pot0 ns) := by
  have h := pot0_ok ns
  exact ip_of h.cells h.used h.mix0 h.mix1 h.great h.few
theorem app_run {Φ : Phi} {i : Nat} {e : E} {ρ : En} {p p1 : Pot} {ds : List D} {d : D} (h0 : rdL ρ i = some ds) (h : (den Φ e).e ρ p = .ok d p1) (hl : ds.length ≤ 1000) : (dens Φ (.app i e)).s ρ p = .ok (.nx (ρ.set i (some (.own (.lst (ds ++ [d])))))) p1 := by
  show sWrL i (den Φ e).e appD ρ p = _
  unfold sWrL
  rw [h0]
  dsimp only
  rw [h, bind_ok]
  have : appD ds d = some (ds ++ [d]) := by
    unfold appD
    have : 1000 < sizeLine := by decide
    exact if_pos (by omega)
  rw [this]
  rfl
theorem turn_nx {w : List Nat} {ρ1 : En} {p : Pot} {k : En → Pot → Res Out} : turnEnd w (.ok (.nx ρ1) p) k = k (wipeE ρ1 w) p := rfl
theorem own_run {Φ : Phi} {i : Nat} {e : E} {ρ : En} {p p1 : Pot} {d : D} (h : (den Φ e).e ρ p = .ok d p1) : (dens Φ (.own i e)).s ρ p = .ok (.nx (ρ.set i (some (.own d)))) p1 := by
  show sOwn i (den Φ e).e ρ p = _
  unfold sOwn
  rw [h]
  rfl
theorem range_idx {α : Type} {n : Nat} {lo : Int} {i : Nat} {x : D} (hx : (rangeItems lo n)[i]? = some x) : i < n ∧ x = .int (lo + (i : Int)) := by
  have hl : (rangeItems lo n).length = n := by simp [rangeItems]
  have hi : i < n := by
    rcases Nat.lt_or_ge i n with z | z
    · exact z
    · rw [List.getElem?_eq_none (by omega)] at hx; cases hx
  refine ⟨hi, ?_⟩
  simp only [rangeItems, List.getElem?_map, List.getElem?_range hi] at hx
  cases hx
  rfl
def hitR (o : Option D) (f : D → D) (ρ : En) (p : Pot) : Res Out := match o with
  | some x => .ok (.ret (f x)) p
  | none => .ok (.nx ρ) p
theorem forR_find {tg : D → En → Option En} {body : En → Pot → Res Out} {w : List Nat} {ρ : En} {p : Pot} (c : D → Bool) (f : D → D) : ∀ {xs : List D}, (∀ x ∈ xs, ∃ ρ1, tg x ρ = some ρ1 ∧ ((c x = false ∧ ∃ ρ2, body ρ1 p = .ok (.nx ρ2) p ∧ wipeE ρ2 w = ρ) ∨ (c x = true ∧ body ρ1 p = .ok (.ret (f x)) p))) →
    forR tg body w xs ρ p = hitR (xs.find? c) f ρ p
  | [], _ => rfl
  | x :: xs, h => by
    obtain ⟨ρ1, h1, h2⟩ := h x List.mem_cons_self
    have ih := forR_find c f (w := w) (body := body) (tg := tg) (ρ := ρ) (p := p) fun y hy => h y (List.mem_cons_of_mem _ hy)
    rcases h2 with ⟨hc, ρ2, h3, h4⟩ | ⟨hc, h3⟩
    · simp only [forR, h1, turnEnd, h3, Res.bind, h4]
      rw [ih, List.find?_cons, hc]
    · simp only [forR, h1, turnEnd, h3, Res.bind]
      rw [List.find?_cons, hc]
      rfl
theorem for_gen {Φ : Phi} {t : Tg} {it : E} {a : S} {w : List Nat} {ρ : En} {p p1 : Pot} {xs : List D} {r : Res Out} (h : (den Φ it).i ρ p = .ok xs p1) (k : forR t.asg (dens Φ a).ss w xs (wipeE ρ w) p1 = r) : (dens Φ (.for_ t it a w)).s ρ p = r := by
  show ((den Φ it).i ρ p).bind _ = _
  rw [h]
  exact k
theorem find_any {α : Type} (f : α → D) (c : D → Bool) : ∀ (l : List α), ((l.map f).find? c).isSome = l.any fun x => c (f x)
  | [] => rfl
  | x :: l => by
    have ih := find_any f c l
    rw [List.map_cons, List.find?_cons, List.any_cons]
    cases h : c (f x) with
    | true => simp
    | false => simpa using ih
section
variable {Φ : Phi} {a r : E} {ρ : En} {p p1 p2 : Pot}
end
section
variable {Φ : Phi} {a r : E} {ρ : En} {p p1 p2 : Pot}
end
theorem tgt_run {Φ : Phi} {t : Tg} {e : E} {ρ ρ1 : En} {p p1 : Pot} {d : D} (h : (den Φ e).e ρ p = .ok d p1) (ha : t.asg d ρ = some ρ1) : (dens Φ (.tgt t e)).s ρ p = .ok (.nx ρ1) p1 := by
  show sTgt t (den Φ e).e ρ p = _
  simp only [sTgt, h, Res.bind, ha]
theorem tup2_run {Φ : Phi} {a b : E} {ρ : En} {p p1 p2 : Pot} {x y : D} (ha : ∀ f, aArg a f = aVal f) (hb : ∀ f, aArg b f = aVal f) (h1 : (den Φ a).e ρ p = .ok x p1) (h2 : (den Φ b).e ρ p1 = .ok y p2) : (den Φ (.tup (.cons a (.cons b .nil)))).e ρ p = .ok (.tup [x, y]) p2 := by
  show dTup (aCons (aArg a (den Φ a).e) (aCons (aArg b (den Φ b).e) aNil)) ρ p = _
  rw [ha, hb]
  simp only [dTup, aCons, aVal, aNil, Res.bind, h1, h2, valsOf, Option.map_some]
  rw [if_pos (by simp [small])]
theorem frz_run {Φ : Phi} {i : Nat} {ρ : En} {p : Pot} {d : D} (h : ρ[i]? = some (some (.own d))) : (dens Φ (.frz i)).s ρ p = .ok (.nx (ρ.set i (some (.val d)))) p := by
  show sFrz i ρ p = _
  simp only [sFrz, h]
theorem dat_int (n : Nat) (i : Int) : dat n (.int i) = true := by cases n <;> simp [dat]
section
variable {k : Nat} {ts ss : List Int} {h : Int} {t5 : Option Sl}
end
end M.T

set_option Elab.async false
set_option linter.all false
set_option maxRecDepth 100000
set_option maxHeartbeats 1000000
namespace M.T
/-! shortest times, plain -/
abbrev Mp := List (Nat × Nat)
def lk : Mp → Nat → Option Nat
  | [], _ => none
  | (k, v) :: r, x => if k = x then some v else lk r x
def pt (m : Mp) (k v : Nat) : Mp := if (lk m k).isSome = true then m.map (fun q => if q.1 = k then (k, v) else q) else m ++ [(k, v)]
theorem lk_mem : ∀ {m : Mp} {k v : Nat}, lk m k = some v → (k, v) ∈ m
  | (a, b) :: r, k, v, h => by
    unfold lk at h
    split at h
    · rename_i e
      cases h
      rw [e]
      exact List.mem_cons_self
    · exact List.mem_cons_of_mem _ (lk_mem h)
theorem lk_none : ∀ {m : Mp} {k : Nat}, lk m k = none → ∀ q ∈ m, q.1 ≠ k
  | (a, b) :: r, k, h, q, hq => by
    unfold lk at h
    split at h
    · cases h
    · rename_i e
      rcases List.mem_cons.mp hq with rfl | hq
      · exact e
      · exact lk_none h q hq
theorem lk_some : ∀ {m : Mp} {k : Nat}, k ∈ m.map (·.1) → ∃ v, lk m k = some v
  | (a, b) :: r, k, h => by
    unfold lk
    split
    · exact ⟨_, rfl⟩
    · rename_i e
      rw [List.map_cons] at h
      rcases List.mem_cons.mp h with h | h
      · exact (e h.symm).elim
      · exact lk_some h
theorem lk_key {m : Mp} {k v : Nat} (h : lk m k = some v) : k ∈ m.map (·.1) := List.mem_map.mpr ⟨_, lk_mem h, rfl⟩
theorem lk_map : ∀ {m : Mp} {k v x : Nat}, lk (m.map (fun q => if q.1 = k then (k, v) else q)) x = if x = k then (lk m k).map (fun _ => v) else lk m x
  | [], k, v, x => by simp [lk]
  | (a, b) :: r, k, v, x => by
    have ih := lk_map (m := r) (k := k) (v := v) (x := x)
    by_cases h : a = k
    · subst h
      by_cases hx : x = a
      · subst hx
        simp [lk]
      · simp [lk, hx, Ne.symm hx, ih]
    · by_cases hx : x = k
      · subst hx
        simp only [List.map_cons, h, if_false, lk]
        simpa using ih
      · simp only [List.map_cons, h, if_false, lk, ih, hx]
theorem lk_app : ∀ {m : Mp} {k v x : Nat}, lk (m ++ [(k, v)]) x = match lk m x with | some d => some d | none => if k = x then some v else none
  | [], k, v, x => by simp [lk]
  | (a, b) :: r, k, v, x => by
    have ih := lk_app (m := r) (k := k) (v := v) (x := x)
    by_cases h : a = x
    · simp [lk, h]
    · simpa [lk, h] using ih
theorem lk_pt (m : Mp) (k v x : Nat) : lk (pt m k v) x = if x = k then some v else lk m x := by
  unfold pt
  split
  · rename_i h
    rw [lk_map]
    split
    · cases e : lk m k with
      | none => rw [e] at h; cases h
      | some d => rfl
    · rfl
  · rename_i h
    have h : lk m k = none := by
      cases e : lk m k with
      | none => rfl
      | some d => rw [e] at h; exact (h rfl).elim
    rw [lk_app]
    by_cases hx : x = k
    · subst hx
      simp [h]
    · cases e : lk m x with
      | none => simp [hx, Ne.symm hx]
      | some d => simp [hx]
theorem keys_pt (m : Mp) (k v : Nat) : (pt m k v).map (·.1) = if (lk m k).isSome = true then m.map (·.1) else m.map (·.1) ++ [k] := by
  unfold pt
  split
  · rw [List.map_map]
    refine List.map_congr_left fun q _ => ?_
    show (if q.1 = k then (k, v) else q).1 = q.1
    split
    · rename_i h; exact h.symm
    · rfl
  · simp
/-- one place after another, with the times between -/
inductive Wlk (E : Nat → Nat → Nat → Prop) (s : Nat) : Nat → Nat → Prop where
  | nil : Wlk E s s 0
  | snoc {u v d t : Nat} : Wlk E s u d → E u v t → Wlk E s v (d + t)
/-- what holds of a map of times all the while -/
structure Inv (n : Nat) (E : Nat → Nat → Nat → Prop) (s : Nat) (m : Mp) : Prop where
  st : lk m s = some 0
  sound : ∀ v d, lk m v = some d → Wlk E s v d
  nd : (m.map (·.1)).Nodup
  lt : ∀ k ∈ m.map (·.1), k < n
  bd : ∀ v d, lk m v = some d → d + 9 ≤ 9 * m.length
structure EOk (n : Nat) (E : Nat → Nat → Nat → Prop) : Prop where
  lt : ∀ u v t, E u v t → u < n ∧ v < n
  t1 : ∀ u v t, E u v t → 1 ≤ t ∧ t ≤ 9
def Closed (E : Nat → Nat → Nat → Prop) (m : Mp) : Prop := ∀ u v t d, E u v t → lk m u = some d → ∃ e, lk m v = some e ∧ e ≤ d + t
theorem nodup_lt {n : Nat} {l : List Nat} (nd : l.Nodup) (lt : ∀ k ∈ l, k < n) : l.length ≤ n := by
  have : l.length ≤ (List.range n).length := List.Nodup.length_le_of_subset nd fun k hk => List.mem_range.mpr (lt k hk)
  simpa using this
section
variable {n s : Nat} {E : Nat → Nat → Nat → Prop} {m : Mp}
theorem Inv.len (I : Inv n E s m) : m.length ≤ n := by
  have := nodup_lt I.nd I.lt
  simpa using this
theorem Inv.init (hs : s < n) : Inv n E s [(s, 0)] where
  st := by simp [lk]
  sound := fun v d h => by
    unfold lk at h
    split at h
    · rename_i e; subst e; cases h; exact .nil
    · cases h
  nd := by simp
  lt := fun k hk => by simp at hk; omega
  bd := fun v d h => by
    unfold lk at h
    split at h
    · cases h; simp
    · cases h
/-- a better time put -/
theorem Inv.put (I : Inv n E s m) (O : EOk n E) {u v t d : Nat} (he : E u v t) (hu : lk m u = some d) (hb : ∀ e, lk m v = some e → d + t ≤ e) : Inv n E s (pt m v (d + t)) := by
  have hle := I.bd u d hu
  have ht := O.t1 u v t he
  have hlen : m.length ≤ (pt m v (d + t)).length := by
    unfold pt
    split <;> simp
  refine ⟨?_, fun x e hx => ?_, ?_, fun k hk => ?_, fun x e hx => ?_⟩
  · rw [lk_pt]
    split
    · rename_i hs
      have := hb 0 (by rw [← hs]; exact I.st)
      omega
    · exact I.st
  · rw [lk_pt] at hx
    split at hx
    · rename_i e1
      cases hx
      subst e1
      exact (I.sound u d hu).snoc he
    · exact I.sound x e hx
  · rw [keys_pt]
    split
    · exact I.nd
    · rename_i h
      refine List.nodup_append.mpr ⟨I.nd, by simp, fun a ha b hb' hab => ?_⟩
      rw [List.mem_singleton] at hb'
      subst hb' hab
      obtain ⟨w, hw⟩ := lk_some ha
      rw [hw] at h
      exact h rfl
  · rw [keys_pt] at hk
    split at hk
    · exact I.lt k hk
    · rcases List.mem_append.mp hk with hk | hk
      · exact I.lt k hk
      · rw [List.mem_singleton] at hk
        rw [hk]
        exact (O.lt u v t he).2
  · rw [lk_pt] at hx
    split at hx
    · cases hx
      cases e1 : lk m v with
      | some w =>
        have := hb w e1
        have := I.bd v w e1
        omega
      | none =>
        have : (pt m v (d + t)).length = m.length + 1 := by
          unfold pt
          rw [e1]
          simp
        omega
    · have := I.bd x e hx
      omega
/-- a closed map is below every walk -/
theorem closed_le (c : Closed E m) (h0 : lk m s = some 0) {v d : Nat} (w : Wlk E s v d) : ∃ e, lk m v = some e ∧ e ≤ d := by
  induction w with
  | nil => exact ⟨0, h0, Nat.le_refl 0⟩
  | snoc w he ih =>
    obtain ⟨e, h1, h2⟩ := ih
    obtain ⟨f, h3, h4⟩ := c _ _ _ e he h1
    exact ⟨f, h3, by omega⟩
theorem Closed.eq {m' : Mp} (c : Closed E m) (I : Inv n E s m) (I' : Inv n E s m') (h : ∀ v e, lk m v = some e → ∃ d, lk m' v = some d ∧ d ≤ e) (v : Nat) : lk m' v = lk m v := by
  cases e1 : lk m' v with
  | some d =>
    obtain ⟨e, h1, h2⟩ := closed_le c I.st (I'.sound v d e1)
    obtain ⟨d', h3, h4⟩ := h v e h1
    rw [e1] at h3
    cases h3
    rw [h1, Nat.le_antisymm h2 h4]
  | none =>
    cases e2 : lk m v with
    | none => rfl
    | some e =>
      obtain ⟨d, h3, _⟩ := h v e e2
      rw [e1] at h3
      cases h3
end
end M.T

set_option Elab.async false
set_option linter.all false
set_option maxRecDepth 100000
set_option maxHeartbeats 1000000
namespace M.T
/-! shortest times: steps, passes, rounds -/
abbrev Op := Nat × Nat × Nat
def chg (m : Mp) (o : Op) : Bool := match lk m o.1 with
  | none => false
  | some d => match lk m o.2.1 with
    | none => true
    | some e => decide (d + o.2.2 < e)
def relax (m : Mp) (o : Op) : Mp := if chg m o = true then pt m o.2.1 ((lk m o.1).getD 0 + o.2.2) else m
def passR (r : Mp × Bool) (o : Op) : Mp × Bool := if chg r.1 o = true then (pt r.1 o.2.1 ((lk r.1 o.1).getD 0 + o.2.2), true) else r
def mu (n : Nat) (m : Mp) : Nat := ((List.range n).map fun k => (lk m k).getD 1000).sum
theorem pt_same : ∀ {m : Mp} {k v : Nat}, (m.map (·.1)).Nodup → lk m k = some v → pt m k v = m := by
  intro m k v nd h
  unfold pt
  rw [h]
  show m.map _ = m
  refine (List.map_congr_left (g := id) fun q hq => ?_).trans (List.map_id m)
  show (if q.1 = k then (k, v) else q) = q
  split
  · rename_i e
    have : ∀ {m : Mp}, (m.map (·.1)).Nodup → ∀ q ∈ m, lk m q.1 = some q.2 := by
      intro m
      induction m with
      | nil => intro _ q hq; cases hq
      | cons p r ih =>
        intro nd q hq
        rw [List.map_cons, List.nodup_cons] at nd
        unfold lk
        rcases List.mem_cons.mp hq with rfl | hq
        · simp
        · split
          · rename_i e
            exact (nd.1 (by rw [e]; exact List.mem_map.mpr ⟨q, hq, rfl⟩)).elim
          · exact ih nd.2 q hq
    have h2 := this nd q hq
    rw [e, h] at h2
    cases h2
    rw [← e]
  · rfl
section
variable {n s : Nat} {E : Nat → Nat → Nat → Prop} {m : Mp}
theorem chg_some {o : Op} (h : chg m o = true) : ∃ d, lk m o.1 = some d ∧ ∀ e, lk m o.2.1 = some e → d + o.2.2 < e := by
  unfold chg at h
  cases h1 : lk m o.1 with
  | none => simp [h1] at h
  | some d =>
    refine ⟨d, rfl, fun e he => ?_⟩
    simpa [h1, he] using h
theorem chg_not {o : Op} (h : chg m o = false) {d : Nat} (h1 : lk m o.1 = some d) : ∃ e, lk m o.2.1 = some e ∧ e ≤ d + o.2.2 := by
  unfold chg at h
  cases h2 : lk m o.2.1 with
  | none => simp [h1, h2] at h
  | some e => exact ⟨e, rfl, by simpa [h1, h2] using h⟩
theorem relax_inv (I : Inv n E s m) (O : EOk n E) {o : Op} (he : E o.1 o.2.1 o.2.2) : Inv n E s (relax m o) := by
  unfold relax
  split
  · rename_i h
    obtain ⟨d, h1, h2⟩ := chg_some h
    rw [h1]
    exact I.put O he h1 fun e h3 => Nat.le_of_lt (h2 e h3)
  · exact I
theorem relax_le {o : Op} {x e : Nat} (h : lk m x = some e) : ∃ d, lk (relax m o) x = some d ∧ d ≤ e := by
  unfold relax
  split
  · rename_i hc
    obtain ⟨d, h1, h2⟩ := chg_some hc
    rw [lk_pt, h1]
    split
    · rename_i hx
      subst hx
      exact ⟨_, rfl, Nat.le_of_lt (h2 e h)⟩
    · exact ⟨e, h, Nat.le_refl e⟩
  · exact ⟨e, h, Nat.le_refl e⟩
theorem relax_done {o : Op} {d : Nat} (h : lk m o.1 = some d) : ∃ e, lk (relax m o) o.2.1 = some e ∧ e ≤ d + o.2.2 := by
  unfold relax
  split
  · rw [lk_pt, if_pos rfl, h]
    exact ⟨_, rfl, Nat.le_refl _⟩
  · rename_i hc
    exact chg_not (by simpa using hc) h
theorem fold_inv (O : EOk n E) : ∀ {os : List Op} {m : Mp}, Inv n E s m → (∀ o ∈ os, E o.1 o.2.1 o.2.2) → Inv n E s (os.foldl relax m)
  | [], m, I, _ => I
  | o :: os, m, I, h => fold_inv (os := os) (m := relax m o) O (relax_inv I O (h o List.mem_cons_self)) fun o' h' => h o' (List.mem_cons_of_mem _ h')
theorem fold_le : ∀ {os : List Op} {m : Mp} {x e : Nat}, lk m x = some e → ∃ d, lk (os.foldl relax m) x = some d ∧ d ≤ e
  | [], m, x, e, h => ⟨e, h, Nat.le_refl e⟩
  | o :: os, m, x, e, h => by
    obtain ⟨d, h1, h2⟩ := relax_le (o := o) h
    obtain ⟨f, h3, h4⟩ := fold_le (os := os) h1
    exact ⟨f, h3, Nat.le_trans h4 h2⟩
theorem fold_done : ∀ {os : List Op} {m : Mp} {o : Op} {d : Nat}, o ∈ os → lk m o.1 = some d → ∃ e, lk (os.foldl relax m) o.2.1 = some e ∧ e ≤ d + o.2.2
  | p :: os, m, o, d, ho, h => by
    rcases List.mem_cons.mp ho with rfl | ho
    · obtain ⟨e, h1, h2⟩ := relax_done h
      obtain ⟨f, h3, h4⟩ := fold_le (os := os) h1
      exact ⟨f, h3, Nat.le_trans h4 h2⟩
    · obtain ⟨d', h1, h2⟩ := relax_le (o := p) h
      obtain ⟨e, h3, h4⟩ := fold_done ho h1
      exact ⟨e, h3, by omega⟩
/-! rank -/
def rk (T : Mp) (e : Nat) : Nat := T.countP fun q => decide (q.2 < e)
theorem rk_le {d e : Nat} (h : d ≤ e) : ∀ (T : Mp), rk T d ≤ rk T e := fun T => List.countP_mono_left fun q _ hq => by
  have := of_decide_eq_true hq
  exact decide_eq_true (by omega)
theorem rk_lt {d e : Nat} (h : d < e) : ∀ {T : Mp} {u : Nat}, (u, d) ∈ T → rk T d < rk T e
  | q :: T, u, hm => by
    have h2 := rk_le (Nat.le_of_lt h) T
    unfold rk at h2 ⊢
    rw [List.countP_cons, List.countP_cons]
    rcases List.mem_cons.mp hm with rfl | hm
    · have : decide (d < d) = false := by simp
      have h3 : decide (d < e) = true := by simpa using h
      simp only [this, h3]
      simp
      omega
    · have ih := rk_lt h hm
      unfold rk at ih
      have : (if decide (q.2 < d) = true then 1 else 0) ≤ (if decide (q.2 < e) = true then 1 else 0) := by
        by_cases h4 : q.2 < d
        · have : q.2 < e := by omega
          simp [h4, this]
        · simp [h4]
      omega
theorem rk_len {T : Mp} {u d : Nat} (h : (u, d) ∈ T) : rk T d < T.length := by
  induction T with
  | nil => cases h
  | cons q T ih =>
    unfold rk at ih ⊢
    rw [List.countP_cons, List.length_cons]
    rcases List.mem_cons.mp h with rfl | h
    · have h2 := List.countP_le_length (p := fun q : Nat × Nat => decide (q.2 < d)) (l := T)
      simp
      omega
    · have := ih h
      split <;> omega
/-- the place before -/
theorem pred_of {T : Mp} (c : Closed E T) (I : Inv n E s T) (O : EOk n E) {v e : Nat} (h : lk T v = some e) : v = s ∨ ∃ u d t, lk T u = some d ∧ E u v t ∧ e = d + t := by
  have w := I.sound v e h
  cases w with
  | nil => exact .inl rfl
  | @snoc u _ d t w he =>
    obtain ⟨d', h1, h2⟩ := closed_le c I.st w
    obtain ⟨e', h3, h4⟩ := c _ _ _ _ he h1
    rw [h] at h3
    cases h3
    exact .inr ⟨u, d', t, h1, he, by omega⟩
def Pk (T F : Mp) (k : Nat) : Prop := ∀ v e, lk T v = some e → rk T e ≤ k → ∃ d, lk F v = some d ∧ d ≤ e
theorem pk_0 {T F : Mp} (c : Closed E T) (I : Inv n E s T) (I' : Inv n E s F) (O : EOk n E) : Pk T F 0 := fun v e h hr => by
  rcases pred_of c I O h with rfl | ⟨u, d, t, h1, h2, rfl⟩
  · exact ⟨0, I'.st, Nat.zero_le _⟩
  · have := rk_lt (d := d) (e := d + t) (by have := (O.t1 _ _ _ h2).1; omega) (lk_mem h1)
    omega
theorem pk_step {T F : Mp} {k : Nat} {os : List Op} (c : Closed E T) (I : Inv n E s T) (I' : Inv n E s F) (O : EOk n E) (p : Pk T F k) (ho : ∀ u v t d, lk F u = some d → E u v t → (u, v, t) ∈ os) : Pk T (os.foldl relax F) (k + 1) := fun v e h hr => by
  rcases pred_of c I O h with rfl | ⟨u, d, t, h1, h2, rfl⟩
  · obtain ⟨d, h3, h4⟩ := fold_le (os := os) I'.st
    exact ⟨d, h3, by omega⟩
  · have := rk_lt (d := d) (e := d + t) (by have := (O.t1 _ _ _ h2).1; omega) (lk_mem h1)
    obtain ⟨f, h3, h4⟩ := p u d h1 (by omega)
    obtain ⟨g, h5, h6⟩ := fold_done (ho u v t f h3 h2) h3
    have h6 : g ≤ f + t := h6
    exact ⟨g, h5, by omega⟩
theorem pk_end {T F : Mp} {k : Nat} (c : Closed E T) (I : Inv n E s T) (I' : Inv n E s F) (hk : n ≤ k) (p : Pk T F k) (v : Nat) : lk F v = lk T v :=
  c.eq I I' (fun v e h => p v e h (by have := rk_len (lk_mem h); have := I.len; omega)) v
/-! the measure -/
theorem sum_lt {f g : Nat → Nat} : ∀ {l : List Nat} {k : Nat}, (∀ x ∈ l, f x ≤ g x) → k ∈ l → f k < g k → (l.map f).sum < (l.map g).sum
  | a :: l, k, h, hk, hlt => by
    rw [List.map_cons, List.map_cons, List.sum_cons, List.sum_cons]
    have ha := h a List.mem_cons_self
    have hl : (l.map f).sum ≤ (l.map g).sum := by
      clear hk hlt
      induction l with
      | nil => exact Nat.le_refl _
      | cons b l ih =>
        rw [List.map_cons, List.map_cons, List.sum_cons, List.sum_cons]
        have := h b (List.mem_cons_of_mem _ List.mem_cons_self)
        have := ih fun x hx => h x (by rcases List.mem_cons.mp hx with rfl | hx; exact List.mem_cons_self; exact List.mem_cons_of_mem _ (List.mem_cons_of_mem _ hx))
        omega
    rcases List.mem_cons.mp hk with rfl | hk
    · omega
    · have := sum_lt (fun x hx => h x (List.mem_cons_of_mem _ hx)) hk hlt
      omega
theorem mu_put (hn : n ≤ 8) (I : Inv n E s m) (O : EOk n E) {o : Op} (he : E o.1 o.2.1 o.2.2) (hc : chg m o = true) : mu n (pt m o.2.1 ((lk m o.1).getD 0 + o.2.2)) < mu n m := by
  obtain ⟨d, h1, h2⟩ := chg_some hc
  have hb := I.bd _ _ h1
  have hl := I.len
  have ht := O.t1 _ _ _ he
  refine sum_lt (k := o.2.1) (fun x _ => ?_) (List.mem_range.mpr (O.lt _ _ _ he).2) ?_
  · rw [lk_pt, h1]
    split
    · rename_i hx
      subst hx
      cases e1 : lk m o.2.1 with
      | none =>
        show d + o.2.2 ≤ 1000
        omega
      | some e =>
        have := h2 e e1
        show d + o.2.2 ≤ e
        omega
    · exact Nat.le_refl _
  · rw [lk_pt, if_pos rfl, h1]
    cases e1 : lk m o.2.1 with
    | none =>
      show d + o.2.2 < 1000
      omega
    | some e => exact h2 e e1
theorem pass_all (hn : n ≤ 8) (O : EOk n E) : ∀ {os : List Op} {r : Mp × Bool}, Inv n E s r.1 → (∀ o ∈ os, E o.1 o.2.1 o.2.2) → Inv n E s (os.foldl passR r).1 ∧ mu n (os.foldl passR r).1 ≤ mu n r.1 ∧ ((os.foldl passR r).2 = true → r.2 = true ∨ mu n (os.foldl passR r).1 < mu n r.1) ∧
    ((os.foldl passR r).2 = false → (os.foldl passR r).1 = r.1 ∧ ∀ o ∈ os, chg r.1 o = false)
  | [], r, I, _ => ⟨I, Nat.le_refl _, .inl, fun _ => ⟨rfl, fun o ho => by cases ho⟩⟩
  | o :: os, r, I, h => by
    have he := h o List.mem_cons_self
    have h' : ∀ o ∈ os, E o.1 o.2.1 o.2.2 := fun o' ho => h o' (List.mem_cons_of_mem _ ho)
    rw [List.foldl_cons]
    by_cases hc : chg r.1 o = true
    · have e1 : passR r o = (pt r.1 o.2.1 ((lk r.1 o.1).getD 0 + o.2.2), true) := by unfold passR; rw [if_pos hc]
      have hm := mu_put hn I O he hc
      have I2 : Inv n E s (pt r.1 o.2.1 ((lk r.1 o.1).getD 0 + o.2.2)) := by
        have := relax_inv I O he
        unfold relax at this
        rwa [if_pos hc] at this
      rw [e1]
      obtain ⟨a, b, c, d⟩ := pass_all hn O (os := os) (r := (pt r.1 o.2.1 ((lk r.1 o.1).getD 0 + o.2.2), true)) I2 h'
      have b' : mu n (os.foldl passR (pt r.1 o.2.1 ((lk r.1 o.1).getD 0 + o.2.2), true)).1 ≤ mu n (pt r.1 o.2.1 ((lk r.1 o.1).getD 0 + o.2.2)) := b
      refine ⟨a, by omega, fun _ => .inr (by omega), fun hf => ?_⟩
      exfalso
      have : ∀ (os : List Op) (r : Mp × Bool), r.2 = true → (os.foldl passR r).2 = true := by
        intro os
        induction os with
        | nil => exact fun r h => h
        | cons o os ih =>
          intro r hr
          rw [List.foldl_cons]
          refine ih _ ?_
          unfold passR
          split
          · rfl
          · exact hr
      rw [this os _ rfl] at hf
      cases hf
    · have e1 : passR r o = r := by unfold passR; rw [if_neg hc]
      rw [e1]
      obtain ⟨a, b, c, d⟩ := pass_all hn O (os := os) (r := r) I h'
      refine ⟨a, b, c, fun hf => ⟨(d hf).1, fun o' ho => ?_⟩⟩
      rcases List.mem_cons.mp ho with rfl | ho
      · simpa using hc
      · exact (d hf).2 o' ho
end
end M.T

set_option Elab.async false
set_option linter.all false
set_option maxRecDepth 100000
set_option maxHeartbeats 2000000
namespace M.T
open PySem PySem.Spec PyProof.Rows L2
/-! nets and maps of times as data -/
def trD (e : Op) : D := .tup [.int (e.1 : Nat), .int (e.2.1 : Nat), .int (e.2.2 : Nat)]
def netD (hs : List Int) (es : List Op) : D := .tup [.tup (hs.map D.int), .tup (es.map trD)]
def mD (m : Mp) : List (Key × D) := m.map fun q => (.inl (q.1 : Int), .int (q.2 : Int))
theorem look_mD : ∀ (m : Mp) (k : Nat), look (mD m) (.inl (k : Int)) = (lk m k).map fun v => D.int (v : Int)
  | [], k => rfl
  | (a, b) :: r, k => by
    have ih := look_mD r k
    unfold look mD at ih ⊢
    rw [List.map_cons, List.find?_cons]
    unfold lk
    by_cases h : a = k
    · subst h
      simp
    · have : ¬ ((Sum.inl ((a : Nat) : Int) : Key) = .inl (k : Int)) := fun e => h (by have := Sum.inl.inj e; omega)
      simp only [this, decide_false, h, if_false]
      exact ih
theorem any_mD : ∀ (m : Mp) (k : Nat), ((mD m).any fun kv => decide (kv.1 = (Sum.inl (k : Int) : Key))) = (lk m k).isSome
  | [], k => rfl
  | (a, b) :: r, k => by
    have ih := any_mD r k
    unfold mD at ih ⊢
    rw [List.map_cons, List.any_cons, ih]
    show _ = (if a = k then some b else lk r k).isSome
    by_cases h : a = k
    · subst h
      simp
    · have : ¬ ((Sum.inl ((a : Nat) : Int) : Key) = .inl (k : Int)) := fun e => h (by have := Sum.inl.inj e; omega)
      rw [if_neg h]
      simp [this]
theorem putG_mD (m : Mp) (k v : Nat) : putG (mD m) (.inl (k : Int)) (.int (v : Int)) = mD (pt m k v) := by
  unfold putG pt
  rw [any_mD]
  split
  · unfold mD
    rw [List.map_map, List.map_map]
    refine List.map_congr_left fun q _ => ?_
    by_cases h : q.1 = k
    · simp [h]
    · have : ¬ ((Sum.inl ((q.1 : Nat) : Int) : Key) = .inl (k : Int)) := fun e => h (by have := Sum.inl.inj e; omega)
      simp [this, h]
  · simp [mD]
theorem mD_len (m : Mp) : (mD m).length = m.length := by simp [mD]
theorem rdK_D {ρ : En} {i : Nat} {kvs : List (Key × D)} (h : rdK ρ i = some kvs) : rdD ρ i = some (.dct kvs) := by
  unfold rdD
  rw [rdK_some h]
theorem putX_flat {kvs kvs' : List (Key × D)} {d x : D} (h : putD kvs d x = some kvs') : putX (.dct kvs) d x = some (.dct kvs') := by
  have e : putX (.dct kvs) d x = (match keyOf x with
    | some _ => (putD kvs d x).map .dct
    | none => if kvs.isEmpty = true then (keyT x).map fun k => .dcn [(k, d)] else none) := rfl
  rw [e]
  cases hk : keyOf x with
  | none =>
    unfold putD at h
    rw [hk] at h
    split at h <;> cases h
  | some k =>
    rw [h]
    rfl
theorem put_run {Φ : Phi} {i : Nat} {e k : E} {ρ : En} {p p1 p2 : Pot} {kvs kvs' : List (Key × D)} {d x : D} (h0 : rdK ρ i = some kvs) (h1 : (den Φ e).e ρ p = .ok d p1) (h2 : (den Φ k).e ρ p1 = .ok x p2) (h3 : putD kvs d x = some kvs') : (dens Φ (.put i e k)).s ρ p = .ok (.nx (ρ.set i (some (.own (.dct kvs'))))) p2 := by
  show sPut i (den Φ e).e (den Φ k).e ρ p = _
  unfold sPut
  rw [rdK_D h0]
  simp only [h1, h2, bind_ok, putX_flat h3, wrEndD]
theorem putD_mD {m : Mp} {k v : Nat} (h : (mD m).length < sizeLine) : putD (mD m) (.int (v : Nat)) (.int (k : Nat)) = some (mD (pt m k v)) := by
  unfold putD
  rw [if_pos h, ← putG_mD]
  rfl
def Ed (es : List Op) (u v t : Nat) : Prop := (u, v, t) ∈ es ∨ (v, u, t) ∈ es
structure NetOk (hs : List Int) (es : List Op) : Prop where
  h1 : 1 ≤ hs.length
  h8 : hs.length ≤ 8
  hb : ∀ h ∈ hs, 1 ≤ h ∧ h ≤ 3
  eb : ∀ e ∈ es, e.1 < e.2.1 ∧ e.2.1 < hs.length ∧ 1 ≤ e.2.2 ∧ e.2.2 ≤ 9
  up : es.Pairwise fun a b => a.1 < b.1 ∨ (a.1 = b.1 ∧ a.2.1 < b.2.1)
  el : es.length ≤ 100
theorem NetOk.e {hs : List Int} {es : List Op} (N : NetOk hs es) : EOk hs.length (Ed es) where
  lt := fun u v t h => by
    rcases h with h | h
    · have h : u < v ∧ v < hs.length ∧ 1 ≤ t ∧ t ≤ 9 := N.eb _ h
      omega
    · have h : v < u ∧ u < hs.length ∧ 1 ≤ t ∧ t ≤ 9 := N.eb _ h
      omega
  t1 := fun u v t h => by
    rcases h with h | h
    · have h : u < v ∧ v < hs.length ∧ 1 ≤ t ∧ t ≤ 9 := N.eb _ h
      omega
    · have h : v < u ∧ u < hs.length ∧ 1 ≤ t ∧ t ≤ 9 := N.eb _ h
      omega
/-! times_from -/
def dirs (e : Op) : List Op := [(e.1, e.2.1, e.2.2), (e.2.1, e.1, e.2.2)]
def tfE (N S : Option Sl) (r : Mp × Bool) (a b t x y : Option Sl) : En := [N, S, some (.own (.dct (mD r.1))), some (.val (.bl r.2)), a, b, t, x, y]
section
variable {Φ : Phi} {p : Pot} {n s : Nat} {E : Nat → Nat → Nat → Prop} {N S : Option Sl}
theorem one_run (O : EOk n E) (hn : n ≤ 8) {r : Mp × Bool} (I : Inv n E s r.1) {o : Op} (he : E o.1 o.2.1 o.2.2) {a b : Option Sl} :
    (dens Φ l1_times_from).ss (tfE N S r a b (some (.val (.int (o.2.2 : Nat)))) (some (.val (.int (o.1 : Nat)))) (some (.val (.int (o.2.1 : Nat))))) p = .ok (.nx (tfE N S (passR r o) a b (some (.val (.int (o.2.2 : Nat)))) (some (.val (.int (o.1 : Nat)))) (some (.val (.int (o.2.1 : Nat)))))) p := by
  obtain ⟨u, v, t⟩ := o
  obtain ⟨m, f⟩ := r
  have hb : ∀ v d, lk m v = some d → d + 9 ≤ 9 * m.length := I.bd
  have hl : m.length ≤ n := I.len
  have ht : 1 ≤ t ∧ t ≤ 9 := O.t1 _ _ _ he
  have hl2 : (mD m).length < sizeLine := by rw [mD_len]; exact Nat.lt_of_le_of_lt (Nat.le_trans hl hn) (by decide)
  show (dens Φ l1_times_from).ss [N, S, some (.own (.dct (mD m))), some (.val (.bl f)), a, b, some (.val (.int (t : Nat))), some (.val (.int (u : Nat))), some (.val (.int (v : Nat)))] p = _
  unfold l1_times_from
  have hin : (den Φ (.tCmp .isin (.v 7) (.b 2))).t [N, S, some (.own (.dct (mD m))), some (.val (.bl f)), a, b, some (.val (.int (t : Nat))), some (.val (.int (u : Nat))), some (.val (.int (v : Nat)))] p = .ok (lk m u).isSome p := by
    refine tcmp_run (p1 := p) (x := .int (u : Nat)) (y := .dct (mD m)) rfl rfl ?_
    show (inD (.int (u : Nat)) (.dct (mD m))).map D.bl = _
    simp only [inD, keyOf, Option.map_some, look_mD]
    cases lk m u <;> rfl
  cases hu : lk m u with
  | none =>
    have hc : chg m (u, v, t) = false := by simp [chg, hu]
    rw [hu] at hin
    refine (step (if_f (p1 := p) (and_f hin) done) done).trans ?_
    simp [passR, hc, tfE]
  | some d =>
    rw [hu] at hin
    have hle : d + 9 ≤ 9 * m.length := hb u d hu
    have hget : (den Φ (.get2 (.b 2) (.v 8) (.int 999))).e [N, S, some (.own (.dct (mD m))), some (.val (.bl f)), a, b, some (.val (.int (t : Nat))), some (.val (.int (u : Nat))), some (.val (.int (v : Nat)))] p = .ok (.int (((lk m v).getD 999 : Nat) : Int)) p := by
      simp [getE, look_mD]
      cases lk m v <;> simp
    have hadd : (den Φ (.bin .add (.ix (.b 2) (.v 7)) (.v 6))).e [N, S, some (.own (.dct (mD m))), some (.val (.bl f)), a, b, some (.val (.int (t : Nat))), some (.val (.int (u : Nat))), some (.val (.int (v : Nat)))] p = .ok (.int ((d + t : Nat) : Int)) p := by
      simp [ixD, look_mD, hu]
    have hcmp : (den Φ (.tCmp .gt (.get2 (.b 2) (.v 8) (.int 999)) (.bin .add (.ix (.b 2) (.v 7)) (.v 6)))).t [N, S, some (.own (.dct (mD m))), some (.val (.bl f)), a, b, some (.val (.int (t : Nat))), some (.val (.int (u : Nat))), some (.val (.int (v : Nat)))] p = .ok (chg m (u, v, t)) p := by
      refine tcmp_run hget hadd ?_
      show some (D.bl (decide (((d + t : Nat) : Int) < (((lk m v).getD 999 : Nat) : Int)))) = _
      congr 2
      unfold chg
      simp only [hu]
      cases hv : lk m v with
      | none =>
        have : d + t < 999 := by omega
        simp only [Option.getD_none, decide_eq_true_eq]
        exact Int.ofNat_lt.mpr this
      | some e =>
        simp only [Option.getD_some]
        exact decide_eq_decide.mpr Int.ofNat_lt
    cases hc : chg m (u, v, t) with
    | false =>
      rw [hc] at hcmp
      refine (step (if_f (p1 := p) (and_t rfl hin (and_1 hcmp)) done) done).trans ?_
      simp [passR, hc, tfE]
    | true =>
      rw [hc] at hcmp
      refine (step (if_t (p1 := p) (and_t rfl hin (and_1 hcmp)) (step (ρ1 := [N, S, some (.own (.dct (mD (pt m v (d + t))))), some (.val (.bl f)), a, b, some (.val (.int (t : Nat))), some (.val (.int (u : Nat))), some (.val (.int (v : Nat)))]) (p1 := p) ?_ (step (p1 := p) rfl done))) done).trans ?_
      · exact put_run (kvs := mD m) rfl hadd rfl (putD_mD hl2)
      · simp [passR, hc, tfE, hu]
end
end M.T

set_option Elab.async false
set_option linter.all false
set_option maxRecDepth 100000
set_option maxHeartbeats 2000000
namespace M.T
open PySem PySem.Spec PyProof.Rows L2
theorem forR_st {A σ : Type} {tg : D → En → Option En} {body : En → Pot → Res Out} {w : List Nat} {p : Pot} (enc : σ → En) (f : A → D) (st : σ → A → σ) (P : σ → Prop) : ∀ {as : List A} {s : σ}, P s → (∀ a ∈ as, ∀ s, P s → P (st s a) ∧ ∃ ρ1 ρ2, tg (f a) (enc s) = some ρ1 ∧ body ρ1 p = .ok (.nx ρ2) p ∧ wipeE ρ2 w = enc (st s a)) →
    forR tg body w (as.map f) (enc s) p = .ok (.nx (enc (as.foldl st s))) p ∧ P (as.foldl st s)
  | [], s, h, _ => ⟨rfl, h⟩
  | a :: as, s, h, k => by
    obtain ⟨h2, ρ1, ρ2, e1, e2, e3⟩ := k a List.mem_cons_self s h
    obtain ⟨h3, h4⟩ := forR_st enc f st P (tg := tg) (body := body) (w := w) (p := p) h2 fun b hb => k b (List.mem_cons_of_mem _ hb)
    refine ⟨?_, h4⟩
    rw [List.map_cons]
    simp only [forR, e1, turnEnd, e2, Res.bind, e3]
    exact h3
def wn (N S : Option Sl) (r : Mp × Bool) : En := tfE N S r none none none none none
section
variable {Φ : Phi} {p : Pot} {hs : List Int} {es : List Op} {s : Nat} {N S : Option Sl}
theorem dirs_ed {e : Op} (he : e ∈ es) : ∀ o ∈ dirs e, Ed es o.1 o.2.1 o.2.2 := fun o ho => by
  simp only [dirs, List.mem_cons, List.not_mem_nil, or_false] at ho
  rcases ho with rfl | rfl
  · exact .inl he
  · exact .inr he
theorem two_run (K : NetOk hs es) {r : Mp × Bool} (I : Inv hs.length (Ed es) s r.1) {e : Op} (he : e ∈ es) :
    (dens Φ l2_times_from).ss (tfE N S r (some (.val (.int (e.1 : Nat)))) (some (.val (.int (e.2.1 : Nat)))) (some (.val (.int (e.2.2 : Nat)))) none none) p = .ok (.nx (tfE N S ((dirs e).foldl passR r) (some (.val (.int (e.1 : Nat)))) (some (.val (.int (e.2.1 : Nat)))) (some (.val (.int (e.2.2 : Nat)))) none none)) p := by
  unfold l2_times_from
  have key := forR_st (tg := (Tg.tup [.nm 7, .nm 8]).asg) (body := (dens Φ l1_times_from).ss) (w := [7, 8]) (p := p) (fun r => tfE N S r (some (.val (.int (e.1 : Nat)))) (some (.val (.int (e.2.1 : Nat)))) (some (.val (.int (e.2.2 : Nat)))) none none) (fun o : Op => D.tup [.int (o.1 : Nat), .int (o.2.1 : Nat)]) passR (fun r => Inv hs.length (Ed es) s r.1) (as := dirs e) (s := r) I fun o ho r I => by
    have hd := dirs_ed he o ho
    have ht : o.2.2 = e.2.2 := by
      simp only [dirs, List.mem_cons, List.not_mem_nil, or_false] at ho
      rcases ho with rfl | rfl <;> rfl
    refine ⟨?_, _, tfE N S (passR r o) (some (.val (.int (e.1 : Nat)))) (some (.val (.int (e.2.1 : Nat)))) (some (.val (.int (e.2.2 : Nat)))) (some (.val (.int (o.1 : Nat)))) (some (.val (.int (o.2.1 : Nat)))), rfl, ?_, rfl⟩
    · have := (pass_all K.h8 K.e (os := [o]) I fun o' h => by rw [List.mem_singleton] at h; rw [h]; exact hd).1
      exact this
    · have := one_run (Φ := Φ) (p := p) (N := N) (S := S) K.e K.h8 I (o := o) hd (a := some (.val (.int (e.1 : Nat)))) (b := some (.val (.int (e.2.1 : Nat))))
      rw [ht] at this
      exact this
  exact step (for_run (p1 := p) (xs := (dirs e).map fun o : Op => D.tup [.int (o.1 : Nat), .int (o.2.1 : Nat)]) (by simp [tfE, dirs]) key.1) done
theorem pass_run (K : NetOk hs es) {r : Mp × Bool} (I : Inv hs.length (Ed es) s r.1) :
    (dens Φ l3_times_from).ss (wn (some (.val (netD hs es))) S r) p = .ok (.nx (wn (some (.val (netD hs es))) S ((es.flatMap dirs).foldl passR (r.1, false)))) p := by
  unfold l3_times_from
  have key := forR_st (tg := (Tg.tup [.nm 4, .nm 5, .nm 6]).asg) (body := (dens Φ l2_times_from).ss) (w := [4, 5, 6, 7, 8]) (p := p) (fun r => wn (some (.val (netD hs es))) S r) trD (fun r e => (dirs e).foldl passR r) (fun r => Inv hs.length (Ed es) s r.1) (as := es) (s := (r.1, false)) I fun e he r I => by
    refine ⟨(pass_all K.h8 K.e I (dirs_ed he)).1, _, _, rfl, two_run K I he, rfl⟩
  rw [List.foldl_flatMap]
  refine step (ρ1 := wn (some (.val (netD hs es))) S (r.1, false)) (p1 := p) rfl (step (for_run (p1 := p) (xs := es.map trD) ?_ key.1) done)
  simp [wn, tfE, netD, ixD_tup1]
theorem mu_le (n : Nat) {m : Mp} (h : ∀ v d, lk m v = some d → d ≤ 1000) : mu n m ≤ 1000 * n := by
  have : ∀ l : List Nat, (l.map fun k => (lk m k).getD 1000).sum ≤ 1000 * l.length := fun l => by
    induction l with
    | nil => exact Nat.le_refl _
    | cons a l ih =>
      rw [List.map_cons, List.sum_cons, List.length_cons]
      have : (lk m a).getD 1000 ≤ 1000 := by
        cases e : lk m a with
        | none => exact Nat.le_refl _
        | some d => exact h a d e
      omega
  have := this (List.range n)
  rwa [List.length_range] at this
theorem while_tf (K : NetOk hs es) : ∀ (M : Nat) {r : Mp × Bool} {fuel : Nat}, mu hs.length r.1 < M → M + 1 ≤ fuel → Inv hs.length (Ed es) s r.1 → (r.2 = false → Closed (Ed es) r.1) →
    ∃ m, whileR (den Φ (.tTru (.v 3))).t (dens Φ l3_times_from).ss [4, 5, 6, 7, 8] fuel (wn (some (.val (netD hs es))) S r) p = .ok (.nx (wn (some (.val (netD hs es))) S (m, false))) p ∧ Inv hs.length (Ed es) s m ∧ Closed (Ed es) m
  | 0, r, fuel, h, _, _, _ => by omega
  | M + 1, (m, f), fuel, h, hf, I, hc => by
    obtain ⟨fuel, rfl⟩ : ∃ j, fuel = j + 1 := ⟨fuel - 1, by omega⟩
    have hcnd : (den Φ (.tTru (.v 3))).t (wn (some (.val (netD hs es))) S (m, f)) p = .ok f p := tru_bl rfl
    cases f with
    | false =>
      refine ⟨m, ?_, I, hc rfl⟩
      show ((den Φ (.tTru (.v 3))).t (wn (some (.val (netD hs es))) S (m, false)) p).bind _ = _
      rw [hcnd]
      rfl
    | true =>
      have hb := pass_run (Φ := Φ) (p := p) (S := S) K (r := (m, true)) I
      obtain ⟨a, b, c, d⟩ := pass_all K.h8 K.e (os := es.flatMap dirs) (r := (m, false)) I fun o ho => by
        obtain ⟨e, he, ho⟩ := List.mem_flatMap.mp ho
        exact dirs_ed he o ho
      have h : mu hs.length m < M + 1 := h
      have hb : (dens Φ l3_times_from).ss (wn (some (.val (netD hs es))) S (m, true)) p = .ok (.nx (wn (some (.val (netD hs es))) S ((es.flatMap dirs).foldl passR (m, false)))) p := hb
      have step1 : whileR (den Φ (.tTru (.v 3))).t (dens Φ l3_times_from).ss [4, 5, 6, 7, 8] (fuel + 1) (wn (some (.val (netD hs es))) S (m, true)) p = whileR (den Φ (.tTru (.v 3))).t (dens Φ l3_times_from).ss [4, 5, 6, 7, 8] fuel (wn (some (.val (netD hs es))) S ((es.flatMap dirs).foldl passR (m, false))) p := by
        show ((den Φ (.tTru (.v 3))).t (wn (some (.val (netD hs es))) S (m, true)) p).bind _ = _
        rw [hcnd]
        show turnEnd _ ((dens Φ l3_times_from).ss _ p) _ = _
        rw [hb]
        rfl
      rw [step1]
      cases e : (es.flatMap dirs).foldl passR (m, false) with
      | mk m' f' =>
        rw [e] at a b c d
        cases f' with
        | true =>
          have hlt : mu hs.length m' < mu hs.length m := (c rfl).elim (fun h => by cases h) id
          exact while_tf K M (r := (m', true)) (by show mu hs.length m' < M; omega) (by omega) a fun h => by cases h
        | false =>
          obtain ⟨d1, d2⟩ := d rfl
          have d1 : m' = m := d1
          subst d1
          have hcl : Closed (Ed es) m' := fun u v t x he hu => by
            have hm : (u, v, t) ∈ es.flatMap dirs := by
              rcases he with he | he
              · exact List.mem_flatMap.mpr ⟨_, he, by simp [dirs]⟩
              · exact List.mem_flatMap.mpr ⟨_, he, by simp [dirs]⟩
            exact chg_not (d2 _ hm) hu
          obtain ⟨fuel, rfl⟩ : ∃ j, fuel = j + 1 := ⟨fuel - 1, by omega⟩
          have hcnd2 : (den Φ (.tTru (.v 3))).t (wn (some (.val (netD hs es))) S (m', false)) p = .ok false p := tru_bl rfl
          refine ⟨m', ?_, I, hcl⟩
          show ((den Φ (.tTru (.v 3))).t (wn (some (.val (netD hs es))) S (m', false)) p).bind _ = _
          rw [hcnd2]
          rfl
end
/-- the shortest times from a place -/
theorem e_times {k : Nat} (hk : 1 ≤ k) {hs : List Int} {es : List Op} (K : NetOk hs es) {s : Nat} (hs' : s < hs.length) (p : Pot) : ∃ m, callD T k "times_from" [.val (netD hs es), .val (.int (s : Nat))] p = .ok (.dct (mD m)) p ∧ Inv hs.length (Ed es) s m ∧ Closed (Ed es) m := by
  obtain ⟨k, rfl, hk'⟩ := pos hk
  have I : Inv hs.length (Ed es) s [(s, 0)] := Inv.init hs'
  have hmu : mu hs.length [(s, 0)] ≤ 1000 * hs.length := mu_le _ fun v d h => by
    have := I.bd v d h
    simp at this
    omega
  have h8 := K.h8
  obtain ⟨m, h1, h2, h3⟩ := while_tf (Φ := callD T k) (p := p) (S := some (.val (.int (s : Nat)))) K 8001 (r := ([(s, 0)], true)) (fuel := bigN) (by show mu hs.length [(s, 0)] < 8001; omega) (by unfold bigN; omega) I fun h => by cases h
  refine ⟨m, ?_, h2, h3⟩
  rw [call_times_from]
  refine run_ret rfl ?_
  show (dens (callD T k) b_times_from).ss [some (.val (netD hs es)), some (.val (.int (s : Nat))), none, none, none, none, none, none, none] p = _
  unfold b_times_from
  refine step (own_run (p1 := p) (d := .dct (mD [(s, 0)])) ?_) (step (set_run (p1 := p) (d := .bl true) rfl) (step (ρ1 := wn (some (.val (netD hs es))) (some (.val (.int (s : Nat)))) (m, false)) (p1 := p) h1 (last (retO_own (d := .dct (mD m)) rfl))))
  rfl
end M.T

set_option Elab.async false
set_option linter.all false
set_option maxRecDepth 100000
set_option maxHeartbeats 2000000
namespace M.T
open PySem PySem.Spec PyProof.Rows L2
theorem forR_sti {A σ : Type} {tg : D → En → Option En} {body : En → Pot → Res Out} {w : List Nat} {p : Pot} (enc : σ → En) (f : A → D) (st : σ → A → σ) (P : Nat → σ → Prop) : ∀ {as : List A} {s : σ} {j : Nat}, P j s → (∀ i a, as[i]? = some a → ∀ s, P (j + i) s → P (j + i + 1) (st s a) ∧ ∃ ρ1 ρ2, tg (f a) (enc s) = some ρ1 ∧ body ρ1 p = .ok (.nx ρ2) p ∧ wipeE ρ2 w = enc (st s a)) →
    forR tg body w (as.map f) (enc s) p = .ok (.nx (enc (as.foldl st s))) p ∧ P (j + as.length) (as.foldl st s)
  | [], s, j, h, _ => ⟨rfl, h⟩
  | a :: as, s, j, h, k => by
    obtain ⟨h2, ρ1, ρ2, e1, e2, e3⟩ := k 0 a rfl s h
    obtain ⟨h3, h4⟩ := forR_sti enc f st P (tg := tg) (body := body) (w := w) (p := p) (j := j + 1) (as := as) h2 fun i b hb s hs => by
      have := k (i + 1) b (by simpa using hb) s (by rw [show j + (i + 1) = j + 1 + i by omega]; exact hs)
      rw [show j + (i + 1) = j + 1 + i by omega] at this
      exact this
    refine ⟨?_, by rw [List.length_cons, show j + (as.length + 1) = j + 1 + as.length by omega]; exact h4⟩
    rw [List.map_cons]
    simp only [forR, e1, turnEnd, e2, Res.bind, e3]
    exact h3
theorem foldl_flat {A B : Type} (g : A → List B) : ∀ (as : List A) (s : List B), as.foldl (fun acc a => acc ++ g a) s = s ++ as.flatMap g
  | [], s => by simp
  | a :: as, s => by rw [List.foldl_cons, foldl_flat g as, List.flatMap_cons, List.append_assoc]
/-! near -/
def prN (q : Nat × Nat) : D := .tup [.int (q.1 : Nat), .int (q.2 : Nat)]
def nearE (u o : Nat) (e : Op) : List (Nat × Nat) := if e.1 = min u o ∧ e.2.1 = max u o then [(o, e.2.2)] else []
def nearO (es : List Op) (u o : Nat) : List (Nat × Nat) := es.flatMap (nearE u o)
def nearL (es : List Op) (n u : Nat) : List (Nat × Nat) := (List.range n).flatMap (nearO es u)
theorem mem_near {hs : List Int} {es : List Op} (K : NetOk hs es) {u v t : Nat} : (v, t) ∈ nearL es hs.length u ↔ Ed es u v t := by
  unfold nearL nearO
  simp only [List.mem_flatMap, List.mem_range]
  constructor
  · rintro ⟨o, ho, e, he, hm⟩
    unfold nearE at hm
    split at hm
    · rename_i h
      rw [List.mem_singleton] at hm
      cases hm
      have := K.eb e he
      obtain ⟨a, b, c⟩ := e
      have h : a = min u v ∧ b = max u v := h
      have this : a < b ∧ b < hs.length ∧ 1 ≤ c ∧ c ≤ 9 := this
      by_cases hle : u ≤ v
      · exact .inl (by have h1 : a = u := by omega
                       have h2 : b = v := by omega
                       subst h1 h2; exact he)
      · exact .inr (by have h1 : a = v := by omega
                       have h2 : b = u := by omega
                       subst h1 h2; exact he)
    · cases hm
  · intro h
    have hlt := (K.e).lt u v t h
    rcases h with h | h
    · have : u < v ∧ v < hs.length ∧ 1 ≤ t ∧ t ≤ 9 := K.eb _ h
      exact ⟨v, hlt.2, _, h, by unfold nearE; rw [if_pos (by show u = min u v ∧ v = max u v; omega)]; exact List.mem_singleton.mpr rfl⟩
    · have : v < u ∧ u < hs.length ∧ 1 ≤ t ∧ t ≤ 9 := K.eb _ h
      exact ⟨v, hlt.2, _, h, by unfold nearE; rw [if_pos (by show v = min u v ∧ u = max u v; omega)]; exact List.mem_singleton.mpr rfl⟩
def nv (N U : Option Sl) (o a b t : Option Sl) (acc : List (Nat × Nat)) : En := [N, U, some (.own (.lst (acc.map prN))), o, a, b, t]
section
variable {Φ : Phi} {p : Pot} {hs : List Int} {es : List Op} {N : Option Sl}
theorem near_one {u o : Nat} {e : Op} {acc : List (Nat × Nat)} (hl : acc.length ≤ 1000) :
    (dens Φ l1__law_near).ss (nv N (some (.val (.int (u : Nat)))) (some (.val (.int (o : Nat)))) (some (.val (.int (e.1 : Nat)))) (some (.val (.int (e.2.1 : Nat)))) (some (.val (.int (e.2.2 : Nat)))) acc) p =
    .ok (.nx (nv N (some (.val (.int (u : Nat)))) (some (.val (.int (o : Nat)))) (some (.val (.int (e.1 : Nat)))) (some (.val (.int (e.2.1 : Nat)))) (some (.val (.int (e.2.2 : Nat)))) (acc ++ nearE u o e))) p := by
  unfold l1__law_near
  have hc : (den Φ (.tCmp .eq (.tup (.cons (.v 4) (.cons (.v 5) .nil))) (.tup (.cons (.blt .min2 (.cons (.v 1) (.cons (.v 3) .nil))) (.cons (.blt .max2 (.cons (.v 1) (.cons (.v 3) .nil))) .nil))))).t (nv N (some (.val (.int (u : Nat)))) (some (.val (.int (o : Nat)))) (some (.val (.int (e.1 : Nat)))) (some (.val (.int (e.2.1 : Nat)))) (some (.val (.int (e.2.2 : Nat)))) acc) p = .ok (decide (e.1 = min u o ∧ e.2.1 = max u o)) p := by
    refine tcmp_run (p1 := p) (p2 := p) (x := .tup [.int (e.1 : Nat), .int (e.2.1 : Nat)]) (y := .tup [.int ((min u o : Nat) : Int), .int ((max u o : Nat) : Int)]) ?_ ?_ ?_
    · simp [nv, valsOf]
    · simp [nv, valsOf, dd2, min2D, max2D]
      constructor <;> split <;> omega
    · have cast : ∀ a b : Nat, (((a : Nat) : Int) == ((b : Nat) : Int)) = decide (a = b) := fun a b => by
        rw [Bool.eq_iff_iff]
        simp
        omega
      simp only [Cm.d, eqD, dat, dats, eqb, eqbs, Bool.and_self, and_self, if_true, Bool.and_true, cast, Bool.decide_and]
  by_cases h : e.1 = min u o ∧ e.2.1 = max u o
  · rw [decide_eq_true h] at hc
    refine step (if_t (p1 := p) hc (step (app_run (p1 := p) (ds := acc.map prN) (d := prN (o, e.2.2)) rfl (by simp [nv, valsOf, prN]) (by simpa using hl)) done)) ?_
    unfold nearE
    rw [if_pos h]
    simp [nv, done]
  · rw [decide_eq_false h] at hc
    refine step (if_f (p1 := p) hc done) ?_
    unfold nearE
    rw [if_neg h]
    simp [nv, done]
theorem near_two {u o : Nat} {acc : List (Nat × Nat)} {x : Option Sl} (hl : acc.length + es.length ≤ 1000) :
    (dens Φ l2__law_near).ss (nv (some (.val (netD hs es))) (some (.val (.int (u : Nat)))) (some (.val (.int (o : Nat)))) none none none acc) p =
    .ok (.nx (nv (some (.val (netD hs es))) (some (.val (.int (u : Nat)))) (some (.val (.int (o : Nat)))) none none none (acc ++ nearO es u o))) p := by
  unfold l2__law_near
  have key := forR_sti (tg := (Tg.tup [.nm 4, .nm 5, .nm 6]).asg) (body := (dens Φ l1__law_near).ss) (w := [4, 5, 6]) (p := p) (fun acc => nv (some (.val (netD hs es))) (some (.val (.int (u : Nat)))) (some (.val (.int (o : Nat)))) none none none acc) trD (fun acc e => acc ++ nearE u o e) (fun i a => a.length ≤ acc.length + i) (as := es) (s := acc) (j := 0) (Nat.le_refl _) fun i e he a ha => by
    have hi : i < es.length := (List.getElem?_eq_some_iff.mp he).1
    refine ⟨?_, _, _, rfl, near_one (by omega), rfl⟩
    have : (nearE u o e).length ≤ 1 := by unfold nearE; split <;> simp
    rw [List.length_append]
    omega
  rw [foldl_flat] at key
  exact step (for_run (p1 := p) (xs := es.map trD) (by simp [nv, netD, ixD_tup1]) key.1) done
theorem nearO_len (es : List Op) (u o : Nat) : (nearO es u o).length ≤ es.length := by
  unfold nearO
  induction es with
  | nil => exact Nat.le_refl _
  | cons e es ih =>
    rw [List.flatMap_cons, List.length_append, List.length_cons]
    have : (nearE u o e).length ≤ 1 := by unfold nearE; split <;> simp
    omega
end
theorem rgItems {n : Nat} : rangeItems 0 n = (List.range n).map fun i : Nat => D.int (i : Nat) := by
  unfold rangeItems
  exact List.map_congr_left fun i _ => by simp
theorem e_near {k : Nat} (hk : 1 ≤ k) {hs : List Int} {es : List Op} (K : NetOk hs es) (u : Nat) (p : Pot) : callD T k "_law_near" [.val (netD hs es), .val (.int (u : Nat))] p = .ok (.lst ((nearL es hs.length u).map prN)) p := by
  obtain ⟨k, rfl, hk'⟩ := pos hk
  have h8 := K.h8
  have hel := K.el
  rw [call__law_near]
  refine run_ret rfl ?_
  show (dens (callD T k) b__law_near).ss [some (.val (netD hs es)), some (.val (.int (u : Nat))), none, none, none, none, none] p = _
  unfold b__law_near
  have key := forR_sti (tg := (Tg.nm 3).asg) (body := (dens (callD T k) l2__law_near).ss) (w := [3, 4, 5, 6]) (p := p) (fun acc => nv (some (.val (netD hs es))) (some (.val (.int (u : Nat)))) none none none none acc) (fun o : Nat => D.int (o : Nat)) (fun acc o => acc ++ nearO es u o) (fun i a => a.length ≤ i * es.length) (as := List.range hs.length) (s := []) (j := 0) (by simp) fun i o ho a ha => by
    have hi : i < hs.length := by have := (List.getElem?_eq_some_iff.mp ho).1; simpa using this
    have hm : (0 + i) * es.length ≤ 7 * es.length := Nat.mul_le_mul_right _ (by omega)
    have ho2 := nearO_len es u o
    refine ⟨?_, _, _, rfl, near_two (x := none) (by omega), rfl⟩
    rw [List.length_append, Nat.succ_mul]
    omega
  rw [foldl_flat] at key
  refine step (own_run (p1 := p) (d := .lst []) rfl) (step (for_run (p1 := p) (xs := (List.range hs.length).map fun o : Nat => D.int (o : Nat)) ?_ key.1) (last (retO_own rfl)))
  have hr : rgOk (hs.length : Int) = true := rng_ok (by omega) (by omega)
  simp [netD, ixD_tup0, lenD, dRange1, hr, rgItems]
end M.T

set_option Elab.async false
set_option linter.all false
set_option maxRecDepth 100000
set_option maxHeartbeats 2000000
namespace M.T
open PySem PySem.Spec PyProof.Rows L2
/-! nets judged -/
def pairB (m : Int) (a b : D) : Bool := numB 0 (m - 1) a && numB 0 (m - 1) b && match a, b with
  | .int x, .int y => decide (x < y)
  | _, _ => false
def trackB (m : Int) : D → Bool
  | .tup [a, b, c] => pairB m a b && numB 1 9 c
  | _ => false
theorem numB_int {lo hi : Int} {d : D} (h : numB lo hi d = true) : ∃ i, d = .int i ∧ lo ≤ i ∧ i ≤ hi := by
  unfold numB at h
  split at h
  · exact ⟨_, rfl, by simpa using h⟩
  · cases h
theorem e_trackG {k : Nat} (hk : 3 ≤ k) {n : Nat} {d : D} (h : gd n d = true) (m : Int) (p : Pot) : callD T k "is_track" [.val (.int m), .val d] p = .ok (.bl (trackB m d)) p := by
  obtain ⟨k, rfl, hk'⟩ := pos hk
  rw [call_is_track]
  cases d with
  | tup ds =>
    cases n with
    | zero => simp [gd] at h
    | succ n =>
    simp only [gd, Bool.and_eq_true, decide_eq_true_eq] at h
    match ds, h with
    | [a, b, c], h =>
      have ha := gds_mem h.2 a (by simp)
      have hb := gds_mem h.2 b (by simp)
      have hc := gds_mem h.2 c (by simp)
      have hab : gd (n + 1) (.tup [a, b]) = true := by
        simp only [gd, Bool.and_eq_true, decide_eq_true_eq]
        exact ⟨by simp, gds_of fun d hd => by
          rcases List.mem_cons.mp hd with rfl | hd
          · exact ha
          · rw [List.mem_singleton] at hd
            rw [hd]
            exact hb⟩
      have h2 := e_rowG (by omega : 2 ≤ k) hab 2 2 0 (m - 1) p
      have h1 := e_numG (by omega : 1 ≤ k) hc 1 9 p
      have hrow : rowB 2 2 0 (m - 1) (.tup [a, b]) = (numB 0 (m - 1) a && numB 0 (m - 1) b) := by simp [rowB]
      rw [hrow] at h2
      have hs : slD (.tup [a, b, c]) none (some 2) = some (.tup [a, b]) := rfl
      cases hn : (numB 0 (m - 1) a && numB 0 (m - 1) b) with
      | false =>
        rw [hn] at h2
        simp [neD, dat, eqb, hs, h2, trackB, pairB, hn]
      | true =>
        rw [hn] at h2
        obtain ⟨n1, n2⟩ := Bool.and_eq_true_iff.mp hn
        obtain ⟨x, rfl, _⟩ := numB_int n1
        obtain ⟨y, rfl, _⟩ := numB_int n2
        by_cases hlt : x < y
        · simp [neD, dat, eqb, hs, h2, trackB, pairB, n1, n2, ixD_tup0, ixD_tup1, ixD_tup2, h1, hlt]
        · simp [neD, dat, eqb, hs, h2, trackB, pairB, n1, n2, ixD_tup0, ixD_tup1, ixD_tup2, h1, hlt]
    | [], h => simp [neD, dat, eqb, trackB]
    | [x], h => simp [neD, dat, eqb, trackB]
    | [x, y], h => simp [neD, dat, eqb, trackB]
    | x :: y :: z :: w :: r, h =>
      have : ¬ ((r.length : Int) + 1 + 1 + 1 + 1 = 3) := by omega
      simp [neD, dat, eqb, trackB, this]
  | fn x => cases n <;> simp [gd] at h
  | pot => cases n <;> simp [gd] at h
  | dct x => cases n <;> simp [gd] at h
  | dcn x => cases n <;> simp [gd] at h
  | _ => simp [trackB]
/-! pairs that rise -/
def riseP (ps : List (Int × Int)) : Bool := (List.range (ps.length - 1)).all fun i => decide (ltQ (ps.getD i (0, 0)) (ps.getD (i + 1) (0, 0)))
theorem lt_pr (a b : Int × Int) : ltD (prI a) (prI b) = some (.bl (decide (ltQ a b))) := by
  have : HT.lexLt [a.1, a.2] [b.1, b.2] = decide (ltQ a b) := by
    show _ = decide (a.1 < b.1 ∨ (a.1 = b.1 ∧ a.2 < b.2))
    by_cases h1 : a.1 = b.1
    · by_cases h2 : a.2 = b.2
      · simp [HT.lexLt, h1, h2]
      · simp [HT.lexLt, h1, h2]
    · simp [HT.lexLt, h1]
  rw [← this]
  rfl
theorem e_riseP {k : Nat} (hk : 1 ≤ k) (ps : List (Int × Int)) (p : Pot) (hs : ps.length ≤ 1000) : callD T k "do_rise" [.val (.tup (ps.map prI))] p = .ok (.bl (riseP ps)) p := by
  obtain ⟨k, rfl, hk'⟩ := pos hk
  rw [call_do_rise]
  refine run_ret rfl ?_
  show (dens (callD T k) b_do_rise).ss [some (.val (.tup (ps.map prI))), none] p = _
  unfold b_do_rise
  have hr : rgOk ((ps.length : Int) - 1) = true := rng_ok (by omega) (by omega)
  have e0 : ((ps.length : Int) - 1).toNat = ps.length - 1 := by omega
  refine last (ret_comp (blt_run (f := .all) (fun _ => rfl) (comp_run (p1 := p) (xs := rangeItems 0 (ps.length - 1)) (ds := (List.range (ps.length - 1)).map fun i => .bl (decide (ltQ (ps.getD i (0, 0)) (ps.getD (i + 1) (0, 0))))) ?_ ?_ (by simp; omega)) (all_mapf _ _)))
  · simp [dRange1, hr, e0]
  · have hm : ((List.range (ps.length - 1)).map fun i => D.bl (decide (ltQ (ps.getD i (0, 0)) (ps.getD (i + 1) (0, 0))))) = (rangeItems 0 (ps.length - 1)).map fun d => match d with
        | .int i => .bl (decide (ltQ (ps.getD i.toNat (0, 0)) (ps.getD (i.toNat + 1) (0, 0))))
        | d => d := by
      simp [rangeItems, Function.comp_def]
    rw [hm]
    refine compR_map _ fun x hx => ?_
    obtain ⟨n, hn, rfl⟩ := List.mem_map.mp hx
    have hn := List.mem_range.mp hn
    have h1 : n + 1 < ps.length := by omega
    refine ⟨_, rfl, rfl, ?_⟩
    have e1 := ixD_tup (map_get (f := prI) (List.getElem?_eq_getElem (show n < ps.length by omega)))
    have e2 : ixD (.tup (ps.map prI)) (.int ((n : Int) + 1)) = some (prI ps[n + 1]) := ixD_tup (map_get (f := prI) (List.getElem?_eq_getElem h1))
    refine cmp_run (p1 := p) (p2 := p) (x := prI ps[n]) (y := prI ps[n + 1]) ?_ ?_ ?_
    · simp [e1]
    · simp [e2]
    · simp only [Cm.d, lt_pr]
      simp [List.getD_eq_getElem?_getD, List.getElem?_eq_getElem h1, List.getElem?_eq_getElem (show n < ps.length by omega)]
theorem riseP_iff {ps : List (Int × Int)} : riseP ps = true ↔ ps.Pairwise ltQ := by
  unfold riseP
  rw [List.all_eq_true]
  constructor
  · intro h
    have key : ∀ i j, i < j → j < ps.length → ltQ (ps.getD i (0, 0)) (ps.getD j (0, 0)) := by
      intro i j hij
      induction j with
      | zero => omega
      | succ j ih =>
        intro hj
        have hs := of_decide_eq_true (h j (List.mem_range.mpr (by omega)))
        by_cases e : i = j
        · rw [e]; exact hs
        · exact ltQ_trans (ih (by omega) (by omega)) hs
    rw [List.pairwise_iff_getElem]
    intro i j hi hj hij
    have := key i j hij hj
    simpa [List.getD_eq_getElem?_getD, List.getElem?_eq_getElem hi, List.getElem?_eq_getElem hj] using this
  · intro h i hi
    have hi := List.mem_range.mp hi
    have := List.pairwise_iff_getElem.mp h i (i + 1) (by omega) (by omega) (by omega)
    refine decide_eq_true ?_
    simpa [List.getD_eq_getElem?_getD, List.getElem?_eq_getElem (show i < ps.length by omega), List.getElem?_eq_getElem (show i + 1 < ps.length by omega)] using this
end M.T

set_option Elab.async false
set_option linter.all false
set_option maxRecDepth 100000
set_option maxHeartbeats 2000000
namespace M.T
open PySem PySem.Spec PyProof.Rows L2
theorem call1_run {Φ : Phi} {f : Str} {a : E} {ρ : En} {p p1 : Pot} {x : D} {r : Res D} (ha : ∀ f, aArg a f = aVal f) (h1 : (den Φ a).e ρ p = .ok x p1) (h : Φ f [.val x] p1 = r) : (den Φ (.call f (.cons a .nil))).e ρ p = r := by
  show dCallF (Φ f) (aCons (aArg a (den Φ a).e) aNil) ρ p = _
  rw [ha]
  simp only [dCallF, aCons, aVal, aNil, Res.bind, h1]
  exact h
theorem call2_run {Φ : Phi} {f : Str} {a b : E} {ρ : En} {p p1 p2 : Pot} {x y : D} {r : Res D} (ha : ∀ f, aArg a f = aVal f) (hb : ∀ f, aArg b f = aVal f) (h1 : (den Φ a).e ρ p = .ok x p1) (h2 : (den Φ b).e ρ p1 = .ok y p2) (h : Φ f [.val x, .val y] p2 = r) : (den Φ (.call f (.cons a (.cons b .nil)))).e ρ p = r := by
  show dCallF (Φ f) (aCons (aArg a (den Φ a).e) (aCons (aArg b (den Φ b).e) aNil)) ρ p = _
  rw [ha, hb]
  simp only [dCallF, aCons, aVal, aNil, Res.bind, h1, h2, h]
def pairOf : D → Int × Int
  | .tup (.int a :: .int b :: _) => (a, b)
  | _ => (0, 0)
def lenT : D → Int
  | .tup xs => xs.length
  | _ => 0
def netB : D → Bool
  | .tup [h, .tup ts] => rowB 1 8 1 3 h && ts.all (trackB (lenT h)) && riseP (ts.map pairOf)
  | _ => false
theorem trackB_pair {m : Int} {d : D} (h : trackB m d = true) : ∃ (x y : Int) (c : D), d = .tup [.int x, .int y, c] ∧ 0 ≤ x ∧ x < y ∧ y ≤ m - 1 ∧ numB 1 9 c = true := by
  unfold trackB at h
  split at h
  · rename_i a b c
    simp only [pairB, Bool.and_eq_true] at h
    obtain ⟨⟨⟨h1, h2⟩, h3⟩, h4⟩ := h
    obtain ⟨x, rfl, x1, x2⟩ := numB_int h1
    obtain ⟨y, rfl, y1, y2⟩ := numB_int h2
    exact ⟨x, y, c, rfl, x1, by simpa using h3, y2, h4⟩
  · cases h
theorem e_netG {k : Nat} (hk : 4 ≤ k) {n : Nat} {d : D} (h : gd n d = true) (p : Pot) : callD T k "is_net" [.val d] p = .ok (.bl (netB d)) p := by
  obtain ⟨k, rfl, hk'⟩ := pos hk
  rw [call_is_net]
  cases d with
  | tup ds =>
    cases n with
    | zero => simp [gd] at h
    | succ n =>
    simp only [gd, Bool.and_eq_true, decide_eq_true_eq] at h
    match ds, h with
    | [a, b], h =>
      have ha := gds_mem h.2 a (by simp)
      have hb := gds_mem h.2 b (by simp)
      have h2 := e_rowG (by omega : 2 ≤ k) ha 1 8 1 3 p
      cases hr : rowB 1 8 1 3 a with
      | false =>
        rw [hr] at h2
        have : netB (.tup [a, b]) = false := by
          cases b <;> simp [netB, hr]
        rw [this]
        simp [neD, dat, eqb, ixD_tup0, h2]
      | true =>
        rw [hr] at h2
        obtain ⟨ns, rfl, n1, n2, n3⟩ := rowB_tup hr
        refine run_ret rfl ?_
        show (dens (callD T k) b_is_net).ss [some (.val (.tup [.tup (ns.map .int), b])), none, none] p = _
        unfold b_is_net
        refine step (p1 := p) (if_f (p1 := p) (by simp [neD, dat, eqb, ixD_tup0, h2]) done) (step (set_run (p1 := p) (d := b) (by simp [ixD_tup1])) ?_)
        show (dens (callD T k) (.cons _ (.cons _ .nil))).ss [some (.val (.tup [.tup (ns.map .int), b])), some (.val b), none] p = _
        cases b with
        | tup ts =>
          cases n with
          | zero => simp [gd] at hb
          | succ n =>
          simp only [gd, Bool.and_eq_true, decide_eq_true_eq] at hb
          have hcomp := comp_run (Φ := callD T k) (t := .nm 2) (it := .iE (.v 1)) (c := .nil) (e := .call "is_track" (.cons (.blt .len (.cons (.ix (.v 0) (.int 0)) .nil)) (.cons (.v 2) .nil))) (own := [("track", 2)]) (ρ := [some (.val (.tup [.tup (ns.map .int), .tup ts])), some (.val (.tup ts)), none]) (p := p) (p1 := p) (p2 := p) (xs := ts) (ds := ts.map fun d => .bl (trackB (ns.length : Int) d)) (by simp) (compR_map _ fun x hx => ⟨_, rfl, rfl, by
            have := e_trackG (by omega : 3 ≤ k) (gds_mem hb.2 x hx) (ns.length : Int) p
            simp [ixD_tup0, lenD, this]⟩) (by simpa using hb.1)
          have hall := tru_bl (blt_run (f := .all) (fun _ => rfl) hcomp (all_mapf _ _))
          have hE : netB (.tup [.tup (ns.map .int), .tup ts]) = (ts.all (trackB (ns.length : Int)) && riseP (ts.map pairOf)) := by
            simp [netB, hr, lenT]
          rw [hE]
          cases hta : ts.all (trackB (ns.length : Int)) with
          | false =>
            rw [hta] at hall
            refine last (if_t (p1 := p) (or_f rfl (by simp) (or_1 (not_run hall))) (last (ret_comp rfl)))
          | true =>
            rw [hta] at hall
            refine step (p1 := p) (if_f (p1 := p) (or_f (p1 := p) rfl (by simp) (or_1 (not_run hall))) done) ?_
            have hps : ∀ t ∈ ts, slD t none (some 2) = some (prI (pairOf t)) := fun t ht => by
              obtain ⟨x, y, c, rfl, _⟩ := trackB_pair (List.all_eq_true.mp hta t ht)
              rfl
            have hcp := comp_run (Φ := callD T k) (t := .nm 2) (it := .iE (.v 1)) (c := .nil) (e := .sl (.v 2) .nil (.pt (.int 2))) (own := [("track", 2)]) (ρ := [some (.val (.tup [.tup (ns.map .int), .tup ts])), some (.val (.tup ts)), none]) (p := p) (p1 := p) (p2 := p) (xs := ts) (ds := ts.map fun t => prI (pairOf t)) (by simp) (compR_map _ fun x hx => ⟨_, rfl, rfl, by simp [hps x hx]⟩) (by simpa using hb.1)
            have hri := e_riseP (by omega : 1 ≤ k) (ts.map pairOf) p (by simpa using hb.1)
            rw [List.map_map] at hri
            refine last (ret_comp ?_)
            have htu := tupE (Φ := callD T k) (fun _ => rfl) hcp
            have hri : callD T k "do_rise" [Sl.val (D.tup (ts.map fun t => prI (pairOf t)))] p = .ok (.bl (riseP (ts.map pairOf))) p := hri
            exact call1_run (fun _ => rfl) htu hri
        | fn x => cases n <;> simp [gd] at hb
        | pot => cases n <;> simp [gd] at hb
        | dct x => cases n <;> simp [gd] at hb
        | dcn x => cases n <;> simp [gd] at hb
        | _ => simp [netB]
    | [], h => simp [neD, dat, eqb, netB]
    | [x], h => simp [neD, dat, eqb, netB]
    | x :: y :: z :: r, h =>
      have : ¬ ((r.length : Int) + 1 + 1 + 1 = 2) := by omega
      simp [neD, dat, eqb, netB, this]
  | fn x => cases n <;> simp [gd] at h
  | pot => cases n <;> simp [gd] at h
  | dct x => cases n <;> simp [gd] at h
  | dcn x => cases n <;> simp [gd] at h
  | _ => simp [netB]
end M.T

set_option Elab.async false
set_option linter.all false
set_option maxRecDepth 100000
set_option maxHeartbeats 2000000
namespace M.T
open PySem PySem.Spec PyProof.Rows L2
/-! loops that draw -/
theorem forR_ex {A σ : Type} {tg : D → En → Option En} {body : En → Pot → Res Out} {w : List Nat} (enc : σ → En) (f : A → D) (P : Nat → σ → Prop) : ∀ {as : List A} {s : σ} {j : Nat} {p : Pot}, P j s → IP p → (∀ i a, as[i]? = some a → ∀ s p, P (j + i) s → IP p → ∃ s' p' ρ1 ρ2, P (j + i + 1) s' ∧ IP p' ∧ tg (f a) (enc s) = some ρ1 ∧ body ρ1 p = .ok (.nx ρ2) p' ∧ wipeE ρ2 w = enc s') →
    ∃ s' p', forR tg body w (as.map f) (enc s) p = .ok (.nx (enc s')) p' ∧ P (j + as.length) s' ∧ IP p'
  | [], s, j, p, h, hp, _ => ⟨s, p, rfl, h, hp⟩
  | a :: as, s, j, p, h, hp, k => by
    obtain ⟨s1, p1, ρ1, ρ2, h2, hp1, e1, e2, e3⟩ := k 0 a rfl s p h hp
    obtain ⟨s2, p2, q1, q2, q3⟩ := forR_ex enc f P (tg := tg) (body := body) (w := w) (j := j + 1) (as := as) h2 hp1 fun i b hb s p hs hp => by
      have := k (i + 1) b (by simpa using hb) s p (by rw [show j + (i + 1) = j + 1 + i by omega]; exact hs) hp
      rw [show j + (i + 1) = j + 1 + i by omega] at this
      exact this
    refine ⟨s2, p2, ?_, by rw [List.length_cons, show j + (as.length + 1) = j + 1 + as.length by omega]; exact q2, q3⟩
    rw [List.map_cons]
    simp only [forR, e1, turnEnd, e2, Res.bind, e3]
    exact q1
/-! nets drawn -/
def PrOk (m j : Nat) (qs : List (Int × Int)) : Prop := (∀ q ∈ qs, 0 ≤ q.1 ∧ q.1 < q.2 ∧ q.2 < m) ∧ qs.length ≤ j
theorem PrOk.add {m j : Nat} {qs : List (Int × Int)} (h : PrOk m j qs) {q : Int × Int} (hq : 0 ≤ q.1 ∧ q.1 < q.2 ∧ q.2 < m) : PrOk m (j + 1) (qs ++ [q]) :=
  ⟨fun r hr => by
    rcases List.mem_append.mp hr with hr | hr
    · exact h.1 r hr
    · rw [List.mem_singleton] at hr; rw [hr]; exact hq, by rw [List.length_append, List.length_singleton]; exact Nat.succ_le_succ h.2⟩
theorem PrOk.up {m j : Nat} {qs : List (Int × Int)} (h : PrOk m j qs) : PrOk m (j + 1) qs := ⟨h.1, Nat.le_succ_of_le h.2⟩
def lv (m : Nat) (a b c d : Option Sl) (qs : List (Int × Int)) : En := [some (.val .pot), some (.val (.int (m : Nat))), some (.own (.lst (qs.map prI))), a, b, c, d, none, none]
section
variable {k m : Nat} {p : Pot} {qs : List (Int × Int)}
theorem net_one (hk : 1 ≤ k) {j i : Nat} (hi : i + 1 < m) (hm : m ≤ 8) (h : PrOk m j qs) (hj : j ≤ 100) (hp : IP p) : ∃ qs' p' , PrOk m (j + 1) qs' ∧ IP p' ∧
    (dens (callD T k) l1__law_net).ss (lv m (some (.val (.int (1 + (i : Nat))))) none none none qs) p = .ok (.nx (lv m (some (.val (.int (1 + (i : Nat))))) none none none qs')) p' := by
  obtain ⟨r, p1, e1, e2, e3, e4⟩ := e_draw hk (m := 8) (by omega) (by omega) hp
  have hc : (den (callD T k) (.tCmp .gt (.call "_law_draw" (.cons (.v 0) (.cons (.int 8) .nil))) (.int 0))).t (lv m (some (.val (.int (1 + (i : Nat))))) none none none qs) p = .ok (decide (0 < r)) p1 := by
    simp [lv, e1]
  unfold l1__law_net
  by_cases hr : 0 < r
  · rw [decide_eq_true hr] at hc
    obtain ⟨r2, p2, f1, f2, f3, f4⟩ := e_draw hk (m := 1 + (i : Int)) (by omega) (by omega) e2
    refine ⟨qs ++ [(r2, 1 + (i : Int))], p2, h.add ⟨f3, f4, by show (1 + (i : Int)) < (m : Int); omega⟩, f2, ?_⟩
    refine step (if_t (p1 := p1) hc (step (app_run (p1 := p2) (ds := qs.map prI) (d := prI (r2, 1 + (i : Int))) rfl (by simp [lv, f1, valsOf, prI]) (by have := h.2; simp; omega)) done)) ?_
    simp [lv, done]
  · rw [decide_eq_false hr] at hc
    refine ⟨qs, p1, h.up, e2, ?_⟩
    exact step (if_f (p1 := p1) hc done) done
theorem net_two (hk : 1 ≤ k) {j : Nat} (h1 : 1 ≤ m) (hm : m ≤ 8) (h : PrOk m j qs) (hj : j ≤ 100) (hp : IP p) {t : Option Sl} : ∃ qs' p' x y, PrOk m (j + 1) qs' ∧ IP p' ∧
    (dens (callD T k) l2__law_net).ss (lv m none t none none qs) p = .ok (.nx (lv m none t x y qs')) p' := by
  obtain ⟨r, p1, e1, e2, e3, e4⟩ := e_draw hk (m := (m : Int)) (by omega) (by omega) hp
  obtain ⟨r2, p2, f1, f2, f3, f4⟩ := e_draw hk (m := (m : Int)) (by omega) (by omega) e2
  unfold l2__law_net
  have hpar : (dens (callD T k) (.par 5 6 (.cons (.call "_law_draw" (.cons (.v 0) (.cons (.v 1) .nil))) (.cons (.call "_law_draw" (.cons (.v 0) (.cons (.v 1) .nil))) .nil)))).s (lv m none t none none qs) p = .ok (.nx (lv m none t (some (.val (.int r))) (some (.val (.int r2))) qs)) p2 := by
    simp [lv, e1, f1]
  have hc : (den (callD T k) (.tCmp .ne (.v 5) (.v 6))).t (lv m none t (some (.val (.int r))) (some (.val (.int r2))) qs) p2 = .ok (decide (r ≠ r2)) p2 := by
    simp [lv, neD, dat, eqb]
    rw [Bool.eq_iff_iff]; simp
  by_cases hr : r ≠ r2
  · rw [decide_eq_true hr] at hc
    refine ⟨qs ++ [(if r2 < r then r2 else r, if r2 > r then r2 else r)], p2, some (.val (.int r)), some (.val (.int r2)), h.add ?_, f2, ?_⟩
    · show (0 : Int) ≤ (if r2 < r then r2 else r) ∧ (if r2 < r then r2 else r) < (if r2 > r then r2 else r) ∧ (if r2 > r then r2 else r) < (m : Int)
      refine ⟨?_, ?_, ?_⟩
      · split <;> omega
      · split <;> split <;> omega
      · split <;> omega
    · refine step hpar (step (if_t (p1 := p2) hc (step (app_run (p1 := p2) (ds := qs.map prI) (d := prI (if r2 < r then r2 else r, if r2 > r then r2 else r)) rfl (by simp [lv, valsOf, prI, dd2]) (by have := h.2; simp; omega)) done)) ?_)
      simp [lv, done]
  · rw [decide_eq_false hr] at hc
    exact ⟨qs, p2, some (.val (.int r)), some (.val (.int r2)), h.up, f2, step hpar (step (if_f (p1 := p2) hc done) done)⟩
end
end M.T

set_option Elab.async false
set_option linter.all false
set_option maxRecDepth 100000
set_option maxHeartbeats 2000000
namespace M.T
open PySem PySem.Spec PyProof.Rows L2
/-- rows with times, from pairs -/
theorem rows_of {m : Nat} : ∀ {qs : List (Int × Int)} {ds : List D}, ds.length = qs.length → (∀ q ∈ qs, 0 ≤ q.1 ∧ q.1 < q.2 ∧ q.2 < m) → (∀ (i : Nat) (x d : D), (qs.map prI)[i]? = some x → ds[i]? = some d → ∃ (q : Int × Int) (t : Int), x = prI q ∧ d = .tup [.int q.1, .int q.2, .int t] ∧ 1 ≤ t ∧ t ≤ 3) →
    ∃ es : List Op, ds = es.map trD ∧ es.map (fun e => (((e.1 : Nat) : Int), ((e.2.1 : Nat) : Int))) = qs ∧ ∀ e ∈ es, e.1 < e.2.1 ∧ e.2.1 < m ∧ 1 ≤ e.2.2 ∧ e.2.2 ≤ 3
  | [], [], _, _, _ => ⟨[], rfl, rfl, fun e he => by cases he⟩
  | q :: qs, d :: ds, hl, hq, h => by
    obtain ⟨es, e1, e2, e3⟩ := rows_of (qs := qs) (ds := ds) (by simpa using hl) (fun r hr => hq r (List.mem_cons_of_mem _ hr)) fun i x d a b => h (i + 1) x d (by simpa using a) (by simpa using b)
    obtain ⟨q', t, h1, h2, h3, h4⟩ := h 0 (prI q) d rfl rfl
    have : q' = q := by
      have h1 : D.tup [.int q.1, .int q.2] = .tup [.int q'.1, .int q'.2] := h1
      simp only [D.tup.injEq, List.cons.injEq, D.int.injEq, and_true] at h1
      exact Prod.ext h1.1.symm h1.2.symm
    subst this
    have hb := hq q' List.mem_cons_self
    refine ⟨(q'.1.toNat, q'.2.toNat, t.toNat) :: es, ?_, ?_, fun e he => ?_⟩
    · rw [List.map_cons, h2, e1]
      congr 1
      simp only [trD]
      rw [Int.toNat_of_nonneg hb.1, Int.toNat_of_nonneg (by omega : 0 ≤ q'.2), Int.toNat_of_nonneg (by omega : 0 ≤ t)]
    · rw [List.map_cons, e2]
      congr 1
      refine Prod.ext ?_ ?_
      · exact Int.toNat_of_nonneg hb.1
      · exact Int.toNat_of_nonneg (by omega : 0 ≤ q'.2)
    · rcases List.mem_cons.mp he with rfl | he
      · refine ⟨?_, ?_, ?_, ?_⟩
        · show q'.1.toNat < q'.2.toNat; omega
        · show q'.2.toNat < m; omega
        · show 1 ≤ t.toNat; omega
        · show t.toNat ≤ 3; omega
      · exact e3 e he
  | [], _ :: _, hl, _, _ => by simp at hl
  | _ :: _, [], hl, _, _ => by simp at hl
theorem sst_prs {qs : List (Int × Int)} {m : Nat} (hm : m ≤ 8) (h : PrOk m 63 qs) : sstD (.lst (qs.map prI)) = some (.lst ((ssP qs).map prI)) := by
  simp only [sstD, pairsI_map]
  have hb : (qs.all inB && decide (qs.length < 64)) = true := by
    rw [Bool.and_eq_true]
    refine ⟨List.all_eq_true.mpr fun q hq => ?_, decide_eq_true (by have := h.2; omega)⟩
    have := h.1 q hq
    simp only [inB, Bool.and_eq_true, decide_eq_true_eq]
    omega
  show (if (qs.all inB && decide (qs.length < 64)) = true then some (D.lst ((ssP qs).map prI)) else none) = _
  rw [if_pos hb]
theorem ssP_len : ∀ qs : List (Int × Int), (ssP qs).length ≤ qs.length
  | [] => Nat.le_refl _
  | q :: qs => by
    have ins : ∀ (x : Int × Int) (l : List (Int × Int)), (insP x l).length ≤ l.length + 1 := fun x l => by
      induction l with
      | nil => exact Nat.le_refl _
      | cons y r ih =>
        unfold insP
        split
        · simp
        · split
          · simp
          · simp only [List.length_cons]; omega
    have := ssP_len qs
    have := ins q (ssP qs)
    show (insP q (ssP qs)).length ≤ _
    rw [List.length_cons]
    omega
theorem e_net {k : Nat} (hk : 3 ≤ k) {m : Nat} (h1 : 1 ≤ m) (h8 : m ≤ 8) {p : Pot} (hp : IP p) : ∃ hs es p', callD T k "_law_net" [.val .pot, .val (.int (m : Nat))] p = .ok (netD hs es) p' ∧ IP p' ∧ NetOk hs es ∧ hs.length = m ∧ ∀ e ∈ es, e.2.2 ≤ 3 := by
  obtain ⟨k, rfl, hk2⟩ := pos hk
  have hk' : 1 ≤ k := by omega
  obtain ⟨qs1, p1, a1, a2, a3⟩ := forR_ex (tg := (Tg.nm 3).asg) (body := (dens (callD T k) l1__law_net).ss) (w := [3]) (fun qs => lv m none none none none qs) (fun i : Nat => D.int (1 + (i : Nat))) (PrOk m) (as := List.range (m - 1)) (s := []) (j := 0) (p := p) ⟨fun q hq => by (cases hq), Nat.le_refl 0⟩ hp fun i a ha qs p hq hp => by
    have hi := (List.getElem?_eq_some_iff.mp ha).1
    have : a = i := by simpa using (List.getElem?_eq_some_iff.mp ha).2.symm
    subst this
    rw [List.length_range] at hi
    obtain ⟨qs', p', q1, q2, q3⟩ := net_one hk' (k := k) (m := m) (i := a) (j := 0 + a) (by omega) h8 hq (by omega) hp
    exact ⟨qs', p', _, _, q1, q2, rfl, q3, rfl⟩
  obtain ⟨r, p2, b1, b2, b3, b4⟩ := e_draw hk' (m := 4) (by omega) (by omega) a3
  obtain ⟨r, rfl⟩ : ∃ j : Nat, r = (j : Int) := ⟨r.toNat, by omega⟩
  obtain ⟨qs2, p3, c1, c2, c3⟩ := forR_ex (tg := (Tg.nm 4).asg) (body := (dens (callD T k) l2__law_net).ss) (w := [4, 5, 6]) (fun qs => lv m none none none none qs) (fun i : Nat => D.int (i : Nat)) (PrOk m) (as := List.range r) (s := qs1) (j := 0 + (List.range (m - 1)).length) (p := p2) a2 b2 fun i a ha qs p hq hp => by
    have hi := (List.getElem?_eq_some_iff.mp ha).1
    rw [List.length_range] at hi
    obtain ⟨qs', p', x, y, q1, q2, q3⟩ := net_two hk' (k := k) (m := m) (t := some (.val (.int (a : Nat)))) h1 h8 hq (by simp; omega) hp
    exact ⟨qs', p', _, _, q1, q2, rfl, q3, rfl⟩
  have hP : PrOk m 63 qs2 := ⟨c2.1, by have := c2.2; simp at this; omega⟩
  have hss : ∀ q ∈ ssP qs2, 0 ≤ q.1 ∧ q.1 < q.2 ∧ q.2 < m := fun q hq => hP.1 q (mem_ssP.mp hq)
  have hlen : (ssP qs2).length ≤ 63 := Nat.le_trans (ssP_len _) hP.2
  -- the rows
  obtain ⟨ds, p4, d1, d2, d3, d4⟩ := compR_drawn (tg := (Tg.nm 8).asg) (cond := (den (callD T k) .nil).c) (elt := (den (callD T k) (.bin .add (.v 8) (.tup (.cons (.bin .add (.int 1) (.call "_law_draw" (.cons (.v 0) (.cons (.int 3) .nil)))) .nil)))).e) (ρ := lv m none none none none qs2) (I := IP) (fun x d => ∃ (q : Int × Int) (t : Int), x = prI q ∧ d = .tup [.int q.1, .int q.2, .int t] ∧ 1 ≤ t ∧ t ≤ 3) (xs := (ssP qs2).map prI) c3 fun x hx p hp => by
    obtain ⟨q, _, rfl⟩ := List.mem_map.mp hx
    obtain ⟨t, p', q1, q2, q3, q4⟩ := e_draw hk' (m := 3) (by omega) (by omega) hp
    exact ⟨_, rfl, rfl, .tup [.int q.1, .int q.2, .int (1 + t)], p', by simp [lv, q1, valsOf, prI], q2, q, 1 + t, rfl, rfl, by omega, by omega⟩
  obtain ⟨es, rfl, e2, e3⟩ := rows_of (m := m) (qs := ssP qs2) (by simpa using d3) hss d4
  have hel : es.length = (ssP qs2).length := by rw [← e2, List.length_map]
  have hrow := comp_run (Φ := callD T k) (t := .nm 8) (it := .iE (.sst (.b 2))) (c := .nil) (e := .bin .add (.v 8) (.tup (.cons (.bin .add (.int 1) (.call "_law_draw" (.cons (.v 0) (.cons (.int 3) .nil)))) .nil))) (own := [("pair", 8)]) (ρ := lv m none none none none qs2) (p := p3) (p1 := p3) (p2 := p4) (xs := (ssP qs2).map prI) (ds := es.map trD) (by simp [lv, sst_prs h8 hP]) d1 (by rw [List.length_map, hel]; omega)
  -- the holds
  obtain ⟨hd, p5, f1, f2, f3, f4⟩ := compR_drawn (tg := (Tg.nm 3).asg) (cond := (den (callD T k) .nil).c) (elt := (den (callD T k) (.call "_law_pick" (.cons (.v 0) (.cons (.lst (.cons (.int 1) (.cons (.int 1) (.cons (.int 1) (.cons (.int 2) (.cons (.int 3) .nil)))))) .nil)))).e) (ρ := [some (.val .pot), some (.val (.int (m : Nat))), some (.own (.lst (qs2.map prI))), none, none, none, none, some (.val (.tup (es.map trD))), none]) (I := IP) (fun _ d => ∃ t : Int, d = .int t ∧ (1 ≤ t ∧ t ≤ 3)) (xs := rangeItems 0 m) d2 fun x hx p hp => by
    obtain ⟨x, p', q1, q2, q3⟩ := e_pick (k := k) hk2 (xs := [.int 1, .int 1, .int 1, .int 2, .int 3]) (by simp) (by simp) hp
    refine ⟨_, rfl, rfl, x, p', by simp [q1, valsOf], q2, ?_⟩
    simp only [List.mem_cons, List.not_mem_nil, or_false] at q3
    rcases q3 with rfl | rfl | rfl | rfl | rfl
    · exact ⟨1, rfl, by omega, by omega⟩
    · exact ⟨1, rfl, by omega, by omega⟩
    · exact ⟨1, rfl, by omega, by omega⟩
    · exact ⟨2, rfl, by omega, by omega⟩
    · exact ⟨3, rfl, by omega, by omega⟩
  obtain ⟨hs, rfl, hh⟩ := exists_ints (ds := hd) (Q := fun t => 1 ≤ t ∧ t ≤ 3) fun d hd => by
    obtain ⟨j, hj, e⟩ := List.getElem_of_mem hd
    have hj' : j < (rangeItems 0 m).length := by omega
    obtain ⟨t, h1, h2⟩ := f4 j _ d (List.getElem?_eq_getElem hj') (by rw [List.getElem?_eq_getElem hj, e])
    exact ⟨t, h1, h2⟩
  have hlm : hs.length = m := by simpa [rangeItems] using f3
  have hhold := comp_run (Φ := callD T k) (t := .nm 3) (it := .iRange (.cons (.v 1) .nil)) (c := .nil) (e := .call "_law_pick" (.cons (.v 0) (.cons (.lst (.cons (.int 1) (.cons (.int 1) (.cons (.int 1) (.cons (.int 2) (.cons (.int 3) .nil)))))) .nil))) (own := [("place", 3)]) (ρ := [some (.val .pot), some (.val (.int (m : Nat))), some (.own (.lst (qs2.map prI))), none, none, none, none, some (.val (.tup (es.map trD))), none]) (p := p4) (p1 := p4) (p2 := p5) (xs := rangeItems 0 m) (ds := hs.map D.int) (by
    have hr : rgOk (m : Int) = true := rng_ok (by omega) (by omega)
    simp [dRange1, hr]) f1 (by rw [List.length_map]; omega)
  refine ⟨hs, es, p5, ?_, f2, ?_, hlm, fun e he => (e3 e he).2.2.2⟩
  · rw [call__law_net]
    refine run_ret rfl ?_
    show (dens (callD T k) b__law_net).ss [some (.val .pot), some (.val (.int (m : Nat))), none, none, none, none, none, none, none] p = _
    unfold b__law_net
    have hr : rgOk (m : Int) = true := rng_ok (by omega) (by omega)
    have hr1 : rgOk 1 = true := rng_ok (by omega) (by omega)
    have hr2 : rgOk (r : Int) = true := rng_ok (by omega) (by omega)
    have hn : ((m : Int) - 1).toNat = m - 1 := by omega
    refine step (own_run (p1 := p) (d := .lst []) rfl) (step (for_run (p1 := p) (xs := (List.range (m - 1)).map fun i : Nat => D.int (1 + (i : Nat))) ?_ a1) (step (for_run (p1 := p2) (xs := (List.range r).map fun i : Nat => D.int (i : Nat)) ?_ c1) (step (set_run (tupE (fun _ => rfl) hrow)) (last (ret_comp (tup2_run (fun _ => rfl) (fun _ => rfl) (tupE (fun _ => rfl) hhold) rfl))))))
    · simp [M.dRange2, hr, hr1, hn, rangeItems]
    · simp [lv, b1, dRange1, hr2, rgItems]
  · refine { h1 := by omega, h8 := by omega, hb := hh, eb := fun e he => ?_, up := ?_, el := by omega }
    · have := e3 e he
      omega
    · have hu := up_ssP qs2
      rw [← e2, List.pairwise_map] at hu
      refine List.Pairwise.imp (fun {a b} h => ?_) hu
      simp only [ltQ] at h
      omega
end M.T

set_option Elab.async false
set_option linter.all false
set_option maxRecDepth 100000
set_option maxHeartbeats 2000000
namespace M.T
open PySem PySem.Spec PyProof.Rows L2
/-! sorted of data -/
theorem pair_all {α : Type} {R : α → α → Prop} (hs : ∀ a b, R a b → R b a) (hr : ∀ a, R a a) : ∀ {l : List α}, l.Pairwise R → ∀ a ∈ l, ∀ b ∈ l, R a b
  | [], _, a, ha, _, _ => by cases ha
  | x :: l, h, a, ha, b, hb => by
    rw [List.pairwise_cons] at h
    rcases List.mem_cons.mp ha with ea | ha'
    · subst ea
      rcases List.mem_cons.mp hb with eb | hb'
      · subst eb; exact hr _
      · exact h.1 b hb'
    · rcases List.mem_cons.mp hb with eb | hb'
      · subst eb; exact hs _ _ (h.1 a ha')
      · exact pair_all hs hr h.2 a ha' b hb'
abbrev leY : D → D → Bool := PySem.W.dataLe false toPy
theorem leY_total : PySem.W.TotalLe leY := PySem.W.sortLe_total _ _ _
theorem sort_is {l m : List D} (hm : m.Pairwise fun a b => leY b a = false) (hp : l.Perm m) : l.mergeSort leY = m := by
  have h1 : (l.mergeSort leY).Pairwise fun a b => leY a b = true := PySem.W.sort_pairwise leY_total l
  have h2 : m.Pairwise fun a b => leY a b = true := hm.imp fun {a b} h => (leY_total.total a b).elim id fun z => by rw [h] at z; cases z
  have h3 := pair_all (R := fun a b => a = b ∨ leY b a = false ∨ leY a b = false) (fun a b h => by
    rcases h with h | h | h
    · exact .inl h.symm
    · exact .inr (.inr h)
    · exact .inr (.inl h)) (fun a => .inl rfl) (hm.imp fun h => .inr (.inl h))
  have hq : (l.mergeSort leY).Perm m := (List.mergeSort_perm l leY).trans hp
  refine hq.eq_of_pairwise (le := fun a b => leY a b = true) (fun a b ha hb q1 q2 => ?_) h1 h2
  rcases h3 a (hq.mem_iff.mp ha) b hb with e | e | e
  · exact e
  · rw [e] at q2; cases q2
  · rw [e] at q1; cases q1
theorem srtD_is {l m : List D} (hs : sortB l = true) (hm : m.Pairwise fun a b => leY b a = false) (hp : l.Perm m) : srtD false (.lst l) = some (.lst m) := by
  show (if sortB l = true then some (D.lst (l.mergeSort leY)) else none) = _
  rw [if_pos hs, sort_is hm hp]
theorem srtU_is {l m : List D} (hs : sortB l = true) (hm : m.Pairwise fun a b => leY b a = false) (hp : l.Perm m) : srtU (.lst l) = some (.lst m) := srtD_is hs hm hp
theorem srtb_run {Φ : Phi} {i : Nat} {ρ : En} {p : Pot} {l : List D} {d : D} (h : ρ[i]? = some (some (.own (.lst l)))) (hs : srtU (.lst l) = some d) : (den Φ (.srt (.cons (.b i) .nil))).e ρ p = .ok d p := by
  show dCall (aCons (aBor i) aNil) (d1 srtU) ρ p = _
  simp only [dCall, aCons, aBor, aNil, h, Res.bind, List.map_cons, List.map_nil, Sl.d, d1, hs]
  rfl
theorem srtv_run {Φ : Phi} {e : E} {ρ : En} {p p1 : Pot} {x d : D} (ha : ∀ f, aArg e f = aVal f) (h : (den Φ e).e ρ p = .ok x p1) (hs : srtU x = some d) : (den Φ (.srt (.cons e .nil))).e ρ p = .ok d p1 := by
  show dCall (aCons (aArg e (den Φ e).e) aNil) (d1 srtU) ρ p = _
  rw [ha]
  simp only [dCall, aCons, aVal, aNil, Res.bind, h, List.map_cons, List.map_nil, Sl.d, d1, hs]
  rfl
theorem compR_fm {A : Type} {tg : D → En → Option En} {cond : En → Pot → Res Bool} {elt : En → Pot → Res D} {ρ : En} {p : Pot} (g : A → D) (c : A → Bool) (f : A → D) : ∀ {as : List A}, (∀ a ∈ as, ∃ ρ1, tg (g a) ρ = some ρ1 ∧ cond ρ1 p = .ok (c a) p ∧ (c a = true → elt ρ1 p = .ok (f a) p)) → compR tg cond elt ρ (as.map g) p = .ok ((as.filter c).map f) p
  | [], _ => rfl
  | a :: as, h => by
    obtain ⟨ρ1, h1, h2, h3⟩ := h a List.mem_cons_self
    have ih := compR_fm g c f (p := p) (elt := elt) (cond := cond) (ρ := ρ) (tg := tg) (as := as) fun y hy => h y (List.mem_cons_of_mem _ hy)
    rw [List.map_cons]
    cases hc : c a with
    | true => simp only [compR, h1, h2, hc, h3 hc, ih, Res.bind, List.filter_cons_of_pos, List.map_cons]
    | false =>
      have : ¬ c a = true := by rw [hc]; simp
      simp only [compR, h1, h2, hc, ih, Res.bind, List.filter_cons_of_neg this]
/-! rows of ints, rows of pairs -/
theorem sortB_ints {ns : List Int} (h : ns.length ≤ 1000) : sortB (ns.map D.int) = true := by
  simp only [sortB, Bool.and_eq_true, decide_eq_true_eq, Bool.or_eq_true]
  refine ⟨⟨⟨dats_of fun d hd => ?_, ?_⟩, .inr ?_⟩, ?_⟩
  · obtain ⟨n, _, rfl⟩ := List.mem_map.mp hd
    rfl
  · simp only [alksD, List.all_eq_true]
    intro x hx y hy
    obtain ⟨n, _, rfl⟩ := List.mem_map.mp hx
    obtain ⟨m, _, rfl⟩ := List.mem_map.mp hy
    simp [toPy, PySem.W.alike]
  · rw [List.all_eq_true]
    intro x hx
    obtain ⟨n, _, rfl⟩ := List.mem_map.mp hx
    rfl
  · rw [List.length_map]; exact small h
theorem leY_int (a b : Int) : leY (.int a) (.int b) = decide (a ≤ b) := by
  show (!PySem.W.dataLt (toPy (.int b)) (toPy (.int a))) = _
  simp only [toPy, PySem.W.dataLt_int]
  by_cases h : b < a
  · simp [h]
  · simp [h]; omega
theorem srt_ints {ns ms : List Int} (hl : ns.length ≤ 1000) (hm : ms.Pairwise (· < ·)) (hp : ns.Perm ms) : srtU (.lst (ns.map D.int)) = some (.lst (ms.map D.int)) := by
  refine srtU_is (sortB_ints hl) ?_ (hp.map _)
  rw [List.pairwise_map]
  refine hm.imp fun {a b} h => ?_
  rw [leY_int]
  simp
  omega
theorem leY_pr (a b c d : Int) : leY (.tup [.int a, .int b]) (.tup [.int c, .int d]) = !decide (c < a ∨ (c = a ∧ d < b)) := by
  show (!PySem.W.dataLt (toPy (.tup [.int c, .int d])) (toPy (.tup [.int a, .int b]))) = _
  simp only [toPy, toPys, PySem.W.dataLt_ii]
theorem sortB_prs {qs : List (Int × Int)} (h : qs.length ≤ 1000) : sortB (qs.map prI) = true := by
  simp only [sortB, Bool.and_eq_true, decide_eq_true_eq, Bool.or_eq_true]
  refine ⟨⟨⟨dats_of fun d hd => ?_, ?_⟩, .inl ?_⟩, ?_⟩
  · obtain ⟨n, _, rfl⟩ := List.mem_map.mp hd
    rfl
  · simp only [alksD, List.all_eq_true]
    intro x hx y hy
    obtain ⟨n, _, rfl⟩ := List.mem_map.mp hx
    obtain ⟨m, _, rfl⟩ := List.mem_map.mp hy
    simp [prI, toPy, toPys, PySem.W.alike, PySem.W.alikeAll]
  · rw [List.all_eq_true]
    intro x hx
    obtain ⟨n, _, rfl⟩ := List.mem_map.mp hx
    rfl
  · rw [List.length_map]; exact small h
theorem srt_prs {ns ms : List (Int × Int)} (hl : ns.length ≤ 1000) (hm : ms.Pairwise ltQ) (hp : ns.Perm ms) : srtU (.lst (ns.map prI)) = some (.lst (ms.map prI)) := by
  refine srtU_is (sortB_prs hl) ?_ (hp.map _)
  rw [List.pairwise_map]
  refine hm.imp fun {a b} h => ?_
  show leY (.tup [.int b.1, .int b.2]) (.tup [.int a.1, .int a.2]) = false
  rw [leY_pr]
  simp only [ltQ] at h
  rw [decide_eq_true h]
  rfl
end M.T

set_option Elab.async false
set_option linter.all false
set_option maxRecDepth 100000
set_option maxHeartbeats 2000000
namespace M.T
open PySem PySem.Spec PyProof.Rows L2
abbrev nI (v : Nat) : D := D.int (v : Nat)
theorem nI_map (l : List Nat) : l.map nI = (l.map fun v : Nat => (v : Int)).map D.int := by
  rw [List.map_map]
  rfl
theorem nearO_fst {es : List Op} {u o : Nat} : ∀ q ∈ nearO es u o, q.1 = o := fun q hq => by
  obtain ⟨e, _, he⟩ := List.mem_flatMap.mp hq
  unfold nearE at he
  split at he
  · rw [List.mem_singleton] at he
    rw [he]
  · cases he
theorem nearO_one {hs : List Int} {es : List Op} (K : NetOk hs es) (u o : Nat) : (nearO es u o).length ≤ 1 := by
  have up := K.up
  clear K
  unfold nearO
  induction es with
  | nil => simp
  | cons e es ih =>
    rw [List.pairwise_cons] at up
    have ih := ih up.2
    rw [List.flatMap_cons, List.length_append]
    unfold nearE at ih ⊢
    split
    · rename_i h
      have : (es.flatMap fun e => if e.1 = min u o ∧ e.2.1 = max u o then [(o, e.2.2)] else []) = [] := by
        rw [List.flatMap_eq_nil_iff]
        intro f hf
        rw [if_neg]
        intro h2
        have := up.1 f hf
        omega
      rw [this]
      simp
    · rw [List.length_nil, Nat.zero_add]
      exact ih
theorem near_up {hs : List Int} {es : List Op} (K : NetOk hs es) (n u : Nat) : (nearL es n u).Pairwise fun a b => a.1 < b.1 := by
  unfold nearL
  rw [List.pairwise_flatMap]
  refine ⟨fun o _ => ?_, List.pairwise_lt_range.imp fun {a b} h x hx y hy => ?_⟩
  · have := nearO_one K u o
    match nearO es u o, this with
    | [], _ => exact .nil
    | [q], _ => exact List.pairwise_singleton _ _
    | q :: r :: l, h => exact absurd h (by rw [List.length_cons, List.length_cons]; omega)
  · rw [nearO_fst x hx, nearO_fst y hy]
    exact h
def nbF (es : List Op) (u : Nat) : List (Nat × Nat) := ((es.filter fun e => decide (e.1 = u)).map fun e => (e.2.1, e.2.2)) ++ ((es.filter fun e => decide (e.2.1 = u)).map fun e => (e.1, e.2.2))
theorem mem_nbF {es : List Op} {u v t : Nat} : (v, t) ∈ nbF es u ↔ Ed es u v t := by
  unfold nbF Ed
  simp only [List.mem_append, List.mem_map, List.mem_filter, decide_eq_true_eq]
  constructor
  · rintro (⟨⟨a, b, c⟩, ⟨h1, h2⟩, h3⟩ | ⟨⟨a, b, c⟩, ⟨h1, h2⟩, h3⟩)
    · simp only [Prod.mk.injEq] at h2 h3
      obtain ⟨rfl, rfl⟩ := h3
      subst h2
      exact .inl h1
    · simp only [Prod.mk.injEq] at h2 h3
      obtain ⟨rfl, rfl⟩ := h3
      subst h2
      exact .inr h1
  · rintro (h | h)
    · exact .inl ⟨_, ⟨h, rfl⟩, rfl⟩
    · exact .inr ⟨_, ⟨h, rfl⟩, rfl⟩
theorem nbF_perm {hs : List Int} {es : List Op} (K : NetOk hs es) (u : Nat) : (nbF es u).Perm (nearL es hs.length u) := by
  have nd1 : (nearL es hs.length u).Nodup := (near_up K _ _).imp fun {a b} h e => by rw [e] at h; omega
  have nd2 : (nbF es u).Nodup := by
    unfold nbF
    rw [List.nodup_append]
    have up : es.Pairwise fun a b => a.1 < b.1 ∨ (a.1 = b.1 ∧ a.2.1 < b.2.1) := K.up
    refine ⟨?_, ?_, ?_⟩
    · rw [List.Nodup, List.pairwise_map, List.pairwise_filter]
      refine up.imp fun {a b} h ha hb e => ?_
      simp only [decide_eq_true_eq, Prod.mk.injEq] at ha hb e
      omega
    · rw [List.Nodup, List.pairwise_map, List.pairwise_filter]
      refine up.imp fun {a b} h ha hb e => ?_
      simp only [decide_eq_true_eq, Prod.mk.injEq] at ha hb e
      omega
    · intro a ha b hb e
      subst e
      obtain ⟨x, hx, rfl⟩ := List.mem_map.mp ha
      obtain ⟨y, hy, e⟩ := List.mem_map.mp hb
      simp only [List.mem_filter, decide_eq_true_eq, Prod.mk.injEq] at hx hy e
      have h1 := K.eb x hx.1
      have h2 := K.eb y hy.1
      omega
  refine (List.perm_ext_iff_of_nodup nd2 nd1).mpr fun q => ?_
  rw [show q = (q.1, q.2) from rfl, mem_nbF, mem_near K]
theorem nbF_len (es : List Op) (u : Nat) : (nbF es u).length ≤ es.length + es.length := by
  unfold nbF
  rw [List.length_append, List.length_map, List.length_map]
  have := List.length_filter_le (fun e : Op => decide (e.1 = u)) es
  have := List.length_filter_le (fun e : Op => decide (e.2.1 = u)) es
  omega
theorem prN_prI (l : List (Nat × Nat)) : l.map prN = (l.map fun q => (((q.1 : Nat) : Int), ((q.2 : Nat) : Int))).map prI := by
  rw [List.map_map]
  rfl
theorem near_srt {hs : List Int} {es : List Op} (K : NetOk hs es) (u : Nat) : srtU (.lst ((nbF es u).map prN)) = some (.lst ((nearL es hs.length u).map prN)) := by
  have hl := nbF_len es u
  have he := K.el
  rw [prN_prI, prN_prI]
  refine srt_prs (by rw [List.length_map]; omega) ?_ ((nbF_perm K u).map _)
  rw [List.pairwise_map]
  exact (near_up K _ _).imp fun {a b} h => by simp only [ltQ]; omega
theorem teq_nat {Φ : Phi} {a b : E} {ρ : En} {p p1 p2 : Pot} {x y : Nat} (h1 : (den Φ a).e ρ p = .ok (nI x) p1) (h2 : (den Φ b).e ρ p1 = .ok (nI y) p2) : (den Φ (.tCmp .eq a b)).t ρ p = .ok (decide (x = y)) p2 := by
  refine tcmp_run h1 h2 ?_
  have : (((x : Nat) : Int) == ((y : Nat) : Int)) = decide (x = y) := by
    rw [Bool.eq_iff_iff]
    simp
    omega
  simp only [Cm.d, eqD, dat, eqb, and_self, if_true, this]
theorem e_nearP {k : Nat} (hk : 1 ≤ k) {hs : List Int} {es : List Op} (K : NetOk hs es) (u : Nat) (p : Pot) : callD T k "near_places" [.val (netD hs es), .val (.int (u : Nat))] p = .ok (.tup ((nearL es hs.length u).map prN)) p := by
  obtain ⟨k, rfl, hk'⟩ := pos hk
  have hel := K.el
  have hnl := nbF_len es u
  have f1 := List.length_filter_le (fun e : Op => decide (e.1 = u)) es
  have f2 := List.length_filter_le (fun e : Op => decide (e.2.1 = u)) es
  rw [call_near_places]
  refine run_ret rfl ?_
  show (dens (callD T k) b_near_places).ss [some (.val (netD hs es)), some (.val (.int (u : Nat))), none, none, none, none] p = _
  unfold b_near_places
  refine step (p1 := p) (own_run (p1 := p) (d := .lst (((es.filter fun e => decide (e.1 = u)).map fun e => prN (e.2.1, e.2.2)))) (comp_run (p1 := p) (xs := es.map trD) ?_ (compR_fm trD (fun e => decide (e.1 = u)) (fun e => prN (e.2.1, e.2.2)) fun e he => ⟨_, rfl, ?_, fun _ => ?_⟩) (by rw [List.length_map]; omega))) ?_
  · simp [netD, ixD_tup1]
  · exact teq_nat (Φ := callD T k) (a := .v 3) (b := .v 1) (ρ := [some (.val (netD hs es)), some (.val (nI u)), none, some (.val (nI e.1)), some (.val (nI e.2.1)), some (.val (nI e.2.2))]) (p := p) (x := e.1) (y := u) rfl rfl
  · simp [valsOf, prN]
  refine step (p1 := p) (ext_run (p1 := p) (ds := (es.filter fun e => decide (e.1 = u)).map fun e => prN (e.2.1, e.2.2)) (es := (es.filter fun e => decide (e.2.1 = u)).map fun e => prN (e.1, e.2.2)) rfl (comp_run (p1 := p) (xs := es.map trD) ?_ (compR_fm trD (fun e => decide (e.2.1 = u)) (fun e => prN (e.1, e.2.2)) fun e he => ⟨_, rfl, ?_, fun _ => ?_⟩) (by rw [List.length_map]; omega)) (by rw [List.length_map, List.length_map]; omega)) ?_
  · simp [netD, ixD_tup1]
  · exact teq_nat (Φ := callD T k) (a := .v 4) (b := .v 1) (ρ := [some (.val (netD hs es)), some (.val (nI u)), some (.own (.lst ((es.filter fun e => decide (e.1 = u)).map fun e => prN (e.2.1, e.2.2)))), some (.val (nI e.1)), some (.val (nI e.2.1)), some (.val (nI e.2.2))]) (p := p) (x := e.2.1) (y := u) rfl rfl
  · simp [valsOf, prN]
  have e0 : ((es.filter fun e => decide (e.1 = u)).map fun e => prN (e.2.1, e.2.2)) ++ ((es.filter fun e => decide (e.2.1 = u)).map fun e => prN (e.1, e.2.2)) = (nbF es u).map prN := by
    unfold nbF
    rw [List.map_append, List.map_map, List.map_map]
    rfl
  rw [e0]
  exact last (ret_tup (fun _ => rfl) (srtb_run rfl (near_srt K u)))
end M.T

set_option Elab.async false
set_option linter.all false
set_option maxRecDepth 100000
set_option maxHeartbeats 2000000
namespace M.T
open PySem PySem.Spec PyProof.Rows L2
/-! what stands twice -/
section
variable {α : Type} [DecidableEq α]
def addA (acc : List α) (k : α) : List α := if k ∈ acc then acc else acc ++ [k]
theorem addA_in {acc : List α} {k : α} (h : k ∈ acc) : addA acc k = acc := if_pos h
theorem addA_out {acc : List α} {k : α} (h : ¬ k ∈ acc) : addA acc k = acc ++ [k] := if_neg h
def dedA : List α → List α → List α
  | acc, [] => acc
  | acc, k :: ks => dedA (addA acc k) ks
theorem dedA_le : ∀ (ks acc : List α), (dedA acc ks).length ≤ acc.length + ks.length
  | [], acc => Nat.le_refl _
  | k :: ks, acc => by
    unfold dedA
    have := dedA_le ks (addA acc k)
    by_cases h : k ∈ acc
    · rw [addA_in h] at this ⊢
      rw [List.length_cons]
      omega
    · rw [addA_out h] at this ⊢
      rw [List.length_append, List.length_singleton] at this
      rw [List.length_cons]
      omega
theorem dedA_len : ∀ (ks acc : List α), acc.Nodup → ((dedA acc ks).length = acc.length + ks.length ↔ (acc ++ ks).Nodup)
  | [], acc, h => by simp [dedA, h]
  | k :: ks, acc, h => by
    unfold dedA
    by_cases hk : k ∈ acc
    · rw [addA_in hk]
      have := dedA_le ks acc
      constructor
      · intro e
        rw [List.length_cons] at e
        omega
      · intro nd
        rw [List.nodup_append] at nd
        exact (nd.2.2 k hk k List.mem_cons_self rfl).elim
    · rw [addA_out hk]
      have h' : (acc ++ [k]).Nodup := by
        rw [List.nodup_append]
        exact ⟨h, by simp, fun a ha b hb e => by
          rw [List.mem_singleton] at hb
          rw [e, hb] at ha
          exact hk ha⟩
      have := dedA_len ks (acc ++ [k]) h'
      rw [List.length_append, List.length_singleton, List.append_assoc, List.singleton_append] at this
      rw [← this, List.length_cons, show acc.length + (ks.length + 1) = acc.length + 1 + ks.length by omega]
theorem dedA_nil (ks : List α) : (dedA [] ks).length = ks.length ↔ ks.Nodup := by
  have := dedA_len ks [] List.nodup_nil
  simpa using this
instance (qs : List α) : Decidable qs.Nodup := inferInstanceAs (Decidable (qs.Pairwise _))
end
theorem look_keys (k : L2.Key) (v : D) : ∀ {kvs : List (L2.Key × D)}, (putG kvs k v).map (·.1) = addA (kvs.map (·.1)) k := by
  intro kvs
  unfold putG
  by_cases hk : k ∈ kvs.map (·.1)
  · obtain ⟨x, a, b⟩ := List.mem_map.mp hk
    rw [if_pos (List.any_eq_true.mpr ⟨x, a, decide_eq_true b⟩), addA_in hk, List.map_map]
    refine List.map_congr_left fun q _ => ?_
    show (if q.1 = k then (q.1, v) else q).1 = q.1
    split <;> rfl
  · rw [if_neg (fun z => by
      obtain ⟨x, a, b⟩ := List.any_eq_true.mp z
      exact hk (List.mem_map.mpr ⟨x, a, of_decide_eq_true b⟩)), addA_out hk]
    simp
theorem merge_keys : ∀ (kvs acc : List (L2.Key × D)), (kvs.foldl (fun acc q => putG acc q.1 q.2) acc).map (·.1) = dedA (acc.map (·.1)) (kvs.map (·.1))
  | [], acc => rfl
  | q :: kvs, acc => by
    rw [List.foldl_cons, merge_keys kvs, look_keys]
    rfl
theorem lookN_mem (k : NK) (kvs : List (NK × D)) : (lookN kvs k).isSome = true ↔ k ∈ kvs.map (·.1) := by
  unfold lookN
  rw [Option.isSome_map, List.find?_isSome, List.mem_map]
  exact ⟨fun ⟨x, a, b⟩ => ⟨x, a, of_decide_eq_true b⟩, fun ⟨x, a, b⟩ => ⟨x, a, decide_eq_true b⟩⟩
theorem putN_keys (k : NK) (v : D) {kvs : List (NK × D)} : (putN kvs k v).map (·.1) = addA (kvs.map (·.1)) k := by
  unfold putN
  by_cases hk : k ∈ kvs.map (·.1)
  · rw [if_pos ((lookN_mem k kvs).mpr hk), addA_in hk, List.map_map]
    refine List.map_congr_left fun q _ => ?_
    show (if q.1 = k then (q.1, v) else q).1 = q.1
    split <;> rfl
  · rw [if_neg (fun z => hk ((lookN_mem k kvs).mp z)), addA_out hk]
    simp
theorem mergeN_keys : ∀ (kvs acc : List (NK × D)), (kvs.foldl (fun acc q => putN acc q.1 q.2) acc).map (·.1) = dedA (acc.map (·.1)) (kvs.map (·.1))
  | [], acc => rfl
  | q :: kvs, acc => by
    rw [List.foldl_cons, mergeN_keys kvs, putN_keys]
    rfl
/-- _law_unlike of a list or a tuple -/
theorem e_unlikeG {k : Nat} (hk : 1 ≤ k) {v : D} {xs : List D} (hv : v = .lst xs ∨ v = .tup xs) (hl : xs.length ≤ 1000) {z : D} {n : Nat} (hd : dctD (.lst (xs.map fun x => D.tup [x, .int 0])) = some z) (hz : lenD z = some (.int (n : Nat))) (p : Pot) : callD T k "_law_unlike" [.val v] p = .ok (.bl (decide (n = xs.length))) p := by
  obtain ⟨k, rfl, hk'⟩ := pos hk
  rw [call__law_unlike]
  refine run_ret rfl ?_
  show (dens (callD T k) b__law_unlike).ss [some (.val v), none] p = _
  unfold b__law_unlike
  have hi : (den (callD T k) (.iE (.v 0))).i [some (.val v), none] p = .ok xs p := by
    rcases hv with rfl | rfl <;> simp
  have hlen : (den (callD T k) (.blt .len (.cons (.v 0) .nil))).e [some (.val v), none] p = .ok (.int (xs.length : Nat)) p := by
    rcases hv with rfl | rfl <;> simp
  have hc := compR_fm (tg := (Tg.nm 1).asg) (cond := (den (callD T k) .nil).c) (elt := (den (callD T k) (.tup (.cons (.v 1) (.cons (.int 0) .nil)))).e) (ρ := [some (.val v), none]) (p := p) (fun x : D => x) (fun _ => true) (fun x => D.tup [x, .int 0]) (as := xs) fun q hq => ⟨_, rfl, rfl, fun _ => by simp [valsOf]⟩
  rw [List.filter_eq_self.mpr fun _ _ => rfl, List.map_id'] at hc
  have h1 := comp_run (Φ := callD T k) (t := .nm 1) (it := .iE (.v 0)) (c := .nil) (e := .tup (.cons (.v 1) (.cons (.int 0) .nil))) (own := [("one", 1)]) (ρ := [some (.val v), none]) (p := p) (p1 := p) (p2 := p) hi hc (by rw [List.length_map]; exact hl)
  have h2 : (den (callD T k) (.dctOf (.cons (.comp (.nm 1) (.iE (.v 0)) .nil (.tup (.cons (.v 1) (.cons (.int 0) .nil))) [("one", 1)]) .nil))).e [some (.val v), none] p = .ok z p := by
    show dCall (aCons (aArg _ (den (callD T k) (.comp (.nm 1) (.iE (.v 0)) .nil (.tup (.cons (.v 1) (.cons (.int 0) .nil))) [("one", 1)])).e) aNil) (d1 dctD) _ p = _
    simp only [dCall, aCons, aArg, aVal, aNil, Res.bind, h1, List.map_cons, List.map_nil, Sl.d, d1, hd]
    rfl
  refine last (ret_comp (cmp_run (blt_run (f := .len) (fun _ => rfl) h2 (d := .int (n : Nat)) hz) (p2 := p) hlen ?_))
  have : (((n : Nat) : Int) == (xs.length : Int)) = decide (n = xs.length) := by
    rw [Bool.eq_iff_iff]
    simp only [beq_iff_eq, decide_eq_true_eq]
    omega
  simp only [Cm.d, eqD, dat, eqb, and_self, if_true, this]
theorem len_nd {α : Type} [DecidableEq α] {ks : List α} {n m : Nat} (h : n = (dedA [] ks).length) (hm : m = ks.length) : decide (n = m) = decide ks.Nodup := by
  subst h hm
  exact decide_eq_decide.mpr (dedA_nil ks)
theorem flatPs_of {A : Type} (f : A → D) (kf : A → L2.Key) (h : ∀ a, keyOf (f a) = some (kf a)) : ∀ as : List A, flatPs (as.map fun a => D.tup [f a, .int 0]) = some (as.map fun a => (kf a, D.int 0))
  | [] => rfl
  | a :: as => by
    rw [List.map_cons]
    simp only [flatPs, h, flatPs_of f kf h as, List.map_cons]
theorem nestPs_of {A : Type} (f : A → D) (kf : A → NK) (h : ∀ a, keyT (f a) = some (kf a)) : ∀ as : List A, nestPs (as.map fun a => D.tup [f a, .int 0]) = some (as.map fun a => (kf a, D.int 0))
  | [] => rfl
  | a :: as => by
    rw [List.map_cons]
    simp only [nestPs, h, nestPs_of f kf h as, List.map_cons]
theorem flatPs_none {A : Type} (f : A → D) (h : ∀ a, keyOf (f a) = none) : ∀ as : List A, as ≠ [] → flatPs (as.map fun a => D.tup [f a, .int 0]) = none
  | [], q => (q rfl).elim
  | a :: as, _ => by
    rw [List.map_cons]
    simp only [flatPs, h]
/-- of things with flat keys -/
theorem unlikeF {A : Type} {k : Nat} (hk : 1 ≤ k) (f : A → D) (kf : A → L2.Key) (h : ∀ a, keyOf (f a) = some (kf a)) {v : D} {as : List A} (hv : v = .lst (as.map f) ∨ v = .tup (as.map f)) (hl : as.length ≤ 1000) (p : Pot) : callD T k "_law_unlike" [.val v] p = .ok (.bl (decide (as.map kf).Nodup)) p := by
  have hd : dctD (.lst ((as.map f).map fun x => D.tup [x, .int 0])) = some (.dct (mergeG (as.map fun a => (kf a, D.int 0)))) := by
    rw [List.map_map]
    show (match flatPs (as.map fun a => D.tup [f a, .int 0]) with
      | some kvs => some (D.dct (mergeG kvs))
      | none => (nestPs (as.map fun a => D.tup [f a, .int 0])).map fun kvs => .dcn (mergeN kvs)) = _
    rw [flatPs_of f kf h]
  rw [e_unlikeG hk hv (by rw [List.length_map]; exact hl) hd (n := (mergeG (as.map fun a => (kf a, D.int 0))).length) (by simp [lenD]) p]
  rw [len_nd (ks := as.map kf) ?_ (by simp)]
  have := merge_keys (as.map fun a => (kf a, D.int 0)) []
  rw [List.map_map] at this
  rw [← List.length_map (f := fun q : L2.Key × D => q.1)]
  exact congrArg List.length this
/-- of things with tuple keys -/
theorem unlikeN {A : Type} {k : Nat} (hk : 1 ≤ k) (f : A → D) (kf : A → NK) (h0 : ∀ a, keyOf (f a) = none) (h : ∀ a, keyT (f a) = some (kf a)) {v : D} {as : List A} (hv : v = .lst (as.map f) ∨ v = .tup (as.map f)) (hl : as.length ≤ 1000) (p : Pot) : callD T k "_law_unlike" [.val v] p = .ok (.bl (decide (as.map kf).Nodup)) p := by
  match as, hv, hl with
  | [], hv, hl =>
    rw [e_unlikeG hk hv (by simp) (z := .dct []) rfl (n := 0) rfl p]
    rfl
  | a :: as, hv, hl =>
    have hd : dctD (.lst (((a :: as).map f).map fun x => D.tup [x, .int 0])) = some (.dcn (mergeN ((a :: as).map fun a => (kf a, D.int 0)))) := by
      rw [List.map_map]
      show (match flatPs ((a :: as).map fun a => D.tup [f a, .int 0]) with
        | some kvs => some (D.dct (mergeG kvs))
        | none => (nestPs ((a :: as).map fun a => D.tup [f a, .int 0])).map fun kvs => .dcn (mergeN kvs)) = _
      rw [flatPs_none f h0 _ (by simp), nestPs_of f kf h]
      rfl
    rw [e_unlikeG hk hv (by rw [List.length_map]; exact hl) hd (n := (mergeN ((a :: as).map fun a => (kf a, D.int 0))).length) (by simp [lenD]) p]
    rw [len_nd (ks := (a :: as).map kf) ?_ (by simp)]
    have := mergeN_keys ((a :: as).map fun a => (kf a, D.int 0)) []
    rw [List.map_map] at this
    rw [← List.length_map (f := fun q : NK × D => q.1)]
    exact congrArg List.length this
theorem e_unlikeI {k : Nat} (hk : 1 ≤ k) {v : D} {ns : List Int} (hv : v = .lst (ns.map D.int) ∨ v = .tup (ns.map D.int)) (p : Pot) (hl : ns.length ≤ 1000) : callD T k "_law_unlike" [.val v] p = .ok (.bl (decide ns.Nodup)) p := by
  rw [unlikeF hk D.int Sum.inl (fun _ => rfl) hv hl p]
  congr 2
  refine decide_eq_decide.mpr ?_
  show (ns.map Sum.inl).Pairwise _ ↔ ns.Pairwise _
  rw [List.pairwise_map]
  exact ⟨fun h => h.imp fun {a b} h e => h (by rw [e]), fun h => h.imp fun {a b} h e => h (Sum.inl.inj e)⟩
theorem e_unlikeP {k : Nat} (hk : 1 ≤ k) (qs : List (Int × Int)) (p : Pot) (hl : qs.length ≤ 1000) : callD T k "_law_unlike" [.val (.lst (qs.map prI))] p = .ok (.bl (decide qs.Nodup)) p := by
  rw [unlikeN hk prI (fun q => .tup [.num q.1, .num q.2]) (fun _ => rfl) (fun q => ?_) (.inl rfl) hl p]
  · congr 2
    refine decide_eq_decide.mpr ?_
    show (qs.map _).Pairwise _ ↔ qs.Pairwise _
    rw [List.pairwise_map]
    exact ⟨fun h => h.imp fun {a b} h e => h (by rw [e]), fun h => h.imp fun {a b} h e => h (by
      simp only [PySem.NestedKey.tup.injEq, List.cons.injEq, PySem.NestedKey.num.injEq, and_true] at e
      exact Prod.ext e.1 e.2)⟩
  · show keyT (.tup [.int q.1, .int q.2]) = _
    simp only [keyT, nkeys, nkey]
    rw [if_pos (by simp [PySem.NestedKey.depth, PySem.NestedKey.depthAll])]
/-! pairs == sorted(pairs) -/
def leP (a b : Int × Int) : Bool := !decide (ltQ b a)
theorem leY_prI (a b : Int × Int) : leY (prI a) (prI b) = leP a b := leY_pr _ _ _ _
theorem srt_prsG {qs : List (Int × Int)} (hl : qs.length ≤ 1000) : srtU (.lst (qs.map prI)) = some (.lst ((qs.mergeSort leP).map prI)) := by
  show (if sortB (qs.map prI) = true then some (D.lst ((qs.map prI).mergeSort leY)) else none) = _
  rw [if_pos (sortB_prs hl), ← List.map_mergeSort (f := prI) (r := leP) (s := leY) (fun a _ b _ => (leY_prI a b).symm)]
theorem eqbs_prs : ∀ qs rs : List (Int × Int), eqbs (qs.map prI) (rs.map prI) = decide (qs = rs)
  | [], [] => by simp [eqbs]
  | [], _ :: _ => by simp [eqbs]
  | _ :: _, [] => by simp [eqbs]
  | q :: qs, r :: rs => by
    have ih := eqbs_prs qs rs
    simp only [List.map_cons, eqbs, ih]
    rw [Bool.eq_iff_iff]
    simp only [prI, eqb, eqbs, Bool.and_eq_true, beq_iff_eq, decide_eq_true_eq, List.cons.injEq, Bool.and_true]
    rw [Prod.ext_iff]
theorem eq_prs (qs rs : List (Int × Int)) : eqD (.lst (qs.map prI)) (.lst (rs.map prI)) = some (.bl (decide (qs = rs))) := by
  unfold eqD
  have h : ∀ qs : List (Int × Int), dat 64 (.lst (qs.map prI)) = true := fun qs => by
    simp only [dat]
    exact dats_of fun d hd => by
      obtain ⟨q, _, rfl⟩ := List.mem_map.mp hd
      rfl
  rw [if_pos ⟨h _, h _⟩]
  simp only [eqb, eqbs_prs]
theorem leP_iff (a b : Int × Int) : leP a b = true ↔ ¬ ltQ b a := by
  unfold leP
  rw [Bool.not_eq_true', decide_eq_false_iff_not]
theorem leP_total (a b : Int × Int) : leP a b = true ∨ leP b a = true := by
  rw [leP_iff, leP_iff]
  unfold ltQ
  omega
theorem leP_trans (a b c : Int × Int) : leP a b = true → leP b c = true → leP a c = true := by
  rw [leP_iff, leP_iff, leP_iff]
  unfold ltQ
  omega
theorem rise_sorted (qs : List (Int × Int)) : (decide (qs = qs.mergeSort leP) && decide qs.Nodup) = riseP qs := by
  rw [Bool.eq_iff_iff, riseP_iff, Bool.and_eq_true, decide_eq_true_eq, decide_eq_true_eq]
  constructor
  · rintro ⟨h1, h2⟩
    have h3 : (qs.mergeSort leP).Pairwise fun a b => leP a b = true := List.pairwise_mergeSort (fun a b c => leP_trans a b c) (fun a b => by
      rcases leP_total a b with h | h <;> simp [h]) qs
    rw [← h1] at h3
    refine List.Pairwise.imp₂ (fun {a b} h n => ?_) h3 h2
    rw [leP_iff] at h
    exact ltQ_tri (fun e => n e.symm) h
  · intro h
    refine ⟨?_, h.imp fun {a b} h e => by rw [e] at h; exact ltQ_irrefl _ h⟩
    refine (List.mergeSort_of_pairwise (h.imp fun {a b} h => ?_)).symm
    rw [leP_iff]
    exact fun z => ltQ_irrefl _ (ltQ_trans h z)
/-! the law's judging of nets -/
section
variable {k n : Nat}
/-- [x for x in xs if not within(x)] != [] -/
theorem out_run {Φ : Phi} {it c : E} {i : Nat} {x : Str} {ρ : En} {p : Pot} {xs : List D} (f : D → Bool) (hn : n ≤ 60) (hg : ∀ d ∈ xs, gd n d = true) (hl : xs.length ≤ 1000) (hs : (den Φ (.comp (.nm i) it (.pt c) (.v i) [(x, i)])).e ρ p = .ok (.lst (xs.filter fun d => !f d)) p) :
    (den Φ (.tCmp .ne (.comp (.nm i) it (.pt c) (.v i) [(x, i)]) (.lst .nil))).t ρ p = .ok (!xs.all f) p := by
  refine tcmp_run (p2 := p) hs (by rfl) ?_
  show neD _ _ = _
  rw [ne_nilG (by omega : n ≤ 63) fun d hd => hg d (List.mem_filter.mp hd).1, filt_all]
theorem ltrack_run (hk : 1 ≤ k) (hn : n ≤ 60) {d : D} (h : gd n d = true) {V : Option Sl} {ns : List Int} {t : Option Sl} (hns : ns.length ≤ 8) (p : Pot) :
    (trackB (ns.length : Int) d = true ∧ (dens (callD T k) l1__law_is_net).ss [V, none, some (.val (.tup (ns.map .int))), t, some (.val d), none, none] p = .ok (.nx [V, none, some (.val (.tup (ns.map .int))), t, some (.val d), none, none]) p) ∨
    (trackB (ns.length : Int) d = false ∧ (dens (callD T k) l1__law_is_net).ss [V, none, some (.val (.tup (ns.map .int))), t, some (.val d), none, none] p = .ok (.ret (.bl false)) p) := by
  unfold l1__law_is_net
  have hs : ∀ {s r : S} {ρ : En} {p p1 : Pot} {d : D}, (dens (callD T k) s).s ρ p = .ok (.ret d) p1 → (dens (callD T k) (.cons s r)).ss ρ p = .ok (.ret d) p1 := fun h => last h
  cases d with
  | tup ds =>
    cases n with
    | zero => simp [gd] at h
    | succ n =>
    simp only [gd, Bool.and_eq_true, decide_eq_true_eq] at h
    match ds, h with
    | [a, b, c], h =>
      have ha := gds_mem h.2 a (by simp)
      have hb := gds_mem h.2 b (by simp)
      have hc := gds_mem h.2 c (by simp)
      generalize hm : (ns.length : Int) = m
      have hsl : slD (.tup [a, b, c]) none (some 2) = some (.tup [a, b]) := rfl
      have hsv := sieve (Φ := callD T k) (it := .iE (.sl (.v 4) .nil (.pt (.int 2)))) (c := .tNot (.tTru (.call "_law_within" (.cons (.v 5) (.cons (.int 0) (.cons (.bin .sub (.blt .len (.cons (.v 2) .nil)) (.int 1)) .nil)))))) (i := 5) (x := "k") (ρ := [V, none, some (.val (.tup (ns.map .int))), t, some (.val (.tup [a, b, c])), none, none]) (p := p) (xs := [a, b]) (numB 0 (m - 1)) (by simp [hsl]) (fun _ _ => rfl) (fun _ => rfl) (fun d hd => by
        have hgd : gd n d = true := by
          rcases List.mem_cons.mp hd with rfl | hd
          · exact ha
          · rw [List.mem_singleton] at hd; rw [hd]; exact hb
        have := e_within hk hgd 0 (m - 1) p
        simp [hm, this]) (by simp)
      have ho := out_run (n := n) (numB 0 (m - 1)) (by omega) (fun d hd => by
          rcases List.mem_cons.mp hd with rfl | hd
          · exact ha
          · rw [List.mem_singleton] at hd; rw [hd]; exact hb) (by simp) hsv
      have hw := e_within hk hc 1 9 p
      have h0 : (dens (callD T k) (.iff (.tOrs (.cons (.tNot (.tTru (.isi (.v 4) .tuple))) (.cons (.tCmp .ne (.blt .len (.cons (.v 4) .nil)) (.int 3)) .nil))) (.cons (.ret (.bl false)) .nil) .nil)).s [V, none, some (.val (.tup (ns.map .int))), t, some (.val (.tup [a, b, c])), none, none] p = .ok (.nx [V, none, some (.val (.tup (ns.map .int))), t, some (.val (.tup [a, b, c])), none, none]) p := by
        refine if_f (p1 := p) ?_ done
        simp [neD, dat, eqb]
      have hw' : (den (callD T k) (.tNot (.tTru (.call "_law_within" (.cons (.ix (.v 4) (.int 2)) (.cons (.int 1) (.cons (.int 9) .nil))))))).t [V, none, some (.val (.tup (ns.map .int))), t, some (.val (.tup [a, b, c])), none, none] p = .ok (!numB 1 9 c) p := by
        simp [ixD_tup2, hw]
      by_cases hab : (numB 0 (m - 1) a && numB 0 (m - 1) b) = true
      · have hall : [a, b].all (numB 0 (m - 1)) = true := by simpa using hab
        rw [hall] at ho
        cases hcc : numB 1 9 c with
        | false =>
          rw [hcc] at hw'
          refine .inr ⟨by simp [trackB, hcc], step h0 (hs (if_t (p1 := p) (or_f (p1 := p) rfl ho (or_1 hw')) (hs (ret_comp rfl))))⟩
        | true =>
          rw [hcc] at hw'
          obtain ⟨n1, n2⟩ := Bool.and_eq_true_iff.mp hab
          obtain ⟨x, rfl, _⟩ := numB_int n1
          obtain ⟨y, rfl, _⟩ := numB_int n2
          have hge : (den (callD T k) (.tCmp .ge (.ix (.v 4) (.int 0)) (.ix (.v 4) (.int 1)))).t [V, none, some (.val (.tup (ns.map .int))), t, some (.val (.tup [.int x, .int y, c])), none, none] p = .ok (decide (y ≤ x)) p := by
            simp [ixD_tup0, ixD_tup1]
          by_cases hlt : x < y
          · have : ¬ y ≤ x := by omega
            rw [decide_eq_false this] at hge
            refine .inl ⟨by simp [trackB, pairB, n1, n2, hcc, hlt], step h0 (step (if_f (p1 := p) (or_f (p1 := p) rfl ho (or_1 hw')) done) (step (if_f (p1 := p) hge done) done))⟩
          · have : y ≤ x := by omega
            rw [decide_eq_true this] at hge
            refine .inr ⟨by simp [trackB, pairB, hlt], step h0 (step (if_f (p1 := p) (or_f (p1 := p) rfl ho (or_1 hw')) done) (hs (if_t (p1 := p) hge (hs (ret_comp rfl)))))⟩
      · have hab : (numB 0 (m - 1) a && numB 0 (m - 1) b) = false := by simpa using hab
        have hall : [a, b].all (numB 0 (m - 1)) = false := by simpa using hab
        rw [hall] at ho
        refine .inr ⟨by simp [trackB, pairB, hab], step h0 (hs (if_t (p1 := p) (or_t ho) (hs (ret_comp rfl))))⟩
    | [], h => exact .inr ⟨rfl, hs (if_t (p1 := p) (by simp [neD, dat, eqb]) (hs (ret_comp rfl)))⟩
    | [x], h => exact .inr ⟨rfl, hs (if_t (p1 := p) (by simp [neD, dat, eqb]) (hs (ret_comp rfl)))⟩
    | [x, y], h => exact .inr ⟨rfl, hs (if_t (p1 := p) (by simp [neD, dat, eqb]) (hs (ret_comp rfl)))⟩
    | x :: y :: z :: w :: r, h =>
      have : ¬ ((r.length : Int) + 1 + 1 + 1 + 1 = 3) := by omega
      exact .inr ⟨by simp [trackB], hs (if_t (p1 := p) (by simp [neD, dat, eqb, this]) (hs (ret_comp rfl)))⟩
  | fn x => cases n <;> simp [gd] at h
  | pot => cases n <;> simp [gd] at h
  | dct x => cases n <;> simp [gd] at h
  | dcn x => cases n <;> simp [gd] at h
  | _ => exact .inr ⟨rfl, hs (if_t (p1 := p) (by simp) (hs (ret_comp rfl)))⟩
end
end M.T

set_option Elab.async false
set_option linter.all false
set_option maxRecDepth 100000
set_option maxHeartbeats 2000000
namespace M.T
open PySem PySem.Spec PyProof.Rows L2
theorem e_lnetG {k : Nat} (hk : 2 ≤ k) {n : Nat} (hn : n ≤ 60) {d : D} (h : gd n d = true) (p : Pot) : callD T k "_law_is_net" [.val d] p = .ok (.bl (netB d)) p := by
  obtain ⟨k, rfl, hk'⟩ := pos hk
  rw [call__law_is_net]
  have hs : ∀ {s r : S} {ρ : En} {p p1 : Pot} {d : D}, (dens (callD T k) s).s ρ p = .ok (.ret d) p1 → (dens (callD T k) (.cons s r)).ss ρ p = .ok (.ret d) p1 := fun h => last h
  cases d with
  | tup ds =>
    cases n with
    | zero => simp [gd] at h
    | succ n =>
    simp only [gd, Bool.and_eq_true, decide_eq_true_eq] at h
    refine run_ret rfl ?_
    show (dens (callD T k) b__law_is_net).ss [some (.val (.tup ds)), none, none, none, none, none, none] p = _
    unfold b__law_is_net
    match ds, h with
    | [a, b], h =>
      have ha := gds_mem h.2 a (by simp)
      have hb := gds_mem h.2 b (by simp)
      have hgab : ∀ d ∈ [a, b], gd n d = true := fun d hd => by
        rcases List.mem_cons.mp hd with rfl | hd
        · exact ha
        · rw [List.mem_singleton] at hd; rw [hd]; exact hb
      have hsv := sieve (Φ := callD T k) (it := .iE (.v 0)) (c := .tNot (.tTru (.isi (.v 1) .tuple))) (i := 1) (x := "part") (ρ := [some (.val (.tup [a, b])), none, none, none, none, none, none]) (p := p) (xs := [a, b]) isT (by simp) (fun _ _ => rfl) (fun _ => rfl) (fun d hd => by
        have hg := hgab d hd
        cases d with
        | fn x => cases n <;> simp [gd] at hg
        | pot => cases n <;> simp [gd] at hg
        | dct x => cases n <;> simp [gd] at hg
        | dcn x => cases n <;> simp [gd] at hg
        | _ => simp [isT]) (by simp)
      have ho := out_run (n := n) isT (by omega) hgab (by simp) hsv
      cases hT : [a, b].all isT with
      | false =>
        rw [hT] at ho
        have : netB (.tup [a, b]) = false := by
          simp only [List.all_cons, List.all_nil, Bool.and_true] at hT
          cases a with
          | tup xs =>
            cases b with
            | tup ys => simp [isT] at hT
            | _ => rfl
          | _ => cases b <;> simp [netB, rowB]
        rw [this]
        exact hs (if_t (p1 := p) (or_f (p1 := p) rfl (by simp) (or_f (p1 := p) rfl (by simp [neD, dat, eqb]) (or_1 ho))) (hs (ret_comp rfl)))
      | true =>
        rw [hT] at ho
        simp only [List.all_cons, List.all_nil, Bool.and_true, Bool.and_eq_true] at hT
        obtain ⟨xs, rfl⟩ := isT_is hT.1
        obtain ⟨ts, rfl⟩ := isT_is hT.2
        cases n with
        | zero => simp [gd] at ha
        | succ n =>
        simp only [gd, Bool.and_eq_true, decide_eq_true_eq] at ha hb
        refine step (p1 := p) (if_f (p1 := p) (or_f (p1 := p) rfl (by simp) (or_f (p1 := p) rfl (by simp [neD, dat, eqb]) (or_1 ho))) done) ?_
        refine step (p1 := p) (ρ1 := [some (.val (.tup [.tup xs, .tup ts])), none, some (.val (.tup xs)), some (.val (.tup ts)), none, none, none]) (tgt_run (p1 := p) (d := .tup [.tup xs, .tup ts]) rfl rfl) ?_
        by_cases h8 : 1 ≤ xs.length ∧ xs.length ≤ 8
        · have hch : (den (callD T k) (.tNot (.tChain .le .le (.int 1) (.blt .len (.cons (.v 2) .nil)) (.int 8)))).t [some (.val (.tup [.tup xs, .tup ts])), none, some (.val (.tup xs)), some (.val (.tup ts)), none, none, none] p = .ok false p := by
            have e1 : (1 : Int) ≤ (xs.length : Int) := by omega
            have e2 : (xs.length : Int) ≤ 8 := by omega
            simp [e1, e2]
          have hsv2 := sieve (Φ := callD T k) (it := .iE (.v 2)) (c := .tNot (.tTru (.call "_law_within" (.cons (.v 4) (.cons (.int 1) (.cons (.int 3) .nil)))))) (i := 4) (x := "one") (ρ := [some (.val (.tup [.tup xs, .tup ts])), none, some (.val (.tup xs)), some (.val (.tup ts)), none, none, none]) (p := p) (xs := xs) (numB 1 3) (by simp) (fun _ _ => rfl) (fun _ => rfl) (fun d hd => by
            have := e_within hk' (gds_mem ha.2 d hd) 1 3 p
            simp [this]) (by omega)
          have ho2 := out_run (n := n) (numB 1 3) (by omega) (fun d hd => gds_mem ha.2 d hd) (by omega) hsv2
          cases hal : xs.all (numB 1 3) with
          | false =>
            rw [hal] at ho2
            have : netB (.tup [.tup xs, .tup ts]) = false := by simp [netB, rowB, hal]
            rw [this]
            exact hs (if_t (p1 := p) (or_f (p1 := p) rfl hch (or_1 ho2)) (hs (ret_comp rfl)))
          | true =>
            rw [hal] at ho2
            obtain ⟨ns, rfl, hns⟩ := all_nums hal
            rw [List.length_map] at h8
            refine step (p1 := p) (if_f (p1 := p) (or_f (p1 := p) rfl hch (or_1 ho2)) done) ?_
            have hrow : rowB 1 8 1 3 (.tup (ns.map .int)) = true := by
              simp only [rowB, hal, Bool.and_true, decide_eq_true_eq, List.length_map]
              omega
            have hE : netB (.tup [.tup (ns.map .int), .tup ts]) = (ts.all (trackB (ns.length : Int)) && riseP (ts.map pairOf)) := by
              simp [netB, hrow, lenT]
            rw [hE]
            have key := forR_find (tg := (Tg.nm 4).asg) (body := (dens (callD T k) l1__law_is_net).ss) (w := [4]) (ρ := [some (.val (.tup [.tup (ns.map .int), .tup ts])), none, some (.val (.tup (ns.map .int))), some (.val (.tup ts)), none, none, none]) (p := p) (fun x => !trackB (ns.length : Int) x) (fun _ => D.bl false) (xs := ts) fun x hx => by
              refine ⟨_, rfl, ?_⟩
              rcases ltrack_run (k := k) hk' (n := n) (by omega) (gds_mem hb.2 x hx) (V := some (.val (.tup [.tup (ns.map .int), .tup ts]))) (t := some (.val (.tup ts))) h8.2 p with ⟨a, b⟩ | ⟨a, b⟩
              · exact .inl ⟨by rw [a]; rfl, _, b, rfl⟩
              · exact .inr ⟨by rw [a]; rfl, b⟩
            have hall : (ts.find? fun x => !trackB (ns.length : Int) x).isSome = !ts.all (trackB (ns.length : Int)) := by
              rw [Bool.eq_iff_iff, List.find?_isSome]
              simp
            cases hf : ts.find? fun x => !trackB (ns.length : Int) x with
            | some x =>
              rw [hf] at key hall
              have : ts.all (trackB (ns.length : Int)) = false := by simpa using hall.symm
              rw [this]
              exact hs (for_gen (p1 := p) (xs := ts) (by simp) key)
            | none =>
              rw [hf] at key hall
              have hta : ts.all (trackB (ns.length : Int)) = true := by simpa using hall.symm
              rw [hta, Bool.true_and]
              refine step (p1 := p) (for_gen (p1 := p) (xs := ts) (by simp) key) ?_
              have hps : ∀ t ∈ ts, slD t none (some 2) = some (prI (pairOf t)) := fun t ht => by
                obtain ⟨x, y, c, rfl, _⟩ := trackB_pair (List.all_eq_true.mp hta t ht)
                rfl
              have hcp := comp_run (Φ := callD T k) (t := .nm 4) (it := .iE (.v 3)) (c := .nil) (e := .sl (.v 4) .nil (.pt (.int 2))) (own := [("one", 4)]) (ρ := [some (.val (.tup [.tup (ns.map .int), .tup ts])), none, some (.val (.tup (ns.map .int))), some (.val (.tup ts)), none, none, none]) (p := p) (p1 := p) (p2 := p) (xs := ts) (ds := ts.map fun t => prI (pairOf t)) (by simp) (compR_map _ fun x hx => ⟨_, rfl, rfl, by simp [hps x hx]⟩) (by simpa using hb.1)
              have hm : (ts.map fun t => prI (pairOf t)) = (ts.map pairOf).map prI := by
                rw [List.map_map]
                rfl
              rw [hm] at hcp
              generalize hq : ts.map pairOf = qs at hcp
              have hql : qs.length ≤ 1000 := by rw [← hq, List.length_map]; exact hb.1
              refine step (own_run hcp) (step (frz_run rfl) (last (ret_comp ?_)))
              have hr1 : (den (callD T k) (.cmp .eq (.v 6) (.srt (.cons (.v 6) .nil)))).e [some (.val (.tup [.tup (ns.map .int), .tup ts])), none, some (.val (.tup (ns.map .int))), some (.val (.tup ts)), none, none, some (.val (.lst (qs.map prI)))] p = .ok (.bl (decide (qs = qs.mergeSort leP))) p :=
                cmp_run (p1 := p) (p2 := p) (x := .lst (qs.map prI)) rfl (srtv_run (x := .lst (qs.map prI)) (fun _ => rfl) rfl (srt_prsG hql)) (eq_prs _ _)
              have hu := e_unlikeP hk' qs p hql
              rw [← rise_sorted]
              cases he : decide (qs = qs.mergeSort leP) with
              | false =>
                rw [he] at hr1
                exact vand_f hr1
              | true =>
                rw [he] at hr1
                exact vand_t rfl hr1 (vand_1 (call1_run (fun _ => rfl) (x := .lst (qs.map prI)) rfl hu))
        · have hch : (den (callD T k) (.tNot (.tChain .le .le (.int 1) (.blt .len (.cons (.v 2) .nil)) (.int 8)))).t [some (.val (.tup [.tup xs, .tup ts])), none, some (.val (.tup xs)), some (.val (.tup ts)), none, none, none] p = .ok true p := by
            by_cases e1 : (1 : Int) ≤ (xs.length : Int)
            · have e2 : ¬ (xs.length : Int) ≤ 8 := by omega
              simp [e1, e2]
            · simp [e1]
          have : netB (.tup [.tup xs, .tup ts]) = false := by
            have : ¬ ((1 : Int) ≤ (xs.length : Int) ∧ (xs.length : Int) ≤ 8) := by omega
            simp [netB, rowB, this]
          rw [this]
          exact hs (if_t (p1 := p) (or_t hch) (hs (ret_comp rfl)))
    | [], h => exact hs (if_t (p1 := p) (or_f (p1 := p) rfl (by simp) (or_t (by simp [neD, dat, eqb]))) (hs (ret_comp rfl)))
    | [x], h => exact hs (if_t (p1 := p) (or_f (p1 := p) rfl (by simp) (or_t (by simp [neD, dat, eqb]))) (hs (ret_comp rfl)))
    | x :: y :: z :: r, h =>
      have : ¬ ((r.length : Int) + 1 + 1 + 1 = 2) := by omega
      have hE : netB (.tup (x :: y :: z :: r)) = false := by simp [netB]
      rw [hE]
      exact hs (if_t (p1 := p) (or_f (p1 := p) rfl (by simp) (or_t (by simp [neD, dat, eqb, this]))) (hs (ret_comp rfl)))
  | fn x => cases n <;> simp [gd] at h
  | pot => cases n <;> simp [gd] at h
  | dct x => cases n <;> simp [gd] at h
  | dcn x => cases n <;> simp [gd] at h
  | _ =>
    refine run_ret rfl ?_
    show (dens (callD T k) b__law_is_net).ss _ p = _
    unfold b__law_is_net
    exact hs (if_t (p1 := p) (or_t (by simp)) (hs (ret_comp rfl)))
end M.T

set_option Elab.async false
set_option linter.all false
set_option maxRecDepth 100000
set_option maxHeartbeats 2000000
namespace M.T
open PySem PySem.Spec PyProof.Rows L2
theorem netB_ok {hs : List Int} {es : List Op} (K : NetOk hs es) : netB (netD hs es) = true := by
  have h1 := K.h1
  have h8 := K.h8
  simp only [netD, netB, Bool.and_eq_true]
  refine ⟨⟨?_, ?_⟩, ?_⟩
  · simp only [rowB, Bool.and_eq_true, decide_eq_true_eq, List.length_map, List.all_map, List.all_eq_true]
    refine ⟨by omega, fun h hh => ?_⟩
    have := K.hb h hh
    simpa [numB] using this
  · rw [List.all_eq_true]
    intro d hd
    obtain ⟨e, he, rfl⟩ := List.mem_map.mp hd
    have := K.eb e he
    simp only [trD, trackB, pairB, numB, lenT, List.length_map, Bool.and_eq_true, decide_eq_true_eq]
    omega
  · rw [riseP_iff, List.map_map, List.pairwise_map]
    refine K.up.imp fun {a b} h => ?_
    simp only [Function.comp, trD, pairOf, ltQ]
    omega
theorem net_gd {hs : List Int} {es : List Op} (K : NetOk hs es) : gd 3 (netD hs es) = true := by
  have h8 := K.h8
  have hel := K.el
  refine gd_tup (by simp) fun d hd => ?_
  simp only [List.mem_cons, List.not_mem_nil, or_false] at hd
  rcases hd with rfl | rfl
  · exact gd_tup (by rw [List.length_map]; omega) fun d hd => by
      obtain ⟨h, _, rfl⟩ := List.mem_map.mp hd
      rfl
  · exact gd_tup (by rw [List.length_map]; omega) fun d hd => by
      obtain ⟨e, _, rfl⟩ := List.mem_map.mp hd
      rfl
theorem e_need_net {k : Nat} (hk : 5 ≤ k) {hs : List Int} {es : List Op} (K : NetOk hs es) (p : Pot) : callD T k "need_net" [.val (netD hs es)] p = .ok .non p := by
  obtain ⟨k, rfl, hk'⟩ := pos hk
  have h := e_netG hk' (net_gd K) p
  rw [netB_ok K] at h
  rw [call_need_net]
  simp [h]
theorem x_need_net {k : Nat} (hk : 5 ≤ k) {n : Nat} {d : D} (h : gd n d = true) (hb : netB d = false) (p : Pot) : callD T k "need_net" [.val d] p = .exc "NoNet" p := by
  obtain ⟨k, rfl, hk'⟩ := pos hk
  have h := e_netG hk' h p
  rw [hb] at h
  rw [call_need_net]
  simp [h]
theorem expr_ok {Φ : Phi} {e : E} {ρ : En} {p p1 : Pot} {d : D} (h : (den Φ e).e ρ p = .ok d p1) : (dens Φ (.expr e)).s ρ p = .ok (.nx ρ) p1 := by
  show sExpr (den Φ e).e ρ p = _
  simp [sExpr, h]
theorem expr_exc {Φ : Phi} {e : E} {ρ : En} {p p1 : Pot} {c : Str} (h : (den Φ e).e ρ p = .exc c p1) : (dens Φ (.expr e)).s ρ p = .exc c p1 := by
  show sExpr (den Φ e).e ρ p = _
  simp [sExpr, h]
theorem lenH {hs : List Int} {es : List Op} : ixD (netD hs es) (.int 0) = some (.tup (hs.map D.int)) := ixD_tup0
theorem e_need_place {k : Nat} (hk : 6 ≤ k) {hs : List Int} {es : List Op} (K : NetOk hs es) {u : Nat} (hu : u < hs.length) (p : Pot) : callD T k "need_place" [.val (netD hs es), .val (nI u)] p = .ok .non p := by
  obtain ⟨k, rfl, hk'⟩ := pos hk
  have h := e_need_net hk' K p
  have h2 := e_number_ok hu (k := k) (by omega) p
  rw [call_need_place]
  simp [h, lenH, h2]
where
  e_number_ok {hs : List Int} {u : Nat} (hu : u < hs.length) {k : Nat} (hk : 1 ≤ k) (p : Pot) : callD T k "is_number" [.val (.int (u : Nat)), .val (.int 0), .val (.int ((hs.length : Int) - 1))] p = .ok (.bl true) p := by
    have := e_is_number hk (u : Nat) 0 ((hs.length : Int) - 1) p
    rw [this]
    have : (0 : Int) ≤ (u : Int) ∧ (u : Int) ≤ (hs.length : Int) - 1 := by omega
    rw [decide_eq_true this]
theorem x_need_place {k : Nat} (hk : 6 ≤ k) {n : Nat} {d : D} (h : gd n d = true) (hb : netB d = false) (x : D) (p : Pot) : callD T k "need_place" [.val d, .val x] p = .exc "NoNet" p := by
  obtain ⟨k, rfl, hk'⟩ := pos hk
  have h := x_need_net hk' h hb p
  rw [call_need_place]
  simp [h]
theorem x2_need_place {k : Nat} (hk : 6 ≤ k) {hs : List Int} {es : List Op} (K : NetOk hs es) {n : Nat} {d : D} (hd : gd n d = true) (hb : numB 0 ((hs.length : Int) - 1) d = false) (p : Pot) : callD T k "need_place" [.val (netD hs es), .val d] p = .exc "NotThere" p := by
  obtain ⟨k, rfl, hk'⟩ := pos hk
  have h := e_need_net hk' K p
  have h2 := e_numG (k := k) (by omega) hd 0 ((hs.length : Int) - 1) p
  rw [hb] at h2
  rw [call_need_place]
  simp [h, lenH, h2]
theorem tgt_len {Φ : Phi} {e : E} {ρ : En} {p p1 : Pot} {ds : List D} {x : D} (ha : ∀ f, aArg e f = aVal f) (hx : x = .tup ds ∨ x = .lst ds) (h : (den Φ e).e ρ p = .ok x p1) : (den Φ (.tCmp .gt (.blt .len (.cons e .nil)) (.int 2))).t ρ p = .ok (decide (2 < ds.length)) p1 := by
  refine tcmp_run (blt_run (f := .len) ha h (d := .int (ds.length : Nat)) ?_) rfl ?_
  · rcases hx with rfl | rfl <;> rfl
  · show some (D.bl (decide ((2 : Int) < ((ds.length : Nat) : Int)))) = _
    congr 2
    exact decide_eq_decide.mpr (by omega)
theorem not_inL (ss : List Int) (i : Int) : notInO (.int i) (.lst (ss.map D.int)) = some (.bl (!(ss.contains i))) := by
  have h : (ss.map D.int).all flatD = true := by simp [flatD]
  have key : ∀ ss : List Int, ((ss.map D.int).any fun z => eqb z (.int i)) = ss.contains i := by
    intro ss
    induction ss with
    | nil => rfl
    | cons s ss ih =>
      rw [List.map_cons, List.any_cons, ih, List.contains_cons]
      congr 1
      show (s == i) = (i == s)
      by_cases e : s = i
      · subst e; rfl
      · have : ¬ i = s := fun z => e z.symm
        rw [beq_eq_false_iff_ne.mpr e, beq_eq_false_iff_ne.mpr this]
  have e0 : inD (.int i) (.lst (ss.map D.int)) = some ((ss.map D.int).any fun z => eqb z (.int i)) := if_pos ⟨rfl, h⟩
  show (inD (.int i) (.lst (ss.map D.int))).map _ = _
  rw [e0, key]
  rfl
theorem cont_cast (l : List Nat) (v : Nat) : (l.map fun v : Nat => (v : Int)).contains ((v : Nat) : Int) = l.contains v := by
  rw [Bool.eq_iff_iff, List.contains_iff_mem, List.contains_iff_mem, List.mem_map]
  exact ⟨fun ⟨a, ha, e⟩ => by
    have : a = v := by omega
    rw [← this]
    exact ha, fun h => ⟨v, h, rfl⟩⟩
theorem notin_nI (l : List Nat) (v : Nat) : notInO (nI v) (.lst (l.map nI)) = some (.bl (!l.contains v)) ∧ notInO (nI v) (.tup (l.map nI)) = some (.bl (!l.contains v)) := by
  rw [nI_map]
  exact ⟨by rw [not_inL, cont_cast], by rw [not_in, cont_cast]⟩
section
variable {k : Nat} {hs : List Int} {es : List Op} {s : Nat} {S : Option Sl} {p : Pot}
end
end M.T

set_option Elab.async false
set_option linter.all false
set_option maxRecDepth 100000
set_option maxHeartbeats 1000000
namespace M.T
/-! ways, plain -/
abbrev Wy := List Nat × Nat
def lst (w : List Nat) : Nat := w.getLast?.getD 0
theorem lst_app (w : List Nat) (q : Nat) : lst (w ++ [q]) = q := by simp [lst]
theorem lst_one (q : Nat) : lst [q] = q := rfl
theorem lst_mem {w : List Nat} (h : w ≠ []) : lst w ∈ w := by
  unfold lst
  rw [List.getLast?_eq_some_getLast h]
  exact List.getLast_mem h
theorem lst_app_ne {w s : List Nat} (h : s ≠ []) : lst (w ++ s) = lst s := by
  unfold lst
  rw [List.getLast?_append]
  rw [List.getLast?_eq_some_getLast h]
  rfl
def exts (nb : Nat → List (Nat × Nat)) (w : Wy) : List Wy := ((nb (lst w.1)).filter fun q => !w.1.contains q.1).map fun q => (w.1 ++ [q.1], w.2 + q.2)
def lev (nb : Nat → List (Nat × Nat)) : Nat → List Wy → List Wy
  | 0, _ => []
  | k + 1, l => l ++ lev nb k (l.flatMap (exts nb))
structure NbOk (n : Nat) (nb : Nat → List (Nat × Nat)) : Prop where
  lt : ∀ u q, q ∈ nb u → q.1 < n
  nd : ∀ u, ((nb u).map (·.1)).Nodup
structure Gd (n : Nat) (w : Wy) : Prop where
  ne : w.1 ≠ []
  nd : w.1.Nodup
  lt : ∀ v ∈ w.1, v < n
section
variable {n : Nat} {nb : Nat → List (Nat × Nat)} {w : Wy}
theorem Gd.len (G : Gd n w) : w.1.length ≤ n := nodup_lt G.nd G.lt
theorem Gd.pos (G : Gd n w) : 1 ≤ w.1.length := List.length_pos_iff.mpr G.ne
theorem mem_exts {y : Wy} : y ∈ exts nb w ↔ ∃ q ∈ nb (lst w.1), q.1 ∉ w.1 ∧ y = (w.1 ++ [q.1], w.2 + q.2) := by
  unfold exts
  simp only [List.mem_map, List.mem_filter, Bool.not_eq_true', List.contains_eq_mem, decide_eq_false_iff_not]
  constructor
  · rintro ⟨q, ⟨h1, h2⟩, rfl⟩
    exact ⟨q, h1, h2, rfl⟩
  · rintro ⟨q, h1, h2, rfl⟩
    exact ⟨q, ⟨h1, h2⟩, rfl⟩
theorem exts_gd (O : NbOk n nb) (G : Gd n w) {y : Wy} (hy : y ∈ exts nb w) : Gd n y ∧ y.1.length = w.1.length + 1 := by
  obtain ⟨q, h1, h2, rfl⟩ := mem_exts.mp hy
  refine ⟨⟨by simp, ?_, fun v hv => ?_⟩, by simp⟩
  · rw [List.nodup_append]
    refine ⟨G.nd, by simp, fun a ha b hb e => ?_⟩
    rw [List.mem_singleton] at hb
    rw [e, hb] at ha
    exact h2 ha
  · rcases List.mem_append.mp hv with hv | hv
    · exact G.lt v hv
    · rw [List.mem_singleton] at hv
      rw [hv]
      exact O.lt _ _ h1
theorem exts_len (O : NbOk n nb) (G : Gd n w) : (exts nb w).length + w.1.length ≤ n := by
  have h : (((nb (lst w.1)).filter fun q => !w.1.contains q.1).map (·.1) ++ w.1).length ≤ n := by
    refine nodup_lt ?_ fun v hv => ?_
    · rw [List.nodup_append]
      refine ⟨?_, G.nd, fun a ha b hb e => ?_⟩
      · have := O.nd (lst w.1)
        rw [List.Nodup, List.pairwise_map] at this ⊢
        exact this.filter _
      · obtain ⟨q, hq, rfl⟩ := List.mem_map.mp ha
        have := (List.mem_filter.mp hq).2
        rw [e] at this
        simp [hb] at this
    · rcases List.mem_append.mp hv with hv | hv
      · obtain ⟨q, hq, rfl⟩ := List.mem_map.mp hv
        exact O.lt _ _ (List.mem_filter.mp hq).1
      · exact G.lt v hv
  rw [List.length_append, List.length_map] at h
  unfold exts
  rw [List.length_map]
  exact h
theorem lev_nil (k : Nat) : lev nb k [] = [] := by
  induction k with
  | zero => rfl
  | succ k ih => simp [lev, ih]
theorem lev_stab (O : NbOk n nb) : ∀ (k : Nat) {l : List Wy}, (∀ w ∈ l, Gd n w ∧ n < w.1.length + k) → lev nb (k + 1) l = lev nb k l
  | 0, l, h => by
    match l, h with
    | [], _ => exact lev_nil 1
    | w :: l, h => exact absurd (h w List.mem_cons_self) fun ⟨a, b⟩ => by have := a.len; omega
  | k + 1, l, h => by
    show l ++ lev nb (k + 1) (l.flatMap (exts nb)) = l ++ lev nb k (l.flatMap (exts nb))
    rw [lev_stab O k fun y hy => ?_]
    obtain ⟨w, hw, hy⟩ := List.mem_flatMap.mp hy
    obtain ⟨a, b⟩ := exts_gd O (h w hw).1 hy
    exact ⟨a, by have := (h w hw).2; omega⟩
theorem lev_app : ∀ (k : Nat) (a b : List Wy), (lev nb k (a ++ b)).Perm (lev nb k a ++ lev nb k b)
  | 0, _, _ => .refl _
  | k + 1, a, b => by
    have ih := lev_app k (a.flatMap (exts nb)) (b.flatMap (exts nb))
    show ((a ++ b) ++ lev nb k ((a ++ b).flatMap (exts nb))).Perm ((a ++ lev nb k (a.flatMap (exts nb))) ++ (b ++ lev nb k (b.flatMap (exts nb))))
    rw [List.flatMap_append]
    refine ((List.Perm.refl (a ++ b)).append ih).trans (List.perm_iff_count.mpr fun x => ?_)
    simp only [List.count_append]
    omega
theorem mem_lev : ∀ {k : Nat} {l : List Wy} {y : Wy}, y ∈ lev nb k l → ∃ x ∈ l, x.2 ≤ y.2 ∧ ∃ s, y.1 = x.1 ++ s
  | 0, l, y, h => by cases h
  | k + 1, l, y, h => by
    rcases List.mem_append.mp h with h | h
    · exact ⟨y, h, Nat.le_refl _, [], by simp⟩
    · obtain ⟨x', hx', h1, s, h2⟩ := mem_lev h
      obtain ⟨x, hx, h3⟩ := List.mem_flatMap.mp hx'
      obtain ⟨q, _, _, rfl⟩ := mem_exts.mp h3
      exact ⟨x, hx, Nat.le_trans (Nat.le_add_right _ _) h1, [q.1] ++ s, by rw [h2, List.append_assoc]⟩
theorem lev_all (P : Wy → Prop) (hP : ∀ w, P w → ∀ y ∈ exts nb w, P y) : ∀ {k : Nat} {l : List Wy}, (∀ w ∈ l, P w) → ∀ y ∈ lev nb k l, P y
  | 0, l, _, y, h => by cases h
  | k + 1, l, hl, y, h => by
    rcases List.mem_append.mp h with h | h
    · exact hl y h
    · refine lev_all P hP (fun x hx => ?_) y h
      obtain ⟨w, hw, hx⟩ := List.mem_flatMap.mp hx
      exact hP w (hl w hw) x hx
theorem lev_gd (O : NbOk n nb) {k : Nat} {l : List Wy} (h : ∀ w ∈ l, Gd n w) : ∀ y ∈ lev nb k l, Gd n y := lev_all (Gd n) (fun w G y hy => (exts_gd O G hy).1) h
theorem lev_step : ∀ {k : Nat} {l : List Wy} {y z : Wy}, y ∈ lev nb k l → z ∈ exts nb y → z ∈ lev nb (k + 1) l
  | 0, l, y, z, h, _ => by cases h
  | k + 1, l, y, z, h, hz => by
    rcases List.mem_append.mp h with h | h
    · refine List.mem_append.mpr (.inr ?_)
      show z ∈ l.flatMap (exts nb) ++ _
      exact List.mem_append.mpr (.inl (List.mem_flatMap.mpr ⟨y, h, hz⟩))
    · exact List.mem_append.mpr (.inr (lev_step h hz))
/-! weights -/
def wtF : Nat → Nat
  | 0 => 1
  | d + 1 => 1 + (d + 1) * wtF d
def wts (l : List Wy) : Nat := (l.map fun w => wtF (6 - w.1.length)).sum
theorem wts_app (a b : List Wy) : wts (a ++ b) = wts a + wts b := by simp [wts]
theorem wtF_pos (d : Nat) : 1 ≤ wtF d := by cases d <;> simp [wtF]
theorem wts_filter (f : Wy → Bool) : ∀ l : List Wy, wts (l.filter f) ≤ wts l
  | [] => Nat.le_refl _
  | a :: l => by
    have ih := wts_filter f l
    rw [List.filter_cons]
    unfold wts at ih ⊢
    split
    · simp only [List.map_cons, List.sum_cons]
      omega
    · simp only [List.map_cons, List.sum_cons]
      omega
theorem sum_const {A : Type} {f : A → Nat} {c : Nat} : ∀ {l : List A}, (∀ a ∈ l, f a = c) → (l.map f).sum = l.length * c
  | [], _ => by simp
  | a :: l, h => by
    rw [List.map_cons, List.sum_cons, List.length_cons, Nat.succ_mul, sum_const (l := l) fun b hb => h b (List.mem_cons_of_mem _ hb), h a List.mem_cons_self, Nat.add_comm]
theorem exts_wt (O : NbOk n nb) (hn : n ≤ 6) (G : Gd n w) : wts (exts nb w) + 1 ≤ wtF (6 - w.1.length) := by
  have h1 := exts_len O G
  have h2 : wts (exts nb w) = (exts nb w).length * wtF (6 - (w.1.length + 1)) := sum_const fun y hy => by rw [(exts_gd O G hy).2]
  rw [h2]
  cases e : 6 - w.1.length with
  | zero =>
    have : (exts nb w).length = 0 := by omega
    rw [this]
    simp [wtF]
  | succ d =>
    have e2 : 6 - (w.1.length + 1) = d := by omega
    rw [e2]
    have : (exts nb w).length * wtF d ≤ (d + 1) * wtF d := Nat.mul_le_mul_right _ (by omega)
    simp only [wtF]
    omega
theorem flat_wt (O : NbOk n nb) (hn : n ≤ 6) : ∀ {l : List Wy}, (∀ w ∈ l, Gd n w) → wts (l.flatMap (exts nb)) + l.length ≤ wts l
  | [], _ => Nat.le_refl _
  | w :: l, h => by
    have h1 := exts_wt O hn (h w List.mem_cons_self)
    have h2 := flat_wt O hn (l := l) fun y hy => h y (List.mem_cons_of_mem _ hy)
    rw [List.flatMap_cons, wts_app, List.length_cons]
    show _ ≤ ((w :: l).map _).sum
    rw [List.map_cons, List.sum_cons]
    unfold wts at h1 h2 ⊢
    omega
theorem lev_wt (O : NbOk n nb) (hn : n ≤ 6) : ∀ (k : Nat) {l : List Wy}, (∀ w ∈ l, Gd n w) → (lev nb k l).length ≤ wts l
  | 0, l, _ => Nat.zero_le _
  | k + 1, l, h => by
    have h1 := flat_wt O hn h
    have h2 := lev_wt O hn k (l := l.flatMap (exts nb)) fun y hy => by
      obtain ⟨w, hw, hy⟩ := List.mem_flatMap.mp hy
      exact (exts_gd O (h w hw) hy).1
    show (l ++ _).length ≤ _
    rw [List.length_append]
    omega
/-! the search with a row of ways still to go on with -/
def tgtP (e most : Nat) (w : Wy) : Bool := decide (lst w.1 = e) && decide (w.2 ≤ most)
def FF (nb : Nat → List (Nat × Nat)) (e most k : Nat) (l : List Wy) : List Wy := (lev nb k l).filter (tgtP e most)
variable {e most k : Nat}
theorem FF_app (a b : List Wy) : (FF nb e most k (a ++ b)).Perm (FF nb e most k a ++ FF nb e most k b) := by
  unfold FF
  rw [← List.filter_append]
  exact (lev_app k a b).filter _
theorem FF_late {x : Wy} (h : most < x.2) : FF nb e most k [x] = [] := by
  unfold FF
  rw [List.filter_eq_nil_iff]
  intro y hy
  obtain ⟨x', hx', h1, _⟩ := mem_lev hy
  rw [List.mem_singleton] at hx'
  subst hx'
  simp only [tgtP, Bool.and_eq_true, decide_eq_true_eq, not_and]
  omega
theorem FF_push : ∀ (l : List Wy), (FF nb e most k l).Perm (FF nb e most k (l.filter fun q => decide (q.2 ≤ most)))
  | [] => .refl _
  | x :: l => by
    have ih := FF_push l
    have h1 : (FF nb e most k (x :: l)).Perm (FF nb e most k [x] ++ FF nb e most k l) := FF_app [x] l
    by_cases h : x.2 ≤ most
    · rw [List.filter_cons_of_pos (by simpa using h)]
      exact h1.trans (((List.Perm.refl _).append ih).trans (FF_app [x] _).symm)
    · rw [List.filter_cons_of_neg (by simpa using h)]
      rw [FF_late (by omega)] at h1
      exact h1.trans ih
theorem FF_one (O : NbOk n nb) (hn : n < w.1.length + 1 + k) (G : Gd n w) (hw : w.2 ≤ most) : (FF nb e most (k + 1) [w]).Perm (if lst w.1 = e then [w] else FF nb e most (k + 1) ((exts nb w).filter fun q => decide (q.2 ≤ most))) := by
  have h0 : FF nb e most (k + 1) [w] = ([w].filter (tgtP e most)) ++ FF nb e most k (exts nb w) := by
    unfold FF
    show (([w] ++ lev nb k ([w].flatMap (exts nb))).filter _) = _
    rw [List.filter_append]
    simp
  rw [h0]
  by_cases h : lst w.1 = e
  · rw [if_pos h]
    have h2 : FF nb e most k (exts nb w) = [] := by
      unfold FF
      rw [List.filter_eq_nil_iff]
      intro y hy
      have hG := lev_gd O (fun x hx => (exts_gd O G hx).1) y hy
      obtain ⟨x, hx, _, s, hs⟩ := mem_lev hy
      obtain ⟨q, _, _, rfl⟩ := mem_exts.mp hx
      have hs : y.1 = w.1 ++ (q.1 :: s) := by rw [hs, List.append_assoc]; rfl
      have h3 : lst y.1 ∈ q.1 :: s := by
        rw [hs, lst_app_ne (by simp)]
        exact lst_mem (by simp)
      have h4 : e ∈ w.1 := h ▸ lst_mem G.ne
      have nd := hG.nd
      rw [hs, List.nodup_append] at nd
      simp only [tgtP, Bool.and_eq_true, decide_eq_true_eq, not_and]
      exact fun e2 => (nd.2.2 e h4 _ h3 e2.symm).elim
    rw [h2]
    simp [tgtP, h, hw]
  · rw [if_neg h]
    have h2 : [w].filter (tgtP e most) = [] := by simp [tgtP, h]
    rw [h2, List.nil_append]
    have h3 : FF nb e most k (exts nb w) = FF nb e most (k + 1) (exts nb w) := by
      unfold FF
      rw [lev_stab O k fun y hy => ?_]
      obtain ⟨a, b⟩ := exts_gd O G hy
      exact ⟨a, by omega⟩
    rw [h3]
    exact FF_push _
end
end M.T

set_option Elab.async false
set_option linter.all false
set_option maxRecDepth 100000
set_option maxHeartbeats 1000000
namespace M.T
/-! ways and shortest times -/
theorem lev_sub {nb : Nat → List (Nat × Nat)} : ∀ {k : Nat} {l : List Wy} {y : Wy}, y ∈ lev nb k l → y ∈ lev nb (k + 1) l
  | 0, l, y, h => by cases h
  | k + 1, l, y, h => by
    rcases List.mem_append.mp h with h | h
    · exact List.mem_append.mpr (.inl h)
    · exact List.mem_append.mpr (.inr (lev_sub h))
theorem lev_six {n : Nat} {nb : Nat → List (Nat × Nat)} (O : NbOk n nb) (hn : n ≤ 6) {l : List Wy} (h : ∀ w ∈ l, Gd n w) : ∀ (k : Nat) {y : Wy}, y ∈ lev nb k l → y ∈ lev nb 6 l := fun k => by
  have up : ∀ j, lev nb (6 + j) l = lev nb 6 l := fun j => by
    induction j with
    | zero => rfl
    | succ j ih =>
      rw [show 6 + (j + 1) = (6 + j) + 1 by omega, lev_stab O (6 + j) fun w hw => ⟨h w hw, by have := (h w hw).pos; omega⟩, ih]
  intro y hy
  rcases Nat.lt_or_ge k 6 with hk | hk
  · have : ∀ j, y ∈ lev nb (k + j) l := fun j => by
      induction j with
      | zero => exact hy
      | succ j ih => exact lev_sub ih
    have := this (6 - k)
    rwa [show k + (6 - k) = 6 by omega] at this
  · have := up (k - 6)
    rw [show 6 + (k - 6) = k by omega] at this
    rwa [this] at hy
section
variable {n s : Nat} {E : Nat → Nat → Nat → Prop} {nb : Nat → List (Nat × Nat)}
def WI (E : Nat → Nat → Nat → Prop) (s : Nat) (y : Wy) : Prop := y.1 ≠ [] ∧ Wlk E s (lst y.1) y.2 ∧ ∀ x ∈ y.1, ∃ d, d ≤ y.2 ∧ Wlk E s x d
theorem wi_one : WI E s ([s], 0) := ⟨by simp, .nil, fun x hx => by
  rw [List.mem_singleton] at hx
  rw [hx]
  exact ⟨0, Nat.le_refl _, .nil⟩⟩
theorem wi_ext (hE : ∀ u v t, (v, t) ∈ nb u → E u v t) {w : Wy} (h : WI E s w) : ∀ y ∈ exts nb w, WI E s y := fun y hy => by
  obtain ⟨q, h1, h2, rfl⟩ := mem_exts.mp hy
  have hw := h.2.1.snoc (hE _ _ _ h1)
  refine ⟨by simp, ?_, fun x hx => ?_⟩
  · show Wlk E s (lst (w.1 ++ [q.1])) (w.2 + q.2)
    rw [lst_app]
    exact hw
  · rcases List.mem_append.mp hx with hx | hx
    · obtain ⟨d, h3, h4⟩ := h.2.2 x hx
      exact ⟨d, Nat.le_trans h3 (Nat.le_add_right _ _), h4⟩
    · rw [List.mem_singleton] at hx
      rw [hx]
      exact ⟨_, Nat.le_refl _, hw⟩
theorem gd_one {n s : Nat} (h : s < n) : Gd n ([s], 0) := ⟨by simp, by simp, fun v hv => by
  rw [List.mem_singleton] at hv
  rw [hv]
  exact h⟩
theorem least_ex (hE : ∀ u v t, (v, t) ∈ nb u ↔ E u v t) {T : Mp} (C : Closed E T) (I : Inv n E s T) (O : EOk n E) : ∀ (d : Nat) {v : Nat}, lk T v = some d → ∃ k, ∃ y ∈ lev nb k [([s], 0)], lst y.1 = v ∧ y.2 = d := fun d => by
  induction d using Nat.strongRecOn with
  | ind d ih =>
    intro v h
    rcases pred_of C I O h with rfl | ⟨u, d', t, h1, h2, rfl⟩
    · have h0 := I.st
      rw [h] at h0
      cases h0
      exact ⟨1, ([v], 0), by simp [lev], rfl, rfl⟩
    · have ht := (O.t1 _ _ _ h2).1
      obtain ⟨k, y, hy, e1, e2⟩ := ih d' (by omega) h1
      have hW := lev_all (WI E s) (fun w hw => wi_ext (fun u v t h => (hE u v t).mp h) hw) (fun w hw => by
        rw [List.mem_singleton] at hw
        rw [hw]
        exact wi_one) y hy
      refine ⟨k + 1, (y.1 ++ [v], y.2 + t), lev_step hy (mem_exts.mpr ⟨(v, t), by rw [e1]; exact (hE _ _ _).mpr h2, fun hv => ?_, rfl⟩), lst_app _ _, by show y.2 + t = _; rw [e2]⟩
      obtain ⟨x, h3, h4⟩ := hW.2.2 v hv
      obtain ⟨f, h5, h6⟩ := closed_le C I.st h4
      rw [h] at h5
      cases h5
      omega
/-- the least time of all ways -/
theorem least_time (hE : ∀ u v t, (v, t) ∈ nb u ↔ E u v t) (N : NbOk n nb) (hn : n ≤ 6) (hs : s < n) {T : Mp} (C : Closed E T) (I : Inv n E s T) (O : EOk n E) (e : Nat) :
    (lk T e = none → ∀ y ∈ lev nb 6 [([s], 0)], lst y.1 ≠ e) ∧ ∀ d, lk T e = some d → (∃ y ∈ lev nb 6 [([s], 0)], lst y.1 = e ∧ y.2 = d) ∧ ∀ y ∈ lev nb 6 [([s], 0)], lst y.1 = e → d ≤ y.2 := by
  have hW := lev_all (k := 6) (nb := nb) (WI E s) (fun w hw => wi_ext (fun u v t h => (hE u v t).mp h) hw) (l := [([s], 0)]) (fun w hw => by
    rw [List.mem_singleton] at hw
    rw [hw]
    exact wi_one)
  refine ⟨fun h y hy e1 => ?_, fun d h => ⟨?_, fun y hy e1 => ?_⟩⟩
  · obtain ⟨f, h1, _⟩ := closed_le C I.st (hW y hy).2.1
    rw [e1, h] at h1
    cases h1
  · obtain ⟨k, y, h1, h2⟩ := least_ex hE C I O d h
    exact ⟨y, lev_six N hn (fun w hw => by
      rw [List.mem_singleton] at hw
      rw [hw]
      exact gd_one hs) k h1, h2⟩
  · obtain ⟨f, h1, h2⟩ := closed_le C I.st (hW y hy).2.1
    rw [e1, h] at h1
    cases h1
    exact h2
end
/-! the time of a way -/
def tb (es : List Op) (u v : Nat) : Nat := ((es.find? fun e => decide (e.1 = min u v ∧ e.2.1 = max u v)).map (·.2.2)).getD 0
theorem tb_of {hs : List Int} {es : List Op} (K : NetOk hs es) {u v t : Nat} (h : Ed es u v t) : tb es u v = t := by
  have hm : (min u v, max u v, t) ∈ es := by
    rcases h with h | h
    · have : u < v ∧ v < hs.length ∧ 1 ≤ t ∧ t ≤ 9 := K.eb _ h
      rwa [show min u v = u by omega, show max u v = v by omega]
    · have : v < u ∧ u < hs.length ∧ 1 ≤ t ∧ t ≤ 9 := K.eb _ h
      rwa [show min u v = v by omega, show max u v = u by omega]
  unfold tb
  cases e : es.find? fun e => decide (e.1 = min u v ∧ e.2.1 = max u v) with
  | none =>
    have := List.find?_eq_none.mp e _ hm
    simp at this
  | some x =>
    have h1 := List.mem_of_find?_eq_some e
    have h2 : x.1 = min u v ∧ x.2.1 = max u v := by simpa using List.find?_some e
    have up : es.Pairwise fun a b => a.1 < b.1 ∨ (a.1 = b.1 ∧ a.2.1 < b.2.1) := K.up
    have : x = (min u v, max u v, t) := by
      obtain ⟨i, hi, e1⟩ := List.getElem_of_mem h1
      obtain ⟨j, hj, e2⟩ := List.getElem_of_mem hm
      rcases Nat.lt_trichotomy i j with z | z | z
      · have := List.pairwise_iff_getElem.mp up i j hi hj z
        rw [e1, e2] at this
        simp only at this
        omega
      · subst z
        rw [← e1, ← e2]
      · have := List.pairwise_iff_getElem.mp up j i hj hi z
        rw [e1, e2] at this
        simp only at this
        omega
    rw [this]
    rfl
theorem tb_pos {hs : List Int} {es : List Op} (K : NetOk hs es) (u v : Nat) : 0 < tb es u v ↔ ∃ e ∈ es, e.1 = min u v ∧ e.2.1 = max u v := by
  unfold tb
  cases e : es.find? fun e => decide (e.1 = min u v ∧ e.2.1 = max u v) with
  | none =>
    simp only [Option.map_none, Option.getD_none]
    constructor
    · omega
    · rintro ⟨x, hx, h⟩
      have := List.find?_eq_none.mp e x hx
      simp [h] at this
  | some x =>
    have h1 := List.mem_of_find?_eq_some e
    have h2 : x.1 = min u v ∧ x.2.1 = max u v := by simpa using List.find?_some e
    have h3 := (K.eb x h1).2.2.1
    simp only [Option.map_some, Option.getD_some]
    exact ⟨fun _ => ⟨x, h1, h2⟩, fun _ => by omega⟩
def stp (es : List Op) (w : List Nat) (i : Nat) : Nat := tb es (w.getD i 0) (w.getD (i + 1) 0)
def tmW (es : List Op) (w : List Nat) : Nat := ((List.range (w.length - 1)).map (stp es w)).sum
def okW (es : List Op) (w : List Nat) : Bool := (List.range (w.length - 1)).all fun i => decide (0 < stp es w i)
theorem getD_app {w : List Nat} {q i : Nat} (h : i < w.length) : (w ++ [q]).getD i 0 = w.getD i 0 := by
  rw [List.getD_eq_getElem?_getD, List.getD_eq_getElem?_getD, List.getElem?_append_left h]
theorem stp_snoc {es : List Op} {w : List Nat} {q i : Nat} (h : i < w.length - 1) : stp es (w ++ [q]) i = stp es w i := by
  unfold stp
  rw [getD_app (by omega), getD_app (by omega)]
theorem stp_last {es : List Op} {w : List Nat} {q : Nat} (h : w ≠ []) : stp es (w ++ [q]) (w.length - 1) = tb es (lst w) q := by
  have hl := List.length_pos_iff.mpr h
  unfold stp
  rw [getD_app (by omega), show w.length - 1 + 1 = w.length by omega]
  congr 1
  · unfold lst
    rw [List.getLast?_eq_getElem?, List.getD_eq_getElem?_getD]
  · rw [List.getD_eq_getElem?_getD]
    simp
theorem rng_snoc {w : List Nat} {q : Nat} (h : w ≠ []) : List.range ((w ++ [q]).length - 1) = List.range (w.length - 1) ++ [w.length - 1] := by
  have hl := List.length_pos_iff.mpr h
  rw [List.length_append, List.length_singleton, show w.length + 1 - 1 = (w.length - 1) + 1 by omega, List.range_succ]
theorem tmW_snoc {es : List Op} {w : List Nat} {q : Nat} (h : w ≠ []) : tmW es (w ++ [q]) = tmW es w + tb es (lst w) q := by
  unfold tmW
  rw [rng_snoc h, List.map_append, List.sum_append]
  congr 1
  · exact congrArg List.sum (List.map_congr_left fun i hi => stp_snoc (List.mem_range.mp hi))
  · simp [stp_last h]
theorem okW_snoc {es : List Op} {w : List Nat} {q : Nat} (h : w ≠ []) : okW es (w ++ [q]) = (okW es w && decide (0 < tb es (lst w) q)) := by
  unfold okW
  rw [rng_snoc h, List.all_append]
  congr 1
  · rw [Bool.eq_iff_iff, List.all_eq_true, List.all_eq_true]
    exact ⟨fun z i hi => by rw [← stp_snoc (q := q) (List.mem_range.mp hi)]; exact z i hi, fun z i hi => by rw [stp_snoc (List.mem_range.mp hi)]; exact z i hi⟩
  · simp [stp_last h]
def TI (es : List Op) (y : Wy) : Prop := y.1 ≠ [] ∧ y.2 = tmW es y.1 ∧ okW es y.1 = true
theorem ti_ext {hs : List Int} {es : List Op} (K : NetOk hs es) {w : Wy} (h : TI es w) : ∀ y ∈ exts (nearL es hs.length) w, TI es y := fun y hy => by
  obtain ⟨q, h1, h2, rfl⟩ := mem_exts.mp hy
  have he : Ed es (lst w.1) q.1 q.2 := (mem_near K).mp h1
  have h3 := (K.e.t1 _ _ _ he).1
  refine ⟨by simp, ?_, ?_⟩
  · show w.2 + q.2 = tmW es (w.1 ++ [q.1])
    rw [tmW_snoc h.1, tb_of K he, h.2.1]
  · show okW es (w.1 ++ [q.1]) = true
    rw [okW_snoc h.1, tb_of K he, h.2.2, Bool.true_and, decide_eq_true_eq]
    exact h3
theorem ti_lev {hs : List Int} {es : List Op} (K : NetOk hs es) (s k : Nat) : ∀ y ∈ lev (nearL es hs.length) k [([s], 0)], TI es y := lev_all (TI es) (fun w hw => ti_ext K hw) fun w hw => by
  rw [List.mem_singleton] at hw
  rw [hw]
  exact ⟨by simp, rfl, rfl⟩
end M.T

set_option Elab.async false
set_option linter.all false
set_option maxRecDepth 100000
set_option maxHeartbeats 2000000
namespace M.T
open PySem PySem.Spec PyProof.Rows L2
/-! tuples of ints: sorted, the least; times with such tuples -/
def tI (ns : List Int) : D := .tup (ns.map D.int)
theorem toPys_ints (ns : List Int) : toPys (ns.map D.int) = ns.map PyData.int := by
  rw [toPys_map, List.map_map]
  exact List.map_congr_left fun n _ => by simp [toPy]
theorem toPy_tI (ns : List Int) : toPy (tI ns) = .tuple (ns.map PyData.int) := by
  simp only [tI, toPy, toPys_ints]
theorem tI_inj {a b : List Int} (h : tI a = tI b) : a = b := by
  have h : a.map D.int = b.map D.int := D.tup.inj h
  exact List.map_inj_right (fun x y e => D.int.inj e) |>.mp h
theorem lt_tI (a b : List Int) : PySem.W.dataLt (toPy (tI a)) (toPy (tI b)) = decide (a < b) := by
  rw [toPy_tI, toPy_tI, PySem.W.dataLt_tuple]
  exact PySem.W.dataLt_ints a b
theorem leI_not (a b : List Int) : (!decide (b < a)) = decide (a ≤ b) := by
  rw [Bool.eq_iff_iff, Bool.not_eq_true', decide_eq_false_iff_not, decide_eq_true_eq, List.not_lt]
theorem leY_tI (a b : List Int) : leY (tI a) (tI b) = decide (a ≤ b) := by
  show (!PySem.W.dataLt (toPy (tI b)) (toPy (tI a))) = _
  rw [lt_tI, leI_not]
theorem alikeI : ∀ a b : List Int, PySem.W.alikeAll (a.map .int) (b.map .int) = true
  | [], b => by cases b <;> simp [PySem.W.alikeAll]
  | _ :: _, [] => by simp [PySem.W.alikeAll]
  | x :: a, y :: b => by
    rw [List.map_cons, List.map_cons]
    simp only [PySem.W.alikeAll, PySem.W.alike, alikeI a b, Bool.and_self]
theorem alike_tI (a b : List Int) : PySem.W.alike (toPy (tI a)) (toPy (tI b)) = true := by
  rw [toPy_tI, toPy_tI]
  simp only [PySem.W.alike, alikeI]
theorem dat_tI (n : Nat) (a : List Int) : dat (n + 1) (tI a) = true := by
  simp only [tI, dat]
  exact dats_of fun d hd => by
    obtain ⟨i, _, rfl⟩ := List.mem_map.mp hd
    cases n <;> rfl
theorem sortB_of {A : Type} {f : A → D} {l : List A} (hd : ∀ a ∈ l, dat 63 (f a) = true) (ha : ∀ a ∈ l, ∀ b ∈ l, PySem.W.alike (toPy (f a)) (toPy (f b)) = true) (ht : ∀ a ∈ l, tupB (f a) = true) (hl : l.length ≤ 1000) : sortB (l.map f) = true := by
  simp only [sortB, Bool.and_eq_true, decide_eq_true_eq, Bool.or_eq_true]
  refine ⟨⟨⟨dats_of fun d hx => ?_, ?_⟩, .inl ?_⟩, ?_⟩
  · obtain ⟨n, hn, rfl⟩ := List.mem_map.mp hx
    exact hd n hn
  · simp only [alksD, List.all_eq_true]
    intro x hx y hy
    obtain ⟨n, hn, rfl⟩ := List.mem_map.mp hx
    obtain ⟨m, hm, rfl⟩ := List.mem_map.mp hy
    exact ha n hn m hm
  · rw [List.all_eq_true]
    intro x hx
    obtain ⟨n, hn, rfl⟩ := List.mem_map.mp hx
    exact ht n hn
  · rw [List.length_map]; exact small hl
theorem sortB_tI {l : List (List Int)} (ne : ∀ a ∈ l, a ≠ []) (hl : l.length ≤ 1000) : sortB (l.map tI) = true :=
  sortB_of (fun a _ => dat_tI 62 a) (fun a _ b _ => alike_tI a b) (fun a ha => by
    match a, ne a ha with
    | x :: r, _ => rfl) hl
def leL (a b : List Int) : Bool := decide (a ≤ b)
def srtL (l : List (List Int)) : List (List Int) := l.mergeSort leL
theorem leL_trans (a b c : List Int) (h : leL a b = true) (h' : leL b c = true) : leL a c = true := by
  unfold leL at h h' ⊢
  rw [decide_eq_true_eq] at *
  exact List.le_trans h h'
theorem leL_total (a b : List Int) : (leL a b || leL b a) = true := by
  unfold leL
  rw [Bool.or_eq_true, decide_eq_true_eq, decide_eq_true_eq]
  exact List.le_total a b
theorem srtL_perm {l m : List (List Int)} (h : l.Perm m) : srtL l = srtL m := by
  refine ((List.mergeSort_perm l leL).trans (h.trans (List.mergeSort_perm m leL).symm)).eq_of_pairwise (le := fun a b => leL a b = true) (fun a b _ _ q1 q2 => ?_) (List.pairwise_mergeSort leL_trans leL_total l) (List.pairwise_mergeSort leL_trans leL_total m)
  unfold leL at q1 q2
  rw [decide_eq_true_eq] at q1 q2
  exact List.le_antisymm q1 q2
theorem srt_tI {l : List (List Int)} (ne : ∀ a ∈ l, a ≠ []) (hl : l.length ≤ 1000) : srtU (.lst (l.map tI)) = some (.lst ((srtL l).map tI)) := by
  show (if sortB (l.map tI) = true then some (D.lst ((l.map tI).mergeSort leY)) else none) = _
  rw [if_pos (sortB_tI ne hl)]
  unfold srtL
  rw [List.map_mergeSort (f := tI) (r := leL) (s := leY) (fun a _ b _ => (leY_tI a b).symm)]
/-- sorted of any sortable data gives the same things -/
theorem srt_any {A : Type} {f : A → D} {l : List A} (h : sortB (l.map f) = true) : ∃ m : List A, srtU (.lst (l.map f)) = some (.lst (m.map f)) ∧ m.Perm l := by
  refine ⟨l.mergeSort fun a b => leY (f a) (f b), ?_, List.mergeSort_perm _ _⟩
  show (if sortB (l.map f) = true then some (D.lst ((l.map f).mergeSort leY)) else none) = _
  rw [if_pos h, ← List.map_mergeSort (f := f) (r := fun a b => leY (f a) (f b)) (s := leY) (fun a _ b _ => rfl)]
/-- the least -/
theorem mn_any {A : Type} (f : A → D) : ∀ (xs : List A) (x : A), ∃ b, b ∈ x :: xs ∧ mnD (f x) (xs.map f) = f b ∧ ∀ y ∈ x :: xs, leY (f b) (f y) = true
  | [], x => ⟨x, List.mem_cons_self, rfl, fun y hy => by
    rw [List.mem_singleton] at hy
    rw [hy]
    exact (leY_total.total (f x) (f x)).elim id id⟩
  | z :: xs, x => by
    have e : mnD (f x) ((z :: xs).map f) = mnD (if PySem.W.dataLt (toPy (f z)) (toPy (f x)) then f z else f x) (xs.map f) := rfl
    cases h : PySem.W.dataLt (toPy (f z)) (toPy (f x)) with
    | true =>
      obtain ⟨b, h1, h2, h3⟩ := mn_any f xs z
      rw [h] at e
      have hzx : leY (f z) (f x) = true := (leY_total.total (f z) (f x)).elim id fun q => by
        have q : (!PySem.W.dataLt (toPy (f z)) (toPy (f x))) = true := q
        rw [h] at q
        cases q
      refine ⟨b, List.mem_cons_of_mem _ h1, e.trans h2, fun y hy => ?_⟩
      rcases List.mem_cons.mp hy with rfl | hy
      · exact leY_total.trans _ _ _ (h3 z List.mem_cons_self) hzx
      · exact h3 y hy
    | false =>
      obtain ⟨b, h1, h2, h3⟩ := mn_any f xs x
      rw [h] at e
      have hxz : leY (f x) (f z) = true := by
        show (!PySem.W.dataLt (toPy (f z)) (toPy (f x))) = true
        rw [h]
        rfl
      refine ⟨b, ?_, e.trans h2, fun y hy => ?_⟩
      · rcases List.mem_cons.mp h1 with rfl | h1
        · exact List.mem_cons_self
        · exact List.mem_cons_of_mem _ (List.mem_cons_of_mem _ h1)
      · rcases List.mem_cons.mp hy with rfl | hy
        · exact h3 _ List.mem_cons_self
        · rcases List.mem_cons.mp hy with rfl | hy
          · exact leY_total.trans _ _ _ (h3 x List.mem_cons_self) hxz
          · exact h3 y (List.mem_cons_of_mem _ hy)
theorem min_any {A : Type} {f : A → D} {l : List A} (hd : ∀ a ∈ l, dat 63 (f a) = true) (ha : ∀ a ∈ l, ∀ b ∈ l, PySem.W.alike (toPy (f a)) (toPy (f b)) = true) (hn : ∀ a ∈ l, f a ≠ .non) (ne : l ≠ []) : ∃ b ∈ l, mx1 mnD (.lst (l.map f)) = some (f b) ∧ ∀ y ∈ l, leY (f b) (f y) = true := by
  match l, ne with
  | x :: xs, _ =>
    obtain ⟨b, h1, h2, h3⟩ := mn_any f xs x
    refine ⟨b, h1, ?_, h3⟩
    have : mxB (f x :: xs.map f) = true := by
      rw [← List.map_cons]
      simp only [mxB, Bool.and_eq_true]
      refine ⟨⟨dats_of fun d hx => ?_, ?_⟩, ?_⟩
      · obtain ⟨n, hn, rfl⟩ := List.mem_map.mp hx
        exact hd n hn
      · simp only [alksD, List.all_eq_true]
        intro u hu v hv
        obtain ⟨n, hn, rfl⟩ := List.mem_map.mp hu
        obtain ⟨m, hm, rfl⟩ := List.mem_map.mp hv
        exact ha n hn m hm
      · rw [List.all_eq_true]
        intro u hu
        obtain ⟨n, hn', rfl⟩ := List.mem_map.mp hu
        have := hn n hn'
        cases e : f n <;> simp_all
    show (if mxB (f x :: xs.map f) = true then some (mnD (f x) (xs.map f)) else none) = _
    rw [if_pos this, h2]
theorem eqvI : ∀ a b : List Int, PyData.eqvAll (a.map .int) (b.map .int) = decide (a = b)
  | [], [] => by simp [PyData.eqvAll]
  | [], _ :: _ => by simp [PyData.eqvAll]
  | _ :: _, [] => by simp [PyData.eqvAll]
  | x :: a, y :: b => by
    rw [List.map_cons, List.map_cons]
    simp only [PyData.eqvAll, PyData.eqv, eqvI a b]
    rw [Bool.eq_iff_iff]
    simp
/-- a number and a tuple of ints -/
def nT (q : Int × List Int) : D := .tup [.int q.1, tI q.2]
theorem toPy_nT (q : Int × List Int) : toPy (nT q) = .tuple [.int q.1, .tuple (q.2.map .int)] := by
  simp only [nT, toPy, toPys, toPy_tI]
theorem leY_nT (p q : Int × List Int) : leY (nT p) (nT q) = decide (p.1 < q.1 ∨ (p.1 = q.1 ∧ p.2 ≤ q.2)) := by
  show (!PySem.W.dataLt (toPy (nT q)) (toPy (nT p))) = _
  rw [toPy_nT, toPy_nT, PySem.W.dataLt_pair (by simp [PySem.W.alike]) (by simp only [PySem.W.alike, alikeI])]
  simp only [PyData.eqv, eqvI, PySem.W.dataLt_int]
  by_cases h1 : q.1 = p.1
  · rw [if_pos (by simpa using h1)]
    by_cases h2 : q.2 = p.2
    · rw [if_pos (decide_eq_true h2), h1, h2]
      rw [decide_eq_true (.inr ⟨rfl, List.le_refl _⟩)]
      rfl
    · rw [if_neg (by simpa using h2), PySem.W.dataLt_tuple]
      show (!PySem.W.rowLt _ _) = _
      rw [PySem.W.dataLt_ints, leI_not]
      exact decide_eq_decide.mpr ⟨fun h => .inr ⟨h1.symm, h⟩, fun h => h.elim (fun z => by omega) (·.2)⟩
  · rw [if_neg (by simpa using h1)]
    rw [Bool.eq_iff_iff, Bool.not_eq_true', decide_eq_false_iff_not, decide_eq_true_eq]
    omega
theorem alike_nT (p q : Int × List Int) : PySem.W.alike (toPy (nT p)) (toPy (nT q)) = true := by
  rw [toPy_nT, toPy_nT]
  simp only [PySem.W.alike, PySem.W.alikeAll, alikeI, Bool.and_self]
theorem dat_nT (q : Int × List Int) : dat 63 (nT q) = true := by
  simp only [nT, dat, dats, dat_tI, Bool.and_self]
end M.T

set_option Elab.async false
set_option linter.all false
set_option maxRecDepth 100000
set_option maxHeartbeats 2000000
namespace M.T
open PySem PySem.Spec PyProof.Rows L2
/-! ways of a net as data -/
def wI (w : List Nat) : List Int := w.map fun v : Nat => (v : Int)
def wD (w : List Nat) : D := tI (wI w)
theorem wD_tup (w : List Nat) : wD w = .tup (w.map nI) := by
  unfold wD tI wI
  rw [List.map_map]
  rfl
theorem wI_inj {a b : List Nat} (h : wI a = wI b) : a = b := (List.map_inj_right fun x y e => by omega).mp h
theorem wI_ne {a : List Nat} (h : a ≠ []) : wI a ≠ [] := fun e => h (List.map_eq_nil_iff.mp e)
def wyD (y : Wy) : D := .tup [wD y.1, nI y.2]
theorem nb_ok {hs : List Int} {es : List Op} (K : NetOk hs es) : NbOk hs.length (nearL es hs.length) where
  lt := fun u q h => (K.e.lt _ _ _ ((mem_near K (t := q.2)).mp h)).2
  nd := fun u => by
    rw [List.Nodup, List.pairwise_map]
    exact (near_up K _ _).imp fun h => Nat.ne_of_lt h
theorem nb_len {hs : List Int} {es : List Op} (K : NetOk hs es) (u : Nat) : (nearL es hs.length u).length ≤ hs.length := by
  have := nodup_lt ((nb_ok K).nd u) fun k hk => by
    obtain ⟨q, hq, rfl⟩ := List.mem_map.mp hk
    exact (nb_ok K).lt u q hq
  simpa using this
theorem lst_split {w : List Nat} (h : w ≠ []) : w = w.dropLast ++ [lst w] := by
  have := (List.dropLast_concat_getLast h).symm
  unfold lst
  rw [List.getLast?_eq_some_getLast h]
  exact this
theorem ix_lst {w : List Nat} (h : w ≠ []) : ixD (wD w) (.int (-1)) = some (nI (lst w)) := by
  rw [wD_tup]
  show atI (w.map nI) (-1) = _
  have e : w.map nI = (w.dropLast).map nI ++ [nI (lst w)] := by
    conv => lhs; rw [lst_split h]
    rw [List.map_append]
    rfl
  rw [e]
  exact atI_last _ _
theorem wD_add {w : List Nat} {q : Nat} (h : w.length ≤ 900) : addD (wD w) (.tup [nI q]) = some (wD (w ++ [q])) := by
  rw [wD_tup, wD_tup]
  show (if (w.map nI).length + [nI q].length ≤ sizeLine then _ else _) = _
  rw [if_pos (by rw [List.length_map]; exact small (by simp; omega)), List.map_append]
  rfl
theorem flat_filter {A B : Type} (c : A → Bool) (g : A → B) : ∀ l : List A, (l.flatMap fun a => if c a = true then [g a] else []) = (l.filter c).map g
  | [] => rfl
  | a :: l => by
    rw [List.flatMap_cons, flat_filter c g l, List.filter_cons]
    split <;> simp
def stepW (y : Wy) (q : Nat × Nat) : Wy := (y.1 ++ [q.1], y.2 + q.2)
def cndW (most : Nat) (y : Wy) (q : Nat × Nat) : Bool := !y.1.contains q.1 && decide (y.2 + q.2 ≤ most)
theorem push_eq (nb : Nat → List (Nat × Nat)) (most : Nat) (y : Wy) : ((nb (lst y.1)).filter (cndW most y)).map (stepW y) = (exts nb y).filter fun q => decide (q.2 ≤ most) := by
  unfold exts
  rw [List.filter_map, List.filter_filter]
  refine congrArg (List.map (stepW y)) (List.filter_congr fun q _ => ?_)
  show _ = (decide (y.2 + q.2 ≤ most) && _)
  rw [Bool.and_comm]
  rfl
theorem add_run {Φ : Phi} {a b : E} {ρ : En} {p p1 p2 : Pot} {x y : Nat} (h1 : (den Φ a).e ρ p = .ok (nI x) p1) (h2 : (den Φ b).e ρ p1 = .ok (nI y) p2) : (den Φ (.bin .add a b)).e ρ p = .ok (nI (x + y)) p2 := by
  show ((den Φ a).e ρ p).bind (fun d p1 => ((den Φ b).e ρ p1).bind fun d2 p2 => ofO (addD d d2) p2) = _
  rw [h1]
  show ((den Φ b).e ρ p1).bind (fun d2 p2 => ofO (addD (nI x) d2) p2) = _
  rw [h2]
  show ofO (some (D.int ((x : Int) + (y : Int)))) p2 = _
  rw [← Int.natCast_add]
  rfl
theorem le_run {Φ : Phi} {a b : E} {ρ : En} {p p1 p2 : Pot} {x y : Nat} (h1 : (den Φ a).e ρ p = .ok (nI x) p1) (h2 : (den Φ b).e ρ p1 = .ok (nI y) p2) : (den Φ (.tCmp .le a b)).t ρ p = .ok (decide (x ≤ y)) p2 := by
  refine tcmp_run h1 h2 ?_
  show some (D.bl (decide (((x : Nat) : Int) ≤ ((y : Nat) : Int)))) = _
  congr 2
  exact decide_eq_decide.mpr (by omega)
theorem notin_wD {Φ : Phi} {a b : E} {ρ : En} {p p1 p2 : Pot} {x : Nat} {w : List Nat} (h1 : (den Φ a).e ρ p = .ok (nI x) p1) (h2 : (den Φ b).e ρ p1 = .ok (wD w) p2) : (den Φ (.tCmp .notin a b)).t ρ p = .ok (!w.contains x) p2 := by
  refine tcmp_run h1 h2 ?_
  rw [wD_tup]
  exact (notin_nI w x).2
theorem tup1_run {Φ : Phi} {a : E} {ρ : En} {p p1 : Pot} {x : D} (ha : ∀ f, aArg a f = aVal f) (h1 : (den Φ a).e ρ p = .ok x p1) : (den Φ (.tup (.cons a .nil))).e ρ p = .ok (.tup [x]) p1 := by
  show dTup (aCons (aArg a (den Φ a).e) aNil) ρ p = _
  rw [ha]
  simp only [dTup, aCons, aVal, aNil, Res.bind, h1, valsOf, Option.map_some]
  rw [if_pos (by simp [small])]
theorem addw_run {Φ : Phi} {a b : E} {ρ : En} {p p1 p2 : Pot} {w : List Nat} {q : Nat} (hb : ∀ f, aArg b f = aVal f) (hw : w.length ≤ 900) (h1 : (den Φ a).e ρ p = .ok (wD w) p1) (h2 : (den Φ b).e ρ p1 = .ok (nI q) p2) : (den Φ (.bin .add a (.tup (.cons b .nil)))).e ρ p = .ok (wD (w ++ [q])) p2 := by
  have h3 := tup1_run hb h2
  show ((den Φ a).e ρ p).bind (fun d p1 => ((den Φ (.tup (.cons b .nil))).e ρ p1).bind fun d2 p2 => ofO (addD d d2) p2) = _
  rw [h1]
  show ((den Φ (.tup (.cons b .nil))).e ρ p1).bind (fun d2 p2 => ofO (addD (wD w) d2) p2) = _
  rw [h3]
  show ofO (addD (wD w) (.tup [nI q])) p2 = _
  rw [wD_add hw]
  rfl
def wv (N S : Option Sl) (e most : Nat) (f : List (List Nat)) (st : List Wy) (a b c d : Option Sl) : En := [N, S, some (.val (nI e)), some (.val (nI most)), some (.own (.lst (f.map wD))), some (.own (.lst (st.map wyD))), a, b, c, d]
section
variable {Φ : Phi} {p : Pot} {N S : Option Sl} {e most : Nat} {f : List (List Nat)}
theorem ways_one {st : List Wy} {y : Wy} {q : Nat × Nat} (hl : st.length ≤ 900) (hy : y.1.length ≤ 900) :
    (dens Φ l1_ways).ss (wv N S e most f st (some (.val (wD y.1))) (some (.val (nI y.2))) (some (.val (nI q.1))) (some (.val (nI q.2)))) p = .ok (.nx (wv N S e most f (st ++ if cndW most y q = true then [stepW y q] else []) (some (.val (wD y.1))) (some (.val (nI y.2))) (some (.val (nI q.1))) (some (.val (nI q.2))))) p := by
  unfold l1_ways
  have h1 : (den Φ (.tCmp .notin (.v 8) (.v 6))).t (wv N S e most f st (some (.val (wD y.1))) (some (.val (nI y.2))) (some (.val (nI q.1))) (some (.val (nI q.2)))) p = .ok (!y.1.contains q.1) p := notin_wD rfl rfl
  have hsum : (den Φ (.bin .add (.v 7) (.v 9))).e (wv N S e most f st (some (.val (wD y.1))) (some (.val (nI y.2))) (some (.val (nI q.1))) (some (.val (nI q.2)))) p = .ok (nI (y.2 + q.2)) p := add_run rfl rfl
  have h2 : (den Φ (.tCmp .le (.bin .add (.v 7) (.v 9)) (.v 3))).t (wv N S e most f st (some (.val (wD y.1))) (some (.val (nI y.2))) (some (.val (nI q.1))) (some (.val (nI q.2)))) p = .ok (decide (y.2 + q.2 ≤ most)) p := le_run hsum rfl
  have hc : (den Φ (.tAnds (.cons (.tCmp .notin (.v 8) (.v 6)) (.cons (.tCmp .le (.bin .add (.v 7) (.v 9)) (.v 3)) .nil)))).t (wv N S e most f st (some (.val (wD y.1))) (some (.val (nI y.2))) (some (.val (nI q.1))) (some (.val (nI q.2)))) p = .ok (cndW most y q) p := by
    unfold cndW
    cases h : !y.1.contains q.1 with
    | false =>
      rw [h] at h1
      exact and_f h1
    | true =>
      rw [h] at h1
      exact and_t rfl h1 (and_1 h2)
  cases h : cndW most y q with
  | false =>
    rw [h] at hc
    refine (step (if_f (p1 := p) hc done) done).trans ?_
    simp
  | true =>
    rw [h] at hc
    refine (step (if_t (p1 := p) hc (step (app_run (p1 := p) (ds := st.map wyD) (d := wyD (stepW y q)) rfl ?_ (by rw [List.length_map]; omega)) done)) done).trans ?_
    · exact tup2_run (fun _ => rfl) (fun _ => rfl) (addw_run (p1 := p) (fun _ => rfl) hy rfl rfl) hsum
    · simp [wv]
theorem ways_row {hs : List Int} {es : List Op} (K : NetOk hs es) {k : Nat} (hk : 1 ≤ k) {st : List Wy} {y : Wy} (hy : y.1 ≠ []) (hl : st.length + hs.length ≤ 900) (hy2 : y.1.length ≤ 900) :
    (dens (callD T k) (.for_ (.tup [(.nm 8), (.nm 9)]) (.iE (.call "near_places" (.cons (.v 0) (.cons (.ix (.v 6) (.neg (.int 1))) .nil)))) l1_ways [8, 9])).s (wv (some (.val (netD hs es))) S e most f st (some (.val (wD y.1))) (some (.val (nI y.2))) none none) p = .ok (.nx (wv (some (.val (netD hs es))) S e most f (st ++ (exts (nearL es hs.length) y).filter fun q => decide (q.2 ≤ most)) (some (.val (wD y.1))) (some (.val (nI y.2))) none none)) p := by
  have hnear := e_nearP hk K (lst y.1) p
  have key := forR_sti (tg := (Tg.tup [.nm 8, .nm 9]).asg) (body := (dens (callD T k) l1_ways).ss) (w := [8, 9]) (p := p) (fun st => wv (some (.val (netD hs es))) S e most f st (some (.val (wD y.1))) (some (.val (nI y.2))) none none) prN (fun st q => st ++ if cndW most y q = true then [stepW y q] else []) (fun i a => a.length ≤ st.length + i) (as := nearL es hs.length (lst y.1)) (s := st) (j := 0) (Nat.le_refl _) fun i q hq a ha => by
    have hi : i < (nearL es hs.length (lst y.1)).length := (List.getElem?_eq_some_iff.mp hq).1
    have := nb_len K (lst y.1)
    refine ⟨?_, _, _, rfl, ways_one (by omega) hy2, rfl⟩
    rw [List.length_append]
    split
    · rw [List.length_singleton]; omega
    · rw [List.length_nil]; omega
  rw [foldl_flat, flat_filter, push_eq] at key
  refine for_run (p1 := p) (xs := (nearL es hs.length (lst y.1)).map prN) ?_ key.1
  have hix := ix_lst hy
  simp [wv, hix, hnear]
theorem ways_body {hs : List Int} {es : List Op} (K : NetOk hs es) {k : Nat} (hk : 1 ≤ k) {st : List Wy} {y : Wy} (hy : y.1 ≠ []) (hl : st.length + hs.length ≤ 900) (hy2 : y.1.length ≤ 900) (hf : f.length ≤ 900) :
    ∃ r, (dens (callD T k) l2_ways).ss (wv (some (.val (netD hs es))) S e most f (st ++ [y]) none none none none) p = .ok (.nx r) p ∧ wipeE r [6, 7, 8, 9] = wv (some (.val (netD hs es))) S e most (if lst y.1 = e then f ++ [y.1] else f) (if lst y.1 = e then st else st ++ (exts (nearL es hs.length) y).filter fun q => decide (q.2 ≤ most)) none none none none := by
  unfold l2_ways
  have hix := ix_lst hy
  have hpop : (dens (callD T k) (.pop (.tup [(.nm 6), (.nm 7)]) 5)).s (wv (some (.val (netD hs es))) S e most f (st ++ [y]) none none none none) p = .ok (.nx (wv (some (.val (netD hs es))) S e most f st (some (.val (wD y.1))) (some (.val (nI y.2))) none none)) p := by
    show sPop (.tup [.nm 6, .nm 7]) 5 (wv (some (.val (netD hs es))) S e most f (st ++ [y]) none none none none) p = _
    have e1 : rdL (wv (some (.val (netD hs es))) S e most f (st ++ [y]) none none none none) 5 = some ((st ++ [y]).map wyD) := rfl
    unfold sPop
    rw [e1]
    have e2 : popD ((st ++ [y]).map wyD) = some (wyD y, st.map wyD) := by
      unfold popD
      rw [List.map_append]
      simp
    show popEnd _ _ _ (popD ((st ++ [y]).map wyD)) p = _
    rw [e2]
    rfl
  have hc : (den (callD T k) (.tCmp .eq (.ix (.v 6) (.neg (.int 1))) (.v 2))).t (wv (some (.val (netD hs es))) S e most f st (some (.val (wD y.1))) (some (.val (nI y.2))) none none) p = .ok (decide (lst y.1 = e)) p := teq_nat (p1 := p) (by simp [wv, hix]) rfl
  by_cases h : lst y.1 = e
  · rw [decide_eq_true h] at hc
    refine ⟨wv (some (.val (netD hs es))) S e most (f ++ [y.1]) st (some (.val (wD y.1))) (some (.val (nI y.2))) none none, step hpop (step (if_t (p1 := p) hc (step (app_run (p1 := p) (ds := f.map wD) (d := wD y.1) rfl rfl (by rw [List.length_map]; omega)) done)) ?_), ?_⟩
    · have : f.map wD ++ [wD y.1] = (f ++ [y.1]).map wD := by rw [List.map_append]; rfl
      rw [this]
      exact done
    · rw [if_pos h, if_pos h]
      rfl
  · rw [decide_eq_false h] at hc
    refine ⟨_, step hpop (step (if_f (p1 := p) hc (step (ways_row (f := f) K hk hy hl hy2) done)) done), ?_⟩
    rw [if_neg h, if_neg h]
    rfl
theorem ways_while {hs : List Int} {es : List Op} (K : NetOk hs es) (hn : hs.length ≤ 6) {k : Nat} (hk : 1 ≤ k) : ∀ (M : Nat) {f : List (List Nat)} {st : List Wy} {fuel : Nat}, wts st < M → M + 1 ≤ fuel → (∀ x ∈ st, Gd hs.length x ∧ x.2 ≤ most) → f.length + wts st ≤ 400 →
    ∃ f', whileR (den (callD T k) (.tCmp .gt (.blt .len (.cons (.b 5) .nil)) (.int 0))).t (dens (callD T k) l2_ways).ss [6, 7, 8, 9] fuel (wv (some (.val (netD hs es))) S e most f st none none none none) p = .ok (.nx (wv (some (.val (netD hs es))) S e most f' [] none none none none)) p ∧ f'.Perm (f ++ (FF (nearL es hs.length) e most 6 st).map (·.1))
  | 0, f, st, fuel, h, _, _, _ => by omega
  | M + 1, f, st, fuel, h, hf, hst, hb => by
    obtain ⟨fuel, rfl⟩ : ∃ j, fuel = j + 1 := ⟨fuel - 1, by omega⟩
    have hcnd : (den (callD T k) (.tCmp .gt (.blt .len (.cons (.b 5) .nil)) (.int 0))).t (wv (some (.val (netD hs es))) S e most f st none none none none) p = .ok (decide (0 < st.length)) p := by
      simp [wv, lenD]
    rcases List.eq_nil_or_concat st with rfl | ⟨st', y, rfl⟩
    · refine ⟨f, ?_, ?_⟩
      · show ((den (callD T k) (.tCmp .gt (.blt .len (.cons (.b 5) .nil)) (.int 0))).t (wv (some (.val (netD hs es))) S e most f [] none none none none) p).bind _ = _
        rw [hcnd]
        rfl
      · have : FF (nearL es hs.length) e most 6 [] = [] := by unfold FF; rw [lev_nil]; rfl
        rw [this]
        simp
    · rw [List.concat_eq_append] at *
      have O := nb_ok K
      obtain ⟨G, hm⟩ := hst y (by simp)
      have hst' : ∀ x ∈ st', Gd hs.length x ∧ x.2 ≤ most := fun x hx => hst x (by simp [hx])
      rw [wts_app] at h hb
      have hy1 : wts [y] = wtF (6 - y.1.length) := by simp [wts]
      have hwp := wtF_pos (6 - y.1.length)
      have hex := exts_wt O hn G
      have hfl := wts_filter (fun q => decide (q.2 ≤ most)) (exts (nearL es hs.length) y)
      have hlen : st'.length ≤ wts st' := by
        have : ∀ l : List Wy, l.length ≤ wts l := fun l => by
          induction l with
          | nil => exact Nat.zero_le _
          | cons a l ih =>
            have := wtF_pos (6 - a.1.length)
            show l.length + 1 ≤ ((a :: l).map _).sum
            rw [List.map_cons, List.sum_cons]
            unfold wts at ih
            omega
        exact this st'
      have hylen := G.len
      obtain ⟨r, e1, e2⟩ := ways_body (S := S) (e := e) (most := most) (p := p) (f := f) K hk (st := st') (y := y) G.ne (by omega) (by omega) (by omega)
      have hpos : decide (0 < (st' ++ [y]).length) = true := by simp
      rw [hpos] at hcnd
      have hstep : ∀ (f1 : List (List Nat)) (st1 : List Wy), wipeE r [6, 7, 8, 9] = wv (some (.val (netD hs es))) S e most f1 st1 none none none none → whileR (den (callD T k) (.tCmp .gt (.blt .len (.cons (.b 5) .nil)) (.int 0))).t (dens (callD T k) l2_ways).ss [6, 7, 8, 9] (fuel + 1) (wv (some (.val (netD hs es))) S e most f (st' ++ [y]) none none none none) p = whileR (den (callD T k) (.tCmp .gt (.blt .len (.cons (.b 5) .nil)) (.int 0))).t (dens (callD T k) l2_ways).ss [6, 7, 8, 9] fuel (wv (some (.val (netD hs es))) S e most f1 st1 none none none none) p := fun f1 st1 he => by
        show ((den (callD T k) (.tCmp .gt (.blt .len (.cons (.b 5) .nil)) (.int 0))).t (wv (some (.val (netD hs es))) S e most f (st' ++ [y]) none none none none) p).bind _ = _
        rw [hcnd]
        show turnEnd _ ((dens (callD T k) l2_ways).ss _ p) _ = _
        rw [e1]
        simp only [turnEnd, Res.bind]
        rw [he]
      have hF := FF_one (e := e) (most := most) (k := 5) O (by have := G.pos; omega) G hm
      have happ := FF_app (nb := nearL es hs.length) (e := e) (most := most) (k := 6) st' [y]
      by_cases hc : lst y.1 = e
      · rw [if_pos hc, if_pos hc] at e2
        rw [if_pos hc] at hF
        obtain ⟨f', h1, h2⟩ := ways_while K hn hk M (f := f ++ [y.1]) (st := st') (fuel := fuel) (by omega) (by omega) hst' (by rw [List.length_append, List.length_singleton]; omega)
        refine ⟨f', (hstep _ _ e2).trans h1, h2.trans ?_⟩
        have h3 := (happ.trans ((List.Perm.refl _).append hF)).map (·.1)
        rw [List.map_append] at h3
        refine List.Perm.trans ?_ ((List.Perm.refl f).append h3.symm)
        refine List.perm_iff_count.mpr fun x => ?_
        simp only [List.count_append, List.map_cons, List.map_nil]
        omega
      · rw [if_neg hc, if_neg hc] at e2
        rw [if_neg hc] at hF
        obtain ⟨f', h1, h2⟩ := ways_while K hn hk M (f := f) (st := st' ++ (exts (nearL es hs.length) y).filter fun q => decide (q.2 ≤ most)) (fuel := fuel) (by rw [wts_app]; omega) (by omega) (fun x hx => by
          rcases List.mem_append.mp hx with hx | hx
          · exact hst' x hx
          · have := List.mem_filter.mp hx
            exact ⟨(exts_gd O G this.1).1, of_decide_eq_true this.2⟩) (by rw [wts_app]; omega)
        refine ⟨f', (hstep _ _ e2).trans h1, h2.trans ((List.Perm.refl f).append (List.Perm.map _ ?_))⟩
        exact (FF_app _ _).trans (((List.Perm.refl _).append hF.symm).trans happ.symm)
end
/-- the ways whose time is at most so much, ascending -/
def waysL (hs : List Int) (es : List Op) (s e most : Nat) : List (List Int) := srtL (((FF (nearL es hs.length) e most 6 [([s], 0)]).map (·.1)).map wI)
theorem FF_ne {hs : List Int} {es : List Op} (K : NetOk hs es) {s e most : Nat} (hs' : s < hs.length) : ∀ y ∈ FF (nearL es hs.length) e most 6 [([s], 0)], Gd hs.length y := fun y hy =>
  lev_gd (nb_ok K) (fun w hw => by
    rw [List.mem_singleton] at hw
    rw [hw]
    exact gd_one hs') y (List.mem_filter.mp hy).1
theorem e_number_of {k : Nat} (hk : 1 ≤ k) {i lo hi : Int} (h : lo ≤ i ∧ i ≤ hi) (p : Pot) : callD T k "is_number" [.val (.int i), .val (.int lo), .val (.int hi)] p = .ok (.bl true) p := by
  rw [e_is_number hk, decide_eq_true h]
theorem e_ways {k : Nat} (hk : 7 ≤ k) {hs : List Int} {es : List Op} (K : NetOk hs es) (hn : hs.length ≤ 6) {s e most : Nat} (hs' : s < hs.length) (he : e < hs.length) (hm : most ≤ 99) (p : Pot) : callD T k "ways" [.val (netD hs es), .val (nI s), .val (nI e), .val (nI most)] p = .ok (.tup ((waysL hs es s e most).map tI)) p := by
  obtain ⟨k, rfl, hk'⟩ := pos hk
  have G1 : Gd hs.length ([s], 0) := gd_one hs'
  have hw1 : wts [([s], 0)] = 326 := by simp [wts, wtF]
  obtain ⟨f, h1, h2⟩ := ways_while (S := some (.val (nI s))) (e := e) (most := most) (p := p) K hn (k := k) (by omega) 327 (f := []) (st := [([s], 0)]) (fuel := bigN) (by omega) (by unfold bigN; omega) (fun x hx => by
    rw [List.mem_singleton] at hx
    rw [hx]
    exact ⟨G1, Nat.zero_le _⟩) (by rw [hw1]; simp)
  rw [List.nil_append] at h2
  have hlen : f.length ≤ 326 := by
    rw [h2.length_eq, List.length_map]
    refine Nat.le_trans (List.length_filter_le _ _) (Nat.le_trans (lev_wt (nb_ok K) hn 6 fun w hw => ?_) (Nat.le_of_eq hw1))
    rw [List.mem_singleton] at hw
    rw [hw]
    exact G1
  have hsr : srtU (.lst (f.map wD)) = some (.lst ((waysL hs es s e most).map tI)) := by
    have e1 : f.map wD = (f.map wI).map tI := by rw [List.map_map]; rfl
    rw [e1, srt_tI (fun a ha => ?_) (by rw [List.length_map]; omega)]
    · unfold waysL
      rw [srtL_perm (h2.map wI)]
    · obtain ⟨w, hw, rfl⟩ := List.mem_map.mp ha
      obtain ⟨y, hy, rfl⟩ := List.mem_map.mp (h2.mem_iff.mp hw)
      exact wI_ne (FF_ne K hs' y hy).ne
  rw [call_ways]
  refine run_ret rfl ?_
  show (dens (callD T k) b_ways).ss [some (.val (netD hs es)), some (.val (nI s)), some (.val (nI e)), some (.val (nI most)), none, none, none, none, none, none] p = _
  unfold b_ways
  have n1 := e_need_place hk' K hs' p
  have n2 := e_need_place hk' K he p
  have n3 := e_number_of (k := k) (by omega) (i := (most : Nat)) (lo := 0) (hi := 99) (by omega) p
  refine step (expr_ok (call2_run (fun _ => rfl) (fun _ => rfl) rfl rfl n1)) (step (expr_ok (call2_run (fun _ => rfl) (fun _ => rfl) rfl rfl n2)) (step (if_f (p1 := p) ?_ done) (step (own_run (p1 := p) (d := .lst []) rfl) (step (own_run (p1 := p) (d := .lst ([([s], 0)].map wyD)) ?_) (step (ρ1 := wv (some (.val (netD hs es))) (some (.val (nI s))) e most f [] none none none none) (p1 := p) h1 (last (ret_tup (fun _ => rfl) (srtb_run rfl hsr))))))))
  · simp [n3]
  · simp [valsOf, wyD, wD, tI, wI]
end M.T

set_option Elab.async false
set_option linter.all false
set_option maxRecDepth 100000
set_option maxHeartbeats 2000000
namespace M.T
open PySem PySem.Spec PyProof.Rows L2
/-! _law_all_ways -/
theorem dat_nI (n v : Nat) : dat n (nI v) = true := by cases n <;> rfl
theorem dat_wD (n : Nat) (w : List Nat) : dat (n + 1) (wD w) = true := dat_tI n (wI w)
theorem dat_wyD (n : Nat) (y : Wy) : dat (n + 2) (wyD y) = true := by
  simp only [wyD, dat, dats, dat_wD, dat_nI, Bool.and_self]
theorem ne_nilF {A : Type} {f : A → D} (hd : ∀ a, dat 63 (f a) = true) (l : List A) : neD (.lst (l.map f)) (.lst []) = some (.bl (!l.isEmpty)) := by
  unfold neD
  rw [if_pos ⟨by
    simp only [dat]
    exact dats_of fun d h => by
      obtain ⟨a, _, rfl⟩ := List.mem_map.mp h
      exact hd a, by simp [dat, dats]⟩]
  cases l <;> simp [eqb, eqbs]
theorem neT_nil {Φ : Phi} {A : Type} {f : A → D} {a : E} {ρ : En} {p p1 : Pot} {l : List A} (hd : ∀ a, dat 63 (f a) = true) (h : (den Φ a).e ρ p = .ok (.lst (l.map f)) p1) : (den Φ (.tCmp .ne a (.lst .nil))).t ρ p = .ok (!l.isEmpty) p1 := tcmp_run (p2 := p1) h rfl (ne_nilF hd l)
theorem len_wts : ∀ l : List Wy, l.length ≤ wts l
  | [] => Nat.zero_le _
  | a :: l => by
    have ih := len_wts l
    have := wtF_pos (6 - a.1.length)
    show l.length + 1 ≤ ((a :: l).map _).sum
    rw [List.map_cons, List.sum_cons]
    unfold wts at ih
    omega
def av (N S : Option Sl) (rows found : List Wy) (l a b c d : Option Sl) : En := [N, S, some (.val (.lst (rows.map wyD))), some (.val (.lst (found.map wyD))), l, a, b, c, d]
def accS (acc : List Wy) : Option Sl := some (.own (.lst (acc.map wyD)))
section
variable {Φ : Phi} {p : Pot} {N S : Option Sl} {rows found : List Wy}
theorem all_one {acc : List Wy} {y : Wy} {q : Nat × Nat} (hl : acc.length ≤ 1000) (hy : y.1.length ≤ 900) :
    (dens Φ l1__law_all_ways).ss (av N S rows found (accS acc) (some (.val (wD y.1))) (some (.val (nI y.2))) (some (.val (nI q.1))) (some (.val (nI q.2)))) p = .ok (.nx (av N S rows found (accS (acc ++ if (!y.1.contains q.1) = true then [stepW y q] else [])) (some (.val (wD y.1))) (some (.val (nI y.2))) (some (.val (nI q.1))) (some (.val (nI q.2))))) p := by
  unfold l1__law_all_ways
  have h1 : (den Φ (.tCmp .notin (.v 7) (.v 5))).t (av N S rows found (accS acc) (some (.val (wD y.1))) (some (.val (nI y.2))) (some (.val (nI q.1))) (some (.val (nI q.2)))) p = .ok (!y.1.contains q.1) p := notin_wD rfl rfl
  cases h : !y.1.contains q.1 with
  | false =>
    rw [h] at h1
    refine (step (if_f (p1 := p) h1 done) done).trans ?_
    simp
  | true =>
    rw [h] at h1
    refine (step (if_t (p1 := p) h1 (step (app_run (p1 := p) (ds := acc.map wyD) (d := wyD (stepW y q)) rfl (tup2_run (fun _ => rfl) (fun _ => rfl) (addw_run (p1 := p) (fun _ => rfl) hy rfl rfl) (add_run rfl rfl)) (by rw [List.length_map]; exact hl)) done)) done).trans ?_
    simp [av, accS]
theorem all_row {hs : List Int} {es : List Op} (K : NetOk hs es) {k : Nat} (hk : 1 ≤ k) {acc : List Wy} {y : Wy} (hy : y.1 ≠ []) (hl : acc.length + hs.length ≤ 1000) (hy2 : y.1.length ≤ 900) :
    (dens (callD T k) l2__law_all_ways).ss (av (some (.val (netD hs es))) S rows found (accS acc) (some (.val (wD y.1))) (some (.val (nI y.2))) none none) p = .ok (.nx (av (some (.val (netD hs es))) S rows found (accS (acc ++ exts (nearL es hs.length) y)) (some (.val (wD y.1))) (some (.val (nI y.2))) none none)) p := by
  unfold l2__law_all_ways
  have hnear := e_near hk K (lst y.1) p
  have key := forR_sti (tg := (Tg.tup [.nm 7, .nm 8]).asg) (body := (dens (callD T k) l1__law_all_ways).ss) (w := [7, 8]) (p := p) (fun acc => av (some (.val (netD hs es))) S rows found (accS acc) (some (.val (wD y.1))) (some (.val (nI y.2))) none none) prN (fun acc q => acc ++ if (!y.1.contains q.1) = true then [stepW y q] else []) (fun i a => a.length ≤ acc.length + i) (as := nearL es hs.length (lst y.1)) (s := acc) (j := 0) (Nat.le_refl _) fun i q hq a ha => by
    have hi : i < (nearL es hs.length (lst y.1)).length := (List.getElem?_eq_some_iff.mp hq).1
    have := nb_len K (lst y.1)
    refine ⟨?_, _, _, rfl, all_one (by omega) hy2, rfl⟩
    rw [List.length_append]
    split
    · rw [List.length_singleton]; omega
    · rw [List.length_nil]; omega
  rw [foldl_flat, flat_filter (fun q : Nat × Nat => !y.1.contains q.1)] at key
  refine step (for_run (p1 := p) (xs := (nearL es hs.length (lst y.1)).map prN) ?_ key.1) done
  have hix := ix_lst hy
  simp [av, hix, hnear]
theorem all_body {hs : List Int} {es : List Op} (K : NetOk hs es) (hn : hs.length ≤ 6) {k : Nat} (hk : 1 ≤ k) (hg : ∀ w ∈ rows, Gd hs.length w) (hb : found.length + wts rows ≤ 400) :
    (dens (callD T k) l3__law_all_ways).ss (av (some (.val (netD hs es))) S rows found none none none none none) p = .ok (.nx (av (some (.val (netD hs es))) S (rows.flatMap (exts (nearL es hs.length))) (found ++ rows) (some (.val (.lst ((rows.flatMap (exts (nearL es hs.length))).map wyD)))) none none none none)) p := by
  unfold l3__law_all_ways
  have O := nb_ok K
  have hfl := flat_wt O hn hg
  have hlen := len_wts (rows.flatMap (exts (nearL es hs.length)))
  have hsum : addD (.lst (found.map wyD)) (.lst (rows.map wyD)) = some (.lst ((found ++ rows).map wyD)) := by
    show (if (found.map wyD).length + (rows.map wyD).length ≤ sizeLine then _ else _) = _
    have := len_wts rows
    rw [if_pos (small (by rw [List.length_map, List.length_map]; omega)), List.map_append]
  have key := forR_sti (tg := (Tg.tup [.nm 5, .nm 6]).asg) (body := (dens (callD T k) l2__law_all_ways).ss) (w := [5, 6, 7, 8]) (p := p) (fun acc => av (some (.val (netD hs es))) S rows (found ++ rows) (accS acc) none none none none) wyD (fun acc y => acc ++ exts (nearL es hs.length) y) (fun i a => a = (rows.take i).flatMap (exts (nearL es hs.length))) (as := rows) (s := []) (j := 0) rfl fun i y hy a ha => by
    have hG := hg y (List.mem_of_getElem? hy)
    have hle : a.length ≤ (rows.flatMap (exts (nearL es hs.length))).length := by
      rw [ha, Nat.zero_add]
      conv => rhs; rw [← List.take_append_drop i rows, List.flatMap_append, List.length_append]
      omega
    have := hG.len
    refine ⟨?_, _, _, rfl, all_row K hk hG.ne (by omega) (by omega), rfl⟩
    rw [ha, Nat.zero_add, List.take_add_one, List.flatMap_append, hy]
    simp
  rw [foldl_flat, List.nil_append] at key
  refine step (set_run (p1 := p) (d := .lst ((found ++ rows).map wyD)) ?_) (step (own_run (p1 := p) (d := .lst []) rfl) (step (for_run (p1 := p) (xs := rows.map wyD) ?_ key.1) (step (frz_run rfl) (step (set_run (p1 := p) (d := .lst ((rows.flatMap (exts (nearL es hs.length))).map wyD)) ?_) ?_))))
  · show ofO (addD (.lst (found.map wyD)) (.lst (rows.map wyD))) p = _
    rw [hsum]
    rfl
  · simp [av]
  · simp [av, accS]
  · exact done
theorem all_while {hs : List Int} {es : List Op} (K : NetOk hs es) (hn : hs.length ≤ 6) {k : Nat} (hk : 1 ≤ k) : ∀ (M : Nat) {rows found : List Wy} {fuel : Nat}, M + 1 ≤ fuel → (∀ w ∈ rows, Gd hs.length w ∧ hs.length < w.1.length + M) → found.length + wts rows ≤ 400 →
    whileR (den (callD T k) (.tCmp .ne (.v 2) (.lst .nil))).t (dens (callD T k) l3__law_all_ways).ss [4, 5, 6, 7, 8] fuel (av (some (.val (netD hs es))) S rows found none none none none none) p = .ok (.nx (av (some (.val (netD hs es))) S [] (found ++ lev (nearL es hs.length) M rows) none none none none none)) p := fun M => by
  have hcnd : ∀ rows found, (den (callD T k) (.tCmp .ne (.v 2) (.lst .nil))).t (av (some (.val (netD hs es))) S rows found none none none none none) p = .ok (!rows.isEmpty) p := fun rows found => neT_nil (f := wyD) (fun y => dat_wyD 61 y) rfl
  have hnil : ∀ (found : List Wy) (fuel : Nat) (M : Nat), whileR (den (callD T k) (.tCmp .ne (.v 2) (.lst .nil))).t (dens (callD T k) l3__law_all_ways).ss [4, 5, 6, 7, 8] (fuel + 1) (av (some (.val (netD hs es))) S [] found none none none none none) p = .ok (.nx (av (some (.val (netD hs es))) S [] (found ++ lev (nearL es hs.length) M []) none none none none none)) p := fun found fuel M => by
    rw [lev_nil, List.append_nil]
    show ((den (callD T k) (.tCmp .ne (.v 2) (.lst .nil))).t (av (some (.val (netD hs es))) S [] found none none none none none) p).bind _ = _
    rw [hcnd]
    rfl
  induction M with
  | zero =>
    intro rows found fuel hf hg hb
    obtain ⟨fuel, rfl⟩ : ∃ j, fuel = j + 1 := ⟨fuel - 1, by omega⟩
    match rows, hg with
    | [], _ => exact hnil found fuel 0
    | w :: r, hg => exact absurd (hg w List.mem_cons_self) fun ⟨a, b⟩ => by have := a.len; omega
  | succ M ih =>
    intro rows found fuel hf hg hb
    obtain ⟨fuel, rfl⟩ : ∃ j, fuel = j + 1 := ⟨fuel - 1, by omega⟩
    match rows, hg, hb with
    | [], _, _ => exact hnil found fuel (M + 1)
    | w :: r, hg, hb =>
      have O := nb_ok K
      have hfl := flat_wt O hn (l := w :: r) fun x hx => (hg x hx).1
      have hb1 := all_body (S := S) (p := p) K hn hk (rows := w :: r) (found := found) (fun x hx => (hg x hx).1) hb
      show ((den (callD T k) (.tCmp .ne (.v 2) (.lst .nil))).t (av (some (.val (netD hs es))) S (w :: r) found none none none none none) p).bind _ = _
      rw [hcnd]
      show turnEnd _ ((dens (callD T k) l3__law_all_ways).ss _ p) _ = _
      rw [hb1]
      have := ih (rows := (w :: r).flatMap (exts (nearL es hs.length))) (found := found ++ (w :: r)) (fuel := fuel) (by omega) (fun x hx => by
        obtain ⟨z, hz, hx⟩ := List.mem_flatMap.mp hx
        obtain ⟨a, b⟩ := exts_gd O (hg z hz).1 hx
        exact ⟨a, by have := (hg z hz).2; omega⟩) (by rw [List.length_append]; omega)
      rw [List.append_assoc] at this
      exact this
end
theorem alike_wyD (x y : Wy) : PySem.W.alike (toPy (wyD x)) (toPy (wyD y)) = true := by
  simp only [wyD, wD, nI, toPy, toPys, toPy_tI, PySem.W.alike, PySem.W.alikeAll, alikeI, Bool.and_self]
theorem e_allways {k : Nat} (hk : 2 ≤ k) {hs : List Int} {es : List Op} (K : NetOk hs es) (hn : hs.length ≤ 6) {s : Nat} (hs' : s < hs.length) (p : Pot) : ∃ every : List Wy, callD T k "_law_all_ways" [.val (netD hs es), .val (nI s)] p = .ok (.lst (every.map wyD)) p ∧ every.Perm (lev (nearL es hs.length) 6 [([s], 0)]) := by
  obtain ⟨k, rfl, hk'⟩ := pos hk
  have G1 : ∀ w ∈ [(([s], 0) : Wy)], Gd hs.length w ∧ hs.length < w.1.length + 6 := fun w hw => by
    rw [List.mem_singleton] at hw
    rw [hw]
    exact ⟨gd_one hs', by show hs.length < 1 + 6; omega⟩
  have hw1 : wts [([s], 0)] = 326 := by simp [wts, wtF]
  have h1 := all_while (S := some (.val (nI s))) (p := p) K hn hk' 6 (rows := [([s], 0)]) (found := []) (fuel := bigN) (by unfold bigN; omega) G1 (by rw [hw1]; simp)
  rw [List.nil_append] at h1
  have hlen : (lev (nearL es hs.length) 6 [([s], 0)]).length ≤ 326 := Nat.le_trans (lev_wt (nb_ok K) hn 6 fun w hw => (G1 w hw).1) (Nat.le_of_eq hw1)
  obtain ⟨m, h2, h3⟩ := srt_any (f := wyD) (l := lev (nearL es hs.length) 6 [([s], 0)]) (sortB_of (fun a _ => dat_wyD 61 a) (fun a _ b _ => alike_wyD a b) (fun _ _ => rfl) (by omega))
  refine ⟨m, ?_, h3⟩
  rw [call__law_all_ways]
  refine run_ret rfl ?_
  show (dens (callD T k) b__law_all_ways).ss [some (.val (netD hs es)), some (.val (nI s)), none, none, none, none, none, none, none] p = _
  unfold b__law_all_ways
  refine step (ρ1 := av (some (.val (netD hs es))) (some (.val (nI s))) [([s], 0)] [] none none none none none) (p1 := p) ?_ (step (ρ1 := av (some (.val (netD hs es))) (some (.val (nI s))) [] (lev (nearL es hs.length) 6 [([s], 0)]) none none none none none) (p1 := p) h1 (last (ret_comp (srtv_run (fun _ => rfl) rfl h2))))
  simp [valsOf, av, wyD, wD, tI, wI]
end M.T

set_option Elab.async false
set_option linter.all false
set_option maxRecDepth 100000
set_option maxHeartbeats 2000000
namespace M.T
open PySem PySem.Spec PyProof.Rows L2
/-! time_between, time_of, is_way -/
theorem castB (a b : Nat) : (((a : Nat) : Int) == ((b : Nat) : Int)) = decide (a = b) := by
  rw [Bool.eq_iff_iff]
  simp
  omega
theorem castB' (a b : Nat) : (((a : Nat) : Int) == ((b : Nat) : Int)) = (a == b) := by
  rw [castB]
  rfl
theorem mm_run {Φ : Phi} {ρ : En} {p : Pot} {i j u v : Nat} (hi : ρ[i]? = some (some (.val (nI u)))) (hj : ρ[j]? = some (some (.val (nI v)))) : (den Φ (.tup (.cons (.blt .min2 (.cons (.v i) (.cons (.v j) .nil))) (.cons (.blt .max2 (.cons (.v i) (.cons (.v j) .nil))) .nil)))).e ρ p = .ok (.tup [nI (min u v), nI (max u v)]) p := by
  simp [hi, hj, valsOf, dd2, min2D, max2D]
  constructor <;> split <;> omega
def pairIs (u v : Nat) (e : Op) : Bool := decide (e.1 = min u v ∧ e.2.1 = max u v)
theorem tb_iff (es : List Op) (u v : Nat) : tb es u v = ((es.find? (pairIs u v)).map (·.2.2)).getD 0 := rfl
def thr : D → D
  | .tup [_, _, c] => c
  | d => d
def cndD (u v : Nat) : D → Bool
  | .tup [.int a, .int b, _] => decide (a = ((min u v : Nat) : Int) ∧ b = ((max u v : Nat) : Int))
  | _ => false
theorem cndD_tr (u v : Nat) (e : Op) : cndD u v (trD e) = pairIs u v e := by
  simp only [cndD, trD, pairIs]
  exact decide_eq_decide.mpr (by omega)
theorem e_tb {k : Nat} (hk : 1 ≤ k) (hs : List Int) (es : List Op) (u v : Nat) (p : Pot) : callD T k "time_between" [.val (netD hs es), .val (nI u), .val (nI v)] p = .ok (nI (tb es u v)) p := by
  obtain ⟨k, rfl, hk'⟩ := pos hk
  rw [call_time_between]
  refine run_ret rfl ?_
  show (dens (callD T k) b_time_between).ss [some (.val (netD hs es)), some (.val (nI u)), some (.val (nI v)), none] p = _
  unfold b_time_between
  have key := forR_find (tg := (Tg.nm 3).asg) (body := (dens (callD T k) l1_time_between).ss) (w := [3]) (ρ := [some (.val (netD hs es)), some (.val (nI u)), some (.val (nI v)), none]) (p := p) (cndD u v) thr (xs := es.map trD) fun x hx => by
    obtain ⟨e, he, rfl⟩ := List.mem_map.mp hx
    refine ⟨_, rfl, ?_⟩
    rw [cndD_tr]
    have hc : (den (callD T k) (.tCmp .eq (.sl (.v 3) .nil (.pt (.int 2))) (.tup (.cons (.blt .min2 (.cons (.v 1) (.cons (.v 2) .nil))) (.cons (.blt .max2 (.cons (.v 1) (.cons (.v 2) .nil))) .nil))))).t [some (.val (netD hs es)), some (.val (nI u)), some (.val (nI v)), some (.val (trD e))] p = .ok (pairIs u v e) p := by
      refine tcmp_run (p1 := p) (x := .tup [nI e.1, nI e.2.1]) (y := .tup [nI (min u v), nI (max u v)]) ?_ (mm_run rfl rfl) ?_
      · have hsl : slD (trD e) none (some 2) = some (.tup [nI e.1, nI e.2.1]) := rfl
        simp [hsl]
      · simp only [Cm.d, eqD, dat, dats, eqb, eqbs, Bool.and_self, and_self, if_true, Bool.and_true, castB]
        unfold pairIs
        rw [Bool.decide_and]
    unfold l1_time_between
    cases h : pairIs u v e with
    | false =>
      rw [h] at hc
      exact .inl ⟨rfl, _, step (if_f (p1 := p) hc done) done, rfl⟩
    | true =>
      rw [h] at hc
      refine .inr ⟨rfl, ?_⟩
      refine last (d := thr (trD e)) (if_t (p1 := p) hc (last ?_))
      exact ret_comp (by simp [trD, ixD_tup2, thr])
  have hi : (den (callD T k) (.iE (.ix (.v 0) (.int 1)))).i [some (.val (netD hs es)), some (.val (nI u)), some (.val (nI v)), none] p = .ok (es.map trD) p := by
    simp [netD, ixD_tup1]
  have hfm : (es.map trD).find? (cndD u v) = (es.find? (pairIs u v)).map trD := by
    rw [List.find?_map]
    congr 1
    exact congrArg (fun f => List.find? f es) (funext fun e => cndD_tr u v e)
  rw [hfm] at key
  rw [tb_iff]
  cases hf : es.find? (pairIs u v) with
  | some e =>
    rw [hf] at key
    exact last (for_gen (p1 := p) hi key)
  | none =>
    rw [hf] at key
    exact step (for_gen (p1 := p) hi key) (last (ret_comp rfl))
theorem sum_cast : ∀ l : List Nat, (l.map fun v : Nat => (v : Int)).sum = ((l.sum : Nat) : Int)
  | [] => rfl
  | a :: l => by
    rw [List.map_cons, List.sum_cons, List.sum_cons, sum_cast l]
    omega
theorem sumD_nI (l : List Nat) : sumD (.lst (l.map nI)) = some (nI l.sum) := by
  rw [nI_map]
  show (intsOf _).map _ = _
  rw [intsOf_map]
  show some (D.int _) = _
  rw [sum_cast]
theorem ix_wD {w : List Nat} {i : Nat} (h : i < w.length) : ixD (wD w) (.int (i : Nat)) = some (nI (w.getD i 0)) := by
  rw [wD_tup]
  refine ixD_tup ?_
  rw [List.getElem?_map, List.getElem?_eq_getElem h, List.getD_eq_getElem?_getD, List.getElem?_eq_getElem h]
  rfl
theorem rgW {n : Nat} : rangeItems 0 n = (List.range n).map nI := rgItems
/-- range(len(w) - 1) -/
theorem it_steps {Φ : Phi} {i : Nat} {ρ : En} {p : Pot} {w : List Nat} (h : ρ[i]? = some (some (.val (wD w)))) (hw : w ≠ []) (hl : w.length ≤ 1000) : (den Φ (.iRange (.cons (.bin .sub (.blt .len (.cons (.v i) .nil)) (.int 1)) .nil))).i ρ p = .ok ((List.range (w.length - 1)).map nI) p := by
  have hp := List.length_pos_iff.mpr hw
  have hr : rgOk ((w.length : Int) - 1) = true := rng_ok (by omega) (by omega)
  have e0 : ((w.length : Int) - 1).toNat = w.length - 1 := by omega
  rw [wD_tup] at h
  simp [h, dRange1, hr, e0, rgW]
theorem step_run {k : Nat} (hk : 1 ≤ k) {hs : List Int} {es : List Op} {w : List Nat} {i : Nat} (hi : i < w.length - 1) (p : Pot) : (den (callD T k) (.call "time_between" (.cons (.v 0) (.cons (.ix (.v 1) (.v 2)) (.cons (.ix (.v 1) (.bin .add (.v 2) (.int 1))) .nil))))).e [some (.val (netD hs es)), some (.val (wD w)), some (.val (nI i))] p = .ok (nI (stp es w i)) p := by
  have h1 := ix_wD (w := w) (i := i) (by omega)
  have h2 := ix_wD (w := w) (i := i + 1) (by omega)
  rw [Int.natCast_add] at h2
  have h3 := e_tb hk hs es (w.getD i 0) (w.getD (i + 1) 0) p
  simp only [nI] at h1 h2 h3
  have h2 : ixD (wD w) (.int ((i : Int) + 1)) = some (.int ((w.getD (i + 1) 0 : Nat) : Int)) := h2
  simp only [List.getD_eq_getElem?_getD] at h1 h2 h3
  simp [h1, h2, h3, stp]
theorem e_timeof {k : Nat} (hk : 2 ≤ k) (hs : List Int) (es : List Op) {w : List Nat} (hw : w ≠ []) (hl : w.length ≤ 1000) (p : Pot) : callD T k "time_of" [.val (netD hs es), .val (wD w)] p = .ok (nI (tmW es w)) p := by
  obtain ⟨k, rfl, hk'⟩ := pos hk
  rw [call_time_of]
  refine run_ret rfl ?_
  show (dens (callD T k) b_time_of).ss [some (.val (netD hs es)), some (.val (wD w)), none] p = _
  unfold b_time_of
  have hc := compR_fm (tg := (Tg.nm 2).asg) (cond := (den (callD T k) .nil).c) (elt := (den (callD T k) (.call "time_between" (.cons (.v 0) (.cons (.ix (.v 1) (.v 2)) (.cons (.ix (.v 1) (.bin .add (.v 2) (.int 1))) .nil))))).e) (ρ := [some (.val (netD hs es)), some (.val (wD w)), none]) (p := p) nI (fun _ => true) (fun i => nI (stp es w i)) (as := List.range (w.length - 1)) fun i hi => ⟨_, rfl, rfl, fun _ => step_run hk' (List.mem_range.mp hi) p⟩
  rw [List.filter_eq_self.mpr fun _ _ => rfl] at hc
  refine last (ret_comp (blt_run (f := .sum) (fun _ => rfl) (comp_run (p1 := p) (it_steps rfl hw hl) hc (by simp; omega)) ?_))
  show sumD (.lst _) = _
  have : (List.range (w.length - 1)).map (fun i => nI (stp es w i)) = ((List.range (w.length - 1)).map (stp es w)).map nI := by
    rw [List.map_map]
    rfl
  rw [this, sumD_nI]
  rfl
/-! is_way, of any data -/
def natO : D → Nat
  | .int i => i.toNat
  | _ => 0
def toW : D → List Nat
  | .tup ds => ds.map natO
  | _ => []
theorem toW_wD (w : List Nat) : toW (wD w) = w := by
  rw [wD_tup]
  show (w.map nI).map natO = w
  rw [List.map_map]
  conv => rhs; rw [← List.map_id w]
  exact List.map_congr_left fun v _ => by simp [natO]
theorem ints_way {n : Nat} : ∀ {ds : List D}, ds.all (numB 0 ((n : Int) - 1)) = true → ∃ w : List Nat, ds = w.map nI ∧ ∀ v ∈ w, v < n
  | [], _ => ⟨[], rfl, fun v hv => by cases hv⟩
  | d :: ds, h => by
    rw [List.all_cons, Bool.and_eq_true] at h
    obtain ⟨x, rfl, hx⟩ := numB_int h.1
    obtain ⟨w, rfl, hw⟩ := ints_way h.2
    refine ⟨x.toNat :: w, ?_, fun v hv => ?_⟩
    · rw [List.map_cons]
      congr 1
      show D.int x = D.int ((x.toNat : Nat) : Int)
      congr 1
      omega
    · rcases List.mem_cons.mp hv with rfl | hv
      · omega
      · exact hw v hv
theorem row_way {n : Nat} {d : D} (h : rowB 1 8 0 ((n : Int) - 1) d = true) : ∃ w : List Nat, d = wD w ∧ w ≠ [] ∧ w.length ≤ 8 ∧ ∀ v ∈ w, v < n := by
  cases d with
  | tup ds =>
    simp only [rowB, Bool.and_eq_true, decide_eq_true_eq] at h
    obtain ⟨w, rfl, hw⟩ := ints_way h.2
    rw [List.length_map] at h
    refine ⟨w, (wD_tup w).symm, fun e => ?_, by omega, hw⟩
    subst e
    simp at h
  | _ => cases h
def wayB (hs : List Int) (es : List Op) (d : D) : Bool := rowB 1 8 0 ((hs.length : Int) - 1) d && (decide (toW d).Nodup && okW es (toW d))
theorem nodup_wI {w : List Nat} : (wI w).Nodup ↔ w.Nodup := by
  show (w.map _).Pairwise _ ↔ w.Pairwise _
  rw [List.pairwise_map]
  exact ⟨fun h => h.imp fun {a b} h e => h (by rw [e]), fun h => h.imp fun {a b} h e => h (by omega)⟩
theorem lset_wD {w : List Nat} (hl : w.length < 64) : lsetD (wD w) = some (.int ((dedG (wI w)).length : Nat)) := by
  show (match intsOf ((wI w).map D.int) with
    | some ns => if ns.length < 64 then some (D.int ((dedG ns).length : Nat)) else none
    | none => none) = _
  rw [intsOf_map]
  exact if_pos (by unfold wI; rw [List.length_map]; exact hl)
theorem lset_run {Φ : Phi} {i : Nat} {ρ : En} {p : Pot} {w : List Nat} (h : ρ[i]? = some (some (.val (wD w)))) (hl : w.length < 64) : (den Φ (.tCmp .lt (.lset (.v i)) (.blt .len (.cons (.v i) .nil)))).t ρ p = .ok (!decide w.Nodup) p := by
  have h1 : (den Φ (.v i)).e ρ p = .ok (wD w) p := by simp [h]
  have h2 : (den Φ (.lset (.v i))).e ρ p = .ok (.int ((dedG (wI w)).length : Nat)) p := by
    show d1' (den Φ (.v i)).e lsetD ρ p = _
    simp only [d1', h1, bind_ok, lset_wD hl]
    rfl
  have h3 : (den Φ (.blt .len (.cons (.v i) .nil))).e ρ p = .ok (.int (w.length : Nat)) p := blt_run (f := .len) (fun _ => rfl) h1 (by rw [wD_tup]; show lenD (.tup _) = _; simp [lenD])
  refine tcmp_run h2 h3 ?_
  show some (D.bl (decide (((dedG (wI w)).length : Int) < (w.length : Int)))) = _
  have hlw : (wI w).length = w.length := List.length_map _
  congr 2
  by_cases nd : w.Nodup
  · have := dedG_of_nodup (nodup_wI.mpr nd)
    simp [nd]
    omega
  · have := dedG_lt (fun z => nd (nodup_wI.mp z))
    simp [nd]
    omega
theorem steps_all {k : Nat} (hk : 1 ≤ k) {hs : List Int} {es : List Op} {w : List Nat} (hw : w ≠ []) (hl : w.length ≤ 1000) (p : Pot) : (den (callD T k) (.blt .all (.cons (.comp (.nm 2) (.iRange (.cons (.bin .sub (.blt .len (.cons (.v 1) .nil)) (.int 1)) .nil)) .nil (.cmp .gt (.call "time_between" (.cons (.v 0) (.cons (.ix (.v 1) (.v 2)) (.cons (.ix (.v 1) (.bin .add (.v 2) (.int 1))) .nil)))) (.int 0)) [("at", 2)]) .nil))).e [some (.val (netD hs es)), some (.val (wD w)), none] p = .ok (.bl (okW es w)) p := by
  have hc := compR_fm (tg := (Tg.nm 2).asg) (cond := (den (callD T k) .nil).c) (elt := (den (callD T k) (.cmp .gt (.call "time_between" (.cons (.v 0) (.cons (.ix (.v 1) (.v 2)) (.cons (.ix (.v 1) (.bin .add (.v 2) (.int 1))) .nil)))) (.int 0))).e) (ρ := [some (.val (netD hs es)), some (.val (wD w)), none]) (p := p) nI (fun _ => true) (fun i => D.bl (decide (0 < stp es w i))) (as := List.range (w.length - 1)) fun i hi => ⟨_, rfl, rfl, fun _ => cmp_run (step_run hk (List.mem_range.mp hi) p) (y := .int 0) (p2 := p) rfl (by
    show some (D.bl (decide ((0 : Int) < ((stp es w i : Nat) : Int)))) = _
    congr 2
    exact decide_eq_decide.mpr (by omega))⟩
  rw [List.filter_eq_self.mpr fun _ _ => rfl] at hc
  exact blt_run (f := .all) (fun _ => rfl) (comp_run (p1 := p) (it_steps rfl hw hl) hc (by simp; omega)) (all_mapf _ _)
theorem e_isway {k : Nat} (hk : 5 ≤ k) {hs : List Int} {es : List Op} (K : NetOk hs es) {n : Nat} {d : D} (h : gd n d = true) (p : Pot) : callD T k "is_way" [.val (netD hs es), .val d] p = .ok (.bl (wayB hs es d)) p := by
  obtain ⟨k, rfl, hk'⟩ := pos hk
  rw [call_is_way]
  refine run_ret rfl ?_
  show (dens (callD T k) b_is_way).ss [some (.val (netD hs es)), some (.val d), none] p = _
  unfold b_is_way
  have h1 := e_netG (k := k) (by omega) (net_gd K) p
  rw [netB_ok K] at h1
  have h2 := e_rowG (k := k) (by omega) h 1 8 0 ((hs.length : Int) - 1) p
  have t1 : (den (callD T k) (.tNot (.tTru (.call "is_net" (.cons (.v 0) .nil))))).t [some (.val (netD hs es)), some (.val d), none] p = .ok false p := by simp [h1]
  have t2 : (den (callD T k) (.tNot (.tTru (.call "is_row" (.cons (.v 1) (.cons (.int 1) (.cons (.gint "MOST_PLACES" 8) (.cons (.int 0) (.cons (.bin .sub (.blt .len (.cons (.ix (.v 0) (.int 0)) .nil)) (.int 1)) .nil))))))))).t [some (.val (netD hs es)), some (.val d), none] p = .ok (!rowB 1 8 0 ((hs.length : Int) - 1) d) p := by
    simp [lenH, h2]
  cases hr : rowB 1 8 0 ((hs.length : Int) - 1) d with
  | false =>
    rw [hr] at t2
    have : wayB hs es d = false := by unfold wayB; rw [hr]; rfl
    rw [this]
    exact last (if_t (p1 := p) (or_f (p1 := p) rfl t1 (or_t t2)) (last (ret_comp rfl)))
  | true =>
    rw [hr] at t2
    obtain ⟨w, rfl, hw, hl, hlt⟩ := row_way hr
    have t3 := lset_run (Φ := callD T k) (i := 1) (ρ := [some (.val (netD hs es)), some (.val (wD w)), none]) (p := p) rfl (by omega : w.length < 64)
    have hB : wayB hs es (wD w) = (decide w.Nodup && okW es w) := by
      unfold wayB
      rw [hr, toW_wD, Bool.true_and]
    rw [hB]
    cases nd : decide w.Nodup with
    | false =>
      rw [nd] at t3
      exact last (if_t (p1 := p) (or_f (p1 := p) rfl t1 (or_f (p1 := p) rfl t2 (or_1 t3))) (last (ret_comp rfl)))
    | true =>
      rw [nd] at t3
      exact step (if_f (p1 := p) (or_f (p1 := p) rfl t1 (or_f (p1 := p) rfl t2 (or_1 t3))) done) (last (ret_comp (steps_all (by omega) hw (by omega) p)))
end M.T

set_option Elab.async false
set_option linter.all false
set_option maxRecDepth 100000
set_option maxHeartbeats 2000000
namespace M.T
open PySem PySem.Spec PyProof.Rows L2
/-! _law_is_way, of any data -/
theorem cut2 {A : Type} {l : List A} {i : Nat} {a b : A} (ha : l[i]? = some a) (hb : l[i + 1]? = some b) : cutG l (some (((i + 1 : Nat) : Int) - 1)) (some (((i + 1 : Nat) : Int) + 1)) = [a, b] := by
  have h1 := (List.getElem?_eq_some_iff.mp hb).1
  rw [show ((i + 1 : Nat) : Int) - 1 = ((i : Nat) : Int) by omega, show ((i + 1 : Nat) : Int) + 1 = ((i + 2 : Nat) : Int) by omega]
  unfold cutG
  rw [HT.sIx_nat, HT.sIx_nat, show min i l.length = i by omega, show min (i + 2) l.length = i + 2 by omega, show i + 2 - i = 2 by omega]
  have e1 : l.drop i = a :: l.drop (i + 1) := by
    rw [List.drop_eq_getElem_cons (by omega)]
    congr 1
    have := List.getElem?_eq_getElem (show i < l.length by omega)
    rw [ha] at this
    exact (Option.some.inj this).symm
  have e2 : l.drop (i + 1) = b :: l.drop (i + 2) := by
    rw [List.drop_eq_getElem_cons h1]
    congr 1
    have := List.getElem?_eq_getElem h1
    rw [hb] at this
    exact (Option.some.inj this).symm
  rw [e1, e2]
  rfl
theorem srt_two {a b : Nat} (h : a ≠ b) : srtU (.tup [nI a, nI b]) = some (.lst [nI (min a b), nI (max a b)]) := by
  have hs : sortB [nI a, nI b] = true := sortB_ints (ns := [(a : Int), (b : Int)]) (by simp)
  show (if sortB [nI a, nI b] = true then some (D.lst ([nI a, nI b].mergeSort leY)) else none) = _
  rw [if_pos hs]
  congr 2
  rcases Nat.lt_or_ge a b with z | z
  · rw [show min a b = a by omega, show max a b = b by omega]
    refine sort_is (List.pairwise_pair.mpr ?_) (.refl _)
    rw [leY_int]
    simpa using z
  · rw [show min a b = b by omega, show max a b = a by omega]
    refine sort_is (List.pairwise_pair.mpr ?_) (.swap _ _ _)
    rw [leY_int]
    have : b < a := by omega
    simpa using this
def pK (e : Op) : D := .tup [nI e.1, nI e.2.1]
theorem notin_pairs (es : List Op) (u v : Nat) : notInO (.tup [nI (min u v), nI (max u v)]) (.lst (es.map pK)) = some (.bl (!es.any (pairIs u v))) := by
  have h1 : flatD (.tup [nI (min u v), nI (max u v)]) = false := rfl
  have hd : dats 63 (es.map pK) = true := dats_of fun d hd => by
    obtain ⟨e, _, rfl⟩ := List.mem_map.mp hd
    rfl
  have e0 : inD (.tup [nI (min u v), nI (max u v)]) (.lst (es.map pK)) = some ((es.map pK).any fun z => eqb z (.tup [nI (min u v), nI (max u v)])) := by
    show (if flatD (.tup [nI (min u v), nI (max u v)]) = true ∧ (es.map pK).all flatD = true then some ((es.map pK).any fun z => eqb z (.tup [nI (min u v), nI (max u v)])) else if dat 64 (.tup [nI (min u v), nI (max u v)]) = true ∧ dats 63 (es.map pK) = true then some ((es.map pK).any fun z => eqb z (.tup [nI (min u v), nI (max u v)])) else none) = _
    rw [h1, if_neg (by simp), if_pos ⟨rfl, hd⟩]
  show (inD _ _).map _ = _
  rw [e0, List.any_map]
  show some (D.bl (!es.any _)) = _
  congr 3
  refine congrArg (fun f => List.any es f) (funext fun e => ?_)
  show eqb (.tup [nI e.1, nI e.2.1]) (.tup [nI (min u v), nI (max u v)]) = _
  simp only [eqb, eqbs, castB, Bool.and_true]
  unfold pairIs
  rw [Bool.decide_and]
theorem tb_any {hs : List Int} {es : List Op} (K : NetOk hs es) (u v : Nat) : es.any (pairIs u v) = decide (0 < tb es u v) := by
  rw [Bool.eq_iff_iff, decide_eq_true_eq, tb_pos K, List.any_eq_true]
  exact ⟨fun ⟨e, h1, h2⟩ => ⟨e, h1, of_decide_eq_true h2⟩, fun ⟨e, h1, h2⟩ => ⟨e, h1, decide_eq_true h2⟩⟩
theorem eq_nilF {A : Type} {f : A → D} (hd : ∀ a, dat 63 (f a) = true) (l : List A) : eqD (.lst (l.map f)) (.lst []) = some (.bl l.isEmpty) := by
  unfold eqD
  rw [if_pos ⟨by
    simp only [dat]
    exact dats_of fun d h => by
      obtain ⟨a, _, rfl⟩ := List.mem_map.mp h
      exact hd a, by simp [dat, dats]⟩]
  cases l <;> simp [eqb, eqbs]
theorem filter_none {A : Type} (c : A → Bool) (l : List A) : (l.filter fun a => !c a).isEmpty = l.all c := by
  rw [Bool.eq_iff_iff, List.isEmpty_iff, List.filter_eq_nil_iff, List.all_eq_true]
  exact ⟨fun h a ha => by simpa using h a ha, fun h a ha => by simpa using h a ha⟩
/-- tuple(sorted(value[k - 1:k + 1])) not in pairs -/
theorem pairs_run {k : Nat} {hs : List Int} {es : List Op} (K : NetOk hs es) {V0 V2 V4 : Option Sl} {w : List Nat} (nd : w.Nodup) {i : Nat} (hi : i + 1 < w.length) (p : Pot) : (den (callD T k) (.tCmp .notin (.blt .tuple (.cons (.srt (.cons (.sl (.v 1) (.pt (.bin .sub (.v 5) (.int 1))) (.pt (.bin .add (.v 5) (.int 1)))) .nil)) .nil)) (.v 3))).t [V0, some (.val (wD w)), V2, some (.val (.lst (es.map pK))), V4, some (.val (nI (i + 1)))] p = .ok (!decide (0 < stp es w i)) p := by
  have ha : (w.map nI)[i]? = some (nI (w.getD i 0)) := by
    rw [List.getElem?_map, List.getElem?_eq_getElem (show i < w.length by omega), List.getD_eq_getElem?_getD, List.getElem?_eq_getElem (show i < w.length by omega)]
    rfl
  have hb : (w.map nI)[i + 1]? = some (nI (w.getD (i + 1) 0)) := by
    rw [List.getElem?_map, List.getElem?_eq_getElem hi, List.getD_eq_getElem?_getD, List.getElem?_eq_getElem hi]
    rfl
  have hne : w.getD i 0 ≠ w.getD (i + 1) 0 := by
    rw [List.getD_eq_getElem?_getD, List.getD_eq_getElem?_getD, List.getElem?_eq_getElem (show i < w.length by omega), List.getElem?_eq_getElem hi]
    exact List.pairwise_iff_getElem.mp nd i (i + 1) (by omega) hi (by omega)
  have hsl : slD (wD w) (some (((i + 1 : Nat) : Int) - 1)) (some (((i + 1 : Nat) : Int) + 1)) = some (.tup [nI (w.getD i 0), nI (w.getD (i + 1) 0)]) := by
    rw [wD_tup]
    show some (D.tup (cutG _ _ _)) = _
    rw [cut2 ha hb]
  have h1 : (den (callD T k) (.sl (.v 1) (.pt (.bin .sub (.v 5) (.int 1))) (.pt (.bin .add (.v 5) (.int 1))))).e [V0, some (.val (wD w)), V2, some (.val (.lst (es.map pK))), V4, some (.val (nI (i + 1)))] p = .ok (.tup [nI (w.getD i 0), nI (w.getD (i + 1) 0)]) p := by
    simp only [nI] at hsl ⊢
    rw [Int.natCast_add] at hsl
    simp only [List.getD_eq_getElem?_getD] at hsl
    simp only [List.getD_eq_getElem?_getD]
    have hsl : slD (wD w) (some ((i : Int) + 1 - 1)) (some ((i : Int) + 1 + 1)) = some (.tup [.int ((w[i]?.getD 0 : Nat) : Int), .int ((w[i + 1]?.getD 0 : Nat) : Int)]) := hsl
    rw [show (i : Int) + 1 - 1 = i by omega] at hsl
    simp [hsl]
  have h2 := srtv_run (Φ := callD T k) (fun _ => rfl) h1 (srt_two hne)
  have h3 := blt_run (Φ := callD T k) (f := .tuple) (fun _ => rfl) h2 (d := .tup [nI (min (w.getD i 0) (w.getD (i + 1) 0)), nI (max (w.getD i 0) (w.getD (i + 1) 0))]) rfl
  refine tcmp_run h3 (p2 := p) rfl ?_
  show notInO _ _ = _
  rw [notin_pairs, tb_any K]
  rfl
theorem e_lisway {k : Nat} (hk : 3 ≤ k) {hs : List Int} {es : List Op} (K : NetOk hs es) {n : Nat} (hn : n ≤ 60) {d : D} (h : gd n d = true) (p : Pot) : callD T k "_law_is_way" [.val (netD hs es), .val d] p = .ok (.bl (wayB hs es d)) p := by
  obtain ⟨k, rfl, hk'⟩ := pos hk
  have h8 := K.h8
  have h1 := e_lnetG (k := k) (by omega) (n := 3) (by omega) (net_gd K) p
  rw [netB_ok K] at h1
  rw [call__law_is_way]
  refine run_ret rfl ?_
  show (dens (callD T k) b__law_is_way).ss [some (.val (netD hs es)), some (.val d), none, none, none, none] p = _
  unfold b__law_is_way
  have t1 : (den (callD T k) (.tNot (.tTru (.call "_law_is_net" (.cons (.v 0) .nil))))).t [some (.val (netD hs es)), some (.val d), none, none, none, none] p = .ok false p := by simp [h1]
  cases d with
  | tup ds =>
    cases n with
    | zero => simp [gd] at h
    | succ n =>
    have hg := h
    simp only [gd, Bool.and_eq_true, decide_eq_true_eq] at h
    have t3 : (den (callD T k) (.tCmp .eq (.v 1) (.tup .nil))).t [some (.val (netD hs es)), some (.val (.tup ds)), none, none, none, none] p = .ok ds.isEmpty p := by
      refine tcmp_run (p1 := p) (p2 := p) (x := .tup ds) (y := .tup []) rfl rfl ?_
      show eqD _ _ = _
      unfold eqD
      rw [if_pos ⟨gd_dat 64 _ (gd_up (by omega) hg), by simp [dat, dats]⟩]
      cases ds <;> simp [eqb, eqbs]
    match ds, h, t3 with
    | [], h, t3 =>
      exact last (if_t (p1 := p) (or_f (p1 := p) rfl t1 (or_f (p1 := p) rfl (by simp) (or_1 t3))) (last (ret_comp rfl)))
    | d0 :: ds, h, t3 =>
      refine step (p1 := p) (if_f (p1 := p) (or_f (p1 := p) rfl t1 (or_f (p1 := p) rfl (by simp) (or_1 t3))) done) ?_
      have hsv := sieve (Φ := callD T k) (it := .iE (.v 1)) (c := .tNot (.tTru (.call "_law_within" (.cons (.v 2) (.cons (.int 0) (.cons (.bin .sub (.blt .len (.cons (.ix (.v 0) (.int 0)) .nil)) (.int 1)) .nil)))))) (i := 2) (x := "one") (ρ := [some (.val (netD hs es)), some (.val (.tup (d0 :: ds))), none, none, none, none]) (p := p) (xs := d0 :: ds) (numB 0 ((hs.length : Int) - 1)) (by simp) (fun _ _ => rfl) (fun _ => rfl) (fun d hd => by
        have := e_within (k := k) (by omega) (gds_mem h.2 d hd) 0 ((hs.length : Int) - 1) p
        simp [lenH, this]) h.1
      have ho := out_run (n := n) (numB 0 ((hs.length : Int) - 1)) (by omega) (fun d hd => gds_mem h.2 d hd) h.1 hsv
      cases hall : (d0 :: ds).all (numB 0 ((hs.length : Int) - 1)) with
      | false =>
        rw [hall] at ho
        have : wayB hs es (.tup (d0 :: ds)) = false := by
          unfold wayB
          simp only [rowB, hall, Bool.and_false, Bool.false_and]
        rw [this]
        exact last (if_t (p1 := p) (or_t ho) (last (ret_comp rfl)))
      | true =>
        rw [hall] at ho
        obtain ⟨w, hw, hlt⟩ := ints_way hall
        rw [hw] at ho h ⊢
        have hwne : w ≠ [] := fun e => by
          rw [e] at hw
          cases hw
        have hul := e_unlikeI (k := k) (by omega) (v := .tup (w.map nI)) (ns := wI w) (.inr (by rw [nI_map]; rfl)) p (by unfold wI; rw [List.length_map]; have := h.1; rwa [List.length_map] at this)
        have hnd : decide (wI w).Nodup = decide w.Nodup := decide_eq_decide.mpr nodup_wI
        rw [hnd] at hul
        have t5 : (den (callD T k) (.tNot (.tTru (.call "_law_unlike" (.cons (.v 1) .nil))))).t [some (.val (netD hs es)), some (.val (.tup (w.map nI))), none, none, none, none] p = .ok (!decide w.Nodup) p := by
          simp [hul]
        by_cases nd : w.Nodup
        · rw [decide_eq_true nd] at t5
          have hlen : w.length ≤ hs.length := nodup_lt nd hlt
          have hpos := List.length_pos_iff.mpr hwne
          have hB : wayB hs es (.tup (w.map nI)) = okW es w := by
            rw [← wD_tup]
            unfold wayB
            rw [toW_wD, decide_eq_true nd, Bool.true_and]
            have : rowB 1 8 0 ((hs.length : Int) - 1) (wD w) = true := by
              rw [wD_tup]
              simp only [rowB, Bool.and_eq_true, decide_eq_true_eq, List.length_map]
              refine ⟨by omega, ?_⟩
              rw [← hw]
              exact hall
            rw [this, Bool.true_and]
          rw [hB, ← wD_tup]
          rw [← wD_tup] at ho t5
          refine step (p1 := p) (if_f (p1 := p) (or_f (p1 := p) rfl ho (or_1 t5)) done) ?_
          have hpc := compR_fm (tg := (Tg.nm 4).asg) (cond := (den (callD T k) .nil).c) (elt := (den (callD T k) (.sl (.v 4) .nil (.pt (.int 2)))).e) (ρ := [some (.val (netD hs es)), some (.val (wD w)), none, none, none, none]) (p := p) trD (fun _ => true) pK (as := es) fun e he => ⟨_, rfl, rfl, fun _ => by
            have hsl : slD (trD e) none (some 2) = some (pK e) := rfl
            simp [hsl]⟩
          rw [List.filter_eq_self.mpr fun _ _ => rfl] at hpc
          have hel := K.el
          refine step (own_run (p1 := p) (d := .lst (es.map pK)) (comp_run (p1 := p) (xs := es.map trD) (by simp [netD, ixD_tup1]) hpc (by rw [List.length_map]; omega))) (step (frz_run rfl) (last (ret_comp ?_)))
          have hcc := compR_fm (tg := (Tg.nm 5).asg) (cond := (den (callD T k) (.pt (.tCmp .notin (.blt .tuple (.cons (.srt (.cons (.sl (.v 1) (.pt (.bin .sub (.v 5) (.int 1))) (.pt (.bin .add (.v 5) (.int 1)))) .nil)) .nil)) (.v 3)))).c) (elt := (den (callD T k) (.v 5)).e) (ρ := [some (.val (netD hs es)), some (.val (wD w)), none, some (.val (.lst (es.map pK))), none, none]) (p := p) (fun i : Nat => nI (i + 1)) (fun i => !decide (0 < stp es w i)) (fun i : Nat => nI (i + 1)) (as := List.range (w.length - 1)) fun i hi => ⟨_, rfl, pairs_run K nd (by have := List.mem_range.mp hi; omega) p, fun _ => rfl⟩
          refine cmp_run (p2 := p) (comp_run (p1 := p) (xs := (List.range (w.length - 1)).map fun i : Nat => nI (i + 1)) ?_ hcc ?_) (y := .lst []) rfl ?_
          · have hr1 : rgOk 1 = true := rng_ok (by omega) (by omega)
            have hr2 : rgOk (w.length : Int) = true := rng_ok (by omega) (by omega)
            have e0 : ((w.length : Int) - 1).toNat = w.length - 1 := by omega
            rw [wD_tup]
            simp [dRange2, hr1, hr2, e0, rangeItems]
            intro a _
            omega
          · rw [List.length_map]
            exact Nat.le_trans (List.length_filter_le _ _) (by simp; omega)
          · show eqD _ _ = _
            rw [eq_nilF (fun a => dat_nI 63 (a + 1)), filter_none (fun i => decide (0 < stp es w i))]
            rfl
        · rw [decide_eq_false nd] at t5
          have hB : wayB hs es (.tup (w.map nI)) = false := by
            rw [← wD_tup]
            unfold wayB
            rw [toW_wD, decide_eq_false nd, Bool.false_and, Bool.and_false]
          rw [hB]
          exact last (if_t (p1 := p) (or_f (p1 := p) rfl ho (or_1 t5)) (last (ret_comp rfl)))
  | fn x => cases n <;> simp [gd] at h
  | pot => cases n <;> simp [gd] at h
  | dct x => cases n <;> simp [gd] at h
  | dcn x => cases n <;> simp [gd] at h
  | _ => exact last (if_t (p1 := p) (or_f (p1 := p) rfl t1 (or_t (by simp))) (last (ret_comp rfl)))
end M.T

set_option Elab.async false
set_option linter.all false
set_option maxRecDepth 100000
set_option maxHeartbeats 2000000
namespace M.T
open PySem PySem.Spec PyProof.Rows L2
/-! way_time, least_time, quickest -/
theorem e_waytime {k : Nat} (hk : 6 ≤ k) {hs : List Int} {es : List Op} (K : NetOk hs es) {w : List Nat} (hw : w ≠ []) (hl : w.length ≤ 1000) (h : wayB hs es (wD w) = true) (hg : gd 1 (wD w) = true) (p : Pot) : callD T k "way_time" [.val (netD hs es), .val (wD w)] p = .ok (nI (tmW es w)) p := by
  obtain ⟨k, rfl, hk'⟩ := pos hk
  have h1 := e_need_net hk' K p
  have h2 := e_isway hk' K hg p
  rw [h] at h2
  have h3 := e_timeof (k := k) (by omega) hs es hw hl p
  rw [call_way_time]
  refine run_ret rfl ?_
  show (dens (callD T k) b_way_time).ss [some (.val (netD hs es)), some (.val (wD w))] p = _
  unfold b_way_time
  refine step (expr_ok (call1_run (fun _ => rfl) rfl h1)) (step (if_f (p1 := p) (not_run (b := true) (tru_bl (call2_run (fun _ => rfl) (fun _ => rfl) rfl rfl h2))) done) (last (ret_comp (call2_run (fun _ => rfl) (fun _ => rfl) rfl rfl h3))))
theorem x_waytime {k : Nat} (hk : 6 ≤ k) {hs : List Int} {es : List Op} (K : NetOk hs es) {n : Nat} {d : D} (hg : gd n d = true) (h : wayB hs es d = false) (p : Pot) : callD T k "way_time" [.val (netD hs es), .val d] p = .exc "NotThere" p := by
  obtain ⟨k, rfl, hk'⟩ := pos hk
  have h1 := e_need_net hk' K p
  have h2 := e_isway hk' K hg p
  rw [h] at h2
  rw [call_way_time]
  simp [h1, h2]
theorem x_waytimeN {k : Nat} (hk : 6 ≤ k) {n : Nat} {d : D} (hg : gd n d = true) (h : netB d = false) (x : D) (p : Pot) : callD T k "way_time" [.val d, .val x] p = .exc "NoNet" p := by
  obtain ⟨k, rfl, hk'⟩ := pos hk
  have h1 := x_need_net hk' hg h p
  rw [call_way_time]
  simp [h1]
theorem isway_none {k : Nat} (hk : 5 ≤ k) {n : Nat} {d : D} (hg : gd n d = true) (h : netB d = false) (x : D) (p : Pot) : callD T k "is_way" [.val d, .val x] p = .ok (.bl false) p := by
  obtain ⟨k, rfl, hk'⟩ := pos hk
  have h1 := e_netG (k := k) (by omega) hg p
  rw [h] at h1
  rw [call_is_way]
  refine run_ret rfl ?_
  show (dens (callD T k) b_is_way).ss [some (.val d), some (.val x), none] p = _
  unfold b_is_way
  exact last (if_t (p1 := p) (or_t (by simp [h1])) (last (ret_comp rfl)))
theorem ite_f {Φ : Phi} {c a b : E} {ρ : En} {p p1 : Pot} {x : Res D} (h : (den Φ c).t ρ p = .ok false p1) (k : (den Φ b).e ρ p1 = x) : (den Φ (.ite c a b)).e ρ p = x := by
  show dIte (den Φ c).t (den Φ a).e (den Φ b).e ρ p = x
  simp only [dIte, h, Res.bind]
  exact k
theorem ite_t {Φ : Phi} {c a b : E} {ρ : En} {p p1 : Pot} {x : Res D} (h : (den Φ c).t ρ p = .ok true p1) (k : (den Φ a).e ρ p1 = x) : (den Φ (.ite c a b)).e ρ p = x := by
  show dIte (den Φ c).t (den Φ a).e (den Φ b).e ρ p = x
  simp only [dIte, h, Res.bind]
  exact k
def oD : Option Nat → D
  | some d => nI d
  | none => .non
theorem lk_same {n s : Nat} {E : Nat → Nat → Nat → Prop} {T m : Mp} (C : Closed E T) (I : Inv n E s T) (C' : Closed E m) (I' : Inv n E s m) (v : Nat) : lk m v = lk T v :=
  C.eq I I' (fun v e h => by
    have w := I.sound v e h
    exact closed_le C' I'.st w) v
theorem e_least {k : Nat} (hk : 7 ≤ k) {hs : List Int} {es : List Op} (K : NetOk hs es) {s e : Nat} (hs' : s < hs.length) (he : e < hs.length) {T' : Mp} (C : Closed (Ed es) T') (I : Inv hs.length (Ed es) s T') (p : Pot) : callD T k "least_time" [.val (netD hs es), .val (nI s), .val (nI e)] p = .ok (oD (lk T' e)) p := by
  obtain ⟨k, rfl, hk'⟩ := pos hk
  have n1 := e_need_place hk' K hs' p
  have n2 := e_need_place hk' K he p
  obtain ⟨m, h1, I', C'⟩ := e_times (k := k) (by omega) K hs' p
  rw [call_least_time]
  refine run_ret rfl ?_
  show (dens (callD T k) b_least_time).ss [some (.val (netD hs es)), some (.val (nI s)), some (.val (nI e))] p = _
  unfold b_least_time
  refine step (expr_ok (call2_run (fun _ => rfl) (fun _ => rfl) rfl rfl n1)) (step (expr_ok (call2_run (fun _ => rfl) (fun _ => rfl) rfl rfl n2)) (last (ret_comp ?_)))
  rw [← lk_same C I C' I']
  simp [h1, getE, look_mD]
  cases lk m e <;> rfl
theorem x_least1 {k : Nat} (hk : 7 ≤ k) {hs : List Int} {es : List Op} (K : NetOk hs es) {n : Nat} {d : D} (hd : gd n d = true) (hb : numB 0 ((hs.length : Int) - 1) d = false) (x : D) (p : Pot) : callD T k "least_time" [.val (netD hs es), .val d, .val x] p = .exc "NotThere" p := by
  obtain ⟨k, rfl, hk'⟩ := pos hk
  have h1 := x2_need_place hk' K hd hb p
  rw [call_least_time]
  simp [h1]
theorem x_least2 {k : Nat} (hk : 7 ≤ k) {hs : List Int} {es : List Op} (K : NetOk hs es) {s : Nat} (hs' : s < hs.length) {n : Nat} {d : D} (hd : gd n d = true) (hb : numB 0 ((hs.length : Int) - 1) d = false) (p : Pot) : callD T k "least_time" [.val (netD hs es), .val (nI s), .val d] p = .exc "NotThere" p := by
  obtain ⟨k, rfl, hk'⟩ := pos hk
  have h0 := e_need_place hk' K hs' p
  have h1 := x2_need_place hk' K hd hb p
  rw [call_least_time]
  simp [h0, h1]
theorem x_quick2 {k : Nat} (hk : 8 ≤ k) {hs : List Int} {es : List Op} (K : NetOk hs es) {s : Nat} (hs' : s < hs.length) {n : Nat} {d : D} (hd : gd n d = true) (hb : numB 0 ((hs.length : Int) - 1) d = false) (p : Pot) : callD T k "quickest" [.val (netD hs es), .val (nI s), .val d] p = .exc "NotThere" p := by
  obtain ⟨k, rfl, hk'⟩ := pos hk
  have h1 := x_least2 hk' K hs' hd hb p
  rw [call_quickest]
  simp [h1]
theorem x_ways {k : Nat} (hk : 7 ≤ k) {hs : List Int} {es : List Op} (K : NetOk hs es) {s e : Nat} (hs' : s < hs.length) (he : e < hs.length) {n : Nat} {d : D} (hd : gd n d = true) (hb : numB 0 99 d = false) (p : Pot) : callD T k "ways" [.val (netD hs es), .val (nI s), .val (nI e), .val d] p = .exc "NotThere" p := by
  obtain ⟨k, rfl, hk'⟩ := pos hk
  have n1 := e_need_place hk' K hs' p
  have n2 := e_need_place hk' K he p
  have n3 := e_numG (k := k) (by omega) hd 0 99 p
  rw [hb] at n3
  rw [call_ways]
  simp [n1, n2, n3]
theorem mem_waysL {hs : List Int} {es : List Op} {s e most : Nat} {a : List Int} : a ∈ waysL hs es s e most ↔ ∃ y ∈ lev (nearL es hs.length) 6 [([s], 0)], lst y.1 = e ∧ y.2 ≤ most ∧ a = wI y.1 := by
  unfold waysL srtL FF
  rw [(List.mergeSort_perm _ _).mem_iff, List.mem_map]
  constructor
  · rintro ⟨w, hw, rfl⟩
    obtain ⟨y, hy, rfl⟩ := List.mem_map.mp hw
    obtain ⟨h1, h2⟩ := List.mem_filter.mp hy
    simp only [tgtP, Bool.and_eq_true, decide_eq_true_eq] at h2
    exact ⟨y, h1, h2.1, h2.2, rfl⟩
  · rintro ⟨y, h1, h2, h3, rfl⟩
    exact ⟨y.1, List.mem_map.mpr ⟨y, List.mem_filter.mpr ⟨h1, by simp [tgtP, h2, h3]⟩, rfl⟩, rfl⟩
def toN (a : List Int) : List Nat := a.map Int.toNat
theorem toN_wI (w : List Nat) : toN (wI w) = w := by
  unfold toN wI
  rw [List.map_map]
  conv => rhs; rw [← List.map_id w]
  exact List.map_congr_left fun v _ => by simp
theorem gd_wD {w : List Nat} (h : w.length ≤ 1000) : gd 1 (wD w) = true := by
  rw [wD_tup]
  exact gd_tup (by rw [List.length_map]; exact h) fun d hd => by
    obtain ⟨v, _, rfl⟩ := List.mem_map.mp hd
    rfl
/-- what holds of all ways told -/
structure WOk (hs : List Int) (es : List Op) (y : Wy) : Prop where
  gd : Gd hs.length y
  ti : TI es y
theorem lev_ok {hs : List Int} {es : List Op} (K : NetOk hs es) {s : Nat} (hs' : s < hs.length) : ∀ y ∈ lev (nearL es hs.length) 6 [([s], 0)], WOk hs es y := fun y hy => ⟨lev_gd (nb_ok K) (fun w hw => by
    rw [List.mem_singleton] at hw
    rw [hw]
    exact gd_one hs') y hy, ti_lev K s 6 y hy⟩
theorem WOk.way {hs : List Int} {es : List Op} (K : NetOk hs es) {y : Wy} (h : WOk hs es y) : wayB hs es (wD y.1) = true := by
  have h8 := K.h8
  have hl := h.gd.len
  have hp := h.gd.pos
  unfold wayB
  rw [toW_wD, decide_eq_true h.gd.nd, h.ti.2.2, Bool.and_true, Bool.and_true, wD_tup]
  simp only [rowB, Bool.and_eq_true, decide_eq_true_eq, List.length_map, List.all_eq_true]
  refine ⟨by omega, fun d hd => ?_⟩
  obtain ⟨v, hv, rfl⟩ := List.mem_map.mp hd
  have := h.gd.lt v hv
  simp only [numB, decide_eq_true_eq]
  omega
/-- the first quickest way -/
theorem e_quick {k : Nat} (hk : 8 ≤ k) {hs : List Int} {es : List Op} (K : NetOk hs es) (hn : hs.length ≤ 6) {s e : Nat} (hs' : s < hs.length) (he : e < hs.length) {T' : Mp} (C : Closed (Ed es) T') (I : Inv hs.length (Ed es) s T') {b : Wy} (hb : b ∈ lev (nearL es hs.length) 6 [([s], 0)]) (hbe : lst b.1 = e) (hbd : lk T' e = some b.2) (hmin : ∀ y ∈ lev (nearL es hs.length) 6 [([s], 0)], lst y.1 = e → y.2 = b.2 → wI b.1 ≤ wI y.1) (p : Pot) : callD T k "quickest" [.val (netD hs es), .val (nI s), .val (nI e)] p = .ok (wD b.1) p := by
  obtain ⟨k, rfl, hk'⟩ := pos hk
  have h1 := e_least hk' K hs' he C I p
  rw [hbd] at h1
  have hm : b.2 ≤ 99 := by
    have := I.bd e b.2 hbd
    have := I.len
    omega
  have h2 := e_ways hk' K hn hs' he hm p
  have hok := lev_ok K hs'
  have hlen : (waysL hs es s e b.2).length ≤ 326 := by
    unfold waysL srtL
    rw [List.length_mergeSort, List.length_map, List.length_map]
    refine Nat.le_trans (List.length_filter_le _ _) (Nat.le_trans (lev_wt (nb_ok K) hn 6 fun w hw => ?_) (Nat.le_of_eq (by simp [wts, wtF] : wts [([s], 0)] = 326)))
    rw [List.mem_singleton] at hw
    rw [hw]
    exact gd_one hs'
  have hc := compR_fm (tg := (Tg.nm 4).asg) (cond := (den (callD T k) (.pt (.tCmp .eq (.call "time_of" (.cons (.v 0) (.cons (.v 4) .nil))) (.v 3)))).c) (elt := (den (callD T k) (.v 4)).e) (ρ := [some (.val (netD hs es)), some (.val (nI s)), some (.val (nI e)), some (.val (nI b.2)), none]) (p := p) tI (fun a => decide (tmW es (toN a) = b.2)) tI (as := waysL hs es s e b.2) fun a ha => by
    obtain ⟨y, hy, _, _, rfl⟩ := mem_waysL.mp ha
    have hG := (hok y hy).gd
    have := hG.len
    have h3 := e_timeof (k := k) (by omega) hs es hG.ne (by omega) p
    refine ⟨_, rfl, ?_, fun _ => rfl⟩
    rw [toN_wI]
    exact teq_nat (Φ := callD T k) (ρ := [some (.val (netD hs es)), some (.val (nI s)), some (.val (nI e)), some (.val (nI b.2)), some (.val (wD y.1))]) (p := p) (p1 := p) (p2 := p) (call2_run (fun _ => rfl) (fun _ => rfl) rfl rfl h3) rfl
  have hmem : ∀ a, a ∈ (waysL hs es s e b.2).filter (fun a => decide (tmW es (toN a) = b.2)) ↔ ∃ y ∈ lev (nearL es hs.length) 6 [([s], 0)], lst y.1 = e ∧ y.2 = b.2 ∧ a = wI y.1 := fun a => by
    rw [List.mem_filter, mem_waysL, decide_eq_true_eq]
    constructor
    · rintro ⟨⟨y, h1, h2, h3, rfl⟩, h4⟩
      rw [toN_wI] at h4
      exact ⟨y, h1, h2, by rw [(hok y h1).ti.2.1]; exact h4, rfl⟩
    · rintro ⟨y, h1, h2, h3, rfl⟩
      refine ⟨⟨y, h1, h2, Nat.le_of_eq h3, rfl⟩, ?_⟩
      rw [toN_wI, ← (hok y h1).ti.2.1]
      exact h3
  have hbm := (hmem (wI b.1)).mpr ⟨b, hb, hbe, rfl, rfl⟩
  obtain ⟨b', h3, h4, h5⟩ := min_any (f := tI) (l := (waysL hs es s e b.2).filter fun a => decide (tmW es (toN a) = b.2)) (fun a _ => dat_tI 62 a) (fun a _ b _ => alike_tI a b) (fun a _ => by unfold tI; simp) (List.ne_nil_of_mem hbm)
  have hbb : b' = wI b.1 := by
    obtain ⟨y, q1, q2, q3, rfl⟩ := (hmem b').mp h3
    have q4 := h5 _ hbm
    rw [leY_tI, decide_eq_true_eq] at q4
    exact List.le_antisymm q4 (hmin y q1 q2 q3)
  rw [hbb] at h4
  rw [call_quickest]
  refine run_ret rfl ?_
  show (dens (callD T k) b_quickest).ss [some (.val (netD hs es)), some (.val (nI s)), some (.val (nI e)), none, none] p = _
  unfold b_quickest
  refine step (set_run (p1 := p) (d := nI b.2) (by simp [h1, oD])) (last (ret_comp ?_))
  have hmn := blt_run (Φ := callD T k) (f := .min1) (fun _ => rfl) (comp_run (p := p) (p1 := p) (p2 := p) (ρ := [some (.val (netD hs es)), some (.val (nI s)), some (.val (nI e)), some (.val (nI b.2)), none]) (xs := (waysL hs es s e b.2).map tI) (own := [("way", 4)]) (t := .nm 4) (it := .iE (.call "ways" (.cons (.v 0) (.cons (.v 1) (.cons (.v 2) (.cons (.v 3) .nil)))))) (by simp [h2]) hc (by rw [List.length_map]; exact Nat.le_trans (List.length_filter_le _ _) (by omega))) (d := wD b.1) h4
  have hnn : (den (callD T k) (.tCmp .is_ (.v 3) .non)).t [some (.val (netD hs es)), some (.val (nI s)), some (.val (nI e)), some (.val (nI b.2)), none] p = .ok false p := by simp [isO, isD, isNon]
  exact ite_f hnn hmn
theorem e_quickN {k : Nat} (hk : 8 ≤ k) {hs : List Int} {es : List Op} (K : NetOk hs es) {s e : Nat} (hs' : s < hs.length) (he : e < hs.length) {T' : Mp} (C : Closed (Ed es) T') (I : Inv hs.length (Ed es) s T') (h : lk T' e = none) (p : Pot) : callD T k "quickest" [.val (netD hs es), .val (nI s), .val (nI e)] p = .ok .non p := by
  obtain ⟨k, rfl, hk'⟩ := pos hk
  have h1 := e_least hk' K hs' he C I p
  rw [h] at h1
  rw [call_quickest]
  simp [h1, oD, isO, isD, isNon]
end M.T

set_option Elab.async false
set_option linter.all false
set_option maxRecDepth 100000
set_option maxHeartbeats 2000000
namespace M.T
open PySem PySem.Spec PyProof.Rows L2
/-! the law's turn -/
def sv (turn net start end_ every here most best way time odd bad : Option Sl) : En := [none, some (.val .pot), turn, net, start, end_, every, here, most, best, way, time, odd, bad]
theorem sv_eq (turn net start end_ every here most best way time odd bad : Option Sl) : sv turn net start end_ every here most best way time odd bad = [none, some (.val .pot), turn, net, start, end_, every, here, most, best, way, time, odd, bad] := rfl
theorem e_sameN {k : Nat} (hk : 1 ≤ k) (p : Pot) : callD T k "_law_same" [.val .non, .val .non] p = .ok (.bl true) p := by
  obtain ⟨k, rfl, hk'⟩ := pos hk
  rw [call__law_same]
  simp [isO, isD, isNon]
theorem same_t {k : Nat} (hk : 1 ≤ k) (b : Bool) (p : Pot) : callD T k "_law_same" [.val (.bl b), .val (.bl b)] p = .ok (.bl true) p := e_same 0 _ _ (by omega) rfl
theorem same_o {k : Nat} (hk : 1 ≤ k) (o : Option Nat) (p : Pot) : callD T k "_law_same" [.val (oD o), .val (oD o)] p = .ok (.bl true) p := by
  cases o with
  | none => exact e_sameN hk p
  | some d => exact e_same 0 (nI d) _ (by omega) rfl
theorem flt_tI {a : List Int} (h : a.length ≤ 1000) : flt 1 (tI a) = true := by
  simp only [tI, flt, Bool.and_eq_true, decide_eq_true_eq, List.length_map]
  exact ⟨h, flts_of fun d hd => by
    obtain ⟨q, _, rfl⟩ := List.mem_map.mp hd
    rfl⟩
theorem flt_tIs {l : List (List Int)} (h : l.length ≤ 1000) (hf : ∀ a ∈ l, a.length ≤ 1000) : flt 2 (.tup (l.map tI)) = true := by
  simp only [flt, Bool.and_eq_true, decide_eq_true_eq, List.length_map]
  exact ⟨h, flts_of fun d hd => by
    obtain ⟨q, hq, rfl⟩ := List.mem_map.mp hd
    exact flt_tI (hf q hq)⟩
theorem sr_wD {w : List Nat} (hl : w.length ≤ 8) (hlt : ∀ v ∈ w, v < 8) : sr 1 (wD w) = true := by
  rw [wD_tup]
  simp only [sr, Bool.and_eq_true, decide_eq_true_eq, List.length_map]
  refine ⟨by omega, srs_of fun d hd => ?_⟩
  obtain ⟨v, hv, rfl⟩ := List.mem_map.mp hd
  have := hlt v hv
  simp only [sr, decide_eq_true_eq]
  omega
def ynT (y : Wy) : D := nT ((y.2 : Nat), wI y.1)
theorem ynT_eq (y : Wy) : ynT y = .tup [nI y.2, wD y.1] := rfl
section
variable {Φ : Phi} {p : Pot}
/-- [(time, way) for way, time in every if way[-1] == end] -/
theorem here_run {turn net start : Option Sl} {e : Nat} {every : List Wy} (hne : ∀ y ∈ every, y.1 ≠ []) (hl : every.length ≤ 1000) : (den Φ (.comp (.tup [(.nm 10), (.nm 11)]) (.iE (.v 6)) (.pt (.tCmp .eq (.ix (.v 10) (.neg (.int 1))) (.v 5))) (.tup (.cons (.v 11) (.cons (.v 10) .nil))) [("time", 11), ("way", 10)])).e (sv turn net start (some (.val (nI e))) (some (.val (.lst (every.map wyD)))) none none none none none none none) p = .ok (.lst ((every.filter fun y => decide (lst y.1 = e)).map ynT)) p := by
  have hc := compR_fm (tg := (Tg.tup [.nm 10, .nm 11]).asg) (cond := (den Φ (.pt (.tCmp .eq (.ix (.v 10) (.neg (.int 1))) (.v 5)))).c) (elt := (den Φ (.tup (.cons (.v 11) (.cons (.v 10) .nil)))).e) (ρ := sv turn net start (some (.val (nI e))) (some (.val (.lst (every.map wyD)))) none none none none none none none) (p := p) wyD (fun y => decide (lst y.1 = e)) ynT (as := every) fun y hy => by
    have hix := ix_lst (hne y hy)
    refine ⟨_, rfl, teq_nat (Φ := Φ) (ρ := [none, some (.val .pot), turn, net, start, some (.val (nI e)), some (.val (.lst (every.map wyD))), none, none, none, some (.val (wD y.1)), some (.val (nI y.2)), none, none]) (p := p) (p1 := p) (by simp [hix]) rfl, fun _ => ?_⟩
    rw [ynT_eq]
    exact tup2_run (fun _ => rfl) (fun _ => rfl) rfl rfl
  exact comp_run (p1 := p) (xs := every.map wyD) (by simp [sv_eq]) hc (by rw [List.length_map]; exact Nat.le_trans (List.length_filter_le _ _) hl)
/-- tuple(sorted([way for time, way in here if time <= most])) -/
theorem due_run {turn net start end_ every : Option Sl} {most : Nat} {here : List Wy} (hne : ∀ y ∈ here, y.1 ≠ []) (hl : here.length ≤ 1000) : (den Φ (.blt .tuple (.cons (.srt (.cons (.comp (.tup [(.nm 11), (.nm 10)]) (.iE (.v 7)) (.pt (.tCmp .le (.v 11) (.v 8))) (.v 10) [("time", 11), ("way", 10)]) .nil)) .nil))).e (sv turn net start end_ every (some (.val (.lst (here.map ynT)))) (some (.val (nI most))) none none none none none) p = .ok (.tup ((srtL (((here.filter fun y => decide (y.2 ≤ most)).map (·.1)).map wI)).map tI)) p := by
  have hc := compR_fm (tg := (Tg.tup [.nm 11, .nm 10]).asg) (cond := (den Φ (.pt (.tCmp .le (.v 11) (.v 8)))).c) (elt := (den Φ (.v 10)).e) (ρ := sv turn net start end_ every (some (.val (.lst (here.map ynT)))) (some (.val (nI most))) none none none none none) (p := p) ynT (fun y => decide (y.2 ≤ most)) (fun y => wD y.1) (as := here) fun y hy => by
    refine ⟨_, rfl, ?_, fun _ => rfl⟩
    exact le_run (Φ := Φ) (a := .v 11) (b := .v 8) (ρ := [none, some (.val .pot), turn, net, start, end_, every, some (.val (.lst (here.map ynT))), some (.val (nI most)), none, some (.val (wD y.1)), some (.val (nI y.2)), none, none]) (p := p) (p1 := p) (x := y.2) (y := most) rfl rfl
  have hcr := comp_run (Φ := Φ) (t := .tup [(.nm 11), (.nm 10)]) (it := .iE (.v 7)) (c := .pt (.tCmp .le (.v 11) (.v 8))) (e := .v 10) (own := [("time", 11), ("way", 10)]) (ρ := sv turn net start end_ every (some (.val (.lst (here.map ynT)))) (some (.val (nI most))) none none none none none) (p := p) (p1 := p) (xs := here.map ynT) (by simp [sv_eq]) hc (by rw [List.length_map]; exact Nat.le_trans (List.length_filter_le _ _) hl)
  refine tupE (fun _ => rfl) (srtv_run (fun _ => rfl) hcr ?_)
  have e1 : (here.filter fun y => decide (y.2 ≤ most)).map (fun y => wD y.1) = (((here.filter fun y => decide (y.2 ≤ most)).map (·.1)).map wI).map tI := by
    rw [List.map_map, List.map_map]
    rfl
  rw [e1, srt_tI (fun a ha => ?_) (by rw [List.length_map, List.length_map]; exact Nat.le_trans (List.length_filter_le _ _) hl)]
  obtain ⟨w, hw, rfl⟩ := List.mem_map.mp ha
  obtain ⟨y, hy, rfl⟩ := List.mem_map.mp hw
  exact wI_ne (hne y (List.mem_filter.mp hy).1)
end
theorem due_ways {hs : List Int} {es : List Op} {s e most : Nat} {every : List Wy} (h : every.Perm (lev (nearL es hs.length) 6 [([s], 0)])) : srtL ((((every.filter fun y => decide (lst y.1 = e)).filter fun y => decide (y.2 ≤ most)).map (·.1)).map wI) = waysL hs es s e most := by
  unfold waysL FF
  refine srtL_perm ((List.Perm.map _ ?_).map _)
  rw [List.filter_filter]
  have : (fun y : Wy => decide (y.2 ≤ most) && decide (lst y.1 = e)) = tgtP e most := funext fun y => by
    unfold tgtP
    rw [Bool.and_comm]
  rw [this]
  exact h.filter _
/-- best, and what the program tells of it -/
theorem best_run {k : Nat} (hk : 8 ≤ k) {hs : List Int} {es : List Op} (K : NetOk hs es) (hn : hs.length ≤ 6) {s e : Nat} (hs' : s < hs.length) (he : e < hs.length) {every : List Wy} (h : every.Perm (lev (nearL es hs.length) 6 [([s], 0)])) (hl : every.length ≤ 1000) (p : Pot) {turn net start end_ ev most : Option Sl} :
    ∃ (o : Option Nat) (b : D), (den (callD T k) (.ite (.tCmp .ne (.v 7) (.lst .nil)) (.blt .min1 (.cons (.v 7) .nil)) (.tup (.cons .non (.cons .non .nil))))).e (sv turn net start end_ ev (some (.val (.lst ((every.filter fun y => decide (lst y.1 = e)).map ynT)))) most none none none none none) p = .ok (.tup [oD o, b]) p ∧
      callD T k "least_time" [.val (netD hs es), .val (nI s), .val (nI e)] p = .ok (oD o) p ∧ callD T k "quickest" [.val (netD hs es), .val (nI s), .val (nI e)] p = .ok b p ∧ callD T k "_law_same" [.val b, .val b] p = .ok (.bl true) p := by
  have O := nb_ok K
  obtain ⟨T', I, C⟩ : ∃ T', Inv hs.length (Ed es) s T' ∧ Closed (Ed es) T' := by
    obtain ⟨m, _, a, b⟩ := e_times (k := k) (by omega) K hs' p
    exact ⟨m, a, b⟩
  have hE : ∀ u v t, (v, t) ∈ nearL es hs.length u ↔ Ed es u v t := fun u v t => mem_near K
  obtain ⟨l1, l2⟩ := least_time hE O hn hs' C I K.e e
  have hok := lev_ok K hs'
  have hcnd : (den (callD T k) (.tCmp .ne (.v 7) (.lst .nil))).t (sv turn net start end_ ev (some (.val (.lst ((every.filter fun y => decide (lst y.1 = e)).map ynT)))) most none none none none none) p = .ok (!(every.filter fun y => decide (lst y.1 = e)).isEmpty) p := neT_nil (f := ynT) (fun y => dat_nT _) rfl
  have hm : ∀ y, y ∈ (every.filter fun y => decide (lst y.1 = e)) ↔ y ∈ lev (nearL es hs.length) 6 [([s], 0)] ∧ lst y.1 = e := fun y => by
    rw [List.mem_filter, h.mem_iff, decide_eq_true_eq]
  cases hd : lk T' e with
  | none =>
    have h0 : (every.filter fun y => decide (lst y.1 = e)) = [] := List.eq_nil_iff_forall_not_mem.mpr fun y hy => l1 hd y ((hm y).mp hy).1 ((hm y).mp hy).2
    rw [h0] at hcnd ⊢
    refine ⟨none, .non, ite_f hcnd (tup2_run (fun _ => rfl) (fun _ => rfl) (p1 := p) rfl rfl), ?_, e_quickN hk K hs' he C I hd p, e_sameN (by omega) p⟩
    have := e_least (k := k) (by omega) K hs' he C I p
    rwa [hd] at this
  | some d =>
    obtain ⟨⟨y0, q1, q2, q3⟩, q4⟩ := l2 d hd
    have hne : (every.filter fun y => decide (lst y.1 = e)) ≠ [] := List.ne_nil_of_mem ((hm y0).mpr ⟨q1, q2⟩)
    obtain ⟨b, h3, h4, h5⟩ := min_any (f := ynT) (l := every.filter fun y => decide (lst y.1 = e)) (fun a _ => dat_nT _) (fun a _ b _ => alike_nT _ _) (fun a _ => by rw [ynT_eq]; simp) hne
    obtain ⟨hb1, hb2⟩ := (hm b).mp h3
    have hle : ∀ y, y ∈ lev (nearL es hs.length) 6 [([s], 0)] → lst y.1 = e → b.2 < y.2 ∨ (b.2 = y.2 ∧ wI b.1 ≤ wI y.1) := fun y hy1 hy2 => by
      have := h5 y ((hm y).mpr ⟨hy1, hy2⟩)
      unfold ynT at this
      rw [leY_nT, decide_eq_true_eq] at this
      rcases this with z | z
      · exact .inl (by omega)
      · exact .inr ⟨by omega, z.2⟩
    have hbd : b.2 = d := by
      have a1 := q4 b hb1 hb2
      have a2 := hle y0 q1 q2
      omega
    have hd' : lk T' e = some b.2 := by rw [hd, hbd]
    have hemp : (every.filter fun y => decide (lst y.1 = e)).isEmpty = false := by
      cases hx : every.filter fun y => decide (lst y.1 = e) with
      | nil => exact (hne hx).elim
      | cons => rfl
    rw [hemp] at hcnd
    have hlw := (hok b hb1).gd.len
    refine ⟨some b.2, wD b.1, ite_t hcnd (blt_run (f := .min1) (fun _ => rfl) (p1 := p) rfl h4), ?_, ?_, e_same 1 _ _ (by omega) (flt_tI (by unfold wI; rw [List.length_map]; omega))⟩
    · have := e_least (k := k) (by omega) K hs' he C I p
      rwa [hd'] at this
    · exact e_quick hk K hn hs' he C I hb1 hb2 hd' (fun y hy1 hy2 hy3 => by
        rcases hle y hy1 hy2 with z | z
        · omega
        · exact z.2) p
end M.T

set_option Elab.async false
set_option linter.all false
set_option maxRecDepth 100000
set_option maxHeartbeats 4000000
namespace M.T
open PySem PySem.Spec PyProof.Rows L2
theorem tracks_bad {hs : List Int} {es : List Op} (K : NetOk hs es) : gd 2 (.tup (es.map trD)) = true ∧ netB (.tup (es.map trD)) = false := by
  have hel := K.el
  refine ⟨gd_tup (by rw [List.length_map]; omega) fun d hd => ?_, ?_⟩
  · obtain ⟨e, _, rfl⟩ := List.mem_map.mp hd
    rfl
  · match es with
    | [] => rfl
    | [a] => rfl
    | [a, b] =>
      show (rowB 1 8 1 3 (trD a) && ([D.int (b.1 : Nat), D.int (b.2.1 : Nat), D.int (b.2.2 : Nat)] : List D).all (trackB _) && _) = false
      simp [trackB]
    | a :: b :: c :: r => rfl
theorem pick_bad {hs : List Int} {es : List Op} (K : NetOk hs es) {x : D} (h : x ∈ [D.non, .tup [netD hs es], .tup (es.map trD)]) : gd 4 x = true ∧ netB x = false := by
  simp only [List.mem_cons, List.not_mem_nil, or_false] at h
  rcases h with rfl | rfl | rfl
  · exact ⟨rfl, rfl⟩
  · refine ⟨gd_up (by omega : 4 ≤ 4) (gd_tup (by simp) fun d hd => ?_), rfl⟩
    rw [List.mem_singleton] at hd
    rw [hd]
    exact net_gd K
  · exact ⟨gd_up (by omega) (tracks_bad K).1, (tracks_bad K).2⟩
theorem law_turn {k : Nat} (hk : 30 ≤ k) {p : Pot} (hp : IP p) (x : D) : ∃ ρ2 p', (dens (callD T k) l1_law).ss (sv (some (.val x)) none none none none none none none none none none none) p = .ok (.nx ρ2) p' ∧ wipeE ρ2 [2, 3, 4, 5, 6, 7, 8, 9, 10, 11, 12, 13] = sv none none none none none none none none none none none none ∧ IP p' := by
  obtain ⟨r, p0, e0, i0, r0, r1⟩ := e_draw (k := k) (by omega) (m := 6) (by omega) (by omega) hp
  obtain ⟨m, rfl⟩ : ∃ j : Nat, r = (j : Int) := ⟨r.toNat, by omega⟩
  obtain ⟨hs, es, p1, e1, i1, K, hm, _⟩ := e_net (k := k) (by omega) (m := m + 1) (by omega) (by omega) i0
  have e1 : callD T k "_law_net" [.val .pot, .val (.int (1 + (m : Int)))] p0 = .ok (netD hs es) p1 := by
    rw [show (1 + (m : Int)) = ((m + 1 : Nat) : Int) by omega]
    exact e1
  have hn : hs.length ≤ 6 := by omega
  have h1 := K.h1
  obtain ⟨r, p2, e2, i2, r0, r1⟩ := e_draw (k := k) (by omega) (m := (hs.length : Int)) (by omega) (by omega) i1
  obtain ⟨s, rfl⟩ : ∃ j : Nat, r = (j : Int) := ⟨r.toNat, by omega⟩
  have hs' : s < hs.length := by omega
  obtain ⟨r, p3, e3, i3, r0, r1⟩ := e_draw (k := k) (by omega) (m := (hs.length : Int)) (by omega) (by omega) i2
  obtain ⟨e, rfl⟩ : ∃ j : Nat, r = (j : Int) := ⟨r.toNat, by omega⟩
  have he : e < hs.length := by omega
  obtain ⟨every, e4, pe⟩ := e_allways (k := k) (by omega) K hn hs' p3
  have hok : ∀ y ∈ every, WOk hs es y := fun y hy => lev_ok K hs' y (pe.mem_iff.mp hy)
  have hne : ∀ y ∈ every, y.1 ≠ [] := fun y hy => (hok y hy).gd.ne
  have hev : every.length ≤ 326 := by
    rw [pe.length_eq]
    refine Nat.le_trans (lev_wt (nb_ok K) hn 6 fun w hw => ?_) (Nat.le_of_eq (by simp [wts, wtF] : wts [([s], 0)] = 326))
    rw [List.mem_singleton] at hw
    rw [hw]
    exact gd_one hs'
  have hev1 : 1 ≤ every.length := by
    have : (([s], 0) : Wy) ∈ every := pe.mem_iff.mpr (by simp [lev])
    exact List.length_pos_of_mem this
  have hfl : (every.filter fun y => decide (lst y.1 = e)).length ≤ 326 := Nat.le_trans (List.length_filter_le _ _) hev
  obtain ⟨r, p4, e5, i4, r0, r1⟩ := e_draw (k := k) (by omega) (m := 20) (by omega) (by omega) i3
  obtain ⟨most, rfl⟩ : ∃ j : Nat, r = (j : Int) := ⟨r.toNat, by omega⟩
  have q1 := e_ways (k := k) (by omega) K hn hs' he (most := most) (by omega) p4
  have hwl : (waysL hs es s e most).length ≤ 326 := by
    rw [← due_ways pe]
    unfold srtL
    rw [List.length_mergeSort, List.length_map, List.length_map]
    exact Nat.le_trans (List.length_filter_le _ _) hfl
  have hwa : ∀ a ∈ waysL hs es s e most, a.length ≤ 1000 := fun a ha => by
    obtain ⟨y, hy, _, _, rfl⟩ := mem_waysL.mp ha
    have := (lev_ok K hs' y hy).gd.len
    unfold wI
    rw [List.length_map]
    omega
  obtain ⟨o, b, b1, b2, b3, b4⟩ := best_run (k := k) (by omega) K hn hs' he pe (by omega) p4 (turn := some (.val x)) (start := some (.val (nI s))) (net := some (.val (netD hs es))) (end_ := some (.val (nI e))) (ev := some (.val (.lst (every.map wyD)))) (most := some (.val (nI most)))
  obtain ⟨z, p5, e6, i5, m5⟩ := e_pick (k := k) (by omega) (xs := every.map wyD) (by rw [List.length_map]; exact hev1) (by rw [List.length_map]; omega) i4
  obtain ⟨y, hy, rfl⟩ := List.mem_map.mp m5
  have hY := hok y hy
  have hyl := hY.gd.len
  have hyw := hY.way K
  have hyg : gd 1 (wD y.1) = true := gd_wD (by omega)
  have q2 := e_waytime (k := k) (by omega) K hY.gd.ne (by omega) hyw hyg p5
  rw [← hY.ti.2.1] at q2
  have q3 := e_isway (k := k) (by omega) K hyg p5
  rw [hyw] at q3
  obtain ⟨d, p6, e7, i6, g6⟩ := e_bent 2 (k := k) (n := 1) (by omega) (sr_wD (w := y.1) (by omega) fun v hv => by have := hY.gd.lt v hv; omega) i5
  have e7' : callD T k "_law_bent" [.val .pot, .val (wD y.1), .val (.int 2)] p5 = .ok d p6 := e7
  have q4 := e_isway (k := k) (by omega) K g6 p6
  have q5 := e_lisway (k := k) (by omega) K (by omega) g6 p6
  obtain ⟨bad, p7, e8, i7, m7⟩ := e_pick (k := k) (by omega) (xs := [.int (hs.length : Nat), .int (-1), .bl true, .non]) (by simp) (by simp) i6
  have hbad : gd 0 bad = true ∧ numB 0 ((hs.length : Int) - 1) bad = false := by
    simp only [List.mem_cons, List.not_mem_nil, or_false] at m7
    rcases m7 with rfl | rfl | rfl | rfl
    · refine ⟨rfl, ?_⟩
      simp only [numB, decide_eq_false_iff_not]
      omega
    · exact ⟨rfl, rfl⟩
    · exact ⟨rfl, rfl⟩
    · exact ⟨rfl, rfl⟩
  have q6 := x_least1 (k := k) (by omega) K hbad.1 hbad.2 (nI e) p7
  have q7 := x_quick2 (k := k) (by omega) K hs' hbad.1 hbad.2 p7
  obtain ⟨bm, p8, e9, i8, m8⟩ := e_pick (k := k) (by omega) (xs := [.int 100, .int (-1), .bl true, .non]) (by simp) (by simp) i7
  have hbm : gd 0 bm = true ∧ numB 0 99 bm = false := by
    simp only [List.mem_cons, List.not_mem_nil, or_false] at m8
    rcases m8 with rfl | rfl | rfl | rfl <;> exact ⟨rfl, rfl⟩
  have q8 := x_ways (k := k) (by omega) K hs' he hbm.1 hbm.2 p8
  obtain ⟨bn, p9, e10, i9, m9⟩ := e_pick (k := k) (by omega) (xs := [D.non, .tup [netD hs es], .tup (es.map trD)]) (by simp) (by simp) i8
  obtain ⟨g9, n9⟩ := pick_bad K m9
  have q9 := isway_none (k := k) (by omega) g9 n9 (wD y.1) p9
  have q10 := x_waytimeN (k := k) (by omega) (n := 0) (d := .int 3) rfl rfl (wD y.1) p9
  have sT := fun b p => same_t (k := k) (by omega) b p
  refine ⟨sv (some (.val x)) (some (.val (netD hs es))) (some (.val (nI s))) (some (.val (nI e))) (some (.val (.lst (every.map wyD)))) (some (.val (.lst ((every.filter fun y => decide (lst y.1 = e)).map ynT)))) (some (.val (nI most))) (some (.val (.tup [oD o, b]))) (some (.val (wD y.1))) (some (.val (nI y.2))) (some (.val d)) (some (.val bad)), p9, ?_, rfl, i9⟩
  unfold l1_law
  refine step (p1 := p1) (ρ1 := sv (some (.val x)) (some (.val (netD hs es))) none none none none none none none none none none) (set_run (by simp [sv_eq, e0, e1])) ?_
  refine step (p1 := p3) (ρ1 := sv (some (.val x)) (some (.val (netD hs es))) (some (.val (nI s))) (some (.val (nI e))) none none none none none none none none) (tgt_run (d := .tup [nI s, nI e]) (by simp [sv_eq, lenH, lenD, e2, e3, valsOf]) rfl) ?_
  refine step (p1 := p3) (ρ1 := sv (some (.val x)) (some (.val (netD hs es))) (some (.val (nI s))) (some (.val (nI e))) (some (.val (.lst (every.map wyD)))) none none none none none none none) (set_run (call2_run (fun _ => rfl) (fun _ => rfl) rfl rfl e4)) ?_
  refine step (p1 := p3) (own_run (here_run hne (by omega))) (step (p1 := p3) (frz_run rfl) ?_)
  refine step (p1 := p4) (ρ1 := sv (some (.val x)) (some (.val (netD hs es))) (some (.val (nI s))) (some (.val (nI e))) (some (.val (.lst (every.map wyD)))) (some (.val (.lst ((every.filter fun y => decide (lst y.1 = e)).map ynT)))) (some (.val (nI most))) none none none none none) (set_run (by simp [sv_eq, e5])) ?_
  refine step (p1 := p4) (if_f (p1 := p4) (not_run (b := true) (tru_bl ?_)) done) ?_
  · have hd := due_run (Φ := callD T k) (p := p4) (turn := some (.val x)) (net := some (.val (netD hs es))) (start := some (.val (nI s))) (end_ := some (.val (nI e))) (every := some (.val (.lst (every.map wyD)))) (most := most) (here := every.filter fun y => decide (lst y.1 = e)) (fun y hy => hne y (List.mem_filter.mp hy).1) (by omega)
    rw [due_ways pe] at hd
    have a3 := e_same 2 (k := k) (.tup ((waysL hs es s e most).map tI)) p4 (by omega) (flt_tIs (by omega) hwa)
    refine call2_run (fun _ => rfl) (fun _ => rfl) (p1 := p4) (x := .tup ((waysL hs es s e most).map tI)) ?_ hd a3
    simp [sv_eq, q1]
  refine step (p1 := p4) (ρ1 := sv (some (.val x)) (some (.val (netD hs es))) (some (.val (nI s))) (some (.val (nI e))) (some (.val (.lst (every.map wyD)))) (some (.val (.lst ((every.filter fun y => decide (lst y.1 = e)).map ynT)))) (some (.val (nI most))) (some (.val (.tup [oD o, b]))) none none none none) (set_run b1) ?_
  refine step (p1 := p4) (if_f (p1 := p4) (or_f (p1 := p4) rfl (not_run (b := true) (tru_bl ?_)) (or_1 (not_run (b := true) (tru_bl ?_)))) done) ?_
  · have a3 := same_o (k := k) (by omega) o p4
    simp [sv_eq, b2, ixD_tup0, a3]
  · simp [sv_eq, b3, ixD_tup1, b4]
  refine step (p1 := p5) (ρ1 := sv (some (.val x)) (some (.val (netD hs es))) (some (.val (nI s))) (some (.val (nI e))) (some (.val (.lst (every.map wyD)))) (some (.val (.lst ((every.filter fun y => decide (lst y.1 = e)).map ynT)))) (some (.val (nI most))) (some (.val (.tup [oD o, b]))) (some (.val (wD y.1))) (some (.val (nI y.2))) none none) (tgt_run (d := wyD y) (call2_run (fun _ => rfl) (fun _ => rfl) rfl rfl e6) rfl) ?_
  refine step (p1 := p5) (if_f (p1 := p5) (or_f (p1 := p5) rfl (not_run (b := true) (tru_bl ?_)) (or_1 (not_run (b := true) (tru_bl ?_)))) done) ?_
  · have a3 := e_same 0 (k := k) (nI y.2) p5 (by omega) rfl
    simp [sv_eq, q2, a3]
  · simp [sv_eq, q3, sT]
  refine step (p1 := p6) (ρ1 := sv (some (.val x)) (some (.val (netD hs es))) (some (.val (nI s))) (some (.val (nI e))) (some (.val (.lst (every.map wyD)))) (some (.val (.lst ((every.filter fun y => decide (lst y.1 = e)).map ynT)))) (some (.val (nI most))) (some (.val (.tup [oD o, b]))) (some (.val (wD y.1))) (some (.val (nI y.2))) (some (.val d)) none) (set_run (by simp [sv_eq, e7'])) ?_
  refine step (p1 := p6) (if_f (p1 := p6) (not_run (b := true) (tru_bl (by simp [sv_eq, q4, q5, sT]))) done) ?_
  refine step (p1 := p6) (if_f (p1 := p6) ?_ done) ?_
  · have t1 : (den (callD T k) (.tNot (.tTru (.call "_law_is_way" (.cons (.v 3) (.cons (.v 12) .nil)))))).t (sv (some (.val x)) (some (.val (netD hs es))) (some (.val (nI s))) (some (.val (nI e))) (some (.val (.lst (every.map wyD)))) (some (.val (.lst ((every.filter fun y => decide (lst y.1 = e)).map ynT)))) (some (.val (nI most))) (some (.val (.tup [oD o, b]))) (some (.val (wD y.1))) (some (.val (nI y.2))) (some (.val d)) none) p6 = .ok (!wayB hs es d) p6 := not_run (tru_bl (call2_run (fun _ => rfl) (fun _ => rfl) rfl rfl q5))
    cases hw : wayB hs es d with
    | true =>
      rw [hw] at t1
      exact and_f t1
    | false =>
      rw [hw] at t1
      have hx := x_waytime (k := k) (by omega) K g6 hw p6
      exact and_t rfl t1 (and_1 (not_run (b := true) (tru_bl (raise_run (c := "NotThere") (p1 := p6) (call2_run (fun _ => rfl) (fun _ => rfl) rfl rfl hx) (by decide)))))
  refine step (p1 := p7) (ρ1 := sv (some (.val x)) (some (.val (netD hs es))) (some (.val (nI s))) (some (.val (nI e))) (some (.val (.lst (every.map wyD)))) (some (.val (.lst ((every.filter fun y => decide (lst y.1 = e)).map ynT)))) (some (.val (nI most))) (some (.val (.tup [oD o, b]))) (some (.val (wD y.1))) (some (.val (nI y.2))) (some (.val d)) (some (.val bad))) (set_run (by simp [sv_eq, lenH, lenD, valsOf, e8])) ?_
  refine step (p1 := p7) (if_f (p1 := p7) (not_run (b := true) (tru_bl (raise_run (c := "NotThere") (p1 := p7) ?_ (by decide)))) done) ?_
  · simp [sv_eq, q6]
  refine step (p1 := p7) (if_f (p1 := p7) (not_run (b := true) (tru_bl (raise_run (c := "NotThere") (p1 := p7) ?_ (by decide)))) done) ?_
  · simp [sv_eq, q7]
  refine step (p1 := p8) (if_f (p1 := p8) (not_run (b := true) (tru_bl (raise_run (c := "NotThere") (p1 := p8) ?_ (by decide)))) done) ?_
  · simp [sv_eq, valsOf, e9, q8]
  refine step (p1 := p9) (if_f (p1 := p9) ?_ done) ?_
  · refine tcmp_run (p1 := p9) (p2 := p9) (x := .bl false) (y := .bl false) ?_ rfl rfl
    have e10' : callD T k "_law_pick" [.val .pot, .val (.lst [.non, .tup [netD hs es], .tup (es.map trD)])] p8 = .ok bn p9 := e10
    have hi1 : ixD (netD hs es) (.int 1) = some (.tup (es.map trD)) := ixD_tup1
    simp [sv_eq, valsOf, hi1, e10', q9]
  exact step (p1 := p9) (if_f (p1 := p9) (not_run (b := true) (tru_bl (raise_run (c := "NoNet") (p1 := p9) (call2_run (p1 := p9) (fun _ => rfl) (fun _ => rfl) rfl rfl q10) (by decide)))) done) done
theorem law_says : lawSays (callD T 31) b_law 12 := fun ns hn => by
  have hp := ip_pot0 ns
  obtain ⟨p', h1, h2⟩ := forR_pot (tg := (Tg.nm 2).asg) (body := (dens (callD T 31) l1_law).ss) (w := [2, 3, 4, 5, 6, 7, 8, 9, 10, 11, 12, 13]) (I := IP) (ρ := sv none none none none none none none none none none none none) (xs := rangeItems 0 6) hp fun x hx p hp => by
    obtain ⟨ρ2, p', q1, q2, q3⟩ := law_turn (k := 31) (by omega) hp x
    exact ⟨_, ρ2, p', rfl, q1, q2, q3⟩
  refine ⟨p', ?_⟩
  unfold b_law
  refine step (p1 := p') (ρ1 := sv none none none none none none none none none none none none) (for_run (p1 := pot0 ns) (xs := rangeItems 0 6) ?_ h1) (last (p1 := p') ?_)
  · have hr : rgOk 6 = true := rng_ok (by omega) (by omega)
    simp [sv_eq, dRange1, hr]
  · simp
end M.T

set_option Elab.async false
set_option linter.all false
set_option maxRecDepth 100000
set_option maxHeartbeats 0
open PySem PySem.W PySem.Calls PyProof.Rows
theorem PySem.Challenge.cw_tramforks_k02_whole_ways_holds : PySem.Challenge.rw_tramforks_k02_whole_ways.Holds := by
  w_on; o_law
  refine HandSHeadRun.head_any (r := OpenLaw.row PySem.Challenge.rw_tramforks_k02_whole_ways) (q := view (OpenLaw.row PySem.Challenge.rw_tramforks_k02_whole_ways).prog [39]) (H := M.T.hk) (ob := M.T.ob) (M := 2200) (loose := M.T.loose) (d := HandSHeadRun.topDef (OpenLaw.row PySem.Challenge.rw_tramforks_k02_whole_ways).prog 39) (kwd := []) M.T.ob_eq
    (by kernel_rfl) (fun s => by kernel_rfl) M.T.run (by kernel_rfl) (by kernel_rfl) (by kernel_rfl) (by rfl) (by first | assumption | decide +kernel) (by decide +kernel) ⟨rfl, rfl, rfl, rfl, rfl, by decide +kernel⟩ ?hw ?hc
  case hw => w_witness2
  case hc =>
    refine LamX.walk_ofTsE (l := PySem.Challenge.rw_tramforks_k02_whole_ways) (n := 63) (k := 34) (x := "script") (CX := fun w => L2.CX (PySem.Challenge.rw_tramforks_k02_whole_ways).prog w) rfl (by decide) (by kernel_rfl) ⟨rfl, by decide, by decide⟩ ?F ?hCX
    case hCX =>
      rintro w H s e s' ⟨_, _, _, _, _, _, _, _, _, _, _, _, z⟩
      exact z
    case F =>
      intro w mg fa h Y G hmg0
      obtain ⟨K, KX, c⟩ := Y
      have hmg : mg ("law" : PySem.Str) = some (.ref fa) := by
        have e : (HandSHeadRun.topDef (OpenLaw.row PySem.Challenge.rw_tramforks_k02_whole_ways).prog 39).name = ("law" : PySem.Str) := by kernel_rfl
        rw [← e]
        exact hmg0
      obtain ⟨fd, hb, hF⟩ := M.T.facts (P := (PySem.Challenge.rw_tramforks_k02_whole_ways).prog) (w := w) 30 KX G hmg c.t.d
      have mem : (("law", none) : He.Defn) ∈ M.T.tf := List.mem_singleton.mpr rfl
      refine ⟨K, KX, fd, [He.cT K ("law", none)], M.spLaw K [((He.cT K ("law", none)).2, M.lawQ)] (M.callD M.T.T 31) M.T.b_law 12, ?_, ?_, ?_, hb, fun H a ns hl _ hT hS => ?_, fun base h1 h2 h3 => hF base h1 h2 (h3 _ (List.mem_singleton.mpr rfl))⟩
      · intro p hp; rw [List.mem_singleton.mp hp]; exact c.empty _ mem
      · intro p hp; rw [List.mem_singleton.mp hp]; exact c.out _ mem
      · intro p hp; rw [List.mem_singleton.mp hp]; exact PySem.W.codeHd_of_K KX (c.hd _ mem)
      obtain ⟨p', e⟩ := M.T.law_says ns hl
      refine ⟨a, ns, p', rfl, hS, fun p hp => ?_, hl, e, fun _ => rfl⟩
      rw [List.mem_singleton.mp hp]
      exact LamX.TabS.nil (hT _ (List.mem_singleton.mpr rfl))
