import PyProof.Rows.All
import Wide.All
import OpenK.AllK
import Wide.FinOn
import HandS.Iter
import HandS.Dict
import HandS.ForDict
import KE.KeyNested
import KE.KDictPairs
import KE.KDictWalk
import HandS.TupLen
import HandS.TupAny
import HandS.ForMost
import HandS.Wide
import HandS.IsInst
import HandS.SetKeys
import HandS.Deep
import HandS.Flow
import HandS.Conv
import HandS.Zip
import HandS.SortInts
import HandS.Ends
import HandS.RaiseMore
import PyProof.ReprText
import PyProof.ReprRoads
import PyProof.FitsInt
import KE.GoesEnum
import KE.GoesMore
import KE.GoesZip
import HandS.Style
import HandS.More
import HandS.SetBool
import HandS.Strs
import HandS.TupMul
import HandS.Call
import PyProof.P3In
import KE.SortData
import HandS.ListItems
import PyProof.Rows.SetFrom
import HandS.TryOnly
import HandS.DictTup
import KE.KDictCopyH
import HandS.SortOrd
import PySem.Challenge.RW_lackcry_k10_outer_by_sorted_rows
set_option Elab.async false
set_option linter.all false
set_option maxRecDepth 100000
set_option maxHeartbeats 4000000
set_option exponentiation.threshold 10000
/-! DLn: dicts whose keys are tuples of ints, None and such tuples (over the hand layer). -/
namespace DL
open PySem PySem.Spec PyProof.Rows L2

mutual
def NT : NestedKey → Bool
  | .none => true
  | .num _ => true
  | .text _ => false
  | .tup ks => NTs ks
def NTs : List NestedKey → Bool
  | [] => true
  | k :: ks => NT k && NTs ks
end
mutual
theorem hash_NT (w w' : World) : ∀ k, NT k = true → NestedKey.hash w k = NestedKey.hash w' k
  | .none, _ => by simp only [NestedKey.hash]
  | .num i, _ => by simp only [NestedKey.hash]
  | .text x, h => by simp [NT] at h
  | .tup ks, h => by simp only [NestedKey.hash]; rw [hashes_NT w w' ks (by simpa [NT] using h)]
theorem hashes_NT (w w' : World) : ∀ ks, NTs ks = true → NestedKey.hashes w ks = NestedKey.hashes w' ks
  | [], _ => by simp only [NestedKey.hashes]
  | k :: ks, h => by
    rw [NTs, Bool.and_eq_true] at h
    simp only [NestedKey.hashes]
    rw [hash_NT w w' k h.1, hashes_NT w w' ks h.2]
end
abbrev NXs := List (NestedKey × Addr × Value)
def entN (w : World) (x : NestedKey × Addr × Value) : DictEntry := ⟨x.1.hash w, .ref x.2.1, x.2.2⟩
/-- a dict at a whose entries are xs -/
def DNf (a : Addr) (xs : NXs) (h : Heap) : Prop :=
  (a == sysModules) = false ∧ xs.length ≤ sizeLine ∧ (xs.map (·.1)).Nodup ∧ (∀ x ∈ xs, NT x.1 = true ∧ x.1.depth ≤ 8) ∧ ∃ o es ep w0, h.get? a = some o ∧ o.ExactDict ∧ o.data = .dict es ep ∧ es.toList = xs.map (entN w0)
def DNo (a : Addr) (xs : NXs) : HO := .ext (DNf a xs)
theorem dno_ok {P : Program} {w : World} {H : Hp} {h : Heap} {a : Addr} {xs : NXs} (f : DNf a xs h) : ObjOk P w H h a (DNo a xs) := by
  refine ⟨f, ?_, fun h1 h2 ⟨f1, f2, f3, f4, o, es, ep, w0, e, r⟩ k => ⟨f1, f2, f3, f4, o, es, ep, w0, k _ e, r⟩⟩
  obtain ⟨_, _, _, _, o, _, _, _, e, _⟩ := f
  exact ⟨o, e⟩
/-- the dict stands at a, free or locked -/
def IsN (H : Hp) (a : Addr) (xs : NXs) : Prop := H a = some (DNo a xs) ∨ ∃ od, H a = some (.frz od (DNo a xs))
/-- v is the key k -/
def KIs (H : Hp) (k : NestedKey) (v : V) : Prop := ∀ (P : Program) (w : World) (h : Heap) (u : Value), HOk P w H h → RelV v u → NestedIs h k u
def KOk (H : Hp) (xs : NXs) : Prop := ∀ x ∈ xs, KIs H x.1 (.ref x.2.1)
/-- the values -/
def NR (xs : NXs) (kvs : List (NestedKey × V)) : Prop := Paired (fun (x : NestedKey × Addr × Value) (kv : NestedKey × V) => kv.1 = x.1 ∧ RelV kv.2 x.2.2) xs kvs
section
variable {X : Cx} {pins : List (Addr × Obj)} {σ : L2.St} {H : Hp} {s : Shared} {a : Addr} {xs : NXs}
theorem isN_f (I : Inv X pins σ H s) (e : IsN H a xs) : DNf a xs s.heap := by
  rcases e with e | ⟨od, e⟩
  · exact (show ObjOk X.prog X.w H s.heap a (DNo a xs) from I.hok a _ e).1
  · exact (show ObjOk X.prog X.w H s.heap a (.frz od (DNo a xs)) from I.hok a _ e).2.1
theorem dn_at (I : Inv X pins σ H s) (e : IsN H a xs) (hk : KOk H xs) : s.heap.DictOfH (nestedKind X.prog X.w) a xs := by
  obtain ⟨f1, f2, f3, f4, o, es, ep, w0, ho, hx, hd, he⟩ := isN_f I e
  refine ⟨o, es, ep, ho, hx, hd, ?_, fun x hm => ?_, f3⟩
  · rw [he]
    refine List.map_congr_left fun x hm => ?_
    show entN w0 x = ⟨x.1.hash X.w, .ref x.2.1, x.2.2⟩
    unfold entN
    rw [hash_NT w0 X.w x.1 (f4 x hm).1]
  · exact ⟨hk x hm X.prog X.w s.heap _ I.hok rfl, (f4 x hm).2⟩
theorem nroom {A : Around} (hu : A.units + 64 < cLine) : (nestedKind X.prog X.w).room A.in1 := by
  show A.units + 1 + 8 < cLine
  omega
/-- the place of a key -/
theorem nr_val {k : NestedKey} : ∀ {xs : NXs} {kvs : List (NestedKey × V)}, NR xs kvs → (atKey xs k = none ∧ valV kvs k = none) ∨ ∃ b u v, atKey xs k = some (b, u) ∧ valV kvs k = some v ∧ RelV v u
  | [], [], _ => .inl ⟨rfl, rfl⟩
  | x :: xs, kv :: kvs, h => by
    cases h with
    | cons h t =>
      obtain ⟨h1, h2⟩ := h
      by_cases c : x.1 = k
      · right
        refine ⟨x.2.1, x.2.2, kv.2, ?_, valV_pos (h1.trans c), h2⟩
        unfold atKey
        rw [List.find?_cons, decide_eq_true c]
        rfl
      · have e1 : atKey (x :: xs) k = atKey xs k := by
          unfold atKey
          rw [List.find?_cons, decide_eq_false c]
        rw [e1, valV_neg (fun z => c (h1.symm.trans z))]
        exact nr_val t
theorem NR.len {xs : NXs} {kvs : List (NestedKey × V)} (h : NR xs kvs) : xs.length = kvs.length := Paired.length h
theorem NR.keys : ∀ {xs : NXs} {kvs : List (NestedKey × V)}, NR xs kvs → kvs.map (·.1) = xs.map (·.1)
  | [], [], _ => rfl
  | x :: xs, kv :: kvs, h => by
    cases h with
    | cons h t => rw [List.map_cons, List.map_cons, h.1, NR.keys t]
/-- what a[y] is, free or locked -/
def NGet (H : Hp) (a : Addr) (y : V) (o : Option V) : Prop := ∃ xs kvs k b, IsN H a xs ∧ KOk H xs ∧ NR xs kvs ∧ y = .ref b ∧ KIs H k (.ref b) ∧ k.depth ≤ 8 ∧ o = valV kvs k
theorem n_getItem {y v : V} {u : Value} {A : Around} {E : Value → Shared → Prop} {Q : Value → Shared → Prop} (hu : A.units + 64 < cLine) (I : Inv X pins σ H s) (g : NGet H a y (some v)) (ry : RelV y u) (h : ∀ w s', Inv X pins σ H s' → RelV v w → Q w s') :
    wpAny (model X.prog X.w) A (getItem (.ref a) u) Q E s := by
  obtain ⟨xs, kvs, k, b, e, ko, nr, rfl, hk, hd, ev⟩ := g
  cases ry
  have hm := dn_at I e ko
  rcases nr_val (k := k) nr with ⟨_, h2⟩ | ⟨b', w, v', h1, h2, h3⟩
  · rw [h2] at ev
    cases ev
  · rw [h2] at ev
    cases ev
    exact wpAny_getItem_heap (nroom (X := X) hu) ⟨hk X.prog X.w s.heap _ I.hok rfl, hd⟩ hm h1 (h w _ (I.tok _) h3)
theorem n_in {y : V} {o : Option V} {u : Value} {A : Around} {E : Value → Shared → Prop} {Q : Value → Shared → Prop} (hu : A.units + 64 < cLine) (I : Inv X pins σ H s) (g : NGet H a y o) (ry : RelV y u) (h : ∀ s', Inv X pins σ H s' → Q (.bool o.isSome) s') :
    wpAny (model X.prog X.w) A (compareOp .In u (.ref a)) Q E s := by
  obtain ⟨xs, kvs, k, b, e, ko, nr, rfl, hk, hd, ev⟩ := g
  cases ry
  have hm := dn_at I e ko
  have q : (atKey xs k).isSome = o.isSome := by
    rcases nr_val (k := k) nr with ⟨h1, h2⟩ | ⟨b', w, v', h1, h2, h3⟩
    · rw [ev, h1, h2]
      rfl
    · rw [ev, h1, h2]
      rfl
  refine wpAny_in_heap (nroom (X := X) hu) ⟨hk X.prog X.w s.heap _ I.hok rfl, hd⟩ (isN_f I e).1 hm ?_
  rw [q]
  exact h _ (I.tok _)
theorem n_notIn {y : V} {o : Option V} {u : Value} {A : Around} {E : Value → Shared → Prop} {Q : Value → Shared → Prop} (hu : A.units + 64 < cLine) (I : Inv X pins σ H s) (g : NGet H a y o) (ry : RelV y u) (h : ∀ s', Inv X pins σ H s' → Q (.bool (!o.isSome)) s') :
    wpAny (model X.prog X.w) A (compareOp .NotIn u (.ref a)) Q E s := by
  obtain ⟨xs, kvs, k, b, e, ko, nr, rfl, hk, hd, ev⟩ := g
  cases ry
  have hm := dn_at I e ko
  have q : (atKey xs k).isSome = o.isSome := by
    rcases nr_val (k := k) nr with ⟨h1, h2⟩ | ⟨b', w, v', h1, h2, h3⟩
    · rw [ev, h1, h2]
      rfl
    · rw [ev, h1, h2]
      rfl
  refine wpAny_notIn_heap (nroom (X := X) hu) ⟨hk X.prog X.w s.heap _ I.hok rfl, hd⟩ (isN_f I e).1 hm ?_
  rw [q]
  exact h _ (I.tok _)
/-- d.get(y, z) -/
theorem n_get2 {y z : V} {o : Option V} {u f : Value} {Q : Value → Shared → Prop} {E : Value → Shared → Prop} (hu : X.A.units + 64 < cLine) (I : Inv X pins σ H s) (g : NGet H a y o) (ry : RelV y u) (rz : RelV z f) (h : ∀ w s', Inv X pins σ H s' → RelV (o.getD z) w → Q w s') :
    wpAny (model X.prog X.w) X.A (call (.builtin "dict.get") [.ref a, u, f]) Q E s := by
  obtain ⟨xs, kvs, k, b, e, ko, nr, rfl, hk, hd, ev⟩ := g
  cases ry
  have hm := dn_at I e ko
  refine call_meetsIn PySem.F.slot_dict_get hm.typeIs PySem.F.entry_dict_get (PySem.F.args_dict_get_3 _ _ _) (meetsH_dict_get_default (nestedKind X.prog X.w) a b (isN_f I e).1 f) ⟨nroom (X := X) hu, k, xs, ⟨hk X.prog X.w s.heap _ I.hok rfl, hd⟩, hm, ?_⟩
  rcases nr_val (k := k) nr with ⟨h1, h2⟩ | ⟨b', w, v', h1, h2, h3⟩
  · rw [h1]
    rw [ev, h2] at h
    exact h _ _ (I.tok _) rz
  · rw [h1]
    rw [ev, h2] at h
    exact h _ _ (I.tok _) h3
/-! ### a store -/
def putN (xs : NXs) (k : NestedKey) (b : Addr) (u : Value) : NXs := storedH xs k b u
theorem nr_put {k : NestedKey} {b : Addr} {u : Value} {v : V} (r : RelV v u) {xs : NXs} {kvs : List (NestedKey × V)} (h : NR xs kvs) : NR (storedH xs k b u) (putK kvs k v) := by
  have any_eq : ∀ {xs : NXs} {kvs : List (NestedKey × V)}, NR xs kvs → (kvs.any fun kv => decide (kv.1 = k)) = (atKey xs k).isSome := fun {xs kvs} h => by
    induction xs generalizing kvs with
    | nil =>
      cases h
      rfl
    | cons x xs ih =>
      cases h with
      | @cons _ _ kv kvs h t =>
        rw [List.any_cons, ih t]
        unfold atKey
        rw [List.find?_cons, h.1]
        by_cases c : x.1 = k
        · rw [decide_eq_true c]
          rfl
        · rw [decide_eq_false c, Bool.false_or]
  have mp : ∀ {xs : NXs} {kvs : List (NestedKey × V)}, NR xs kvs → NR (xs.map (putAt k u)) (kvs.map fun kv => if kv.1 = k then (kv.1, v) else kv) := fun {xs kvs} h => by
    induction xs generalizing kvs with
    | nil =>
      cases h
      exact .nil
    | cons x xs ih =>
      cases h with
      | @cons _ _ kv kvs h t =>
        rw [List.map_cons, List.map_cons]
        refine .cons ?_ (ih t)
        unfold putAt
        by_cases c : x.1 = k
        · rw [if_pos c, if_pos (h.1.trans c)]
          exact ⟨h.1, r⟩
        · rw [if_neg c, if_neg (fun z => c (h.1.symm.trans z))]
          exact h
  unfold storedH putK
  rw [any_eq h]
  by_cases c : (atKey xs k).isSome = true
  · rw [if_pos c, if_pos c]
    exact mp h
  · rw [if_neg c, if_neg c]
    clear any_eq mp c
    induction xs generalizing kvs with
    | nil =>
      cases h
      exact .cons ⟨rfl, r⟩ .nil
    | cons x xs ih =>
      cases h with
      | cons h t => exact .cons h (ih t)
theorem stored_mem {k : NestedKey} {b : Addr} {u : Value} {xs : NXs} {x : NestedKey × Addr × Value} (h : x ∈ storedH xs k b u) : (∃ y ∈ xs, y.1 = x.1 ∧ y.2.1 = x.2.1) ∨ x = (k, b, u) := by
  unfold storedH at h
  split at h
  · obtain ⟨y, hy, rfl⟩ := List.mem_map.mp h
    left
    refine ⟨y, hy, ?_⟩
    unfold putAt
    split <;> exact ⟨rfl, rfl⟩
  · rcases List.mem_append.mp h with h | h
    · exact .inl ⟨x, h, rfl, rfl⟩
    · exact .inr (List.mem_singleton.mp h)
theorem stored_len {k : NestedKey} {b : Addr} {u : Value} {xs : NXs} : (storedH xs k b u).length ≤ xs.length + 1 := by
  unfold storedH
  split
  · rw [List.length_map]
    omega
  · rw [List.length_append, List.length_cons, List.length_nil]
    exact Nat.le_refl _
theorem n_setItem {y : V} {u w : Value} {k : NestedKey} {b : Addr} {A : Around} {E : Value → Shared → Prop} {Q : Unit → Shared → Prop} (hu : A.units + 64 < cLine) (I : Inv X pins σ H s) (e : H a = some (DNo a xs)) (ko : KOk H xs) (hy : y = .ref b) (hk : KIs H k (.ref b)) (hn : NT k = true) (hd : k.depth ≤ 8) (hl : xs.length < sizeLine)
    (ry : RelV y u) (h : ∀ s', Inv X pins σ (upd H a (DNo a (storedH xs k b w))) s' → Q () s') : wpAny (model X.prog X.w) A (setItem (.ref a) u w) Q E s := by
  subst hy
  cases ry
  have hm := dn_at I (.inl e) ko
  obtain ⟨f1, f2, f3, f4, _⟩ := isN_f I (.inl e)
  refine wpAny_setItem_heap (nroom (X := X) hu) ⟨hk X.prog X.w s.heap _ I.hok rfl, hd⟩ hm (fun h' hm' hs => ?_) (by omega)
  obtain ⟨o, es, ep, ho, hx, hdt, he, _, hnd⟩ := hm'
  refine h _ (d_write I (by rw [e]; trivial) hs ⟨o, ho⟩ (dno_ok ⟨f1, Nat.le_trans stored_len hl, hnd, fun x hx' => ?_, o, es, ep, X.w, ho, hx, hdt, he⟩))
  rcases stored_mem hx' with ⟨y, h1, h2, h3⟩ | rfl
  · rw [← h2]
    exact f4 y h1
  · exact ⟨hn, hd⟩
/-! ### made -/
theorem pe_dnewN {pos : Pos} : PE X (.Dict [] [] pos) (fun _ H Q => ∀ p, H p = none → Q (.ref p) (upd H p (DNo p []))) := ⟨fun pins s σ H Q I h =>
  wpAny_Dict_empty ⟨.ref s.heap.objs.size, _, I.laid (a := s.heap.objs.size) (o := DNo s.heap.objs.size []) (t' := s.toks) (fun _ _ q => Heap.get?_push_of_some _ q) (Nat.le_refl _)
    (dno_ok ⟨beq_eq_false_iff_ne.mpr (Nat.ne_of_gt I.big), Nat.zero_le _, List.nodup_nil, fun x hx => (nomatch hx), _, #[], 0, X.w, Heap.get?_push_size _ rfl, ⟨rfl, rfl, rfl⟩, rfl, rfl⟩), rfl, h _ (I.hok.fresh (Nat.le_refl _))⟩⟩
/-- locked for good -/
def tFrz (t : TE) : TE := fun σ H Q => t σ H fun v H1 => ∃ a u, v = .ref a ∧ H1 a = some u ∧ Mut (some u) ∧ ∀ od, Q v (upd H1 a (.frz od u))
theorem pe_frz {e : Expr} {t : TE} (h : PE X e t) : PE X e (tFrz t) := by
  refine ⟨fun pins s σ H Q I hw => thn (h.run pins s σ H _ I hw) fun v s1 ⟨x, H1, I1, r, a, u, ex, hd, mu, q⟩ => ?_⟩
  subst ex
  obtain ⟨od, I2⟩ := I1.lock hd mu
  exact ⟨.ref a, _, I2, r, q od⟩
end
end DL

/-! DLo: rules for dicts of both kinds (keys: ints and texts; tuples). -/
namespace DL
open PySem PySem.Spec PyProof.Rows L2
def XGet (H : Hp) (a : Addr) (y : V) (o : Option V) : Prop := DGet H a y o ∨ NGet H a y o
def IsX (H : Hp) (a : Addr) : Prop := IsD H a ∨ ∃ xs, IsN H a xs
section
variable {X : Cx} {pins : List (Addr × Obj)} {σ : L2.St} {H : Hp} {s : Shared} {a : Addr}
theorem isX_at (I : Inv X pins σ H s) (d : IsX H a) : s.TypeIs (.ref a) "dict" ∧ (∀ b, Value.ref a = .ref b → ∃ ob, s.heap.get? b = some ob ∧ ob.dict = none) ∧ (a == sysModules) = false := by
  rcases d with d | ⟨xs, e⟩
  · exact isD_at I d
  · obtain ⟨f1, _, _, _, o, es, ep, w0, ho, hx, _⟩ := isN_f I e
    refine ⟨⟨o, ho, hx.1⟩, fun b q => ?_, f1⟩
    cases q
    exact ⟨o, ho, hx.2.1⟩
theorem xget_is {y : V} {o : Option V} (g : XGet H a y o) : IsX H a := by
  rcases g with g | ⟨xs, kvs, k, b, e, _⟩
  · left
    rcases g with ⟨kvs, k, e, _⟩ | ⟨kvs, k, b, e, _⟩
    · exact .inl ⟨kvs, e⟩
    · exact .inr ⟨kvs, e⟩
  · exact .inr ⟨xs, e⟩
end
section
variable {X : Cx} {o i e f value : Expr} {apos cpos pos pos' : Pos} {td ty tx tv : TE}
def tXGet (td ty : TE) : TE := fun σ H Q => td σ H fun x H1 => ty σ H1 fun y H2 => ∃ a v, x = .ref a ∧ XGet H2 a y (some v) ∧ Q v H2
theorem pe_xget (hu : X.A.units + 64 < cLine) (ho : PE X o td) (hi : PE X i ty) (hs : NoSl i) : PE X (.Subscript o i pos) (tXGet td ty) := by
  refine ⟨fun pins s σ H Q I h => ?_⟩
  refine subD_of PySem.F.slot_dict_getitem.lookup hs (thn (ho.run pins s σ H _ I h) fun u s1 ⟨x, H1, I1, rx, q1⟩ => thn (hi.run pins s1 σ H1 _ I1 q1) fun iv s2 ⟨y, H2, I2, ry, a, v, ex, g, q2⟩ => ?_)
  subst ex
  obtain rfl : u = Value.ref a := rx
  refine ⟨(isX_at I2 (xget_is g)).1, ?_⟩
  rcases g with g | g
  · exact d_getItem (by omega) I2 g ry fun w' s3 I3 rw' => ⟨v, H2, I3, rw', q2⟩
  · exact n_getItem hu I2 g ry fun w' s3 I3 rw' => ⟨v, H2, I3, rw', q2⟩
theorem op_xin (hu : X.A.units + 64 < cLine) : OpR X (compareOp .In) (fun y x H Q => ∃ a o, x = .ref a ∧ XGet H a y o ∧ Q (.bl o.isSome) H) := by
  intro pins s σ H y x v u Q I ry rx h
  obtain ⟨a, o, rfl, g, q⟩ := h
  cases rx
  rcases g with g | g
  · exact d_in (by omega) I g ry fun s3 I3 => ⟨.bl o.isSome, H, I3, rfl, q⟩
  · exact n_in hu I g ry fun s3 I3 => ⟨.bl o.isSome, H, I3, rfl, q⟩
theorem op_xnotin (hu : X.A.units + 64 < cLine) : OpR X (compareOp .NotIn) (fun y x H Q => ∃ a o, x = .ref a ∧ XGet H a y o ∧ Q (.bl (!o.isSome)) H) := by
  intro pins s σ H y x v u Q I ry rx h
  obtain ⟨a, o, rfl, g, q⟩ := h
  cases rx
  rcases g with g | g
  · exact d_notIn (by omega) I g ry fun s3 I3 => ⟨.bl (!o.isSome), H, I3, rfl, q⟩
  · exact n_notIn hu I g ry fun s3 I3 => ⟨.bl (!o.isSome), H, I3, rfl, q⟩
def tXGet2 (td ty tx : TE) : TE := fun σ H Q => td σ H fun x H1 => ∃ a, x = .ref a ∧ IsX H1 a ∧ ty σ H1 fun y H2 => tx σ H2 fun z H3 => ∃ o, XGet H3 a y o ∧ Q (o.getD z) H3
theorem pe_xget2 (hu : X.A.units + 64 < cLine) (ho : PE X o td) (he : PE X e ty) (hf : PE X f tx) (m : M2 X o "get" apos e f cpos) : PE X (.Call (.Attribute o "get" apos) [e, f] [] cpos) (tXGet2 td ty tx) := by
  refine ⟨fun pins s σ H Q I h => ?_⟩
  refine wpAny_Call_method m.base m.few m.line PySem.F.plainAttrs_dict PySem.F.slot_dict_get PySem.F.type_dict_get (thn (ho.run pins s σ H _ I h) fun u s1 ⟨x, H1, I1, rx, a, ex, d, q1⟩ => ?_)
  subst ex
  obtain rfl : u = Value.ref a := rx
  obtain ⟨t1, t2, _⟩ := isX_at I1 d
  refine ⟨t1, t2, ?_⟩
  rw [m.trees]
  refine Calls.callWith_builtin rfl (Calls.evalArgs_plain (Calls.spliced_cons (thn (he.run pins s1 σ H1 _ I1 q1) fun iv s2 ⟨y, H2, I2, ry, q2⟩ =>
    Calls.spliced_cons (thn (hf.run pins s2 σ H2 _ I2 q2) fun fv s3 ⟨z, H3, I3, rz, ov, g, q3⟩ => Calls.spliced_nil ?_))))
  rcases g with g | g
  · exact d_get2 (by omega) I3 g ry rz fun w' s4 I4 rw' => ⟨_, H3, I4, rw', q3⟩
  · exact n_get2 hu I3 g ry rz fun w' s4 I4 rw' => ⟨_, H3, I4, rw', q3⟩
def sXPut (td ty tv : TE) : TS := fun D σ H => tv σ H fun v H1 => td σ H1 fun x H2 => ty σ H2 fun y H3 => ∃ a, x = .ref a ∧ ((∃ H4, DPut H3 a y v H4 ∧ D.nx σ H4) ∨
  ∃ xs k b, H3 a = some (DNo a xs) ∧ KOk H3 xs ∧ y = .ref b ∧ KIs H3 k (.ref b) ∧ NT k = true ∧ k.depth ≤ 8 ∧ xs.length < sizeLine ∧ ∀ w, RelV v w → D.nx σ (upd H3 a (DNo a (storedH xs k b w))))
theorem ps_xput (hu : X.A.units + 64 < cLine) (ho : PE X o td) (hi : PE X i ty) (hv : PE X value tv) (hs : swapsWith value (some (.Subscript o i pos')) pos.line X.env = pure false) :
    PS X (.Assign [.Subscript o i pos'] value pos) (sXPut td ty tv) := by
  refine ⟨fun pins s σ H D I h => ?_⟩
  refine wpAny_Assign_Subscript (thn (hv.run pins s σ H _ I h) fun r s1 ⟨v, H1, I1, rv, q1⟩ => thn (ho.run pins s1 σ H1 _ I1 q1) fun u s2 ⟨x, H2, I2, rx, q2⟩ => thn (hi.run pins s2 σ H2 _ I2 q2) fun iv s3 ⟨y, H3, I3, ry, a, ex, q3⟩ => ?_) hs
  subst ex
  obtain rfl : u = Value.ref a := rx
  rcases q3 with ⟨H4, g, q3⟩ | ⟨xs, k, b, e, ko, ey, hk, hn, hd, hl, q3⟩
  · exact d_setItem (by omega) I3 g ry rv fun s4 I4 => ⟨σ, H4, I4, q3⟩
  · exact n_setItem hu I3 e ko ey hk hn hd hl ry fun s4 I4 => ⟨σ, _, I4, q3 r rv⟩
/-! ### the pairs, one by one -/
def ItiN (d : Addr) (o : Obj) (xs : NXs) : It :=
  ⟨fun i H => H d = some (.frz o (DNo d xs)) ∧ i < xs.length, fun i H x H' => ∃ T k b u v, xs[i]? = some (k, b, u) ∧ RelV v u ∧ x = .ref T ∧ H T = none ∧ H' = upd H T (.tup [.ref b, v]), fun i H => H d = some (.frz o (DNo d xs)) ∧ xs.length ≤ i⟩
def VsOk (xs : NXs) : Prop := ∀ x ∈ xs, ∃ v, RelV v x.2.2
theorem frzN {P : Program} {w : World} {H : Hp} {h : Heap} {d : Addr} {o : Obj} {xs : NXs} (ok : HOk P w H h) (e : H d = some (.frz o (DNo d xs))) :
    (d == sysModules) = false ∧ h.get? d = some o ∧ o.ExactDict ∧ ∃ es ep, o.data = .dict es ep ∧ es.size = xs.length ∧ h.DictRaw d es ep ∧ ∀ i k b u, xs[i]? = some (k, b, u) → ∃ hi : i < es.size, es[i].key = .ref b ∧ es[i].val = u := by
  obtain ⟨hd, f, _, _⟩ := (show ObjOk P w H h d (.frz o (DNo d xs)) from ok d _ e)
  obtain ⟨f1, f2, f3, f4, o', es, ep, w0, ho, hx, hdt, he⟩ := f
  rw [hd] at ho
  cases ho
  have hsz : es.size = xs.length := by
    rw [← Array.length_toList, he, List.length_map]
  refine ⟨f1, hd, hx, es, ep, hdt, hsz, ⟨o, hd, hx, hdt⟩, fun i k b u hi => ?_⟩
  have hlt : i < xs.length := (List.getElem?_eq_some_iff.mp hi).1
  have h1 : es.toList[i]? = some (entN w0 (k, b, u)) := by rw [he, List.getElem?_map, hi]; rfl
  rw [Array.getElem?_toList, Array.getElem?_eq_getElem (by omega)] at h1
  refine ⟨by omega, ?_, ?_⟩
  · rw [Option.some.inj h1]
    rfl
  · rw [Option.some.inj h1]
    rfl
theorem turn_itemsN {P : Program} {w : World} {K : PySem.W.Frag} {d : Addr} {o : Obj} {es : Array DictEntry} {ep : Nat} {xs : NXs} {elts : List Expr} {kk : Nat} {tpos : Pos} (it : Addr) (hod : o.data = .dict es ep) (hv : VsOk xs) :
    Turn P w K (.Tuple elts kk tpos) (ItiN d o xs) [it] it (fun i h => ∃ ok ov, IsItemIter h it d i xs.length ep ok ov) where
  mem := by simp
  obj := fun i h st b hb => by
    have e : b = it := by simpa using hb
    subst e
    obtain ⟨ok, ov, e⟩ := st
    exact ⟨_, e, fun v z => nomatch z⟩
  keep := fun i h h' st k => let ⟨ok, ov, e⟩ := st; ⟨ok, ov, k it (by simp) _ e⟩
  item := by
    intro X hP hw hK hc i pins s σ H E I hf st hg
    subst hP hw hK
    obtain ⟨hd, hi⟩ := hg
    obtain ⟨hs, hgd, hx, es', ep', hdt, hsz, hm, ent⟩ := frzN I.hok hd
    obtain ⟨rfl, rfl⟩ := dict_ep hod hdt
    obtain ⟨⟨k, b, u⟩, hkv⟩ : ∃ p, xs[i]? = some p := ⟨xs[i], List.getElem?_eq_getElem hi⟩
    obtain ⟨hlt', ek, ev⟩ := ent i k b u hkv
    obtain ⟨v, rv⟩ := hv _ (List.mem_of_getElem? hkv)
    obtain ⟨ok, ov, he⟩ := st
    rw [← hsz] at he
    have hlt : it < s.heap.objs.size := Heap.lt_size he
    refine wpAny_pyNext_items_item_raw he hm hlt' fun h' ho hT hz hk => ?_
    rw [ek, ev] at ho hT
    refine ⟨_, rfl, wpAny_letOwnedTupleGo_items (s := { s with heap := h' }) ho fun h'' he' sb => ?_⟩
    have hT2 : h''.get? s.heap.objs.size = some { cls := .type "tuple", data := .seq #[.ref b, u] } := (sb.2 _ (Nat.ne_of_gt hlt)).trans hT
    have new : ObjOk X.prog X.w (upd H s.heap.objs.size (.tup [.ref b, v])) h'' s.heap.objs.size (.tup [.ref b, v]) :=
      ⟨by show 2 ≤ sizeLine; decide, [.ref b, u], .cons rfl (.cons rv .nil), ⟨_, hT2, rfl, _, rfl⟩⟩
    have I1 : Inv X pins σ (upd H s.heap.objs.size (.tup [.ref b, v])) { s with heap := h'' } :=
      I.turnedNew (t' := s.toks) (ch := [it]) (fun b ob hb e => (sb.2 b (by simpa using hb)).trans (hk b ob (by simpa using hb) e)) hf (Nat.le_refl _) new
    refine ⟨.ref s.heap.objs.size, _, I1, rfl, ⟨_, k, b, u, v, hkv, rv, rfl, I.hok.fresh (Nat.le_refl _), rfl⟩, ⟨.ref b, u, ?_⟩, fun b hb => ?_⟩
    · rw [← hsz]; exact he'
    · have e : b = it := by simpa using hb
      rw [e, upd_ne (Nat.ne_of_lt hlt)]
      exact (hf it (by simp)).1
  done := by
    intro X hP hw hK hc i pins s σ H E I hf st hg
    subst hP hw hK
    obtain ⟨hd, hi⟩ := hg
    obtain ⟨f0, f1, f2, f3, f4, f5⟩ := hf it (by simp)
    obtain ⟨hs, hgd, hx, es', ep', hdt, hsz, hm, ent⟩ := frzN I.hok hd
    obtain ⟨rfl, rfl⟩ := dict_ep hod hdt
    obtain ⟨ok, ov, he⟩ := st
    rw [← hsz] at he
    exact wpAny_pyNext_items_end_raw (I.ok.hd hc) he hm (by omega) fun h' eb => ⟨rfl, I.turned (t' := s.toks) (fun b ob hb e => eb b ob hb e) f0 f1 f3 f4 f5⟩
  self := fun A i s Q E st h => let ⟨_, _, e⟩ := st; PySem.W.kcp_self e h
def iItemsX (td : TE) : TI := fun σ H R => td σ H fun x H1 => ∃ d o, x = .ref d ∧ ((∃ kvs, H1 d = some (.frz o (.dK kvs)) ∧ R (Iti d o kvs) H1) ∨ ∃ xs, H1 d = some (.frz o (DNo d xs)) ∧ VsOk xs ∧ R (ItiN d o xs) H1)
theorem pi_itemsX {elts : List Expr} {kk : Nat} {tpos : Pos} (he : PE X e td) (hbase : attributeBase e "items" X.env (eval e X.env) = eval e X.env := by rfl) (hline : (apos.endLine == cpos.line) = true := by rfl) :
    PI X (.Tuple elts kk tpos) (.Call (.Attribute e "items" apos) [] [] cpos) (iItemsX td) := by
  refine ⟨fun pins s σ H R I h => ?_⟩
  refine wpAny_Call_method (T := "dict") (id := "dict.items") hbase rfl hline PySem.F.plainAttrs_dict PySem.F.slot_dict_items PySem.F.type_dict_items (thn (he.run pins s σ H _ I h) fun u s1 ⟨x, H1, I1, rx, d, o, ex, q⟩ => ?_)
  subst ex
  obtain rfl : u = Value.ref d := rx
  have I2 : Inv X pins σ H1 { s1 with heap := s1.heap.push { cls := .type "dict_items", data := .fields #[.ref d] } } := I1.kept (t' := s1.toks) fun b ob q => Heap.get?_push_of_some _ q
  rcases q with ⟨kvs, hd, q⟩ | ⟨xs, hd, hv, q⟩
  · obtain ⟨hs, hgd, hx, es, ep, vs, hdt, hsz, kv, hm⟩ := I1.frzK hd
    have hl : kvs.length = vs.length := Paired.length kv
    refine ⟨hm.dictOf.typeIs, hm.dictOf.mapOf.noDict, ?_⟩
    have fin : wpAny (model X.prog X.w) X.A (pyIter (.ref s1.heap.objs.size)) (PIE X pins σ (.Tuple elts kk tpos) R) X.xe { s1 with heap := s1.heap.push { cls := .type "dict_items", data := .fields #[.ref d] } } := by
      refine wpAny_pyIter_items (d := d) (knd := mixKind X.prog X.w) ⟨_, Heap.get?_push_size _ rfl, rfl, rfl⟩ (hm.push _) (pi_one (tk := s1.toks) I2 _ (turn_items _ hdt) ⟨.none, .none, ?_⟩ q)
      rw [hl]
      exact Heap.get?_push_size _ rfl
    show wpAny _ _ (callWith cpos (.builtin "dict.items") [.ref d] [] []) _ X.xe s1
    exact method_meetsIn PySem.F.slot_dict_items PySem.F.entry_dict_items rfl (PySem.evalArgs_none ⟨rfl, hm.dictOf.typeIs, PySem.F.args_dict_items_1 _, _, meets_dict_items_raw d hs, ⟨_, _, ⟨o, hgd, hx, hdt⟩⟩, fin⟩)
  · obtain ⟨hs, hgd, hx, es, ep, hdt, hsz, hm, ent⟩ := frzN I1.hok hd
    refine ⟨hm.typeIs, fun b q => ⟨o, by cases q; exact hgd, hx.2.1⟩, ?_⟩
    have fin : wpAny (model X.prog X.w) X.A (pyIter (.ref s1.heap.objs.size)) (PIE X pins σ (.Tuple elts kk tpos) R) X.xe { s1 with heap := s1.heap.push { cls := .type "dict_items", data := .fields #[.ref d] } } := by
      refine wpAny_pyIter_items_raw (d := d) (es := es) (ep := ep) ⟨_, Heap.get?_push_size _ rfl, rfl, rfl⟩ (hm.at fun o q => Heap.get?_push_of_some _ q) (pi_one (tk := s1.toks) I2 _ (turn_itemsN _ hdt hv) ⟨.none, .none, ?_⟩ q)
      rw [← hsz]
      exact Heap.get?_push_size _ rfl
    show wpAny _ _ (callWith cpos (.builtin "dict.items") [.ref d] [] []) _ X.xe s1
    exact method_meetsIn PySem.F.slot_dict_items PySem.F.entry_dict_items rfl (PySem.evalArgs_none ⟨rfl, hm.typeIs, PySem.F.args_dict_items_1 _, _, meets_dict_items_raw d hs, ⟨_, _, hm⟩, fin⟩)
/-! ### the values, one by one -/
def ItvN (d : Addr) (o : Obj) (xs : NXs) : It :=
  ⟨fun i H => H d = some (.frz o (DNo d xs)) ∧ i < xs.length, fun i H x H' => H' = H ∧ ∃ k b u, xs[i]? = some (k, b, u) ∧ RelV x u, fun i H => H d = some (.frz o (DNo d xs)) ∧ xs.length ≤ i⟩
theorem turn_valsN {P : Program} {w : World} {K : PySem.W.Frag} {tg : Expr} {d : Addr} {o : Obj} {es : Array DictEntry} {ep : Nat} {xs : NXs} (it : Addr) (hod : o.data = .dict es ep) (hv : VsOk xs) :
    Turn P w K tg (ItvN d o xs) [it] it (fun i h => h.IsValIter it d i xs.length ep) where
  mem := by simp
  obj := fun i h st b hb => by
    have e : b = it := by simpa using hb
    subst e
    obtain ⟨oi, e, c, dd⟩ := st
    exact ⟨oi, e, fun v z => by rw [dd] at z; cases z⟩
  keep := fun i h h' st k => st.at fun oi e => k it (by simp) oi e
  item := by
    intro X hP hw hK hc i pins s σ H E I hf st hg
    subst hP hw hK
    obtain ⟨hd, hi⟩ := hg
    obtain ⟨f0, f1, f2, f3, f4, f5⟩ := hf it (by simp)
    obtain ⟨hs, hgd, hx, es', ep', hdt, hsz, hm, ent⟩ := frzN I.hok hd
    obtain ⟨rfl, rfl⟩ := dict_ep hod hdt
    obtain ⟨⟨k, b, u⟩, hkv⟩ : ∃ p, xs[i]? = some p := ⟨xs[i], List.getElem?_eq_getElem hi⟩
    obtain ⟨hlt', ek, ev⟩ := ent i k b u hkv
    obtain ⟨v, rv⟩ := hv _ (List.mem_of_getElem? hkv)
    rw [← hsz] at st
    refine wpAny_pyNext_values_item_raw st hm hlt' fun h' st' sb => ?_
    rw [ev]
    have I1 : Inv X pins σ H { s with heap := h' } := I.turned (t' := s.toks) (fun b ob hb e => (sb.2 b hb).trans e) f0 f1 f3 f4 f5
    obtain ⟨oi, e, c, dd⟩ := id st'
    refine ⟨u, rfl, go_of (s := { s with heap := h' }) e c dd (by decide) ⟨v, H, I1, rv, ⟨rfl, k, b, u, hkv, rv⟩, ?_, fun b hb => (hf b hb).1⟩⟩
    show h'.IsValIter it d (i + 1) xs.length _
    rw [← hsz]
    exact st'
  done := by
    intro X hP hw hK hc i pins s σ H E I hf st hg
    subst hP hw hK
    obtain ⟨hd, hi⟩ := hg
    obtain ⟨f0, f1, f2, f3, f4, f5⟩ := hf it (by simp)
    obtain ⟨hs, hgd, hx, es', ep', hdt, hsz, hm, ent⟩ := frzN I.hok hd
    obtain ⟨rfl, rfl⟩ := dict_ep hod hdt
    rw [← hsz] at st
    exact wpAny_pyNext_values_end_raw (I.ok.hd hc) st hm (by omega) fun h' eb => ⟨rfl, I.turned (t' := s.toks) (fun b ob hb e => eb b ob hb e) f0 f1 f3 f4 f5⟩
  self := fun A i s Q E st h => wpAny_pyIter_valiter st h
def iValsX (td : TE) : TI := fun σ H R => td σ H fun x H1 => ∃ d o, x = .ref d ∧ ((∃ kvs, H1 d = some (.frz o (.dK kvs)) ∧ R (Itd d o kvs) H1) ∨ ∃ xs, H1 d = some (.frz o (DNo d xs)) ∧ VsOk xs ∧ R (ItvN d o xs) H1)
theorem pi_valsX {tg : Expr} (he : PE X e td) (hbase : attributeBase e "values" X.env (eval e X.env) = eval e X.env := by rfl) (hline : (apos.endLine == cpos.line) = true := by rfl) : PI X tg (.Call (.Attribute e "values" apos) [] [] cpos) (iValsX td) := by
  refine ⟨fun pins s σ H R I h => ?_⟩
  refine wpAny_Call_method (T := "dict") (id := "dict.values") hbase rfl hline PySem.F.plainAttrs_dict PySem.F.slot_dict_values PySem.F.type_dict_values (thn (he.run pins s σ H _ I h) fun u s1 ⟨x, H1, I1, rx, d, o, ex, q⟩ => ?_)
  subst ex
  obtain rfl : u = Value.ref d := rx
  have I2 : Inv X pins σ H1 { s1 with heap := s1.heap.push { cls := .type "dict_values", data := .fields #[.ref d] } } := I1.kept (t' := s1.toks) fun b ob q => Heap.get?_push_of_some _ q
  rcases q with ⟨kvs, hd, q⟩ | ⟨xs, hd, hv, q⟩
  · obtain ⟨hs, hgd, hx, es, ep, vs, hdt, hsz, kv, hm⟩ := I1.frzK hd
    have hl : kvs.length = vs.length := Paired.length kv
    refine ⟨hm.dictOf.typeIs, hm.dictOf.mapOf.noDict, ?_⟩
    have fin : wpAny (model X.prog X.w) X.A (pyIter (.ref s1.heap.objs.size)) (PIE X pins σ tg R) X.xe { s1 with heap := s1.heap.push { cls := .type "dict_values", data := .fields #[.ref d] } } := by
      refine wpAny_pyIter_values (d := d) (knd := mixKind X.prog X.w) ⟨_, Heap.get?_push_size _ rfl, rfl, rfl⟩ (hm.push _) (pi_one (tk := s1.toks) I2 _ (turn_vals _ hdt) ⟨_, Heap.get?_push_size _ rfl, rfl, ?_⟩ q)
      rw [hl] <;> rfl
    show wpAny _ _ (callWith cpos (.builtin "dict.values") [.ref d] [] []) _ X.xe s1
    exact method_meetsIn PySem.F.slot_dict_values PySem.F.entry_dict_values rfl (PySem.evalArgs_none ⟨rfl, hm.dictOf.typeIs, PySem.F.args_dict_values_1 _, _, meets_dict_values_raw d hs, ⟨_, _, ⟨o, hgd, hx, hdt⟩⟩, fin⟩)
  · obtain ⟨hs, hgd, hx, es, ep, hdt, hsz, hm, ent⟩ := frzN I1.hok hd
    refine ⟨hm.typeIs, fun b q => ⟨o, by cases q; exact hgd, hx.2.1⟩, ?_⟩
    have fin : wpAny (model X.prog X.w) X.A (pyIter (.ref s1.heap.objs.size)) (PIE X pins σ tg R) X.xe { s1 with heap := s1.heap.push { cls := .type "dict_values", data := .fields #[.ref d] } } := by
      refine wpAny_pyIter_values_raw (d := d) (es := es) (ep := ep) ⟨_, Heap.get?_push_size _ rfl, rfl, rfl⟩ (hm.at fun o q => Heap.get?_push_of_some _ q) (pi_one (tk := s1.toks) I2 _ (turn_valsN _ hdt hv) ⟨_, Heap.get?_push_size _ rfl, rfl, ?_⟩ q)
      rw [hsz] <;> rfl
    show wpAny _ _ (callWith cpos (.builtin "dict.values") [.ref d] [] []) _ X.xe s1
    exact method_meetsIn PySem.F.slot_dict_values PySem.F.entry_dict_values rfl (PySem.evalArgs_none ⟨rfl, hm.typeIs, PySem.F.args_dict_values_1 _, _, meets_dict_values_raw d hs, ⟨_, _, hm⟩, fin⟩)
/-! ### len -/
theorem call_lenN : CallR X (.builtin "len") (fun vs H Q => ∃ a xs, vs = [.ref a] ∧ IsN H a xs ∧ KOk H xs ∧ Q (.int (xs.length : Nat)) H) := by
  intro pins s σ H vs us Q I r h
  obtain ⟨a, xs, rfl, e, ko, q⟩ := h
  obtain ⟨u, rfl, rx⟩ := vals1 r
  obtain rfl : u = .ref a := rx
  obtain ⟨f1, f2, _⟩ := isN_f I e
  exact call_len_dictH f1 (dn_at I e ko) (by rw [sizeLine_eq] at f2; omega) ⟨.int (xs.length : Nat), H, I.tok _, ⟨_, rfl⟩, q⟩
/-! ### dict(pairs), keys that are tuples -/
abbrev NTs4 := List (Addr × NestedKey × Addr × V)
def rDictN (K : PySem.W.Frag) : List V → Hp → VK → Prop := fun vs H Q => ∃ (a : Addr) (ts : NTs4), vs = [.ref a] ∧ SqL K H a (ts.map fun t => V.ref t.1) ∧ (∀ t ∈ ts, SqT K H t.1 [.ref t.2.2.1, t.2.2.2] ∧ KIs H t.2.1 (.ref t.2.2.1) ∧ NT t.2.1 = true ∧ t.2.1.depth ≤ 8) ∧
  ∀ (p : Addr) (xs : NXs), H p = none → Paired (fun (t : Addr × NestedKey × Addr × V) (x : NestedKey × Addr × Value) => x.1 = t.2.1 ∧ x.2.1 = t.2.2.1 ∧ RelV t.2.2.2 x.2.2) ts xs → Q (.ref p) (upd H p (DNo p (storedAllH [] xs)))
theorem pairs4 {pins : List (Addr × Obj)} {σ : L2.St} {H : Hp} {s : Shared} (I : Inv X pins σ H s) : ∀ {ts : NTs4}, (∀ t ∈ ts, SqT X.K H t.1 [.ref t.2.2.1, t.2.2.2]) →
    ∃ xs : NXs, Paired (fun (t : Addr × NestedKey × Addr × V) (x : NestedKey × Addr × Value) => x.1 = t.2.1 ∧ x.2.1 = t.2.2.1 ∧ RelV t.2.2.2 x.2.2) ts xs ∧ ∀ (i : Nat) (t : Addr × NestedKey × Addr × V) (x : NestedKey × Addr × Value), ts[i]? = some t → xs[i]? = some x → PairAt s.heap t.1 (.ref x.2.1) x.2.2
  | [], _ => ⟨[], .nil, fun i t x h => by simp at h⟩
  | t :: ts, h => by
    obtain ⟨xs, h1, h2⟩ := pairs4 I (ts := ts) fun t ht => h t (List.mem_cons_of_mem _ ht)
    obtain ⟨its, r, ht, hs⟩ := I.tuple (h t List.mem_cons_self)
    cases r with
    | @cons _ u _ us r1 r =>
      cases r with
      | @cons _ u2 _ us2 r2 r =>
        cases r
        cases (show u = Value.ref t.2.2.1 from r1)
        refine ⟨(t.2.1, t.2.2.1, u2) :: xs, .cons ⟨rfl, rfl, r2⟩ h1, fun i t' x e1 e2 => ?_⟩
        cases i with
        | zero =>
          rw [List.getElem?_cons_zero] at e1 e2
          cases e1
          cases e2
          exact .inl ht
        | succ i =>
          rw [List.getElem?_cons_succ] at e1 e2
          exact h2 i t' x e1 e2
theorem stored_ok {P : NestedKey → Addr → Prop} {xs : NXs} (h : ∀ x ∈ xs, P x.1 x.2.1) : ∀ x ∈ storedAllH [] xs, P x.1 x.2.1 := storedAllH_keys (fun x hx => by simp at hx) h
theorem call_dictN (hc : X.calm = true) (hu : X.A.units + 64 < cLine) : CallR X (.type "dict") (rDictN X.K) := by
  intro pins s σ H vs us Q I r h
  obtain ⟨a, ts, rfl, hq, hp, q⟩ := h
  obtain ⟨u, rfl, rx⟩ := vals1 r
  obtain rfl : u = .ref a := rx
  obtain ⟨its, rv, pl, hz⟩ := I.list hq
  have ei : its = (ts.map fun t => t.1).map Value.ref := refs_at (by rw [List.map_map]; exact rv)
  subst ei
  rw [List.length_map] at hz
  obtain ⟨xs, px, pa⟩ := pairs4 I fun t ht => (hp t ht).1
  have hl : ts.length = xs.length := Paired.length px
  have kx : ∀ x ∈ xs, KIs H x.1 (.ref x.2.1) ∧ NT x.1 = true ∧ x.1.depth ≤ 8 := fun x hx => by
    obtain ⟨i, hi⟩ := List.mem_iff_getElem?.mp hx
    have hit : i < ts.length := by rw [hl]; exact (List.getElem?_eq_some_iff.mp hi).1
    obtain ⟨x', h1, h2, h3, h4⟩ := paired_get px (List.getElem?_eq_getElem hit)
    rw [hi] at h1
    cases h1
    have := hp ts[i] (List.getElem_mem hit)
    rw [h2, h3]
    exact this.2
  obtain ⟨o, n, ho, hcl, hd, hdat⟩ := pl
  have P := PairArg.list (prog := X.prog) (w := X.w) a (((ts.map fun t => t.1).map Value.ref).toArray) (fun i => ((ts.map fun t => t.1)[i]?).getD 0) (xs.map fun x => (Value.ref x.2.1, x.2.2))
  have okp : PairItems s.heap (((ts.map fun t => t.1).map Value.ref).toArray) (fun i => ((ts.map fun t => t.1)[i]?).getD 0) (xs.map fun x => (Value.ref x.2.1, x.2.2)) := by
    refine ⟨by simp [hl], fun j k v e => ?_⟩
    rw [List.getElem?_map] at e
    cases ex : xs[j]? with
    | none => rw [ex] at e; cases e
    | some x =>
      rw [ex] at e
      cases e
      have hjt : j < ts.length := by rw [hl]; exact (List.getElem?_eq_some_iff.mp ex).1
      have et := List.getElem?_eq_getElem hjt
      refine ⟨by simp [et], ?_⟩
      have := pa j _ x et ex
      simp only [List.getElem?_map, et, Option.map_some, Option.getD_some]
      exact this
  refine call_dict_pairsH (knd := nestedKind X.prog X.w) (ps := xs) P (I.ok.hd hc) (show X.A.units + 1 + 1 + 8 < cLine by omega) ⟨⟨o, n, ho, hcl, hd, hdat⟩, okp⟩ ?_ ?_ ?_ fun h' tk hm k => ?_
  · refine ⟨by rw [List.length_map], fun i key v e => ?_⟩
    have e : (xs.map fun x => (Value.ref x.2.1, x.2.2))[i]? = some (key, v) := e
    rw [List.getElem?_map] at e
    cases ex : xs[i]? with
    | none => rw [ex] at e; cases e
    | some x =>
      rw [ex] at e
      cases e
      exact ⟨x.1, x.2.1, rfl, rfl⟩
  · intro h' hk x hx
    refine ⟨NestedIs.at (fun b o vs n h1 h2 => hk b o (Nat.ne_of_lt (Heap.lt_size h1)) (by simp) h1) _ _ ((kx x hx).1 X.prog X.w s.heap _ I.hok rfl), (kx x hx).2.2⟩
  · rw [List.length_map, ← hl]
    exact hz
  · have hm' := hm
    obtain ⟨o', es, ep, ho', hx', hdt', he', _, hnd⟩ := hm'
    have hlen : (storedAllH [] xs).length ≤ sizeLine := by
      have := storedAllH_length xs []
      rw [List.length_nil, Nat.zero_add, ← hl] at this
      omega
    exact ⟨.ref s.heap.objs.size, _, I.laid (t' := tk) (fun b o e => k b o (by simp) e) (Nat.le_refl _)
      (dno_ok ⟨beq_eq_false_iff_ne.mpr (Nat.ne_of_gt I.big), hlen, hnd, stored_ok (P := fun k _ => NT k = true ∧ k.depth ≤ 8) (fun x hx => (kx x hx).2), o', es, ep, X.w, ho', hx', hdt', he'⟩), rfl, q _ xs (I.hok.fresh (Nat.le_refl _)) px⟩
end
end DL

/-! DL: deep values over the hand layer. Data that never changes is carried by value (D); objects that change stand in a small store (Mu) and are carried by their address (D.ref). -/
namespace DL
open PySem PySem.Spec PyProof.Rows L2

inductive D where
  | non | bl (b : Bool) | int (i : Int) | str (x : Str) | ref (a : Addr) | ty (n : String)
  | tup (xs : List D) | lst (xs : List D) | fz (xs : List D)
  | dk (kvs : List (Key × D)) | dt (kvs : List (NestedKey × D))

mutual
/-- a dict's key as a datum -/
def nkD : NestedKey → D
  | .none => .non
  | .num i => .int i
  | .text x => .str x
  | .tup ks => .tup (nkDs ks)
def nkDs : List NestedKey → List D
  | [] => []
  | k :: ks => nkD k :: nkDs ks
end
/-- an object that changes -/
inductive MO where
  | lst (xs : List D) | dk (kvs : List (Key × D)) | dt (kvs : List (NestedKey × D)) | ins (C : Addr) (fs : List (Str × D))

abbrev Mu := Addr → Option MO
def mput (m : Mu) (a : Addr) (o : MO) : Mu := fun b => if b = a then some o else m b
def mdel (m : Mu) (a : Addr) : Mu := fun b => if b = a then none else m b
theorem mput_same {m : Mu} {a : Addr} {o : MO} : mput m a o a = some o := if_pos rfl
theorem mput_ne {m : Mu} {a b : Addr} {o : MO} (h : b ≠ a) : mput m a o b = m b := if_neg h
theorem mdel_same {m : Mu} {a : Addr} : mdel m a a = none := if_pos rfl
theorem mdel_ne {m : Mu} {a b : Addr} (h : b ≠ a) : mdel m a b = m b := if_neg h
theorem mput_mput {m : Mu} {a : Addr} {o u : MO} : mput (mput m a o) a u = mput m a u := by
  funext b
  unfold mput
  split <;> rfl
theorem mput_comm {m : Mu} {a b : Addr} {o u : MO} (h : a ≠ b) : mput (mput m a o) b u = mput (mput m b u) a o := by
  funext c
  unfold mput
  by_cases h1 : c = a
  · by_cases h2 : c = b
    · exact absurd (h1.symm.trans h2) h
    · rw [if_neg h2, if_pos h1, if_pos h1]
  · by_cases h2 : c = b
    · rw [if_pos h2, if_neg h1, if_pos h2]
    · rw [if_neg h2, if_neg h1, if_neg h1, if_neg h2]
theorem mdel_mput {m : Mu} {a : Addr} {o : MO} (h : m a = none) : mdel (mput m a o) a = m := by
  funext b
  unfold mdel mput
  by_cases e : b = a
  · rw [if_pos e, e, h]
  · rw [if_neg e, if_neg e]
theorem mput_self {m : Mu} {a : Addr} {o : MO} (h : m a = some o) : mput m a o = m := by
  funext b
  unfold mput
  by_cases e : b = a
  · rw [if_pos e, e, h]
  · rw [if_neg e]

/-- some addresses that stand apart: objects that are being made (a comprehension's list), reached by no data -/
abbrev Zt := Addr → Prop
/-- an address whose object does not change while μ and Z stand -/
def Cold (μ : Mu) (Z : Zt) (a : Addr) : Prop := μ a = none ∧ ¬ Z a

/-- read, and not to be changed -/
def ColdL (K : PySem.W.Frag) (Z : Zt) (μ : Mu) (H : Hp) (a : Addr) (xs : List V) : Prop :=
  (Rd H a (.lst xs) ∧ Cold μ Z a) ∨
    ∃ (o : Obj) (its : Array Value) (n : Nat), K.lookup a = some o ∧ o.cls = .type "list" ∧ o.dict = none ∧ o.data = .seq its n ∧ its.size ≤ sizeLine ∧ Vals xs its.toList
def ColdT (_ : PySem.W.Frag) (Z : Zt) (μ : Mu) (H : Hp) (a : Addr) (xs : List V) : Prop := H a = some (.tup xs) ∧ Cold μ Z a

mutual
/-- v in H is the datum d -/
inductive Rp (K : PySem.W.Frag) (Z : Zt) (μ : Mu) (H : Hp) : V → D → Prop
  | non : Rp K Z μ H .non .non
  | bl (b : Bool) : Rp K Z μ H (.bl b) (.bl b)
  | int (i : Int) : Rp K Z μ H (.int i) (.int i)
  | str (x : Str) : Rp K Z μ H (.str x) (.str x)
  | ty (x : String) : Rp K Z μ H (.ty x) (.ty x)
  | ref (a : Addr) : Rp K Z μ H (.ref a) (.ref a)
  | tup {a : Addr} {xs : List V} {ds : List D} : ColdT K Z μ H a xs → RpAll K Z μ H xs ds → Rp K Z μ H (.ref a) (.tup ds)
  | lst {a : Addr} {xs : List V} {ds : List D} : H a = some (.lst xs) → Cold μ Z a → RpAll K Z μ H xs ds → Rp K Z μ H (.ref a) (.lst ds)
  | fz {a : Addr} {xs : List V} {ds : List D} : ColdL K Z μ H a xs → RpAll K Z μ H xs ds → Rp K Z μ H (.ref a) (.fz ds)
  | dk {a : Addr} {od : Obj} {kvs : List (Key × V)} {ds : List (Key × D)} : H a = some (.frz od (.dK kvs)) → Cold μ Z a → kvs.map (·.1) = ds.map (·.1) → RpAll K Z μ H (kvs.map (·.2)) (ds.map (·.2)) → Rp K Z μ H (.ref a) (.dk ds)
  | dt {a : Addr} {od : Obj} {xs : NXs} {kvs : List (NestedKey × V)} {ds : List (NestedKey × D)} : H a = some (.frz od (DNo a xs)) → Cold μ Z a → NR xs kvs → kvs.map (·.1) = ds.map (·.1) → RpAll K Z μ H (xs.map fun x => V.ref x.2.1) (ds.map fun e => nkD e.1) → RpAll K Z μ H (kvs.map (·.2)) (ds.map (·.2)) → Rp K Z μ H (.ref a) (.dt ds)
inductive RpAll (K : PySem.W.Frag) (Z : Zt) (μ : Mu) (H : Hp) : List V → List D → Prop
  | nil : RpAll K Z μ H [] []
  | cons {v : V} {vs : List V} {d : D} {ds : List D} : Rp K Z μ H v d → RpAll K Z μ H vs ds → RpAll K Z μ H (v :: vs) (d :: ds)
end

/-- the object at a is m -/
inductive Ob (K : PySem.W.Frag) (Z : Zt) (μ : Mu) (H : Hp) (a : Addr) : MO → Prop
  | lst {xs : List V} {ds : List D} : H a = some (.lst xs) → RpAll K Z μ H xs ds → Ob K Z μ H a (.lst ds)
  | dk {kvs : List (Key × V)} {ds : List (Key × D)} : H a = some (.dK kvs) → kvs.map (·.1) = ds.map (·.1) → RpAll K Z μ H (kvs.map (·.2)) (ds.map (·.2)) → Ob K Z μ H a (.dk ds)
  | dt {xs : NXs} {kvs : List (NestedKey × V)} {ds : List (NestedKey × D)} : H a = some (DNo a xs) → NR xs kvs → kvs.map (·.1) = ds.map (·.1) → RpAll K Z μ H (xs.map fun x => V.ref x.2.1) (ds.map fun e => nkD e.1) → RpAll K Z μ H (kvs.map (·.2)) (ds.map (·.2)) → Ob K Z μ H a (.dt ds)
  | ins {C dx : Addr} {fs : List (Str × V)} {ds : List (Str × D)} : H a = some (.ins C dx fs) → fs.map (·.1) = ds.map (·.1) → RpAll K Z μ H (fs.map (·.2)) (ds.map (·.2)) → Ob K Z μ H a (.ins C ds)

/-- the store is held -/
structure Sim (K : PySem.W.Frag) (Z : Zt) (μ : Mu) (H : Hp) : Prop where
  ob : ∀ a m, μ a = some m → Ob K Z μ H a m
  z : ∀ a, Z a → H a ≠ none ∧ μ a = none
/-- what stood cold stands cold -/
def Stp (μ μ' : Mu) (H H' : Hp) : Prop := ∀ a o, H a = some o → μ a = none → H' a = some o ∧ μ' a = none

section
variable {K : PySem.W.Frag} {Z : Zt} {μ μ' μ1 μ2 : Mu} {H H' H1 H2 : Hp} {a p : Addr} {v : V} {d : D} {vs : List V} {ds : List D}
theorem Stp.refl : Stp μ μ H H := fun _ _ h n => ⟨h, n⟩
theorem Stp.trans (a : Stp μ μ1 H H1) (b : Stp μ1 μ2 H1 H2) : Stp μ μ2 H H2 := fun c o h n => let ⟨h1, n1⟩ := a c o h n; b c o h1 n1
theorem Stp.new {o : HO} (h : H p = none) : Stp μ μ H (upd H p o) := fun b u e n => ⟨by rw [upd_ne (ne_of_none e h)]; exact e, n⟩
theorem Stp.newM {o : HO} {m : MO} (h : H p = none) : Stp μ (mput μ p m) H (upd H p o) := fun b u e n => ⟨by rw [upd_ne (ne_of_none e h)]; exact e, by rw [mput_ne (ne_of_none e h)]; exact n⟩
theorem Stp.write {o : HO} {m m' : MO} (h : μ p = some m) : Stp μ (mput μ p m') H (upd H p o) := fun b u e n => by
  have hb : b ≠ p := fun q => by rw [q, h] at n; cases n
  exact ⟨by rw [upd_ne hb]; exact e, by rw [mput_ne hb]; exact n⟩
/-- objects of the store let go -/
theorem Stp.less (h : ∀ a, μ a = none → μ' a = none) : Stp μ μ' H H := fun a _ e n => ⟨e, h a n⟩
theorem Sim.free (S : Sim K Z μ H) (h : H p = none) : μ p = none := by
  cases e : μ p with
  | none => rfl
  | some m =>
    have q := S.ob p m e
    cases q with
    | lst q => rw [h] at q; cases q
    | dk q => rw [h] at q; cases q
    | dt q => rw [h] at q; cases q
    | ins q => rw [h] at q; cases q
theorem Sim.cold (S : Sim K Z μ H) (h : H p = none) : Cold μ Z p := ⟨S.free h, fun z => (S.z p z).1 h⟩
theorem Rd.some {o : HO} (h : Rd H a o) : ∃ u, H a = some u := by
  rcases h with h | ⟨u, h⟩
  · exact ⟨_, h⟩
  · exact ⟨_, h⟩
theorem Rd.stp {o : HO} (s : Stp μ μ' H H') (h : Rd H a o) (c : Cold μ Z a) : Rd H' a o ∧ Cold μ' Z a := by
  rcases h with h | ⟨u, h⟩
  · exact ⟨.inl (s _ _ h c.1).1, (s _ _ h c.1).2, c.2⟩
  · exact ⟨.inr ⟨u, (s _ _ h c.1).1⟩, (s _ _ h c.1).2, c.2⟩
theorem cold_stp {o : HO} (s : Stp μ μ' H H') (h : H a = some o) (c : Cold μ Z a) : H' a = some o ∧ Cold μ' Z a := ⟨(s _ _ h c.1).1, (s _ _ h c.1).2, c.2⟩
theorem ColdL.stp {xs : List V} (s : Stp μ μ' H H') (h : ColdL K Z μ H a xs) : ColdL K Z μ' H' a xs := by
  rcases h with ⟨h, c⟩ | h
  · exact .inl (Rd.stp s h c)
  · exact .inr h
theorem ColdT.stp {xs : List V} (s : Stp μ μ' H H') (h : ColdT K Z μ H a xs) : ColdT K Z μ' H' a xs := cold_stp s h.1 h.2
theorem ColdL.sq {xs : List V} (h : ColdL K Z μ H a xs) : SqL K H a xs := by
  rcases h with ⟨h, _⟩ | h
  · exact .inl h
  · exact .inr h
theorem ColdT.sq {xs : List V} (h : ColdT K Z μ H a xs) : SqT K H a xs := .inl (.inl h.1)
mutual
theorem Rp.stp (s : Stp μ μ' H H') : ∀ {v : V} {d : D}, Rp K Z μ H v d → Rp K Z μ' H' v d
  | _, _, .non => .non
  | _, _, .bl b => .bl b
  | _, _, .int i => .int i
  | _, _, .str x => .str x
  | _, _, .ty x => .ty x
  | _, _, .ref a => .ref a
  | _, _, .tup h r => .tup (ColdT.stp s h) (RpAll.stp s r)
  | _, _, .lst h c r => .lst (cold_stp s h c).1 (cold_stp s h c).2 (RpAll.stp s r)
  | _, _, .fz h r => .fz (ColdL.stp s h) (RpAll.stp s r)
  | _, _, .dk h c e r => .dk (cold_stp s h c).1 (cold_stp s h c).2 e (RpAll.stp s r)
  | _, _, .dt h c n e k r => .dt (cold_stp s h c).1 (cold_stp s h c).2 n e (RpAll.stp s k) (RpAll.stp s r)
theorem RpAll.stp (s : Stp μ μ' H H') : ∀ {vs : List V} {ds : List D}, RpAll K Z μ H vs ds → RpAll K Z μ' H' vs ds
  | _, _, .nil => .nil
  | _, _, .cons h t => .cons (Rp.stp s h) (RpAll.stp s t)
end
theorem RpAll.length : ∀ {vs : List V} {ds : List D}, RpAll K Z μ H vs ds → vs.length = ds.length
  | _, _, .nil => rfl
  | _, _, .cons _ t => congrArg (· + 1) (RpAll.length t)
theorem RpAll.get : ∀ {vs : List V} {ds : List D} {i : Nat} {d : D}, RpAll K Z μ H vs ds → ds[i]? = some d → ∃ v, vs[i]? = some v ∧ Rp K Z μ H v d
  | _, _, _, _, .nil, e => by simp at e
  | _, _, 0, _, .cons h _, e => by
    simp at e
    subst e
    exact ⟨_, rfl, h⟩
  | _, _, i + 1, d, .cons _ t, e => by
    obtain ⟨v, h1, h2⟩ := RpAll.get (i := i) (d := d) t (by simpa using e)
    exact ⟨v, by simpa using h1, h2⟩
theorem RpAll.getV : ∀ {vs : List V} {ds : List D} {i : Nat} {v : V}, RpAll K Z μ H vs ds → vs[i]? = some v → ∃ d, ds[i]? = some d ∧ Rp K Z μ H v d
  | _, _, _, _, .nil, e => by simp at e
  | _, _, 0, _, .cons h _, e => by
    simp at e
    subst e
    exact ⟨_, rfl, h⟩
  | _, _, i + 1, d, .cons _ t, e => by
    obtain ⟨v, h1, h2⟩ := RpAll.getV (i := i) (v := d) t (by simpa using e)
    exact ⟨v, by simpa using h1, h2⟩
theorem RpAll.append : ∀ {vs ws : List V} {ds es : List D}, RpAll K Z μ H vs ds → RpAll K Z μ H ws es → RpAll K Z μ H (vs ++ ws) (ds ++ es)
  | _, _, _, _, .nil, s => s
  | _, _, _, _, .cons h t, s => .cons h (RpAll.append t s)
theorem RpAll.set {v : V} {d : D} (r : Rp K Z μ H v d) : ∀ {vs : List V} {ds : List D} (i : Nat), RpAll K Z μ H vs ds → RpAll K Z μ H (vs.set i v) (ds.set i d)
  | _, _, _, .nil => .nil
  | _, _, 0, .cons _ t => .cons r t
  | _, _, i + 1, .cons h t => .cons h (RpAll.set r i t)
theorem RpAll.take : ∀ {vs : List V} {ds : List D} (n : Nat), RpAll K Z μ H vs ds → RpAll K Z μ H (vs.take n) (ds.take n)
  | _, _, 0, _ => .nil
  | _, _, _ + 1, .nil => .nil
  | _, _, n + 1, .cons h t => .cons h (RpAll.take n t)
theorem RpAll.drop : ∀ {vs : List V} {ds : List D} (n : Nat), RpAll K Z μ H vs ds → RpAll K Z μ H (vs.drop n) (ds.drop n)
  | _, _, 0, h => h
  | _, _, _ + 1, .nil => .nil
  | _, _, n + 1, .cons _ t => RpAll.drop n t
theorem RpAll.reverse : ∀ {vs : List V} {ds : List D}, RpAll K Z μ H vs ds → RpAll K Z μ H vs.reverse ds.reverse
  | _, _, .nil => .nil
  | _, _, .cons h t => by
    rw [List.reverse_cons, List.reverse_cons]
    exact RpAll.append (RpAll.reverse t) (.cons h .nil)
theorem RpAll.eraseIdx : ∀ {vs : List V} {ds : List D} (n : Nat), RpAll K Z μ H vs ds → RpAll K Z μ H (vs.eraseIdx n) (ds.eraseIdx n)
  | _, _, _, .nil => .nil
  | _, _, 0, .cons _ t => t
  | _, _, n + 1, .cons h t => .cons h (RpAll.eraseIdx n t)
theorem RpAll.of_get : ∀ {vs : List V} {ds : List D}, vs.length = ds.length → (∀ (i : Nat) v d, vs[i]? = some v → ds[i]? = some d → Rp K Z μ H v d) → RpAll K Z μ H vs ds
  | [], [], _, _ => .nil
  | v :: vs, d :: ds, hl, h => .cons (h 0 v d rfl rfl) (RpAll.of_get (by simpa using hl) fun i v' d' e1 e2 => h (i + 1) v' d' (by simpa using e1) (by simpa using e2))
  | [], _ :: _, hl, _ => by simp at hl
  | _ :: _, [], hl, _ => by simp at hl
theorem RpAll.ints : ∀ (ns : List Int), RpAll K Z μ H (ns.map V.int) (ns.map D.int)
  | [] => .nil
  | n :: ns => .cons (.int n) (RpAll.ints ns)
theorem RpAll.ints_inv : ∀ {ns : List Int} {vs : List V}, RpAll K Z μ H vs (ns.map D.int) → vs = ns.map V.int
  | [], _, .nil => rfl
  | n :: ns, _, .cons h t => by
    cases h
    rw [RpAll.ints_inv t]
    rfl
theorem Ob.stp {m : MO} (s : Stp μ μ' H H') (e : H' a = H a) (h : Ob K Z μ H a m) : Ob K Z μ' H' a m := by
  cases h with
  | lst h r => exact .lst (e.trans h) (RpAll.stp s r)
  | dk h k r => exact .dk (e.trans h) k (RpAll.stp s r)
  | dt h n k kr r => exact .dt (e.trans h) n k (RpAll.stp s kr) (RpAll.stp s r)
  | ins h k r => exact .ins (e.trans h) k (RpAll.stp s r)
/-- a new cold object -/
theorem Sim.new {o : HO} (S : Sim K Z μ H) (h : H p = none) : Sim K Z μ (upd H p o) := by
  refine ⟨fun a m e => ?_, fun a z => ?_⟩
  · have ha : a ≠ p := fun q => by
      have := S.free h
      rw [← q, e] at this
      cases this
    exact (S.ob a m e).stp (Stp.new h) (upd_ne ha)
  · have ha : a ≠ p := fun q => (S.z a z).1 (by rw [q]; exact h)
    rw [upd_ne ha]
    exact S.z a z
/-- a new object of the store -/
theorem Sim.newM {o : HO} {m : MO} (S : Sim K Z μ H) (h : H p = none) (hm : Ob K Z (mput μ p m) (upd H p o) p m) : Sim K Z (mput μ p m) (upd H p o) := by
  refine ⟨fun a m' e => ?_, fun a z => ?_⟩
  · by_cases ha : a = p
    · subst ha
      rw [mput_same] at e
      cases e
      exact hm
    · rw [mput_ne ha] at e
      exact (S.ob a m' e).stp (Stp.newM h) (upd_ne ha)
  · have ha : a ≠ p := fun q => (S.z a z).1 (by rw [q]; exact h)
    rw [upd_ne ha, mput_ne ha]
    exact S.z a z
/-- an object of the store is written -/
theorem Sim.write {o : HO} {m m' : MO} (S : Sim K Z μ H) (h : μ p = some m) (hm : Ob K Z (mput μ p m') (upd H p o) p m') : Sim K Z (mput μ p m') (upd H p o) := by
  refine ⟨fun a u e => ?_, fun a z => ?_⟩
  · by_cases ha : a = p
    · subst ha
      rw [mput_same] at e
      cases e
      exact hm
    · rw [mput_ne ha] at e
      exact (S.ob a u e).stp (Stp.write h) (upd_ne ha)
  · have ha : a ≠ p := fun q => by
      have := (S.z a z).2
      rw [q, h] at this
      cases this
    rw [upd_ne ha, mput_ne ha]
    exact S.z a z
/-- objects are let go -/
def Sub (μ' μ : Mu) : Prop := ∀ a m, μ' a = some m → μ a = some m
theorem Sub.refl : Sub μ μ := fun _ _ h => h
theorem Sub.trans (a : Sub μ μ1) (b : Sub μ1 μ2) : Sub μ μ2 := fun c m h => b c m (a c m h)
theorem Sub.gone (s : Sub μ' μ) (h : μ a = none) : μ' a = none := by
  cases e : μ' a with
  | none => rfl
  | some m =>
    rw [s a m e] at h
    cases h
theorem Sub.stp (s : Sub μ' μ) : Stp μ μ' H H := Stp.less fun a h => s.gone h
theorem Sub.put {m : MO} (h : μ p = none) (s : Sub μ μ') : Sub μ (mput μ' p m) := fun a m' e => by
  have ha : a ≠ p := fun q => by rw [q, h] at e; cases e
  rw [mput_ne ha]
  exact s a m' e
theorem Sub.del : Sub (mdel μ p) μ := fun a m e => by
  by_cases ha : a = p
  · subst ha
    rw [mdel_same] at e
    cases e
  · rw [mdel_ne ha] at e
    exact e
theorem Sim.sub (S : Sim K Z μ H) (s : Sub μ' μ) : Sim K Z μ' H :=
  ⟨fun a m e => (S.ob a m (s a m e)).stp s.stp rfl, fun a z => ⟨(S.z a z).1, s.gone (S.z a z).2⟩⟩
end

/-! ### the names -/
abbrev Rho := List (Option D)
structure ER (K : PySem.W.Frag) (Z : Zt) (μ : Mu) (H : Hp) (σ : L2.St) (ρ : Rho) : Prop where
  len : σ.length = ρ.length
  at_ : ∀ (i : Nat) d, ρ[i]? = some (some d) → ∃ v, σ[i]? = some (some v) ∧ Rp K Z μ H v d
section
variable {K : PySem.W.Frag} {Z : Zt} {μ μ' : Mu} {H H' : Hp} {σ : L2.St} {ρ : Rho}
theorem ER.stp (s : Stp μ μ' H H') (e : ER K Z μ H σ ρ) : ER K Z μ' H' σ ρ := ⟨e.len, fun i d h => let ⟨v, h1, h2⟩ := e.at_ i d h; ⟨v, h1, h2.stp s⟩⟩
theorem ER.set {v : V} {d : D} (e : ER K Z μ H σ ρ) (i : Nat) (r : Rp K Z μ H v d) : ER K Z μ H (σ.set i (some v)) (ρ.set i (some d)) := by
  refine ⟨by rw [List.length_set, List.length_set]; exact e.len, fun j d' h => ?_⟩
  by_cases hj : i = j
  · subst hj
    by_cases hi : i < ρ.length
    · rw [List.getElem?_set_self hi] at h
      cases h
      exact ⟨v, List.getElem?_set_self (by rw [e.len]; exact hi), r⟩
    · rw [List.getElem?_eq_none (by rw [List.length_set]; exact Nat.le_of_not_lt hi)] at h
      cases h
  · rw [List.getElem?_set_ne hj] at h
    obtain ⟨w, h1, h2⟩ := e.at_ j d' h
    exact ⟨w, by rw [List.getElem?_set_ne hj]; exact h1, h2⟩
/-- slots forgotten -/
theorem ER.unset (e : ER K Z μ H σ ρ) (i : Nat) : ER K Z μ H (σ.set i none) (ρ.set i none) := by
  refine ⟨by rw [List.length_set, List.length_set]; exact e.len, fun j d' h => ?_⟩
  by_cases hj : i = j
  · subst hj
    by_cases hi : i < ρ.length
    · rw [List.getElem?_set_self hi] at h
      cases h
    · rw [List.getElem?_eq_none (by rw [List.length_set]; exact Nat.le_of_not_lt hi)] at h
      cases h
  · rw [List.getElem?_set_ne hj] at h
    obtain ⟨w, h1, h2⟩ := e.at_ j d' h
    exact ⟨w, by rw [List.getElem?_set_ne hj]; exact h1, h2⟩
def dwipe (ρ : Rho) : List Nat → Rho
  | [] => ρ
  | v :: vs => (dwipe ρ vs).set v none
theorem ER.wipe (e : ER K Z μ H σ ρ) : ∀ vs : List Nat, ER K Z μ H (wipe σ vs) (dwipe ρ vs)
  | [] => e
  | v :: vs => (ER.wipe e vs).unset v
/-- a barred object more -/
theorem Rp.zmono {Z' : Zt} (h : ∀ a o, H a = some o → Cold μ Z a → Cold μ Z' a) : ∀ {v : V} {d : D}, Rp K Z μ H v d → Rp K Z' μ H v d := fun {v d} r => by
  have cold : ∀ {a : Addr} {o : HO}, Rd H a o → Cold μ Z a → Cold μ Z' a := fun {a o} q c => let ⟨u, e⟩ := Rd.some q; h a u e c
  exact Rp.rec (motive_1 := fun v d _ => Rp K Z' μ H v d) (motive_2 := fun vs ds _ => RpAll K Z' μ H vs ds)
    .non .bl .int .str .ty .ref
    (fun {a xs ds} q _ t => .tup ⟨q.1, h _ _ q.1 q.2⟩ t)
    (fun {a xs ds} q c _ t => .lst q (h _ _ q c) t)
    (fun {a xs ds} q _ t => .fz (by rcases q with ⟨q, c⟩ | q; exact .inl ⟨q, cold q c⟩; exact .inr q) t)
    (fun {a od kvs ds} q c e _ t => .dk q (h _ _ q c) e t)
    (fun {a od xs kvs ds} q c n e _ _ tk t => .dt q (h _ _ q c) n e tk t)
    .nil (fun _ _ h t => .cons h t) r
theorem RpAll.zmono {Z' : Zt} (h : ∀ a o, H a = some o → Cold μ Z a → Cold μ Z' a) : ∀ {vs : List V} {ds : List D}, RpAll K Z μ H vs ds → RpAll K Z' μ H vs ds
  | _, _, .nil => .nil
  | _, _, .cons r t => .cons (Rp.zmono h r) (RpAll.zmono h t)
theorem ER.zmono {Z' : Zt} (h : ∀ a o, H a = some o → Cold μ Z a → Cold μ Z' a) (e : ER K Z μ H σ ρ) : ER K Z' μ H σ ρ := ⟨e.len, fun i d q => let ⟨v, h1, h2⟩ := e.at_ i d q; ⟨v, h1, h2.zmono h⟩⟩
theorem Ob.zmono {Z' : Zt} {a : Addr} {m : MO} (h : ∀ a o, H a = some o → Cold μ Z a → Cold μ Z' a) (q : Ob K Z μ H a m) : Ob K Z' μ H a m := by
  cases q with
  | lst q r => exact .lst q (r.zmono h)
  | dk q k r => exact .dk q k (r.zmono h)
  | dt q n k kr r => exact .dt q n k (kr.zmono h) (r.zmono h)
  | ins q k r => exact .ins q k (r.zmono h)
end
section
variable {K : PySem.W.Frag} {Z Z' : Zt} {μ μ' : Mu} {H H' : Hp}
theorem Rp.go (h : ∀ a o, H a = some o → Cold μ Z a → H' a = some o ∧ Cold μ' Z' a) : ∀ {v : V} {d : D}, Rp K Z μ H v d → Rp K Z' μ' H' v d := fun {v d} r => by
  have cold : ∀ {a : Addr} {o : HO}, Rd H a o → Cold μ Z a → Rd H' a o ∧ Cold μ' Z' a := fun {a o} q c => by
    rcases q with q | ⟨u, q⟩
    · exact ⟨.inl (h a _ q c).1, (h a _ q c).2⟩
    · exact ⟨.inr ⟨u, (h a _ q c).1⟩, (h a _ q c).2⟩
  exact Rp.rec (motive_1 := fun v d _ => Rp K Z' μ' H' v d) (motive_2 := fun vs ds _ => RpAll K Z' μ' H' vs ds)
    .non .bl .int .str .ty .ref
    (fun {a xs ds} q _ t => .tup (h _ _ q.1 q.2) t)
    (fun {a xs ds} q c _ t => .lst (h _ _ q c).1 (h _ _ q c).2 t)
    (fun {a xs ds} q _ t => .fz (by rcases q with ⟨q, c⟩ | q; exact .inl (cold q c); exact .inr q) t)
    (fun {a od kvs ds} q c e _ t => .dk (h _ _ q c).1 (h _ _ q c).2 e t)
    (fun {a od xs kvs ds} q c n e _ _ tk t => .dt (h _ _ q c).1 (h _ _ q c).2 n e tk t)
    .nil (fun _ _ h t => .cons h t) r
theorem RpAll.go (h : ∀ a o, H a = some o → Cold μ Z a → H' a = some o ∧ Cold μ' Z' a) : ∀ {vs : List V} {ds : List D}, RpAll K Z μ H vs ds → RpAll K Z' μ' H' vs ds
  | _, _, .nil => .nil
  | _, _, .cons r t => .cons (Rp.go h r) (RpAll.go h t)
/-- what is cold stays as it is -/
abbrev Kp (Z Z' : Zt) (H H' : Hp) (μ μ' : Mu) : Prop := ∀ a o, H a = some o → Cold μ Z a → H' a = some o ∧ Cold μ' Z' a
theorem kp_of (hz : ∀ a o, H a = some o → Cold μ Z a → Cold μ Z' a) (s : Stp μ μ' H H') : Kp Z Z' H H' μ μ' := fun a o e c => ⟨(s a o e c.1).1, (s a o e c.1).2, (hz a o e c).2⟩
end
end DL

namespace DL
open PySem PySem.Spec PyProof.Rows L2

abbrev DQ := D → Mu → Prop
abbrev DT := Rho → Mu → DQ → Prop
abbrev DB := Rho → Mu → (Bool → Mu → Prop) → Prop
abbrev DA := Rho → Mu → (List D → Mu → Prop) → Prop

/-- what follows a value -/
def VE (K : PySem.W.Frag) (Z : Zt) (H : Hp) (μ : Mu) (Qd : DQ) (Q : VK) : Prop := ∀ v d H' μ', Sim K Z μ' H' → Stp μ μ' H H' → Rp K Z μ' H' v d → Qd d μ' → Q v H'
def BE (K : PySem.W.Frag) (Z : Zt) (H : Hp) (μ : Mu) (Qd : Bool → Mu → Prop) (Q : Bool → Hp → Prop) : Prop := ∀ b H' μ', Sim K Z μ' H' → Stp μ μ' H H' → Qd b μ' → Q b H'
def AE (K : PySem.W.Frag) (Z : Zt) (H : Hp) (μ : Mu) (Qd : List D → Mu → Prop) (Q : List V → Hp → Prop) : Prop := ∀ vs ds H' μ', Sim K Z μ' H' → Stp μ μ' H H' → RpAll K Z μ' H' vs ds → Qd ds μ' → Q vs H'

structure DE (X : Cx) (e : Expr) (t : DT) : Prop where
  ex : ∃ te, PE X e te ∧ ∀ Z σ ρ H μ Qd Q, Sim X.K Z μ H → ER X.K Z μ H σ ρ → t ρ μ Qd → VE X.K Z H μ Qd Q → te σ H Q
structure DC (X : Cx) (e : Expr) (t : DB) : Prop where
  ex : ∃ tt, PT X e tt ∧ ∀ Z σ ρ H μ Qd Q, Sim X.K Z μ H → ER X.K Z μ H σ ρ → t ρ μ Qd → BE X.K Z H μ Qd Q → tt σ H Q
structure DW (X : Cx) (e : Expr) (t : DB) : Prop where
  ex : ∃ tt, PW X e tt ∧ ∀ Z σ ρ H μ Qd Q, Sim X.K Z μ H → ER X.K Z μ H σ ρ → t ρ μ Qd → BE X.K Z H μ Qd Q → tt σ H Q
structure DAs (X : Cx) (es : List Expr) (t : DA) : Prop where
  ex : ∃ ta, PA X es ta ∧ ∀ Z σ ρ H μ Qd Q, Sim X.K Z μ H → ER X.K Z μ H σ ρ → t ρ μ Qd → AE X.K Z H μ Qd Q → ta σ H Q

section
variable {K : PySem.W.Frag} {Z : Zt} {μ μ' : Mu} {H H' : Hp} {Qd : DQ} {Q : VK}
theorem VE.same {v : V} {d : D} (h : VE K Z H μ Qd Q) (S : Sim K Z μ H) (r : Rp K Z μ H v d) (q : Qd d μ) : Q v H := h v d H μ S Stp.refl r q
theorem VE.newT {p : Addr} {xs : List V} {ds : List D} (h : VE K Z H μ Qd Q) (S : Sim K Z μ H) (hp : H p = none) (r : RpAll K Z μ H xs ds) (q : Qd (.tup ds) μ) : Q (.ref p) (upd H p (.tup xs)) :=
  h _ _ _ _ (S.new hp) (Stp.new hp) (.tup ⟨upd_same, S.cold hp⟩ (r.stp (Stp.new hp))) q
theorem VE.newL {p : Addr} {xs : List V} {ds : List D} (h : VE K Z H μ Qd Q) (S : Sim K Z μ H) (hp : H p = none) (r : RpAll K Z μ H xs ds) (q : Qd (.lst ds) μ) : Q (.ref p) (upd H p (.lst xs)) :=
  h _ _ _ _ (S.new hp) (Stp.new hp) (.lst upd_same (S.cold hp) (r.stp (Stp.new hp))) q
theorem VE.step (h : VE K Z H μ Qd Q) (s : Stp μ μ' H H') : VE K Z H' μ' Qd Q := fun v d H2 μ2 S s2 r q => h v d H2 μ2 S (s.trans s2) r q
theorem BE.step {Qd : Bool → Mu → Prop} {Q : Bool → Hp → Prop} (h : BE K Z H μ Qd Q) (s : Stp μ μ' H H') : BE K Z H' μ' Qd Q := fun b H2 μ2 S s2 q => h b H2 μ2 S (s.trans s2) q
theorem BE.same {Qd : Bool → Mu → Prop} {Q : Bool → Hp → Prop} {b : Bool} (h : BE K Z H μ Qd Q) (S : Sim K Z μ H) (q : Qd b μ) : Q b H := h b H μ S Stp.refl q
end

/-! ### seeing through an address -/
def see (μ : Mu) : D → D
  | .ref a => match μ a with
    | some (.lst ds) => .lst ds
    | some (.dk ds) => .dk ds
    | some (.dt ds) => .dt ds
    | _ => .ref a
  | .fz ds => .lst ds
  | d => d
/-- without the lists that may only be read -/
def seeP (μ : Mu) : D → D
  | .ref a => match μ a with
    | some (.lst ds) => .lst ds
    | some (.dk ds) => .dk ds
    | some (.dt ds) => .dt ds
    | _ => .ref a
  | d => d
@[simp] theorem see_int {μ : Mu} {i : Int} : see μ (.int i) = .int i := rfl
@[simp] theorem see_bl {μ : Mu} {b : Bool} : see μ (.bl b) = .bl b := rfl
@[simp] theorem see_non {μ : Mu} : see μ .non = .non := rfl
@[simp] theorem see_str {μ : Mu} {x : Str} : see μ (.str x) = .str x := rfl
@[simp] theorem see_tup {μ : Mu} {xs : List D} : see μ (.tup xs) = .tup xs := rfl
@[simp] theorem see_lst {μ : Mu} {xs : List D} : see μ (.lst xs) = .lst xs := rfl
@[simp] theorem see_fz {μ : Mu} {xs : List D} : see μ (.fz xs) = .lst xs := rfl
@[simp] theorem see_dk {μ : Mu} {xs : List (Key × D)} : see μ (.dk xs) = .dk xs := rfl
@[simp] theorem see_dt {μ : Mu} {xs : List (NestedKey × D)} : see μ (.dt xs) = .dt xs := rfl
theorem see_ref {μ : Mu} {a : Addr} {ds : List D} (h : μ a = some (.lst ds)) : see μ (.ref a) = .lst ds := by
  simp only [see, h]
theorem seeP_ref {μ : Mu} {a : Addr} {ds : List D} (h : μ a = some (.lst ds)) : seeP μ (.ref a) = .lst ds := by
  simp only [seeP, h]
@[simp] theorem see_put {μ : Mu} {a : Addr} {ds : List D} : see (mput μ a (.lst ds)) (.ref a) = .lst ds := see_ref mput_same
@[simp] theorem seeP_put {μ : Mu} {a : Addr} {ds : List D} : seeP (mput μ a (.lst ds)) (.ref a) = .lst ds := seeP_ref mput_same
@[simp] theorem seeP_int {μ : Mu} {i : Int} : seeP μ (.int i) = .int i := rfl
@[simp] theorem seeP_str {μ : Mu} {x : Str} : seeP μ (.str x) = .str x := rfl
@[simp] theorem seeP_tup {μ : Mu} {xs : List D} : seeP μ (.tup xs) = .tup xs := rfl
@[simp] theorem seeP_lst {μ : Mu} {xs : List D} : seeP μ (.lst xs) = .lst xs := rfl

section
variable {K : PySem.W.Frag} {Z : Zt} {μ μ' : Mu} {H H' : Hp} {v : V} {d : D}
theorem see_int_inv {i : Int} (r : Rp K Z μ H v d) (e : see μ d = .int i) : v = .int i := by
  cases r with
  | int j => cases e; rfl
  | ref a =>
    unfold see at e
    split at e <;> first | cases e | (split at e <;> cases e)
  | _ => cases e
theorem see_bl_inv {i : Bool} (r : Rp K Z μ H v d) (e : see μ d = .bl i) : v = .bl i := by
  cases r with
  | bl j => cases e; rfl
  | ref a =>
    unfold see at e
    split at e <;> first | cases e | (split at e <;> cases e)
  | _ => cases e
theorem see_str_inv {i : Str} (r : Rp K Z μ H v d) (e : see μ d = .str i) : v = .str i := by
  cases r with
  | str j => cases e; rfl
  | ref a =>
    unfold see at e
    split at e <;> first | cases e | (split at e <;> cases e)
  | _ => cases e
theorem see_non_inv (r : Rp K Z μ H v d) (e : see μ d = .non) : v = .non := by
  cases r with
  | non => rfl
  | ref a =>
    unfold see at e
    split at e <;> first | cases e | (split at e <;> cases e)
  | _ => cases e
theorem see_tup_inv {ds : List D} (r : Rp K Z μ H v d) (e : see μ d = .tup ds) : ∃ a xs, v = .ref a ∧ d = .tup ds ∧ SqT K H a xs ∧ ColdT K Z μ H a xs ∧ RpAll K Z μ H xs ds := by
  cases r with
  | @tup a xs es h t =>
    cases e
    exact ⟨a, xs, rfl, rfl, h.sq, h, t⟩
  | ref a =>
    unfold see at e
    split at e <;> first | cases e | (split at e <;> cases e)
  | _ => cases e
theorem see_lst_inv {ds : List D} (S : Sim K Z μ H) (r : Rp K Z μ H v d) (e : see μ d = .lst ds) : ∃ a xs, v = .ref a ∧ SqL K H a xs ∧ RpAll K Z μ H xs ds := by
  cases r with
  | @lst a xs es h c t =>
    cases e
    exact ⟨a, xs, rfl, SqL.of h, t⟩
  | @fz a xs es h t =>
    cases e
    exact ⟨a, xs, rfl, h.sq, t⟩
  | ref a =>
    cases q : μ a with
    | none =>
      unfold see at e
      simp only [q] at e
      cases e
    | some m =>
      have o := S.ob a m q
      unfold see at e
      simp only [q] at e
      cases o with
      | @lst xs es h t =>
        cases e
        exact ⟨a, xs, rfl, SqL.of h, t⟩
      | _ => cases e
  | _ => cases e
theorem seeP_lst_inv {ds : List D} (S : Sim K Z μ H) (r : Rp K Z μ H v d) (e : seeP μ d = .lst ds) : ∃ a xs, v = .ref a ∧ H a = some (.lst xs) ∧ RpAll K Z μ H xs ds := by
  cases r with
  | @lst a xs es h c t =>
    cases e
    exact ⟨a, xs, rfl, h, t⟩
  | ref a =>
    cases q : μ a with
    | none =>
      unfold seeP at e
      simp only [q] at e
      cases e
    | some m =>
      have o := S.ob a m q
      unfold seeP at e
      simp only [q] at e
      cases o with
      | @lst xs es h t =>
        cases e
        exact ⟨a, xs, rfl, h, t⟩
      | _ => cases e
  | _ => cases e
end

/-! ### names and constants -/
def dVar (i : Nat) : DT := fun ρ μ Q => match ρ[i]? with
  | some (some d) => Q d μ
  | _ => False
/-- a name's list, from now on never changed -/
def dFrz (i : Nat) : DT := fun ρ μ Q => match ρ[i]? with
  | some (some (.ref a)) => ∃ ds, μ a = some (.lst ds) ∧ Q (.lst ds) (mdel μ a)
  | _ => False
def dC (d : D) : DT := fun _ μ Q => Q d μ
section
variable {X : Cx}
theorem dv (i : Nat) {x : Str} {pos : Pos} (hN : X.N[i]? = some x := by rfl) (hv : Vis X.env.scope x := by first | exact Or.inl rfl | exact Or.inr (Or.inl rfl) | exact Or.inr (Or.inr rfl)) (hd : (x == ("__debug__" : Str)) = false := by decide)
    (hcd : (x == ("__classdict__" : Str)) = false := by decide) : DE X (.Name x pos) (dVar i) := by
  refine ⟨tVar i, pe_var hN hv hd hcd, fun Z σ ρ H μ Qd Q S R h q => ?_⟩
  unfold dVar at h
  split at h
  · rename_i d e
    obtain ⟨v, h1, h2⟩ := R.at_ i d e
    exact ⟨v, h1, q.same S h2 h⟩
  · exact h.elim
theorem dvF (i : Nat) {x : Str} {pos : Pos} (hN : X.N[i]? = some x := by rfl) (hv : Vis X.env.scope x := by first | exact Or.inl rfl | exact Or.inr (Or.inl rfl) | exact Or.inr (Or.inr rfl)) (hd : (x == ("__debug__" : Str)) = false := by decide)
    (hcd : (x == ("__classdict__" : Str)) = false := by decide) : DE X (.Name x pos) (dFrz i) := by
  refine ⟨tVar i, pe_var hN hv hd hcd, fun Z σ ρ H μ Qd Q S R h q => ?_⟩
  unfold dFrz at h
  split at h
  · rename_i a e
    obtain ⟨v, h1, h2⟩ := R.at_ i _ e
    obtain ⟨ds, h3, h⟩ := h
    cases h2
    have o := S.ob a _ h3
    cases o with
    | @lst xs es h4 t =>
      have s : Sub (mdel μ a) μ := Sub.del
      exact ⟨.ref a, h1, q _ _ H (mdel μ a) (S.sub s) s.stp (.lst h4 ⟨mdel_same, fun z => by
        have := (S.z a z).2
        rw [h3] at this
        cases this⟩ (t.stp s.stp)) h⟩
  · exact h.elim
theorem d_int {i j pos} : DE X (.Constant (.int i) j pos) (dC (.int i)) := ⟨_, pe_int, fun _ _ _ _ _ _ _ S _ h q => q.same S (.int i) h⟩
theorem d_bl {b j pos} : DE X (.Constant (.bool b) j pos) (dC (.bl b)) := ⟨_, pe_bl, fun _ _ _ _ _ _ _ S _ h q => q.same S (.bl b) h⟩
theorem d_non {j pos} : DE X (.Constant .none j pos) (dC .non) := ⟨_, pe_non, fun _ _ _ _ _ _ _ S _ h q => q.same S .non h⟩
theorem d_str {x j pos} : DE X (.Constant (.str x) j pos) (dC (.str x)) := ⟨_, pe_str, fun _ _ _ _ _ _ _ S _ h q => q.same S (.str x) h⟩
/-- a module's constant (an int, a text ..), by its V -/
theorem d_glob {x : Str} {v : V} {u : Value} {d : D} {pos : Pos} (hg : Gl X x) (hm : X.mg x = some u) (r : RelV v u) (rd : ∀ Z μ H, Rp X.K Z μ H v d) (hd : (x == ("__debug__" : Str)) = false := by decide) : DE X (.Name x pos) (dC d) :=
  ⟨_, pe_glob hg hm r hd, fun _ _ _ _ _ _ _ S _ h q => q.same S (rd _ _ _) h⟩
theorem d_ty {x : Str} {T : String} {pos : Pos} (hg : Gl X x) (hm : X.mg x = none) (hv : bootBuiltins x = some (.type T)) (hn : x ≠ "__name__" := by decide) (hd : (x == ("__debug__" : Str)) = false := by decide) : DE X (.Name x pos) (dC (.ty T)) :=
  ⟨_, pe_bltn (v := .ty T) hg hm hv rfl hn hd, fun _ _ _ _ _ _ _ S _ h q => q.same S (.ty T) h⟩

/-! ### operators by values -/
abbrev O2 := D → D → Mu → DQ → Prop
structure DO (X : Cx) (f : Value → Value → Sem Value) (o : O2) : Prop where
  ex : ∃ r : R2, OpR X f r ∧ ∀ Z H μ x y dx dy Qd Q, Sim X.K Z μ H → Rp X.K Z μ H x dx → Rp X.K Z μ H y dy → o dx dy μ Qd → VE X.K Z H μ Qd Q → r x y H Q
def dOp (o : O2) (ta tb : DT) : DT := fun ρ μ Q => ta ρ μ fun x μ1 => tb ρ μ1 fun y μ2 => o x y μ2 Q
variable {a b e : Expr} {ta tb te : DT} {o : O2} {pos : Pos}
theorem DO.imp {f : Value → Value → Sem Value} {o' : O2} (h : DO X f o) (w : ∀ x y μ Q, o' x y μ Q → o x y μ Q) : DO X f o' :=
  let ⟨r, h1, h2⟩ := h.ex
  ⟨r, h1, fun Z H μ x y dx dy Qd Q S rx ry h q => h2 Z H μ x y dx dy Qd Q S rx ry (w _ _ _ _ h) q⟩
theorem DO.or {f : Value → Value → Sem Value} {o o' : O2} (h : DO X f o) (h' : DO X f o') : DO X f (fun x y μ Q => o x y μ Q ∨ o' x y μ Q) :=
  let ⟨r, h1, h2⟩ := h.ex
  let ⟨r', h1', h2'⟩ := h'.ex
  ⟨_, OpR.or h1 h1', fun Z H μ x y dx dy Qd Q S rx ry h q => h.elim (fun h => .inl (h2 Z H μ x y dx dy Qd Q S rx ry h q)) fun h => .inr (h2' Z H μ x y dx dy Qd Q S rx ry h q)⟩
/-- two parts one behind the other -/
theorem two {ta' tb' : TE} {Z : Zt} {σ : L2.St} {ρ : Rho} {H : Hp} {μ : Mu} {R : D → D → Mu → Prop} {W : V → V → Hp → Prop}
    (h1 : ∀ Z σ ρ H μ Qd Q, Sim X.K Z μ H → ER X.K Z μ H σ ρ → ta ρ μ Qd → VE X.K Z H μ Qd Q → ta' σ H Q) (h2 : ∀ Z σ ρ H μ Qd Q, Sim X.K Z μ H → ER X.K Z μ H σ ρ → tb ρ μ Qd → VE X.K Z H μ Qd Q → tb' σ H Q)
    (S : Sim X.K Z μ H) (E : ER X.K Z μ H σ ρ) (h : ta ρ μ fun x μ1 => tb ρ μ1 fun y μ2 => R x y μ2)
    (w : ∀ v u x y H2 μ2, Sim X.K Z μ2 H2 → Stp μ μ2 H H2 → Rp X.K Z μ2 H2 v x → Rp X.K Z μ2 H2 u y → R x y μ2 → W v u H2) : ta' σ H fun v H1 => tb' σ H1 fun u H2 => W v u H2 := by
  refine h1 Z σ ρ H μ _ _ S E h fun v x H1 μ1 S1 s1 r1 q1 => ?_
  refine h2 Z σ ρ H1 μ1 _ _ S1 (E.stp s1) q1 fun u y H2 μ2 S2 s2 r2 q2 => ?_
  exact w v u x y H2 μ2 S2 (s1.trans s2) (r1.stp s2) r2 q2
theorem d_op {op : Operator} (ho : DO X (binaryOp op) o) (ha : DE X a ta) (hb : DE X b tb) : DE X (.BinOp a op b pos) (dOp o ta tb) := by
  obtain ⟨r, hr, w⟩ := ho.ex
  obtain ⟨ta', pa, ha⟩ := ha.ex
  obtain ⟨tb', pb, hb⟩ := hb.ex
  exact ⟨_, pe_op hr pa pb, fun Z σ ρ H μ Qd Q S R h q => two ha hb S R h fun v u x y H2 μ2 S2 s2 rx ry q2 => w Z H2 μ2 v u x y Qd Q S2 rx ry q2 (q.step s2)⟩
theorem d_cmp {op : CmpOp} (ho : DO X (compareOp op) o) (ha : DE X a ta) (hb : DE X b tb) (hm : behindInMarks op b = false := by first | exact nomark _ (by decide) (by decide) | rfl) : DE X (.Compare a [op] [b] pos) (dOp o ta tb) := by
  obtain ⟨r, hr, w⟩ := ho.ex
  obtain ⟨ta', pa, ha⟩ := ha.ex
  obtain ⟨tb', pb, hb⟩ := hb.ex
  exact ⟨_, pe_cmpR hr pa pb hm, fun Z σ ρ H μ Qd Q S R h q => two ha hb S R h fun v u x y H2 μ2 S2 s2 rx ry q2 => w Z H2 μ2 v u x y Qd Q S2 rx ry q2 (q.step s2)⟩
/-- a value as a test -/
def dT (t : DT) : DB := fun ρ μ Q => t ρ μ fun d μ1 => ∃ b, d = .bl b ∧ Q b μ1
theorem rp_bl {K : PySem.W.Frag} {Z : Zt} {μ : Mu} {H : Hp} {v : V} {b : Bool} (r : Rp K Z μ H v (.bl b)) : v = .bl b := by
  cases r
  rfl
theorem c_cmp {op : CmpOp} (ho : DO X (compareOp op) o) (ha : DE X a ta) (hb : DE X b tb) (hm : behindInMarks op b = false := by first | exact nomark _ (by decide) (by decide) | rfl) : DC X (.Compare a [op] [b] pos) (dT (dOp o ta tb)) := by
  obtain ⟨r, hr, w⟩ := ho.ex
  obtain ⟨ta', pa, ha⟩ := ha.ex
  obtain ⟨tb', pb, hb⟩ := hb.ex
  refine ⟨_, pt_cmpR hr pa pb hm, fun Z σ ρ H μ Qd Q S R h q => two ha hb S R h fun v u x y H2 μ2 S2 s2 rx ry q2 => w Z H2 μ2 v u x y _ _ S2 rx ry q2 fun v d H3 μ3 S3 s3 r3 q3 => ?_⟩
  obtain ⟨b, rfl, q3⟩ := q3
  exact ⟨b, rp_bl r3, q b H3 μ3 S3 (s2.trans s3) q3⟩
def dChain (o o' : O2) (ta tb tc : DT) : DT := fun ρ μ Q => ta ρ μ fun x μ1 => tb ρ μ1 fun y μ2 => o x y μ2 fun z μ3 => ∃ k, z = .bl k ∧ if k = true then tc ρ μ3 fun w μ4 => o' y w μ4 Q else Q (.bl false) μ3
theorem d_chain {op op' : CmpOp} {c : Expr} {tc : DT} {o' : O2} (ho : DO X (compareOp op) o) (ho' : DO X (compareOp op') o') (ha : DE X a ta) (hb : DE X b tb) (hc : DE X c tc)
    (hm : lastMarks [op, op'] [b, c] = false := by with_unfolding_all rfl) : DE X (.Compare a [op, op'] [b, c] pos) (dChain o o' ta tb tc) := by
  obtain ⟨r, hr, w⟩ := ho.ex
  obtain ⟨r', hr', w'⟩ := ho'.ex
  obtain ⟨ta', pa, ha⟩ := ha.ex
  obtain ⟨tb', pb, hb⟩ := hb.ex
  obtain ⟨tc', pc, hc⟩ := hc.ex
  refine ⟨_, pe_chain hr hr' pa pb pc hm, fun Z σ ρ H μ Qd Q S R h q => two ha hb S R h fun v u x y H2 μ2 S2 s2 rx ry q2 => w Z H2 μ2 v u x y _ _ S2 rx ry q2 fun v d H3 μ3 S3 s3 r3 q3 => ?_⟩
  obtain ⟨k, rfl, q3⟩ := q3
  refine ⟨k, rp_bl r3, ?_⟩
  cases k with
  | false => exact q _ _ _ _ S3 (s2.trans s3) (.bl false) q3
  | true =>
    refine hc Z σ ρ H3 μ3 _ _ S3 (R.stp (s2.trans s3)) q3 fun v4 z H4 μ4 S4 s4 r4 q4 => ?_
    exact w' Z H4 μ4 u v4 y z Qd Q S4 (ry.stp (s3.trans s4)) r4 q4 (q.step ((s2.trans s3).trans s4))
/-- a value that is a truth, as a test -/
theorem c_val (h : DE X e te) (he : ∀ whole, isTrue e X.env whole = (do let v ← whole; standAt e.pos; holding [v] (truthy v)) := by intro _; rfl) : DC X e (dT te) := by
  obtain ⟨t, p, h⟩ := h.ex
  refine ⟨_, pt_val p he, fun Z σ ρ H μ Qd Q S R hh q => h Z σ ρ H μ _ _ S R hh fun v d H3 μ3 S3 s3 r3 q3 => ?_⟩
  obtain ⟨b, rfl, q3⟩ := q3
  exact ⟨b, rp_bl r3, q b H3 μ3 S3 s3 q3⟩
theorem c_chain {op op' : CmpOp} {c : Expr} {tc : DT} {o' : O2} (ho : DO X (compareOp op) o) (ho' : DO X (compareOp op') o') (ha : DE X a ta) (hb : DE X b tb) (hc : DE X c tc)
    (hm : lastMarks [op, op'] [b, c] = false := by with_unfolding_all rfl) : DC X (.Compare a [op, op'] [b, c] pos) (dT (dChain o o' ta tb tc)) := by
  obtain ⟨r, hr, w⟩ := ho.ex
  obtain ⟨r', hr', w'⟩ := ho'.ex
  obtain ⟨ta', pa, ha⟩ := ha.ex
  obtain ⟨tb', pb, hb⟩ := hb.ex
  obtain ⟨tc', pc, hc⟩ := hc.ex
  refine ⟨_, pt_chain hr hr' pa pb pc hm, fun Z σ ρ H μ Qd Q S R h q => two ha hb S R h fun v u x y H2 μ2 S2 s2 rx ry q2 => w Z H2 μ2 v u x y _ _ S2 rx ry q2 fun v d H3 μ3 S3 s3 r3 q3 => ?_⟩
  obtain ⟨k, rfl, q3⟩ := q3
  refine ⟨k, rp_bl r3, ?_⟩
  cases k with
  | false =>
    obtain ⟨b, eb, q3⟩ := q3
    cases eb
    exact ⟨false, rfl, q _ _ _ S3 (s2.trans s3) q3⟩
  | true =>
    refine hc Z σ ρ H3 μ3 _ _ S3 (R.stp (s2.trans s3)) q3 fun v4 z H4 μ4 S4 s4 r4 q4 => ?_
    refine w' Z H4 μ4 u v4 y z _ _ S4 (ry.stp (s3.trans s4)) r4 q4 fun v5 d5 H5 μ5 S5 s5 r5 q5 => ?_
    obtain ⟨b, rfl, q5⟩ := q5
    exact ⟨b, rp_bl r5, q b H5 μ5 S5 (((s2.trans s3).trans s4).trans s5) q5⟩
/-- a value's truth -/
def truth (μ : Mu) (d : D) : Option Bool := match see μ d with
  | .non => some false
  | .bl b => some b
  | .int i => some (i != 0)
  | .lst xs => some (!xs.isEmpty)
  | .tup xs => some (!xs.isEmpty)
  | _ => none
def dTru (t : DT) : DB := fun ρ μ Q => t ρ μ fun d μ1 => ∃ b, truth μ1 d = some b ∧ Q b μ1
theorem isEmpty_rp {K : PySem.W.Frag} {Z : Zt} {μ : Mu} {H : Hp} {vs : List V} {ds : List D} (r : RpAll K Z μ H vs ds) : vs.isEmpty = ds.isEmpty := by
  cases r <;> rfl
theorem c_tru (h : DE X e te) (he : ∀ whole, isTrue e X.env whole = (do let v ← whole; standAt e.pos; holding [v] (truthy v)) := by intro _; rfl) : DC X e (dTru te) := by
  obtain ⟨t, p, h⟩ := h.ex
  refine ⟨_, pt_truth p he, fun Z σ ρ H μ Qd Q S R hh q => h Z σ ρ H μ _ _ S R hh fun v d H3 μ3 S3 s3 r3 q3 => ?_⟩
  obtain ⟨b, eb, q3⟩ := q3
  refine ⟨b, ?_, q b H3 μ3 S3 s3 q3⟩
  unfold truth at eb
  split at eb
  · rename_i e1
    cases eb
    rw [see_non_inv r3 e1]
    rfl
  · rename_i x e1
    cases eb
    rw [see_bl_inv r3 e1]
    rfl
  · rename_i x e1
    cases eb
    rw [see_int_inv r3 e1]
    rfl
  · rename_i xs e1
    cases eb
    obtain ⟨a, ys, rfl, hq, t⟩ := see_lst_inv S3 r3 e1
    exact .inl ⟨ys, hq, by rw [isEmpty_rp t]⟩
  · rename_i xs e1
    cases eb
    obtain ⟨a, ys, rfl, _, hq, _, t⟩ := see_tup_inv r3 e1
    exact .inr (.inl ⟨ys, hq, by rw [isEmpty_rp t]⟩)
  · cases eb

/-! ### and, or, not -/
def dAnd (t u : DB) : DB := fun ρ μ Q => t ρ μ fun c μ1 => if c = true then u ρ μ1 Q else Q false μ1
def dOr (t u : DB) : DB := fun ρ μ Q => t ρ μ fun c μ1 => if c = true then Q true μ1 else u ρ μ1 Q
def dNot (t : DB) : DB := fun ρ μ Q => t ρ μ fun c μ1 => Q (!c) μ1
variable {t u : DB} {rest : List Expr}
theorem DW.c (h : DW X e t) : DC X e t := let ⟨tt, p, h⟩ := h.ex; ⟨tt, p.pt, h⟩
theorem w_and1 (h : DC X a t) : DW X (.BoolOp .And [a] pos) t := let ⟨tt, p, h⟩ := h.ex; ⟨tt, pw_and1 p, h⟩
theorem w_or1 (h : DC X a t) : DW X (.BoolOp .Or [a] pos) t := let ⟨tt, p, h⟩ := h.ex; ⟨tt, pw_or1 p, h⟩
theorem w_and (ha : DC X a t) (hb : DW X (.BoolOp .And (b :: rest) pos) u) : DW X (.BoolOp .And (a :: b :: rest) pos) (dAnd t u) := by
  obtain ⟨t1, p1, h1⟩ := ha.ex
  obtain ⟨t2, p2, h2⟩ := hb.ex
  refine ⟨_, pw_and p1 p2, fun Z σ ρ H μ Qd Q S R hh q => h1 Z σ ρ H μ _ _ S R hh fun c H1 μ1 S1 s1 q1 => ?_⟩
  cases c with
  | true => exact h2 Z σ ρ H1 μ1 _ _ S1 (R.stp s1) q1 (q.step s1)
  | false => exact q _ _ _ S1 s1 q1
theorem w_or (ha : DC X a t) (hb : DW X (.BoolOp .Or (b :: rest) pos) u) : DW X (.BoolOp .Or (a :: b :: rest) pos) (dOr t u) := by
  obtain ⟨t1, p1, h1⟩ := ha.ex
  obtain ⟨t2, p2, h2⟩ := hb.ex
  refine ⟨_, pw_or p1 p2, fun Z σ ρ H μ Qd Q S R hh q => h1 Z σ ρ H μ _ _ S R hh fun c H1 μ1 S1 s1 q1 => ?_⟩
  cases c with
  | false => exact h2 Z σ ρ H1 μ1 _ _ S1 (R.stp s1) q1 (q.step s1)
  | true => exact q _ _ _ S1 s1 q1
theorem c_not (ha : DC X a t) : DC X (.UnaryOp .Not a pos) (dNot t) := by
  obtain ⟨t1, p1, h1⟩ := ha.ex
  exact ⟨_, pt_not p1, fun Z σ ρ H μ Qd Q S R hh q => h1 Z σ ρ H μ _ _ S R hh fun c H1 μ1 S1 s1 q1 => q _ _ _ S1 s1 q1⟩
/-- .. as values: all but the last truths -/
def dAndV (ta tb : DT) : DT := fun ρ μ Q => ta ρ μ fun x μ1 => ∃ c, x = .bl c ∧ if c = true then tb ρ μ1 Q else Q (.bl false) μ1
def dOrV (ta tb : DT) : DT := fun ρ μ Q => ta ρ μ fun x μ1 => ∃ c, x = .bl c ∧ if c = true then Q (.bl true) μ1 else tb ρ μ1 Q
def dNotV (ta : DT) : DT := fun ρ μ Q => ta ρ μ fun x μ1 => ∃ c, x = .bl c ∧ Q (.bl (!c)) μ1
theorem d_one {op} (h : DE X a ta) : DE X (.BoolOp op [a] pos) ta := let ⟨t, p, h⟩ := h.ex; ⟨t, pe_one p, h⟩
theorem d_and (ha : DE X a ta) (hb : DE X (.BoolOp .And (b :: rest) pos) tb) : DE X (.BoolOp .And (a :: b :: rest) pos) (dAndV ta tb) := by
  obtain ⟨t1, p1, h1⟩ := ha.ex
  obtain ⟨t2, p2, h2⟩ := hb.ex
  refine ⟨_, pe_and p1 p2, fun Z σ ρ H μ Qd Q S R hh q => h1 Z σ ρ H μ _ _ S R hh fun v x H1 μ1 S1 s1 r1 q1 => ?_⟩
  obtain ⟨c, rfl, q1⟩ := q1
  refine ⟨c, rp_bl r1, ?_⟩
  cases c with
  | true => exact h2 Z σ ρ H1 μ1 _ _ S1 (R.stp s1) q1 (q.step s1)
  | false => exact q _ _ _ _ S1 s1 (.bl false) q1
theorem d_or (ha : DE X a ta) (hb : DE X (.BoolOp .Or (b :: rest) pos) tb) : DE X (.BoolOp .Or (a :: b :: rest) pos) (dOrV ta tb) := by
  obtain ⟨t1, p1, h1⟩ := ha.ex
  obtain ⟨t2, p2, h2⟩ := hb.ex
  refine ⟨_, pe_or p1 p2, fun Z σ ρ H μ Qd Q S R hh q => h1 Z σ ρ H μ _ _ S R hh fun v x H1 μ1 S1 s1 r1 q1 => ?_⟩
  obtain ⟨c, rfl, q1⟩ := q1
  refine ⟨c, rp_bl r1, ?_⟩
  cases c with
  | false => exact h2 Z σ ρ H1 μ1 _ _ S1 (R.stp s1) q1 (q.step s1)
  | true => exact q _ _ _ _ S1 s1 (.bl true) q1
theorem d_not (ha : DC X a t) (ha' : DE X a ta) : DE X (.UnaryOp .Not a pos) (dNotV ta) := by
  obtain ⟨t1, p1, h1⟩ := ha'.ex
  refine ⟨_, pe_not p1, fun Z σ ρ H μ Qd Q S R hh q => h1 Z σ ρ H μ _ _ S R hh fun v x H1 μ1 S1 s1 r1 q1 => ?_⟩
  obtain ⟨c, rfl, q1⟩ := q1
  exact ⟨c, rp_bl r1, q _ _ _ _ S1 s1 (.bl _) q1⟩
def dIf (t : DB) (ta tb : DT) : DT := fun ρ μ Q => t ρ μ fun c μ1 => if c = true then ta ρ μ1 Q else tb ρ μ1 Q
theorem d_if {c : Expr} (hc : DC X c t) (ha : DE X a ta) (hb : DE X b tb) : DE X (.IfExp c a b pos) (dIf t ta tb) := by
  obtain ⟨t0, p0, h0⟩ := hc.ex
  obtain ⟨t1, p1, h1⟩ := ha.ex
  obtain ⟨t2, p2, h2⟩ := hb.ex
  refine ⟨_, pe_ifExp p0 p1 p2, fun Z σ ρ H μ Qd Q S R hh q => h0 Z σ ρ H μ _ _ S R hh fun c H1 μ1 S1 s1 q1 => ?_⟩
  cases c with
  | true => exact h1 Z σ ρ H1 μ1 _ _ S1 (R.stp s1) q1 (q.step s1)
  | false => exact h2 Z σ ρ H1 μ1 _ _ S1 (R.stp s1) q1 (q.step s1)

/-! ### argument lists, displays -/
def dNil : DA := fun _ μ Q => Q [] μ
def dCons (ta : DT) (tr : DA) : DA := fun ρ μ Q => ta ρ μ fun x μ1 => tr ρ μ1 fun xs μ2 => Q (x :: xs) μ2
variable {es : List Expr} {tr : DA}
theorem a_nil : DAs X [] dNil := ⟨_, pa_nil, fun _ _ _ _ _ _ _ S _ h q => q _ _ _ _ S Stp.refl .nil h⟩
theorem a_cons (ha : DE X e ta) (hr : DAs X es tr) (hs : starEach (e :: es) X.env = (false, eval e X.env) :: starEach es X.env := by rfl) : DAs X (e :: es) (dCons ta tr) := by
  obtain ⟨t1, p1, h1⟩ := ha.ex
  obtain ⟨t2, p2, h2⟩ := hr.ex
  refine ⟨_, pa_cons p1 p2 hs, fun Z σ ρ H μ Qd Q S R hh q => h1 Z σ ρ H μ _ _ S R hh fun v x H1 μ1 S1 s1 r1 q1 => ?_⟩
  refine h2 Z σ ρ H1 μ1 _ _ S1 (R.stp s1) q1 fun vs xs H2 μ2 S2 s2 r2 q2 => ?_
  exact q _ _ _ _ S2 (s1.trans s2) (.cons (r1.stp s2) r2) q2
def dTup (t : DA) : DT := fun ρ μ Q => t ρ μ fun xs μ1 => xs.length ≤ sizeLine ∧ Q (.tup xs) μ1
def dLst (t : DA) : DT := fun ρ μ Q => t ρ μ fun xs μ1 => xs.length ≤ sizeLine ∧ Q (.lst xs) μ1
/-- a list that will change -/
def dLstM (t : DA) : DT := fun ρ μ Q => t ρ μ fun xs μ1 => xs.length ≤ sizeLine ∧ ∀ p, μ1 p = none → Q (.ref p) (mput μ1 p (.lst xs))
theorem d_tup {k} (h : DAs X es tr) : DE X (.Tuple es k pos) (dTup tr) := by
  obtain ⟨t1, p1, h1⟩ := h.ex
  refine ⟨_, pe_tup p1, fun Z σ ρ H μ Qd Q S R hh q => h1 Z σ ρ H μ _ _ S R hh fun vs xs H1 μ1 S1 s1 r1 q1 => ?_⟩
  exact ⟨by rw [r1.length]; exact q1.1, fun p hp => (q.step s1).newT S1 hp r1 q1.2⟩
theorem d_lst (h : DAs X es tr) : DE X (.List es pos) (dLst tr) := by
  obtain ⟨t1, p1, h1⟩ := h.ex
  refine ⟨_, pe_lst p1, fun Z σ ρ H μ Qd Q S R hh q => h1 Z σ ρ H μ _ _ S R hh fun vs xs H1 μ1 S1 s1 r1 q1 => ?_⟩
  exact ⟨by rw [r1.length]; exact q1.1, fun p hp => (q.step s1).newL S1 hp r1 q1.2⟩
theorem VE.newM {K : PySem.W.Frag} {Z : Zt} {μ : Mu} {H : Hp} {Qd : DQ} {Q : VK} {p : Addr} {xs : List V} {ds : List D} (h : VE K Z H μ Qd Q) (S : Sim K Z μ H) (hp : H p = none) (r : RpAll K Z μ H xs ds) (q : Qd (.ref p) (mput μ p (.lst ds))) : Q (.ref p) (upd H p (.lst xs)) :=
  h _ _ _ _ (S.newM hp (.lst upd_same (r.stp (Stp.newM hp)))) (Stp.newM hp) (.ref p) q
theorem d_lstM (h : DAs X es tr) : DE X (.List es pos) (dLstM tr) := by
  obtain ⟨t1, p1, h1⟩ := h.ex
  refine ⟨_, pe_lst p1, fun Z σ ρ H μ Qd Q S R hh q => h1 Z σ ρ H μ _ _ S R hh fun vs xs H1 μ1 S1 s1 r1 q1 => ?_⟩
  exact ⟨by rw [r1.length]; exact q1.1, fun p hp => (q.step s1).newM S1 hp r1 (q1.2 p (S1.free hp))⟩
end
end DL

namespace DL
open PySem PySem.Spec PyProof.Rows L2

/-! ### data that compare -/
mutual
def plD : Nat → D → Bool
  | _, .non => true
  | _, .bl _ => true
  | _, .int _ => true
  | _, .str x => PyData.strOk x
  | n + 1, .tup xs => plDs n xs
  | n + 1, .lst xs => plDs n xs
  | n + 1, .fz xs => plDs n xs
  | _, _ => false
def plDs : Nat → List D → Bool
  | _, [] => true
  | n, x :: xs => plD n x && plDs n xs
end
mutual
def toPy : D → PyData
  | .non => .none
  | .bl b => .bool b
  | .int i => .int i
  | .str x => .str x
  | .tup xs => .tuple (toPys xs)
  | .lst xs => .list (toPys xs)
  | .fz xs => .list (toPys xs)
  | _ => .none
def toPys : List D → List PyData
  | [] => []
  | x :: xs => toPy x :: toPys xs
end
theorem toPys_map : ∀ xs : List D, toPys xs = xs.map toPy
  | [] => rfl
  | x :: xs => by rw [toPys, toPys_map xs]; rfl
mutual
theorem pl_depth : ∀ (n : Nat) (d : D), plD n d = true → (toPy d).depth ≤ n ∧ (toPy d).canLay0 = true
  | _, .non, _ => by simp [toPy, PyData.depth, PyData.canLay0]
  | _, .bl _, _ => by simp [toPy, PyData.depth, PyData.canLay0]
  | _, .int _, _ => by simp [toPy, PyData.depth, PyData.canLay0]
  | _, .str x, h => by
    have h : PyData.strOk x = true := by simpa [plD] using h
    simp [toPy, PyData.depth, PyData.canLay0, h]
  | n + 1, .tup xs, h => by
    obtain ⟨h1, h2⟩ := pl_depths n xs (by simpa [plD] using h)
    simp only [toPy, PyData.depth, PyData.canLay0]
    exact ⟨by omega, h2⟩
  | n + 1, .lst xs, h => by
    obtain ⟨h1, h2⟩ := pl_depths n xs (by simpa [plD] using h)
    simp only [toPy, PyData.depth, PyData.canLay0]
    exact ⟨by omega, h2⟩
  | n + 1, .fz xs, h => by
    obtain ⟨h1, h2⟩ := pl_depths n xs (by simpa [plD] using h)
    simp only [toPy, PyData.depth, PyData.canLay0]
    exact ⟨by omega, h2⟩
  | 0, .tup xs, h => by simp [plD] at h
  | 0, .lst xs, h => by simp [plD] at h
  | 0, .fz xs, h => by simp [plD] at h
  | 0, .ref _, h => by simp [plD] at h
  | _ + 1, .ref _, h => by simp [plD] at h
  | 0, .ty _, h => by simp [plD] at h
  | _ + 1, .ty _, h => by simp [plD] at h
  | 0, .dk _, h => by simp [plD] at h
  | _ + 1, .dk _, h => by simp [plD] at h
  | 0, .dt _, h => by simp [plD] at h
  | _ + 1, .dt _, h => by simp [plD] at h
theorem pl_depths : ∀ (n : Nat) (ds : List D), plDs n ds = true → PyData.depthAll (toPys ds) ≤ n ∧ PyData.canLayAll0 (toPys ds) = true
  | _, [], _ => by simp [toPys, PyData.depthAll, PyData.canLayAll0]
  | n, x :: xs, h => by
    simp only [plDs, Bool.and_eq_true] at h
    obtain ⟨h1, h2⟩ := pl_depth n x h.1
    obtain ⟨h3, h4⟩ := pl_depths n xs h.2
    simp only [toPys, PyData.depthAll, PyData.canLayAll0, Bool.and_eq_true]
    exact ⟨by omega, h2, h4⟩
end
theorem pl_shaped {n : Nat} {d : D} (h : plD n d = true) (hn : n ≤ 64) : SeqAt.shaped (toPy d) = true := by
  obtain ⟨h1, h2⟩ := pl_depth n d h
  show ((toPy d).canLay0 && decide ((toPy d).depth ≤ 64)) = true
  rw [Bool.and_eq_true]
  exact ⟨h2, decide_eq_true (by omega)⟩
section
variable {K : PySem.W.Frag} {Z : Zt} {μ : Mu} {H : Hp}
mutual
theorem rp_dp : ∀ (n : Nat) (d : D) (v : V), Rp K Z μ H v d → plD n d = true → Dp K H v (toPy d)
  | _, .non, _, .non, _ => by rw [toPy]; exact .non
  | _, .bl b, _, .bl _, _ => by rw [toPy]; exact .bl b
  | _, .int i, _, .int _, _ => by rw [toPy]; exact .int i
  | _, .str x, _, .str _, _ => by rw [toPy]; exact .str x
  | n + 1, .tup ds, _, .tup h t, e => by rw [toPy]; exact .tup h.sq (rp_dps n ds _ t (by simpa [plD] using e))
  | n + 1, .lst ds, _, .lst h c t, e => by rw [toPy]; exact .lst (SqL.of h) (rp_dps n ds _ t (by simpa [plD] using e))
  | n + 1, .fz ds, _, .fz h t, e => by rw [toPy]; exact .lst h.sq (rp_dps n ds _ t (by simpa [plD] using e))
  | 0, .tup xs, _, _, h => by simp [plD] at h
  | 0, .lst xs, _, _, h => by simp [plD] at h
  | 0, .fz xs, _, _, h => by simp [plD] at h
  | 0, .ref _, _, _, h => by simp [plD] at h
  | _ + 1, .ref _, _, _, h => by simp [plD] at h
  | 0, .ty _, _, _, h => by simp [plD] at h
  | _ + 1, .ty _, _, _, h => by simp [plD] at h
  | 0, .dk _, _, _, h => by simp [plD] at h
  | _ + 1, .dk _, _, _, h => by simp [plD] at h
  | 0, .dt _, _, _, h => by simp [plD] at h
  | _ + 1, .dt _, _, _, h => by simp [plD] at h
theorem rp_dps : ∀ (n : Nat) (ds : List D) (vs : List V), RpAll K Z μ H vs ds → plDs n ds = true → DpAll K H vs (toPys ds)
  | _, [], _, .nil, _ => by rw [toPys]; exact .nil
  | n, d :: ds, _, .cons h t, e => by
    simp only [plDs, Bool.and_eq_true] at e
    rw [toPys]
    exact .cons (rp_dp n d _ h e.1) (rp_dps n ds _ t e.2)
end
/-- through an address -/
theorem see_dp {n : Nat} {d : D} {v : V} (S : Sim K Z μ H) (r : Rp K Z μ H v d) (h : plD n (see μ d) = true) : Dp K H v (toPy (see μ d)) := by
  cases e : see μ d with
  | non => rw [see_non_inv r e, toPy]; exact .non
  | bl b => rw [see_bl_inv r e, toPy]; exact .bl b
  | int i => rw [see_int_inv r e, toPy]; exact .int i
  | str x => rw [see_str_inv r e, toPy]; exact .str x
  | tup ds =>
    obtain ⟨a, xs, rfl, _, hq, _, t⟩ := see_tup_inv r e
    rw [e] at h
    rw [toPy]
    cases n with
    | zero => simp [plD] at h
    | succ n => exact .tup hq (rp_dps n ds _ t (by simpa [plD] using h))
  | lst ds =>
    obtain ⟨a, xs, rfl, hq, t⟩ := see_lst_inv S r e
    rw [e] at h
    rw [toPy]
    cases n with
    | zero => simp [plD] at h
    | succ n => exact .lst hq (rp_dps n ds _ t (by simpa [plD] using h))
  | fz ds =>
    exfalso
    unfold see at e
    split at e
    · split at e <;> cases e
    · cases e
    · rename_i h1 h2
      subst e
      exact h2 ds rfl
  | ref a =>
    rw [e] at h
    cases n <;> simp [plD] at h
  | ty a =>
    rw [e] at h
    cases n <;> simp [plD] at h
  | dk a =>
    rw [e] at h
    cases n <;> simp [plD] at h
  | dt a =>
    rw [e] at h
    cases n <;> simp [plD] at h
end
/-- == of data -/
def eqD (x y : D) : Bool := PyData.eqv (toPy x) (toPy y)
/-- it can be compared -/
def Pl (d : D) : Prop := plD 60 d = true
def dEq : O2 := fun x y μ Q => Pl (see μ x) ∧ Pl (see μ y) ∧ Q (.bl (eqD (see μ x) (see μ y))) μ
def dNe : O2 := fun x y μ Q => Pl (see μ x) ∧ Pl (see μ y) ∧ Q (.bl (!eqD (see μ x) (see μ y))) μ

section
variable {X : Cx}
theorem o_eq (hu : X.A.units + 64 < cLine) : DO X (compareOp .Eq) dEq := by
  refine ⟨_, op_eqD hu, fun Z H μ x y dx dy Qd Q S rx ry h q => ?_⟩
  obtain ⟨h1, h2, h3⟩ := h
  exact ⟨_, _, see_dp S rx h1, see_dp S ry h2, pl_shaped h1 (by decide), pl_shaped h2 (by decide), q.same S (.bl _) h3⟩
theorem o_ne (hu : X.A.units + 64 < cLine) : DO X (compareOp .NotEq) dNe := by
  refine ⟨_, op_neD hu, fun Z H μ x y dx dy Qd Q S rx ry h q => ?_⟩
  obtain ⟨h1, h2, h3⟩ := h
  exact ⟨_, _, see_dp S rx h1, see_dp S ry h2, pl_shaped h1 (by decide), pl_shaped h2 (by decide), q.same S (.bl _) h3⟩

/-! ### ints -/
def dI2 (C : Int → Int → Prop) (g : Int → Int → D) : O2 := fun x y μ Q => ∃ i j, x = .int i ∧ y = .int j ∧ C i j ∧ Q (g i j) μ
theorem o_int {f : Value → Value → Sem Value} {C C' : Int → Int → Prop} {g : Int → Int → V} {gd : Int → Int → D} (h : OpR X f (rI C g)) (hc : ∀ i j, C' i j → C i j) (hg : ∀ Z μ H i j, Rp X.K Z μ H (g i j) (gd i j)) : DO X f (dI2 C' gd) := by
  refine ⟨_, h, fun Z H μ x y dx dy Qd Q S rx ry h q => ?_⟩
  obtain ⟨i, j, rfl, rfl, c, h⟩ := h
  cases rx
  cases ry
  exact ⟨i, j, rfl, rfl, hc i j c, q.same S (hg _ _ _ i j) h⟩
theorem o_int0 {f : Value → Value → Sem Value} {g : Int → Int → V} {gd : Int → Int → D} (h : OpR X f (rI0 g)) (hg : ∀ Z μ H i j, Rp X.K Z μ H (g i j) (gd i j)) : DO X f (dI2 (fun _ _ => True) gd) := by
  refine ⟨_, h, fun Z H μ x y dx dy Qd Q S rx ry h q => ?_⟩
  obtain ⟨i, j, rfl, rfl, c, h⟩ := h
  cases rx
  cases ry
  exact ⟨i, j, rfl, rfl, q.same S (hg _ _ _ i j) h⟩
theorem o_sub : DO X (binaryOp .Sub) (dI2 (fun _ _ => True) fun i j => .int (i - j)) := o_int0 op_sub fun _ _ _ _ _ => .int _
theorem o_isub : DO X (inplaceOp .Sub) (dI2 (fun _ _ => True) fun i j => .int (i - j)) := o_int0 iop_sub fun _ _ _ _ _ => .int _
/-- sizes together below a million bits -/
def MulOk (i j : Int) : Prop := i.natAbs.log2 + j.natAbs.log2 < 1000000
theorem o_mulI : DO X (binaryOp .Mult) (dI2 MulOk fun i j => .int (i * j)) := o_int op_mulW (fun _ _ h => h) fun _ _ _ _ _ => .int _
/-- // and %: a positive divisor -/
def DivOk (_ j : Int) : Prop := 0 < j ∧ j.natAbs.log2 < 9000
theorem o_fdiv : DO X (binaryOp .FloorDiv) (dI2 DivOk fun i j => .int (i / j)) := o_int op_fdivW (fun _ _ h => h) fun _ _ _ _ _ => .int _
theorem o_mod : DO X (binaryOp .Mod) (dI2 (fun _ j => 0 < j) fun i j => .int (i % j)) := o_int op_mod (fun _ _ h => h) fun _ _ _ _ _ => .int _
def PowOk (i j : Int) : Prop := 0 ≤ j ∧ (Builtin.Int.intBits i : Int) * j ≤ 2 ^ 27
theorem op_powW : OpR X (binaryOp .Pow) (rI PowOk fun i j => .int (i ^ j.toNat)) := opI fun _ _ _ _ _ _ _ hc q => pow_int hc.1 hc.2 q
theorem o_pow : DO X (binaryOp .Pow) (dI2 PowOk fun i j => .int (i ^ j.toNat)) := o_int op_powW (fun _ _ h => h) fun _ _ _ _ _ => .int _
theorem o_lt : DO X (compareOp .Lt) (dI2 (fun _ _ => True) fun i j => .bl (decide (i < j))) := o_int0 op_lt fun _ _ _ _ _ => .bl _
theorem o_le : DO X (compareOp .LtE) (dI2 (fun _ _ => True) fun i j => .bl (decide (i ≤ j))) := o_int0 op_le fun _ _ _ _ _ => .bl _
theorem o_gt : DO X (compareOp .Gt) (dI2 (fun _ _ => True) fun i j => .bl (decide (j < i))) := o_int0 op_gt fun _ _ _ _ _ => .bl _
theorem o_ge : DO X (compareOp .GtE) (dI2 (fun _ _ => True) fun i j => .bl (decide (j ≤ i))) := o_int0 op_ge fun _ _ _ _ _ => .bl _
/-- is None -/
def isNone : D → Bool
  | .non => true
  | _ => false
def dIs : O2 := fun x y μ Q => y = .non ∧ Q (.bl (isNone x)) μ
def dIsN : O2 := fun x y μ Q => y = .non ∧ Q (.bl (!isNone x)) μ
theorem isNone_rp {K : PySem.W.Frag} {Z : Zt} {μ : Mu} {H : Hp} {v : V} {d : D} (r : Rp K Z μ H v d) : decide (v = .non) = isNone d := by
  cases r <;> rfl
theorem o_is : DO X (compareOp .Is) dIs := by
  refine ⟨_, op_isN, fun Z H μ x y dx dy Qd Q S rx ry h q => ?_⟩
  obtain ⟨rfl, h⟩ := h
  cases ry
  exact ⟨rfl, by rw [isNone_rp rx]; exact q.same S (.bl _) h⟩
theorem o_isN : DO X (compareOp .IsNot) dIsN := by
  refine ⟨_, op_notN, fun Z H μ x y dx dy Qd Q S rx ry h q => ?_⟩
  obtain ⟨rfl, h⟩ := h
  cases ry
  exact ⟨rfl, by rw [isNone_rp rx]; exact q.same S (.bl _) h⟩

/-! ### + of ints, texts, tuples, lists -/
def dAdd : O2 := fun x y μ Q =>
  (∃ i j, x = .int i ∧ y = .int j ∧ Q (.int (i + j)) μ) ∨ (∃ a b, x = .str a ∧ y = .str b ∧ a.length + b.length ≤ sizeLine ∧ Q (.str (a ++ b)) μ) ∨
  (∃ xs ys, x = .tup xs ∧ y = .tup ys ∧ xs.length + ys.length ≤ sizeLine ∧ Q (.tup (xs ++ ys)) μ) ∨
  ∃ xs ys, seeP μ x = .lst xs ∧ seeP μ y = .lst ys ∧ xs.length + ys.length ≤ sizeLine ∧ Q (.lst (xs ++ ys)) μ
theorem o_addI : DO X (binaryOp .Add) (dI2 (fun _ _ => True) fun i j => .int (i + j)) := o_int0 op_add fun _ _ _ _ _ => .int _
theorem o_add : DO X (binaryOp .Add) dAdd := by
  refine ⟨_, OpR.or op_add (OpR.or op_add_str (OpR.or op_catA op_cat)), fun Z H μ x y dx dy Qd Q S rx ry h q => ?_⟩
  rcases h with ⟨i, j, rfl, rfl, h⟩ | ⟨a, b, rfl, rfl, hl, h⟩ | ⟨xs, ys, rfl, rfl, hl, h⟩ | ⟨xs, ys, e1, e2, hl, h⟩
  · cases rx
    cases ry
    exact .inl ⟨i, j, rfl, rfl, q.same S (.int _) h⟩
  · cases rx
    cases ry
    exact .inr (.inl ⟨a, b, rfl, rfl, hl, q.same S (.str _) h⟩)
  · obtain ⟨a, us, rfl, _, hq, hc, t⟩ := see_tup_inv (μ := μ) rx rfl
    obtain ⟨b, ws, rfl, _, hq', hc', t'⟩ := see_tup_inv (μ := μ) ry rfl
    refine .inr (.inr (.inl ⟨a, b, us, ws, rfl, rfl, hq, hq', by rw [t.length, t'.length]; exact hl, fun e => ?_, fun _ e => ?_, fun _ _ p hp => q.newT S hp (t.append t') h⟩))
    · subst e
      have e0 : xs = [] := by cases t; rfl
      subst e0
      exact q.same S ry h
    · subst e
      have e0 : ys = [] := by cases t'; rfl
      subst e0
      rw [List.append_nil] at h
      exact q.same S rx h
  · obtain ⟨a, us, rfl, hq, t⟩ := seeP_lst_inv S rx e1
    obtain ⟨b, ws, rfl, hq', t'⟩ := seeP_lst_inv S ry e2
    exact .inr (.inr (.inr ⟨a, b, us, ws, rfl, rfl, hq, hq', by rw [t.length, t'.length]; exact hl, fun p hp => q.newL S hp (t.append t') h⟩))

/-! ### * of ints, of a list and an int -/
def dMul : O2 := fun x y μ Q =>
  (∃ i j, x = .int i ∧ y = .int j ∧ MulOk i j ∧ Q (.int (i * j)) μ) ∨
  ∃ xs k, seeP μ x = .lst xs ∧ y = .int k ∧ -(2 ^ 63) ≤ k ∧ k < 2 ^ 63 ∧ xs.length * k.toNat ≤ sizeLine ∧ Q (.lst (List.replicate k.toNat xs).flatten) μ
theorem rp_repl {K : PySem.W.Frag} {Z : Zt} {μ : Mu} {H : Hp} {vs : List V} {ds : List D} (r : RpAll K Z μ H vs ds) : ∀ n : Nat, RpAll K Z μ H (List.replicate n vs).flatten (List.replicate n ds).flatten
  | 0 => .nil
  | n + 1 => by
    rw [List.replicate_succ, List.replicate_succ, List.flatten_cons, List.flatten_cons]
    exact r.append (rp_repl r n)
theorem o_mul : DO X (binaryOp .Mult) dMul := by
  refine ⟨_, OpR.or op_mulW op_rep, fun Z H μ x y dx dy Qd Q S rx ry h q => ?_⟩
  rcases h with ⟨i, j, rfl, rfl, hl, h⟩ | ⟨xs, k, e1, rfl, h1, h2, hl, h⟩
  · cases rx
    cases ry
    exact .inl ⟨i, j, rfl, rfl, hl, q.same S (.int _) h⟩
  · cases ry
    obtain ⟨a, us, rfl, hq, t⟩ := seeP_lst_inv S rx e1
    exact .inr ⟨a, k, us, rfl, rfl, hq, h1, h2, by rw [t.length]; exact hl, fun p hp => q.newL S hp (rp_repl t _) h⟩

/-! ### < of tuples of ints -/
theorem lt_tup (hu : X.A.units < cLine) : DO X (compareOp .Lt) (fun x y μ Q => ∃ ns ms : List Int, x = .tup (ns.map D.int) ∧ y = .tup (ms.map D.int) ∧ Q (.bl (HT.lexLt ns ms)) μ) := by
  refine ⟨_, op_ltT hu, fun Z H μ x y dx dy Qd Q S rx ry h q => ?_⟩
  obtain ⟨ns, ms, rfl, rfl, h⟩ := h
  obtain ⟨a, us, rfl, _, hq, hc, t⟩ := see_tup_inv (μ := μ) rx rfl
  obtain ⟨b, ws, rfl, _, hq', hc', t'⟩ := see_tup_inv (μ := μ) ry rfl
  have e1 := RpAll.ints_inv t
  have e2 := RpAll.ints_inv t'
  subst e1 e2
  exact ⟨a, b, ns, ms, rfl, rfl, hq, hq', q.same S (.bl _) h⟩

/-! ### in, not in -/
def flatD : D → Bool
  | .non | .bl _ | .int _ | .str _ => true
  | _ => false
def inD (x : D) (ys : List D) : Bool := ys.any fun y => eqD y x
theorem flat_rp {K : PySem.W.Frag} {Z : Zt} {μ : Mu} {H : Hp} {v : V} {d : D} (r : Rp K Z μ H v d) (h : flatD d = true) : flatV v = true := by
  cases r <;> first | rfl | cases h
theorem flat_rps {K : PySem.W.Frag} {Z : Zt} {μ : Mu} {H : Hp} : ∀ {vs : List V} {ds : List D}, RpAll K Z μ H vs ds → ds.all flatD = true → vs.all flatV = true
  | _, _, .nil, _ => rfl
  | _, _, .cons r t, h => by
    rw [List.all_cons, Bool.and_eq_true] at h
    rw [List.all_cons, flat_rp r h.1, flat_rps t h.2]
    rfl
theorem flat_eq {K : PySem.W.Frag} {Z : Zt} {μ : Mu} {H : Hp} {v u : V} {d e : D} (r : Rp K Z μ H v d) (q : Rp K Z μ H u e) (h : flatD d = true) (h' : flatD e = true) : eqV v u = eqD d e := by
  cases r <;> cases q <;> first
    | (cases h; done)
    | (cases h'; done)
    | rfl
    | (simp only [eqV, eqD, toPy, PyData.eqv]; done)
    | (simp only [eqV, eqD, toPy, PyData.eqv]; rfl)
theorem in_rp {K : PySem.W.Frag} {Z : Zt} {μ : Mu} {H : Hp} {v : V} {d : D} (r : Rp K Z μ H v d) (h : flatD d = true) : ∀ {vs : List V} {ds : List D}, RpAll K Z μ H vs ds → ds.all flatD = true → inV v vs = inD d ds
  | _, _, .nil, _ => rfl
  | _, _, .cons q t, e => by
    rw [List.all_cons, Bool.and_eq_true] at e
    have h1 := in_rp r h t e.2
    unfold inV inD at h1 ⊢
    rw [List.any_cons, List.any_cons, h1, flat_eq q r e.1 h]
def dIn (neg : Bool) : O2 := fun x y μ Q => flatD x = true ∧ ∃ ys, (see μ y = .lst ys ∨ see μ y = .tup ys) ∧ ys.all flatD = true ∧ Q (.bl (if neg then !inD x ys else inD x ys)) μ
theorem o_in : DO X (compareOp .In) (dIn false) := by
  refine ⟨_, op_in_seq, fun Z H μ x y dx dy Qd Q S rx ry h q => ?_⟩
  obtain ⟨fx, ys, e, fy, h⟩ := h
  rcases e with e | e
  · obtain ⟨a, us, rfl, hq, t⟩ := see_lst_inv S ry e
    exact ⟨a, us, rfl, .inl hq, flat_rp rx fx, flat_rps t fy, by rw [in_rp rx fx t fy]; exact q.same S (.bl _) h⟩
  · obtain ⟨a, us, rfl, _, hq, _, t⟩ := see_tup_inv ry e
    exact ⟨a, us, rfl, .inr hq, flat_rp rx fx, flat_rps t fy, by rw [in_rp rx fx t fy]; exact q.same S (.bl _) h⟩
theorem o_notin : DO X (compareOp .NotIn) (dIn true) := by
  refine ⟨_, op_notIn_seq, fun Z H μ x y dx dy Qd Q S rx ry h q => ?_⟩
  obtain ⟨fx, ys, e, fy, h⟩ := h
  rcases e with e | e
  · obtain ⟨a, us, rfl, hq, t⟩ := see_lst_inv S ry e
    exact ⟨a, us, rfl, .inl hq, flat_rp rx fx, flat_rps t fy, by rw [in_rp rx fx t fy]; exact q.same S (.bl _) h⟩
  · obtain ⟨a, us, rfl, _, hq, _, t⟩ := see_tup_inv ry e
    exact ⟨a, us, rfl, .inr hq, flat_rp rx fx, flat_rps t fy, by rw [in_rp rx fx t fy]; exact q.same S (.bl _) h⟩

/-! ### an item, a slice -/
structure DIx (X : Cx) (o : O2) : Prop where
  ex : ∃ r : R2, IxR X r ∧ ∀ Z H μ x y dx dy Qd Q, Sim X.K Z μ H → Rp X.K Z μ H x dx → Rp X.K Z μ H y dy → o dx dy μ Qd → VE X.K Z H μ Qd Q → r x y H Q
/-- the place of an index -/
def atD (xs : List D) (i : Int) : Option D := (ixN xs.length i).bind fun j => xs[j]?
def dIx : O2 := fun x y μ Q => ∃ xs i d, (see μ x = .lst xs ∨ see μ x = .tup xs) ∧ y = .int i ∧ atD xs i = some d ∧ Q d μ
theorem at_rp {K : PySem.W.Frag} {Z : Zt} {μ : Mu} {H : Hp} {vs : List V} {ds : List D} {i : Int} {d : D} (r : RpAll K Z μ H vs ds) (h : atD ds i = some d) : ∃ v, atI vs i = some v ∧ Rp K Z μ H v d := by
  unfold atD at h
  unfold atI
  rw [r.length]
  cases e : ixN ds.length i with
  | none =>
    rw [e] at h
    cases h
  | some j =>
    rw [e] at h
    exact r.get h
theorem x_seq : DIx X dIx := by
  refine ⟨_, IxR.or ix_list ix_tup, fun Z H μ x y dx dy Qd Q S rx ry h q => ?_⟩
  obtain ⟨xs, i, d, e, rfl, ha, h⟩ := h
  cases ry
  rcases e with e | e
  · obtain ⟨a, us, rfl, hq, t⟩ := see_lst_inv S rx e
    obtain ⟨v, h1, h2⟩ := at_rp t ha
    exact .inl ⟨a, us, i, v, rfl, rfl, hq, h1, q.same S h2 h⟩
  · obtain ⟨a, us, rfl, _, hq, _, t⟩ := see_tup_inv rx e
    obtain ⟨v, h1, h2⟩ := at_rp t ha
    exact .inr ⟨a, us, i, v, rfl, rfl, hq, h1, q.same S h2 h⟩
theorem d_ix {a b : Expr} {ta tb : DT} {pos : Pos} {o : O2} (ho : DIx X o) (ha : DE X a ta) (hb : DE X b tb) (hs : PlainIx b := by first | exact fun _ _ => rfl) : DE X (.Subscript a b pos) (dOp o ta tb) := by
  obtain ⟨r, hr, w⟩ := ho.ex
  obtain ⟨ta', pa, ha⟩ := ha.ex
  obtain ⟨tb', pb, hb⟩ := hb.ex
  exact ⟨_, pe_ix hr pa pb hs, fun Z σ ρ H μ Qd Q S R h q => two ha hb S R h fun v u x y H2 μ2 S2 s2 rx ry q2 => w Z H2 μ2 v u x y Qd Q S2 rx ry q2 (q.step s2)⟩
/-- a part of a slice -/
abbrev DPt := Rho → Mu → (Option Int → Mu → Prop) → Prop
structure DPo (X : Cx) (e : Option Expr) (t : DPt) : Prop where
  ex : ∃ to, PO X e to ∧ ∀ Z σ ρ H μ (Qd : Option Int → Mu → Prop) (Q : Option Int → Hp → Prop), Sim X.K Z μ H → ER X.K Z μ H σ ρ → t ρ μ Qd → (∀ o H' μ', Sim X.K Z μ' H' → Stp μ μ' H H' → Qd o μ' → Q o H') → to σ H Q
def dNoP : DPt := fun _ μ Q => Q none μ
def dPt (t : DT) : DPt := fun ρ μ Q => t ρ μ fun x μ1 => ∃ i, x = .int i ∧ Q (some i) μ1
theorem p_none : DPo X none dNoP := ⟨_, po_none, fun _ _ _ _ _ _ _ S _ h q => q _ _ _ S Stp.refl h⟩
theorem p_some {e : Expr} {te : DT} (h : DE X e te) : DPo X (some e) (dPt te) := by
  obtain ⟨t, p, h⟩ := h.ex
  refine ⟨_, po_some p, fun Z σ ρ H μ Qd Q S R hh q => h Z σ ρ H μ _ _ S R hh fun v d H3 μ3 S3 s3 r3 q3 => ?_⟩
  obtain ⟨i, rfl, q3⟩ := q3
  cases r3
  exact ⟨i, rfl, q _ _ _ S3 s3 q3⟩
def cutD (xs : List D) (lo hi : Option Int) : List D := (xs.drop (HT.sIx xs.length 0 lo)).take (HT.sIx xs.length xs.length hi - HT.sIx xs.length 0 lo)
def dSl (te : DT) (tl th : DPt) : DT := fun ρ μ Q => te ρ μ fun x μ1 => tl ρ μ1 fun lo μ2 => th ρ μ2 fun hi μ3 => (∃ xs, see μ3 x = .lst xs ∧ Q (.lst (cutD xs lo hi)) μ3) ∨ (∃ xs, see μ3 x = .tup xs ∧ Q (.tup (cutD xs lo hi)) μ3)
theorem cut_rp {K : PySem.W.Frag} {Z : Zt} {μ : Mu} {H : Hp} {vs : List V} {ds : List D} (r : RpAll K Z μ H vs ds) (lo hi : Option Int) : RpAll K Z μ H (cutV vs lo hi) (cutD ds lo hi) := by
  unfold cutV cutD
  rw [r.length]
  exact (r.drop _).take _
theorem d_slice {e : Expr} {te : DT} {lo hi : Option Expr} {tl th : DPt} {p2 pos : Pos} (he : DE X e te) (hl : DPo X lo tl) (hh : DPo X hi th) : DE X (.Subscript e (.Slice lo hi none p2) pos) (dSl te tl th) := by
  obtain ⟨t1, p1, h1⟩ := he.ex
  obtain ⟨t2, q2, h2⟩ := hl.ex
  obtain ⟨t3, q3, h3⟩ := hh.ex
  refine ⟨_, pe_slice (SlR.or sl_list sl_tupA) p1 q2 q3, fun Z σ ρ H μ Qd Q S R hh q => h1 Z σ ρ H μ _ _ S R hh fun v d H1 μ1 S1 s1 r1 q1 => ?_⟩
  refine h2 Z σ ρ H1 μ1 _ _ S1 (R.stp s1) q1 fun lo' H2 μ2 S2 s2 q2 => ?_
  refine h3 Z σ ρ H2 μ2 _ _ S2 (R.stp (s1.trans s2)) q2 fun hi' H3 μ3 S3 s3 q3 => ?_
  have r3 := (r1.stp s2).stp s3
  have q := q.step ((s1.trans s2).trans s3)
  rcases q3 with ⟨xs, e, h⟩ | ⟨xs, e, h⟩
  · obtain ⟨a, us, rfl, hq, t⟩ := see_lst_inv S3 r3 e
    exact .inl ⟨a, us, rfl, hq, fun p hp => q.newL S3 hp (cut_rp t _ _) h⟩
  · obtain ⟨a, us, rfl, e2, hq, _, t⟩ := see_tup_inv r3 e
    refine .inr ⟨a, us, rfl, hq, fun w => ?_, fun _ p hp => q.newT S3 hp (cut_rp t _ _) h⟩
    have e3 : cutD xs lo' hi' = xs := by
      unfold cutD
      rw [t.length] at w
      rw [w.1, w.2, List.drop_zero, Nat.sub_zero, List.take_length]
    rw [e3] at h
    rw [e2] at r3
    exact q.same S3 r3 h

/-! ### calls of what is built in -/
structure DCa (X : Cx) (f : Value) (o : List D → Mu → DQ → Prop) : Prop where
  ex : ∃ r, CallR X f r ∧ ∀ Z H μ vs ds Qd Q, Sim X.K Z μ H → RpAll X.K Z μ H vs ds → o ds μ Qd → VE X.K Z H μ Qd Q → r vs H Q
def dCB (o : List D → Mu → DQ → Prop) (t : DA) : DT := fun ρ μ Q => t ρ μ fun ds μ1 => o ds μ1 Q
theorem d_callB {x : Str} {p pos : Pos} {e : Expr} {es : List Expr} {t : DA} {id : String} {o : List D → Mu → DQ → Prop} (hc : DCa X (.builtin id) o) (hg : Gl X x) (hm : X.mg x = none) (hv : bootBuiltins x = some (.builtin id)) (ha : DAs X (e :: es) t) (hn : x ≠ "__name__" := by decide) (hdb : (x == ("__debug__" : Str)) = false := by decide)
    (he : starEach (e :: es) X.env = (false, eval e X.env) :: starEach es X.env := by rfl) (hpl : (backTo pos (starEach es X.env)).any (·.1) = false := by rfl) : DE X (.Call (.Name x p) (e :: es) [] pos) (dCB o t) := by
  obtain ⟨r, hr, w⟩ := hc.ex
  obtain ⟨t1, p1, h1⟩ := ha.ex
  exact ⟨_, pe_callB hr hg hm hv p1 hn hdb he hpl, fun Z σ ρ H μ Qd Q S R hh q => h1 Z σ ρ H μ _ _ S R hh fun vs ds H1 μ1 S1 s1 r1 q1 => w Z H1 μ1 vs ds Qd Q S1 r1 q1 (q.step s1)⟩
theorem d_callT {x : Str} {p pos : Pos} {e : Expr} {es : List Expr} {t : DA} {T : String} {o : List D → Mu → DQ → Prop} (hc : DCa X (.type T) o) (hg : Gl X x) (hm : X.mg x = none) (hv : bootBuiltins x = some (.type T)) (ha : DAs X (e :: es) t) (hn : x ≠ "__name__" := by decide) (hdb : (x == ("__debug__" : Str)) = false := by decide)
    (he : starEach (e :: es) X.env = (false, eval e X.env) :: starEach es X.env := by rfl) (hpl : (backTo pos (starEach es X.env)).any (·.1) = false := by rfl) : DE X (.Call (.Name x p) (e :: es) [] pos) (dCB o t) := by
  obtain ⟨r, hr, w⟩ := hc.ex
  obtain ⟨t1, p1, h1⟩ := ha.ex
  exact ⟨_, pe_callTy hr hg hm hv p1 hn hdb he hpl, fun Z σ ρ H μ Qd Q S R hh q => h1 Z σ ρ H μ _ _ S R hh fun vs ds H1 μ1 S1 s1 r1 q1 => w Z H1 μ1 vs ds Qd Q S1 r1 q1 (q.step s1)⟩
theorem rp1 {K : PySem.W.Frag} {Z : Zt} {μ : Mu} {H : Hp} {vs : List V} {d : D} (r : RpAll K Z μ H vs [d]) : ∃ v, vs = [v] ∧ Rp K Z μ H v d := by
  cases r with
  | cons h t =>
    cases t
    exact ⟨_, rfl, h⟩
theorem rp2 {K : PySem.W.Frag} {Z : Zt} {μ : Mu} {H : Hp} {vs : List V} {d e : D} (r : RpAll K Z μ H vs [d, e]) : ∃ v u, vs = [v, u] ∧ Rp K Z μ H v d ∧ Rp K Z μ H u e := by
  cases r with
  | cons h t =>
    obtain ⟨u, rfl, h2⟩ := rp1 t
    exact ⟨_, u, rfl, h, h2⟩
def fLen : List D → Mu → DQ → Prop := fun ds μ Q => ∃ d xs, ds = [d] ∧ (see μ d = .lst xs ∨ see μ d = .tup xs) ∧ Q (.int (xs.length : Nat)) μ
theorem b_len : DCa X (.builtin "len") fLen := by
  refine ⟨_, call_len_seq, fun Z H μ vs ds Qd Q S r h q => ?_⟩
  obtain ⟨d, xs, rfl, e, h⟩ := h
  obtain ⟨v, rfl, r1⟩ := rp1 r
  rcases e with e | e
  · obtain ⟨a, us, rfl, hq, t⟩ := see_lst_inv S r1 e
    exact ⟨a, us, rfl, .inl hq, by rw [t.length]; exact q.same S (.int _) h⟩
  · obtain ⟨a, us, rfl, _, hq, _, t⟩ := see_tup_inv r1 e
    exact ⟨a, us, rfl, .inr hq, by rw [t.length]; exact q.same S (.int _) h⟩
def fAbs : List D → Mu → DQ → Prop := fun ds μ Q => ∃ i, ds = [.int i] ∧ Q (.int (if i < 0 then -i else i)) μ
theorem b_abs : DCa X (.builtin "abs") fAbs := by
  refine ⟨_, call_abs, fun Z H μ vs ds Qd Q S r h q => ?_⟩
  obtain ⟨i, rfl, h⟩ := h
  obtain ⟨v, rfl, r1⟩ := rp1 r
  cases r1
  exact ⟨i, rfl, q.same S (.int _) h⟩
def fMax2 : List D → Mu → DQ → Prop := fun ds μ Q => ∃ i j, ds = [.int i, .int j] ∧ Q (.int (if j > i then j else i)) μ
def fMin2 : List D → Mu → DQ → Prop := fun ds μ Q => ∃ i j, ds = [.int i, .int j] ∧ Q (.int (if j < i then j else i)) μ
theorem b_max2 (hc : X.calm = true) : DCa X (.builtin "max") fMax2 := by
  refine ⟨_, call_max2 hc, fun Z H μ vs ds Qd Q S r h q => ?_⟩
  obtain ⟨i, j, rfl, h⟩ := h
  obtain ⟨v, u, rfl, r1, r2⟩ := rp2 r
  cases r1
  cases r2
  exact ⟨i, j, rfl, q.same S (.int _) h⟩
theorem b_min2 (hc : X.calm = true) : DCa X (.builtin "min") fMin2 := by
  refine ⟨_, call_min2 hc, fun Z H μ vs ds Qd Q S r h q => ?_⟩
  obtain ⟨i, j, rfl, h⟩ := h
  obtain ⟨v, u, rfl, r1, r2⟩ := rp2 r
  cases r1
  cases r2
  exact ⟨i, j, rfl, q.same S (.int _) h⟩
def fInt : List D → Mu → DQ → Prop := fun ds μ Q => (∃ i, ds = [.int i] ∧ Q (.int i) μ) ∨ ∃ b, ds = [.bl b] ∧ Q (.int (if b then 1 else 0)) μ
theorem t_int : DCa X (.type "int") fInt := by
  refine ⟨_, call_int1, fun Z H μ vs ds Qd Q S r h q => ?_⟩
  rcases h with ⟨i, rfl, h⟩ | ⟨b, rfl, h⟩
  · obtain ⟨v, rfl, r1⟩ := rp1 r
    cases r1
    exact .inl ⟨i, rfl, q.same S (.int _) h⟩
  · obtain ⟨v, rfl, r1⟩ := rp1 r
    cases r1
    exact .inr ⟨b, rfl, q.same S (.int _) h⟩
theorem bls_inv {K : PySem.W.Frag} {Z : Zt} {μ : Mu} {H : Hp} : ∀ {bs : List Bool} {vs : List V}, RpAll K Z μ H vs (bs.map D.bl) → vs = bs.map V.bl
  | [], _, .nil => rfl
  | b :: bs, _, .cons h t => by
    cases h
    rw [bls_inv t]
    rfl
def fAll : List D → Mu → DQ → Prop := fun ds μ Q => ∃ (d : D) (bs : List Bool), ds = [d] ∧ see μ d = .lst (bs.map D.bl) ∧ Q (.bl (bs.all id)) μ
def fAny : List D → Mu → DQ → Prop := fun ds μ Q => ∃ (d : D) (bs : List Bool), ds = [d] ∧ see μ d = .lst (bs.map D.bl) ∧ Q (.bl (bs.any id)) μ
def fSum : List D → Mu → DQ → Prop := fun ds μ Q => ∃ (d : D) (ns : List Int), ds = [d] ∧ see μ d = .lst (ns.map D.int) ∧ Q (.int ns.sum) μ
theorem b_all (hc : X.calm = true) : DCa X (.builtin "all") fAll := by
  refine ⟨_, cr_all hc, fun Z H μ vs ds Qd Q S r h q => ?_⟩
  obtain ⟨d, bs, rfl, e, h⟩ := h
  obtain ⟨v, rfl, r1⟩ := rp1 r
  obtain ⟨a, us, rfl, hq, t⟩ := see_lst_inv S r1 e
  rw [bls_inv t] at hq
  exact ⟨a, bs, rfl, hq, q.same S (.bl _) h⟩
theorem b_any (hc : X.calm = true) : DCa X (.builtin "any") fAny := by
  refine ⟨_, cr_any hc, fun Z H μ vs ds Qd Q S r h q => ?_⟩
  obtain ⟨d, bs, rfl, e, h⟩ := h
  obtain ⟨v, rfl, r1⟩ := rp1 r
  obtain ⟨a, us, rfl, hq, t⟩ := see_lst_inv S r1 e
  rw [bls_inv t] at hq
  exact ⟨a, bs, rfl, hq, q.same S (.bl _) h⟩
theorem b_sum (hc : X.calm = true) : DCa X (.builtin "sum") fSum := by
  refine ⟨_, cr_sum hc, fun Z H μ vs ds Qd Q S r h q => ?_⟩
  obtain ⟨d, ns, rfl, e, h⟩ := h
  obtain ⟨v, rfl, r1⟩ := rp1 r
  obtain ⟨a, us, rfl, hq, t⟩ := see_lst_inv S r1 e
  rw [RpAll.ints_inv t] at hq
  exact ⟨a, ns, rfl, hq, q.same S (.int _) h⟩
def fTuple : List D → Mu → DQ → Prop := fun ds μ Q => ∃ d xs, ds = [d] ∧ (see μ d = .lst xs ∨ see μ d = .tup xs) ∧ Q (.tup xs) μ
theorem t_tuple : DCa X (.type "tuple") fTuple := by
  refine ⟨_, call_tuple_of, fun Z H μ vs ds Qd Q S r h q => ?_⟩
  obtain ⟨d, xs, rfl, e, h⟩ := h
  obtain ⟨v, rfl, r1⟩ := rp1 r
  rcases e with e | e
  · obtain ⟨a, us, rfl, hq, t⟩ := see_lst_inv S r1 e
    exact ⟨a, us, rfl, .inl ⟨hq, fun l hl => q.newT S hl t h⟩⟩
  · obtain ⟨a, us, rfl, e2, hq, _, t⟩ := see_tup_inv r1 e
    subst e2
    exact ⟨a, us, rfl, .inr ⟨hq, q.same S r1 h⟩⟩
def fList : List D → Mu → DQ → Prop := fun ds μ Q => ∃ d xs, ds = [d] ∧ (see μ d = .lst xs ∨ see μ d = .tup xs) ∧ Q (.lst xs) μ
def fListM : List D → Mu → DQ → Prop := fun ds μ Q => ∃ d xs, ds = [d] ∧ (see μ d = .lst xs ∨ see μ d = .tup xs) ∧ ∀ p, μ p = none → Q (.ref p) (mput μ p (.lst xs))
theorem t_list : DCa X (.type "list") fList := by
  refine ⟨_, call_list_of, fun Z H μ vs ds Qd Q S r h q => ?_⟩
  obtain ⟨d, xs, rfl, e, h⟩ := h
  obtain ⟨v, rfl, r1⟩ := rp1 r
  rcases e with e | e
  · obtain ⟨a, us, rfl, hq, t⟩ := see_lst_inv S r1 e
    exact ⟨a, us, rfl, .inl hq, fun l hl => q.newL S hl t h⟩
  · obtain ⟨a, us, rfl, _, hq, _, t⟩ := see_tup_inv r1 e
    exact ⟨a, us, rfl, .inr hq, fun l hl => q.newL S hl t h⟩
theorem t_listM : DCa X (.type "list") fListM := by
  refine ⟨_, call_list_of, fun Z H μ vs ds Qd Q S r h q => ?_⟩
  obtain ⟨d, xs, rfl, e, h⟩ := h
  obtain ⟨v, rfl, r1⟩ := rp1 r
  rcases e with e | e
  · obtain ⟨a, us, rfl, hq, t⟩ := see_lst_inv S r1 e
    exact ⟨a, us, rfl, .inl hq, fun l hl => q.newM S hl t (h l (S.free hl))⟩
  · obtain ⟨a, us, rfl, _, hq, _, t⟩ := see_tup_inv r1 e
    exact ⟨a, us, rfl, .inr hq, fun l hl => q.newM S hl t (h l (S.free hl))⟩
/-- sorted of a list of ints -/
def fSortI : List D → Mu → DQ → Prop := fun ds μ Q => ∃ (d : D) (ns : List Int), ds = [d] ∧ see μ d = .lst (ns.map D.int) ∧ ∀ ms : List Int, ms.Perm ns → ms.Pairwise (· ≤ ·) → Q (.lst (ms.map D.int)) μ
theorem b_sortI : DCa X (.builtin "sorted") fSortI := by
  refine ⟨_, cr_sortedI, fun Z H μ vs ds Qd Q S r h q => ?_⟩
  obtain ⟨d, ns, rfl, e, h⟩ := h
  obtain ⟨v, rfl, r1⟩ := rp1 r
  obtain ⟨a, us, rfl, hq, t⟩ := see_lst_inv S r1 e
  rw [RpAll.ints_inv t] at hq
  exact ⟨a, ns, rfl, hq, fun ms p h1 h2 hp => q.newL S hp (RpAll.ints ms) (h ms h1 h2)⟩
/-- isinstance(x, T) -/
def tyN : D → String
  | .non => "NoneType"
  | .bl _ => "bool"
  | .int _ => "int"
  | .str _ => "str"
  | .tup _ => "tuple"
  | .lst _ => "list"
  | .dk _ => "dict"
  | .dt _ => "dict"
  | _ => "?"
def tyOk : D → Bool
  | .ref _ | .ty _ | .fz _ | .dt _ => false
  | _ => true
def notFz : D → Bool
  | .fz _ => false
  | _ => true
def fIsi : List D → Mu → DQ → Prop := fun ds μ Q => ∃ d T b, ds = [d, .ty T] ∧ tyOk (see μ d) = true ∧ notFz d = true ∧ kitB (tyN (see μ d)) T = some b ∧ Q (.bl b) μ
theorem tyx {K : PySem.W.Frag} {Z : Zt} {μ : Mu} {H : Hp} {v : V} {d : D} (S : Sim K Z μ H) (r : Rp K Z μ H v d) (h : tyOk (see μ d) = true) (hf : notFz d = true) : TyX K H v (.type (tyN (see μ d))) := by
  cases r with
  | non => exact .base .non
  | bl b => exact .base (.bl b)
  | int i => exact .base (.int i)
  | str x => exact .base (.str x)
  | ty x => cases h
  | tup h5 t => exact .base (.tup h5.1)
  | lst h5 c t => exact .base (.lst h5)
  | fz h5 t => cases hf
  | dk h5 c e t => exact .fDict h5
  | dt h5 c e t => cases h
  | ref a =>
    cases e : μ a with
    | none =>
      simp only [see, e] at h
      cases h
    | some m =>
      have o := S.ob a m e
      simp only [see, e] at h ⊢
      cases o with
      | lst h1 t => exact .base (.lst h1)
      | dk h1 k t => exact .base (.dK h1)
      | dt h1 n k kr t => cases h
      | ins h1 k t => cases h
theorem b_isi : DCa X (.builtin "isinstance") fIsi := by
  refine ⟨_, call_isi, fun Z H μ vs ds Qd Q S r h q => ?_⟩
  obtain ⟨d, T, b, rfl, h1, h2, h3, h⟩ := h
  obtain ⟨v, u, rfl, r1, r2⟩ := rp2 r
  cases r2
  exact ⟨v, .ty T, _, _, b, rfl, .ty T, tyx S r1 h1 h2, kit_ty h3, q.same S (.bl _) h⟩
end
end DL

namespace DL
open PySem PySem.Spec PyProof.Rows L2

/-! ### the strongest readings -/
def upE (K : PySem.W.Frag) (t : DT) : TE := fun σ H Q => ∃ Z ρ μ Qd, Sim K Z μ H ∧ ER K Z μ H σ ρ ∧ t ρ μ Qd ∧ VE K Z H μ Qd Q
def upC (K : PySem.W.Frag) (t : DB) : TT := fun σ H Q => ∃ Z ρ μ Qd, Sim K Z μ H ∧ ER K Z μ H σ ρ ∧ t ρ μ Qd ∧ BE K Z H μ Qd Q
section
variable {X : Cx}
theorem DE.up {e : Expr} {t : DT} (h : DE X e t) : PE X e (upE X.K t) := by
  obtain ⟨te, p, h⟩ := h.ex
  exact ⟨fun pins s σ H Q I ⟨Z, ρ, μ, Qd, S, R, hh, q⟩ => p.run pins s σ H Q I (h Z σ ρ H μ Qd Q S R hh q)⟩
theorem DC.up {e : Expr} {t : DB} (h : DC X e t) : PT X e (upC X.K t) := by
  obtain ⟨te, p, h⟩ := h.ex
  exact ⟨fun pins s σ H Q I ⟨Z, ρ, μ, Qd, S, R, hh, q⟩ => p.run pins s σ H Q I (h Z σ ρ H μ Qd Q S R hh q)⟩
theorem DE.of_up {e : Expr} {t : DT} (h : PE X e (upE X.K t)) : DE X e t := ⟨_, h, fun Z σ ρ H μ Qd Q S R hh q => ⟨Z, ρ, μ, Qd, S, R, hh, q⟩⟩

/-! ### targets -/
abbrev DG := D → Rho → Mu → (Rho → Mu → Prop) → Prop
abbrev DGl := List D → Rho → Mu → (Rho → Mu → Prop) → Prop
/-- what follows a store -/
def GE (K : PySem.W.Frag) (Z : Zt) (H : Hp) (μ : Mu) (Qd : Rho → Mu → Prop) (Q : L2.St → Hp → Prop) : Prop := ∀ σ' ρ' H' μ', Sim K Z μ' H' → ER K Z μ' H' σ' ρ' → Stp μ μ' H H' → Qd ρ' μ' → Q σ' H'
structure DGt (X : Cx) (tg : Expr) (g : DG) : Prop where
  ex : ∃ t, PG X tg t ∧ ∀ Z σ ρ H μ v d Qd Q, Sim X.K Z μ H → ER X.K Z μ H σ ρ → Rp X.K Z μ H v d → g d ρ μ Qd → GE X.K Z H μ Qd Q → t v σ H Q
structure DGs (X : Cx) (tgs : List Expr) (g : DGl) : Prop where
  ex : ∃ t, PGs X tgs t ∧ ∀ Z σ ρ H μ vs ds Qd Q, Sim X.K Z μ H → ER X.K Z μ H σ ρ → RpAll X.K Z μ H vs ds → g ds ρ μ Qd → GE X.K Z H μ Qd Q → t vs σ H Q
theorem GE.step {K : PySem.W.Frag} {Z : Zt} {H H' : Hp} {μ μ' : Mu} {Qd : Rho → Mu → Prop} {Q : L2.St → Hp → Prop} (h : GE K Z H μ Qd Q) (s : Stp μ μ' H H') : GE K Z H' μ' Qd Q :=
  fun σ' ρ' H2 μ2 S R s2 q => h σ' ρ' H2 μ2 S R (s.trans s2) q
def gN (i : Nat) : DG := fun d ρ μ Q => Q (ρ.set i (some d)) μ
theorem g_name {i : Nat} {x : Str} {pos : Pos} (hN : X.N.Nodup) (hi : X.N[i]? = some x) (hx : Loc X.env.scope x) (hf : X.fn x = true ∨ X.env.scope.names.lookup x = some .local := by first | exact .inl rfl | exact .inr rfl | assumption) : DGt X (.Name x pos) (gN i) :=
  ⟨_, pg_name hN hi hx hf, fun Z σ ρ H μ v d Qd Q S R r h q => q _ _ _ _ S (R.set i r) Stp.refl h⟩
def gsNil : DGl := fun ds ρ μ Q => ds = [] ∧ Q ρ μ
def gsCons (g : DG) (gs : DGl) : DGl := fun ds ρ μ Q => ∃ d r, ds = d :: r ∧ g d ρ μ fun ρ1 μ1 => gs r ρ1 μ1 Q
theorem gs_nil : DGs X [] gsNil := ⟨_, pgs_nil, fun Z σ ρ H μ vs ds Qd Q S R r h q => by
  obtain ⟨rfl, h⟩ := h
  cases r
  exact ⟨rfl, q _ _ _ _ S R Stp.refl h⟩⟩
theorem gs_cons {e : Expr} {es : List Expr} {g : DG} {gs : DGl} (h1 : DGt X e g) (h2 : DGs X es gs) (hs : (assignEach (e :: es) X.env).map (·.2) = assign e X.env :: (assignEach es X.env).map (·.2) := by rfl) : DGs X (e :: es) (gsCons g gs) := by
  obtain ⟨t1, p1, h1⟩ := h1.ex
  obtain ⟨t2, p2, h2⟩ := h2.ex
  refine ⟨_, pgs_cons p1 p2 hs, fun Z σ ρ H μ vs ds Qd Q S R r h q => ?_⟩
  obtain ⟨d, dr, rfl, h⟩ := h
  cases r with
  | cons r rr =>
    refine ⟨_, _, rfl, h1 Z σ ρ H μ _ _ _ _ S R r h fun σ1 ρ1 H1 μ1 S1 R1 s1 q1 => ?_⟩
    exact h2 Z σ1 ρ1 H1 μ1 _ _ _ _ S1 R1 (rr.stp s1) q1 (q.step s1)
def gTp (n : Nat) (gs : DGl) : DG := fun d ρ μ Q => ∃ ds, d = .tup ds ∧ ds.length = n ∧ gs ds ρ μ Q
theorem g_tup {es : List Expr} {k : Nat} {gs : DGl} {n : Nat} {pos : Pos} (hc : X.calm = true) (h : DGs X es gs) (hn : (assignEach es X.env).length = n := by rfl) (hst : (assignEach es X.env).findIdx? (·.1) = none := by rfl) : DGt X (.Tuple es k pos) (gTp n gs) := by
  obtain ⟨t1, p1, h1⟩ := h.ex
  refine ⟨_, pg_tup hc p1 hn hst, fun Z σ ρ H μ v d Qd Q S R r h q => ?_⟩
  obtain ⟨ds, rfl, hl, h⟩ := h
  obtain ⟨a, xs, rfl, _, hq, _, t⟩ := see_tup_inv (μ := μ) r rfl
  exact ⟨a, xs, rfl, hq, by rw [t.length]; exact hl, h1 Z σ ρ H μ _ _ _ _ S R t h q⟩
/-- o[i] = .. of a list of the store -/
def stIx (o i d : D) (μ : Mu) (k : Mu → Prop) : Prop := ∃ a ds n j, o = .ref a ∧ i = .int n ∧ μ a = some (.lst ds) ∧ ixN ds.length n = some j ∧ k (mput μ a (.lst (ds.set j d)))
def gSb (to ti : DT) : DG := fun d ρ μ Q => to ρ μ fun o μ1 => ti ρ μ1 fun i μ2 => stIx o i d μ2 (Q ρ)
theorem g_sub {o i : Expr} {to ti : DT} {pos : Pos} (ho : DE X o to) (hi : DE X i ti)
    (ha : ∀ v, assign (.Subscript o i pos) X.env v = (do
      let ov ← holding [v] (eval o X.env)
      let iv ← holding [v, ov] (eval i X.env)
      standAt pos
      holding [v, ov, iv] (setItem ov iv v)
      release [v, ov, iv] []) := by intro _; rfl) : DGt X (.Subscript o i pos) (gSb to ti) := by
  obtain ⟨t1, p1, h1⟩ := ho.ex
  obtain ⟨t2, p2, h2⟩ := hi.ex
  refine ⟨_, pg_sub p1 p2 set_list ha, fun Z σ ρ H μ v d Qd Q S R r h q => h1 Z σ ρ H μ _ _ S R h fun ov o' H1 μ1 S1 s1 r1 q1 => h2 Z σ ρ H1 μ1 _ _ S1 (R.stp s1) q1 fun iv i' H2 μ2 S2 s2 r2 q2 => ?_⟩
  obtain ⟨a, ds, k, j, rfl, rfl, e, hj, q2⟩ := q2
  cases r1
  cases r2
  have ob := S2.ob a _ e
  cases ob with
  | @lst xs es hH t =>
    have s3 : Stp μ2 (mput μ2 a (.lst (ds.set j d))) H2 (upd H2 a (.lst (xs.set j v))) := Stp.write e
    have r' : Rp X.K Z μ2 H2 v d := (r.stp s1).stp s2
    refine ⟨a, xs, k, j, rfl, rfl, hH, by rw [t.length]; exact hj, ?_⟩
    exact q _ _ _ _ (S2.write e (.lst upd_same ((RpAll.set r' j t).stp s3))) (R.stp ((s1.trans s2).trans s3)) ((s1.trans s2).trans s3) q2

/-! ### statements -/
/-- what is raised: a class of the program's own, by its name, and the fields -/
structure Exn where
  cls : Str
  fs : List (Str × D)
structure DEnds where
  nx : Rho → Mu → Prop
  rt : DQ
  bk : Rho → Mu → Prop := fun _ _ => False
  ct : Rho → Mu → Prop := fun _ _ => False
  xc : Exn → Rho → Mu → Prop := fun _ _ _ => False
abbrev DTS := DEnds → Rho → Mu → Prop
structure Lk (K : PySem.W.Frag) (Z : Zt) (H : Hp) (μ : Mu) (Dd : DEnds) (D : Ends) : Prop where
  nx : GE K Z H μ Dd.nx D.nx
  rt : VE K Z H μ Dd.rt D.rt
  bk : GE K Z H μ Dd.bk D.bk
  ct : GE K Z H μ Dd.ct D.ct
theorem Lk.step {K : PySem.W.Frag} {Z : Zt} {H H' : Hp} {μ μ' : Mu} {Dd : DEnds} {D : Ends} (l : Lk K Z H μ Dd D) (s : Stp μ μ' H H') : Lk K Z H' μ' Dd D := ⟨l.nx.step s, l.rt.step s, l.bk.step s, l.ct.step s⟩
structure DSt (X : Cx) (st : Stmt) (t : DTS) : Prop where
  ex : ∃ ts, PS X st ts ∧ ∀ Z σ ρ H μ Dd D, Sim X.K Z μ H → ER X.K Z μ H σ ρ → t Dd ρ μ → Lk X.K Z H μ Dd D → ts D σ H
structure DSs (X : Cx) (st : List Stmt) (t : DTS) : Prop where
  ex : ∃ ts, PSs X st ts ∧ ∀ Z σ ρ H μ Dd D, Sim X.K Z μ H → ER X.K Z μ H σ ρ → t Dd ρ μ → Lk X.K Z H μ Dd D → ts D σ H
variable {st : Stmt} {rest : List Stmt} {t u : DTS} {e : Expr} {te : DT} {pos : Pos}
def dNext : DTS := fun D ρ μ => D.nx ρ μ
def dSeq (t u : DTS) : DTS := fun D ρ μ => t { D with nx := u D } ρ μ
theorem ss_nil : DSs X [] dNext := ⟨_, pss_nil, fun Z σ ρ H μ Dd D S R h l => l.nx _ _ _ _ S R Stp.refl h⟩
theorem ss_cons (h1 : DSt X st t) (h2 : DSs X rest u) : DSs X (st :: rest) (dSeq t u) := by
  obtain ⟨t1, p1, h1⟩ := h1.ex
  obtain ⟨t2, p2, h2⟩ := h2.ex
  refine ⟨_, pss_cons p1 p2, fun Z σ ρ H μ Dd D S R h l => h1 Z σ ρ H μ _ _ S R h ⟨fun σ' ρ' H' μ' S' R' s' q' => h2 Z σ' ρ' H' μ' _ _ S' R' q' (l.step s'), l.rt, l.bk, l.ct⟩⟩
theorem ss_one (h1 : DSt X st t) : DSs X [st] t := let ⟨t1, p1, h1⟩ := h1.ex; ⟨t1, pss_one p1, h1⟩
def dBreak : DTS := fun D ρ μ => D.bk ρ μ
def dCont : DTS := fun D ρ μ => D.ct ρ μ
theorem s_pass : DSt X (.Pass pos) dNext := ⟨_, ps_pass, fun Z σ ρ H μ Dd D S R h l => l.nx _ _ _ _ S R Stp.refl h⟩
theorem s_break : DSt X (.Break pos) dBreak := ⟨_, ps_break, fun Z σ ρ H μ Dd D S R h l => l.bk _ _ _ _ S R Stp.refl h⟩
theorem s_cont : DSt X (.Continue pos) dCont := ⟨_, ps_continue, fun Z σ ρ H μ Dd D S R h l => l.ct _ _ _ _ S R Stp.refl h⟩
def dNever : DTS := fun _ _ _ => False
theorem s_never : DSt X st dNever := ⟨_, ps_never, fun Z σ ρ H μ Dd D S R h l => h.elim⟩
def dDrop (te : DT) : DTS := fun D ρ μ => te ρ μ fun _ μ1 => D.nx ρ μ1
theorem s_expr (he : DE X e te) (hs : swapsWith e none pos.line X.env = pure false := by rfl) : DSt X (.Expr e pos) (dDrop te) := by
  obtain ⟨t1, p1, h1⟩ := he.ex
  exact ⟨_, ps_expr p1 hs, fun Z σ ρ H μ Dd D S R h l => h1 Z σ ρ H μ _ _ S R h fun v d H1 μ1 S1 s1 r1 q1 => l.nx _ _ _ _ S1 (R.stp s1) s1 q1⟩
def dRet (te : DT) : DTS := fun D ρ μ => te ρ μ D.rt
theorem s_ret (he : DE X e te) : DSt X (.Return (some e) pos) (dRet te) := by
  obtain ⟨t1, p1, h1⟩ := he.ex
  exact ⟨_, ps_ret p1, fun Z σ ρ H μ Dd D S R h l => h1 Z σ ρ H μ _ _ S R h l.rt⟩
def dRetN : DTS := fun D _ μ => D.rt .non μ
theorem s_retN : DSt X (.Return none pos) dRetN := ⟨_, ps_retN, fun Z σ ρ H μ Dd D S R h l => l.rt _ _ _ _ S Stp.refl .non h⟩
def dIfS (c : DB) (t u : DTS) : DTS := fun D ρ μ => c ρ μ fun b μ1 => if b = true then t D ρ μ1 else u D ρ μ1
theorem s_if {c : Expr} {a b : List Stmt} {tc : DB} (hc : DC X c tc) (ha : DSs X a t) (hb : DSs X b u) : DSt X (.If c a b pos) (dIfS tc t u) := by
  obtain ⟨t0, p0, h0⟩ := hc.ex
  obtain ⟨t1, p1, h1⟩ := ha.ex
  obtain ⟨t2, p2, h2⟩ := hb.ex
  refine ⟨_, ps_if p0 p1 p2, fun Z σ ρ H μ Dd D S R h l => h0 Z σ ρ H μ _ _ S R h fun b H1 μ1 S1 s1 q1 => ?_⟩
  cases b with
  | true => exact h1 Z σ ρ H1 μ1 _ _ S1 (R.stp s1) q1 (l.step s1)
  | false => exact h2 Z σ ρ H1 μ1 _ _ S1 (R.stp s1) q1 (l.step s1)
def dAsg (te : DT) (g : DG) : DTS := fun D ρ μ => te ρ μ fun d μ1 => g d ρ μ1 D.nx
theorem s_asg {tg : Expr} {g : DG} (he : DE X e te) (hg : DGt X tg g) (hs : swapsWithSole [tg] e pos.line X.env = pure false := by rfl) (hw : swappedStores [tg] e X.env = pure none := by rfl)
    (h1 : (assignEach [tg] X.env).map (·.2) = [assign tg X.env] := by rfl) : DSt X (.Assign [tg] e pos) (dAsg te g) := by
  obtain ⟨t1, p1, h2⟩ := he.ex
  obtain ⟨t2, p2, h3⟩ := hg.ex
  exact ⟨_, ps_asg p1 p2 hs hw h1, fun Z σ ρ H μ Dd D S R h l => h2 Z σ ρ H μ _ _ S R h fun v d H1 μ1 S1 s1 r1 q1 => h3 Z σ ρ H1 μ1 _ _ _ _ S1 (R.stp s1) r1 q1 (l.nx.step s1)⟩
theorem s_set {i : Nat} {x : Str} {pos' : Pos} (hN : X.N.Nodup) (hi : X.N[i]? = some x) (hx : Loc X.env.scope x) (he : DE X e te) (hs : swapsWith e (some (.Name x pos')) pos.line X.env = pure false := by rfl) (hf : X.fn x = true ∨ X.env.scope.names.lookup x = some .local := by first | exact .inl rfl | exact .inr rfl | assumption) :
    DSt X (.Assign [.Name x pos'] e pos) (dAsg te (gN i)) := by
  obtain ⟨t1, p1, h2⟩ := he.ex
  exact ⟨_, ps_set hN hi hx p1 hs hf, fun Z σ ρ H μ Dd D S R h l => h2 Z σ ρ H μ _ _ S R h fun v d H1 μ1 S1 s1 r1 q1 => l.nx _ _ _ _ S1 ((R.stp s1).set i r1) s1 q1⟩
/-- a, b = x, y: two local names -/
def dPar (i j : Nat) (ta : DA) : DTS := fun D ρ μ => ta ρ μ fun ds μ1 => ∃ d d', ds = [d, d'] ∧ D.nx ((ρ.set i (some d)).set j (some d')) μ1
theorem s_par {i j : Nat} {x y : Str} {a b : Expr} {ta : DA} {px py pt : Pos} {kt k2 pt2} (hc : X.calm = true) (hN : X.N.Nodup) (hi : X.N[i]? = some x) (hj : X.N[j]? = some y) (hij : i ≠ j)
    (hx : X.env.scope.names.lookup x = some .local) (hy : X.env.scope.names.lookup y = some .local) (ha : DAs X [a, b] ta)
    (hw : swappedStores [.Tuple [.Name x px, .Name y py] kt pt] (.Tuple [a, b] k2 pt2) X.env = pure (some [x, y]))
    (hs : swapsWithSole [.Tuple [.Name x px, .Name y py] kt pt] (.Tuple [a, b] k2 pt2) pos.line X.env = pure false := by rfl) :
    DSt X (.Assign [.Tuple [.Name x px, .Name y py] kt pt] (.Tuple [a, b] k2 pt2) pos) (dPar i j ta) := by
  obtain ⟨t1, p1, h2⟩ := ha.ex
  refine ⟨_, ps_par hc hN hi hj hij hx hy p1 hw hs, fun Z σ ρ H μ Dd D S R h l => h2 Z σ ρ H μ _ _ S R h fun vs ds H1 μ1 S1 s1 r1 q1 => ?_⟩
  obtain ⟨d, d', rfl, q1⟩ := q1
  obtain ⟨v, v', rfl, ra, rb⟩ := rp2 r1
  exact ⟨v, v', rfl, l.nx _ _ _ _ S1 (((R.stp s1).set i ra).set j rb) s1 q1⟩
/-- x += e (ints), x -= e -/
def dAug (i : Nat) (te : DT) (f : Int → Int → Int) : DTS := fun D ρ μ => ∃ m, ρ[i]? = some (some (.int m)) ∧ te ρ μ fun y μ1 => ∃ n, y = .int n ∧ D.nx (ρ.set i (some (.int (f m n)))) μ1
theorem s_aug {i : Nat} {x : Str} {op : Operator} {f : Int → Int → Int} {pos' : Pos} (hN : X.N.Nodup) (hi : X.N[i]? = some x) (hx : Loc X.env.scope x) (he : DE X e te) (ho : PIp X op (ipI f)) (hf : X.fn x = true ∨ X.env.scope.names.lookup x = some .local := by first | exact .inl rfl | exact .inr rfl | assumption) :
    DSt X (.AugAssign (.Name x pos') op e pos) (dAug i te f) := by
  obtain ⟨t1, p1, h2⟩ := he.ex
  refine ⟨_, ps_aug hN hi hx p1 ho hf, fun Z σ ρ H μ Dd D S R h l => ?_⟩
  obtain ⟨m, hd, h⟩ := h
  obtain ⟨v, e1, r⟩ := R.at_ i _ hd
  refine ⟨v, e1, h2 Z σ ρ H μ _ _ S R h fun u y H1 μ1 S1 s1 r1 q1 => ?_⟩
  obtain ⟨n, rfl, q1⟩ := q1
  cases r
  cases r1
  exact ⟨m, n, rfl, rfl, l.nx _ _ _ _ S1 ((R.stp s1).set i (.int _)) s1 q1⟩
end
end DL

namespace DL
open PySem PySem.Spec PyProof.Rows L2

/-! ### what is walked -/
/-- J walks the items while G stands -/
def JOk (K : PySem.W.Frag) (Z : Zt) (H1 : Hp) (μ1 : Mu) (J : It) (items : List D) (G : Mu → Prop) : Prop :=
  ∀ (Z' : Zt) (H : Hp) (μ : Mu), Kp Z Z' H1 H μ1 μ → Sim K Z' μ H → G μ →
    (∀ i, items.length ≤ i → J.stop i H) ∧ ∀ (i : Nat) d, items[i]? = some d → J.go i H ∧ ∀ x H', J.yld i H x H' → Sim K Z' μ H' ∧ Stp μ μ H H' ∧ Rp K Z' μ H' x d
abbrev DIt := Rho → Mu → (List D → (Mu → Prop) → Mu → Prop) → Prop
structure DI (X : Cx) (tg iter : Expr) (wi : DIt) : Prop where
  ex : ∃ w, PI X tg iter w ∧ ∀ Z σ ρ H μ Qd (R : It → Hp → Prop), Sim X.K Z μ H → ER X.K Z μ H σ ρ → wi ρ μ Qd →
    (∀ J items G H' μ', Sim X.K Z μ' H' → Stp μ μ' H H' → JOk X.K Z H' μ' J items G → Qd items G μ' → R J H') → w σ H R
section
variable {X : Cx} {tg iter e : Expr} {te : DT} {pos : Pos}
/-- a list or a tuple -/
def iSeq (K : PySem.W.Frag) (tl : TE) : TI := fun σ H R => tl σ H fun x H1 => ∃ a, x = .ref a ∧ (((∃ xs, SqL K H1 a xs) ∧ R (Itl K a) H1) ∨ ((∃ xs, SqT K H1 a xs) ∧ R (Itt K a) H1))
theorem pi_seq {l : Expr} {tl : TE} (hl : PE X l tl) : PI X tg l (iSeq X.K tl) := by
  refine ⟨fun pins s σ H R I h => ?_⟩
  refine thn (hl.run pins s σ H _ I h) fun v s1 ⟨x, H1, I1, r1, q1⟩ => ?_
  obtain ⟨a, ex, q1⟩ := q1
  subst ex
  cases r1
  have fp : ∀ b ∈ [s1.heap.objs.size], FpOk X pins H1 b := fun b hb => by
    have e : b = s1.heap.objs.size := by simpa using hb
    subst e
    exact I1.fpOk (Nat.le_refl _) (I1.hok.fresh (Nat.le_refl _))
  rcases q1 with ⟨⟨xs, hq⟩, q⟩ | ⟨⟨xs, hq⟩, q⟩
  · obtain ⟨its, rv, p, hz⟩ := I1.list hq
    refine wpAny_pyIter_list p.isList ?_
    exact ⟨s1.heap.objs.size, [s1.heap.objs.size], _, _, H1, rfl, I1.kept (t' := s1.toks) fun b o e => Heap.get?_push_of_some _ e, turn_list a _, ⟨_, Heap.get?_push_size _ rfl, rfl, rfl⟩, fp, q⟩
  · obtain ⟨its, rv, p, hz⟩ := I1.tuple hq
    refine wpAny_pyIter_tuple (show s1.heap.IsTuple a its.toArray from p) ?_
    exact ⟨s1.heap.objs.size, [s1.heap.objs.size], _, _, H1, rfl, I1.kept (t' := s1.toks) fun b o e => Heap.get?_push_of_some _ e, turn_tuple a _, ⟨_, Heap.get?_push_size _ rfl, rfl, rfl⟩, fp, q⟩
def dISeq (te : DT) : DIt := fun ρ μ Q => te ρ μ fun d μ1 => ∃ xs, (see μ1 d = .lst xs ∨ see μ1 d = .tup xs) ∧ Q xs (fun μ => see μ d = see μ1 d) μ1
theorem i_seq (h : DE X e te) : DI X tg e (dISeq te) := by
  obtain ⟨t1, p1, h1⟩ := h.ex
  refine ⟨_, pi_seq p1, fun Z σ ρ H μ Qd R S E h q => h1 Z σ ρ H μ _ _ S E h fun v d H1 μ1 S1 s1 r1 q1 => ?_⟩
  obtain ⟨xs, e, q1⟩ := q1
  rcases e with e | e
  · obtain ⟨a, us, rfl, hq, t⟩ := see_lst_inv S1 r1 e
    refine ⟨a, rfl, .inl ⟨⟨us, hq⟩, q _ xs _ H1 μ1 S1 s1 (fun Z' H2 μ2 s2 S2 g => ?_) q1⟩⟩
    have r2 : Rp X.K Z' μ2 H2 (.ref a) d := r1.go s2
    obtain ⟨b, ws, eb, hq2, t2⟩ := see_lst_inv S2 r2 (g.trans e)
    cases eb
    refine ⟨fun i hi => ⟨ws, hq2, by rw [t2.length]; exact hi⟩, fun i d' hd => ?_⟩
    obtain ⟨w, hw, rw'⟩ := t2.get hd
    refine ⟨⟨ws, w, hq2, hw⟩, fun x H' y => ?_⟩
    obtain ⟨rfl, y⟩ := y
    have := y ws hq2
    rw [hw] at this
    cases this
    exact ⟨S2, Stp.refl, rw'⟩
  · obtain ⟨a, us, rfl, ed, hq, _, t⟩ := see_tup_inv r1 e
    refine ⟨a, rfl, .inr ⟨⟨us, hq⟩, q _ xs _ H1 μ1 S1 s1 (fun Z' H2 μ2 s2 S2 g => ?_) q1⟩⟩
    have r2 : Rp X.K Z' μ2 H2 (.ref a) d := r1.go s2
    obtain ⟨b, ws, eb, _, hq2, _, t2⟩ := see_tup_inv r2 (g.trans e)
    cases eb
    refine ⟨fun i hi => ⟨ws, hq2, by rw [t2.length]; exact hi⟩, fun i d' hd => ?_⟩
    obtain ⟨w, hw, rw'⟩ := t2.get hd
    refine ⟨⟨ws, w, hq2, hw⟩, fun x H' y => ?_⟩
    obtain ⟨rfl, y⟩ := y
    have := y ws hq2
    rw [hw] at this
    cases this
    exact ⟨S2, Stp.refl, rw'⟩
/-- lo, lo + 1, .. -/
def rng (lo : Int) (n : Nat) : List D := (List.range n).map fun (i : Nat) => D.int (lo + (i : Int))
theorem rng_get {lo : Int} {n i : Nat} {d : D} : (rng lo n)[i]? = some d ↔ i < n ∧ d = .int (lo + (i : Nat)) := by
  unfold rng
  rw [List.getElem?_map]
  by_cases h : i < n
  · rw [List.getElem?_range h]
    simp only [Option.map_some, Option.some.injEq]
    exact ⟨fun e => ⟨h, e.symm⟩, fun e => e.2.symm⟩
  · rw [List.getElem?_eq_none (by rw [List.length_range]; omega)]
    simp [h]
theorem rng_len {lo : Int} {n : Nat} : (rng lo n).length = n := by
  unfold rng
  rw [List.length_map, List.length_range]
theorem jok_rng {K : PySem.W.Frag} {Z : Zt} {H1 : Hp} {μ1 : Mu} {lo : Int} {n : Nat} : JOk K Z H1 μ1 (Itr lo n) (rng lo n) fun _ => True := fun Z' H μ s S _ => by
  refine ⟨fun i hi => by rw [rng_len] at hi; exact hi, fun i d hd => ?_⟩
  obtain ⟨h1, rfl⟩ := rng_get.mp hd
  refine ⟨h1, fun x H' y => ?_⟩
  obtain ⟨rfl, rfl⟩ := y
  exact ⟨S, Stp.refl, .int _⟩
def dIR1 (ta : DA) : DIt := fun ρ μ Q => ta ρ μ fun ds μ1 => ∃ j : Int, ds = [.int j] ∧ -(2 ^ 62) ≤ j ∧ j < 2 ^ 62 ∧ Q (rng 0 j.toNat) (fun _ => True) μ1
def dIR2 (ta : DA) : DIt := fun ρ μ Q => ta ρ μ fun ds μ1 => ∃ i j : Int, ds = [.int i, .int j] ∧ (-(2 ^ 62) ≤ i ∧ i < 2 ^ 62 ∧ -(2 ^ 62) ≤ j ∧ j < 2 ^ 62) ∧ Q (rng i (j - i).toNat) (fun _ => True) μ1
theorem i_range1 {a : Expr} {ta : DA} {p : Pos} (hg : Gl X "range") (hm : X.mg "range" = none) (ha : DAs X [a] ta) (hs : starEach [a] X.env = [(false, eval a X.env)] := by rfl) : DI X tg (.Call (.Name "range" p) [a] [] pos) (dIR1 ta) := by
  obtain ⟨t1, p1, h1⟩ := ha.ex
  refine ⟨_, pi_range1 hg hm p1 hs, fun Z σ ρ H μ Qd R S E h q => h1 Z σ ρ H μ _ _ S E h fun vs ds H1 μ1 S1 s1 r1 q1 => ?_⟩
  obtain ⟨j, rfl, b1, b2, q1⟩ := q1
  obtain ⟨v, rfl, r2⟩ := rp1 r1
  cases r2
  exact ⟨j, rfl, b1, b2, q _ _ _ _ _ S1 s1 jok_rng q1⟩
theorem i_range2 {a b : Expr} {ta : DA} {p : Pos} (hg : Gl X "range") (hm : X.mg "range" = none) (ha : DAs X [a, b] ta) (hs : starEach [a, b] X.env = [(false, eval a X.env), (false, eval b X.env)] := by rfl) (hs2 : starEach [b] X.env = [(false, eval b X.env)] := by rfl) :
    DI X tg (.Call (.Name "range" p) [a, b] [] pos) (dIR2 ta) := by
  obtain ⟨t1, p1, h1⟩ := ha.ex
  refine ⟨_, pi_range2 hg hm p1 hs hs2, fun Z σ ρ H μ Qd R S E h q => h1 Z σ ρ H μ _ _ S E h fun vs ds H1 μ1 S1 s1 r1 q1 => ?_⟩
  obtain ⟨i, j, rfl, b1, q1⟩ := q1
  obtain ⟨v, u, rfl, r2, r3⟩ := rp2 r1
  cases r2
  cases r3
  exact ⟨i, j, rfl, b1, q _ _ _ _ _ S1 s1 jok_rng q1⟩
/-- any step -/
def rngC (lo c : Int) (n : Nat) : List D := (List.range n).map fun (i : Nat) => D.int (lo + (i : Int) * c)
def dIR3 (ta : DA) : DIt := fun ρ μ Q => ta ρ μ fun ds μ1 => ∃ (i j c : Int) (n : Nat), ds = [.int i, .int j, .int c] ∧ RgC i j c n ∧ Q (rngC i c n) (fun _ => True) μ1
theorem i_range3 {a b c : Expr} {ta : DA} {p : Pos} (hg : Gl X "range") (hm : X.mg "range" = none) (ha : DAs X [a, b, c] ta) (hs : starEach [a, b, c] X.env = (false, eval a X.env) :: starEach [b, c] X.env := by rfl)
    (hpl : (backTo pos (starEach [b, c] X.env)).any (fun x => x.1) = false := by rfl) : DI X tg (.Call (.Name "range" p) [a, b, c] [] pos) (dIR3 ta) := by
  obtain ⟨t1, p1, h1⟩ := ha.ex
  refine ⟨_, pi_range3 hg hm p1 hs hpl, fun Z σ ρ H μ Qd R S E h q => h1 Z σ ρ H μ _ _ S E h fun vs ds H1 μ1 S1 s1 r1 q1 => ?_⟩
  obtain ⟨i, j, c', n, rfl, b1, q1⟩ := q1
  cases r1 with
  | cons r2 r1 =>
    obtain ⟨v, u, rfl, r3, r4⟩ := rp2 r1
    cases r2
    cases r3
    cases r4
    refine ⟨i, j, c', n, rfl, b1, q _ _ _ _ _ S1 s1 (fun Z' H μ s S _ => ?_) q1⟩
    have hl : (rngC i c' n).length = n := by
      unfold rngC
      rw [List.length_map, List.length_range]
    refine ⟨fun k hk => by rw [hl] at hk; exact hk, fun k d hd => ?_⟩
    unfold rngC at hd
    rw [List.getElem?_map] at hd
    by_cases h : k < n
    · rw [List.getElem?_range h] at hd
      simp only [Option.map_some, Option.some.injEq] at hd
      subst hd
      refine ⟨h, fun x H' y => ?_⟩
      obtain ⟨rfl, rfl⟩ := y
      exact ⟨S, Stp.refl, .int _⟩
    · rw [List.getElem?_eq_none (by rw [List.length_range]; omega)] at hd
      cases hd

/-! ### for -/
def forGo (g : DG) (tb : DTS) (G : Mu → Prop) (D : DEnds) : List DL.D → Rho → Mu → Prop
  | [], ρ, μ => G μ ∧ D.nx ρ μ
  | d :: ds, ρ, μ => G μ ∧ g d ρ μ fun ρ1 μ1 => tb { D with nx := forGo g tb G D ds, ct := forGo g tb G D ds, bk := D.nx } ρ1 μ1
def dFor (wi : DIt) (g : DG) (tb : DTS) : DTS := fun D ρ μ => wi ρ μ fun items G μ1 => forGo g tb G D items ρ μ1
theorem s_for {body : List Stmt} {wi : DIt} {g : DG} {tb : DTS} (hp : PassesOwn (model X.prog X.w) X.A X.env X.xe) (hc : X.calm = true) (hi : DI X tg iter wi) (hg : DGt X tg g) (hb : DSs X body tb)
    (hs : ∀ x, foldedSetIterable iter X.env x = pure x := by intro _; rfl) : DSt X (.For tg iter body [] pos) (dFor wi g tb) := by
  obtain ⟨t0, p0, h0⟩ := hi.ex
  obtain ⟨t1, p1, h1⟩ := hg.ex
  obtain ⟨t2, p2, h2⟩ := hb.ex
  refine ⟨_, ps_for hp hc p0 p1 p2 hs, fun Z σ ρ H μ Dd D S R h l => h0 Z σ ρ H μ _ _ S R h fun J items G H1 μ1 S1 s1 j q1 => ?_⟩
  refine ⟨fun i m σ' H' => ∃ ρ' μ', i ≤ items.length ∧ m = items.length - i ∧ Sim X.K Z μ' H' ∧ ER X.K Z μ' H' σ' ρ' ∧ Stp μ1 μ' H1 H' ∧ forGo g tb G Dd (items.drop i) ρ' μ',
    ⟨items.length - 0, ρ, μ1, Nat.zero_le _, rfl, S1, R.stp s1, Stp.refl, q1⟩, fun i m σ' H' hW => ?_⟩
  obtain ⟨ρ', μ', hi, rfl, S', R', s', q'⟩ := hW
  by_cases hlt : i < items.length
  · obtain ⟨d, hd⟩ : ∃ d, items[i]? = some d := ⟨_, List.getElem?_eq_getElem hlt⟩
    have ed : items.drop i = d :: items.drop (i + 1) := by
      rw [List.drop_eq_getElem_cons hlt]
      rw [List.getElem?_eq_getElem hlt] at hd
      cases hd
      rfl
    rw [ed] at q'
    obtain ⟨gm, q'⟩ := q'
    obtain ⟨go, yl⟩ := (j Z H' μ' (kp_of (fun _ _ _ c => c) s') S' gm).2 i d hd
    refine .inr ⟨go, fun σ2 H2 => ∃ ρ2 μ2, Sim X.K Z μ2 H2 ∧ ER X.K Z μ2 H2 σ2 ρ2 ∧ Stp μ1 μ2 H1 H2 ∧ forGo g tb G Dd (items.drop (i + 1)) ρ2 μ2, fun σ2 H2 hN => ?_, fun x H2 y => ?_⟩
    · obtain ⟨ρ2, μ2, S2, R2, s2, q2⟩ := hN
      exact ⟨items.length - (i + 1), by omega, ρ2, μ2, hlt, rfl, S2, R2, s2, q2⟩
    · obtain ⟨S2, s2, r2⟩ := yl x H2 y
      refine h1 Z σ' ρ' H2 μ' x d _ _ S2 (R'.stp s2) r2 q' fun σ3 ρ3 H3 μ3 S3 R3 s3 q3 => ?_
      have s03 : Stp μ1 μ3 H1 H3 := (s'.trans s2).trans s3
      refine h2 Z σ3 ρ3 H3 μ3 _ _ S3 R3 q3 ⟨fun σ4 ρ4 H4 μ4 S4 R4 s4 q4 => ⟨ρ4, μ4, S4, R4, s03.trans s4, q4⟩, ?_, ?_, fun σ4 ρ4 H4 μ4 S4 R4 s4 q4 => ⟨ρ4, μ4, S4, R4, s03.trans s4, q4⟩⟩
      · exact l.rt.step (s1.trans s03)
      · exact l.nx.step (s1.trans s03)
  · have e : i = items.length := by omega
    subst e
    rw [List.drop_length] at q'
    obtain ⟨gm, q'⟩ := q'
    exact .inl ⟨(j Z H' μ' (kp_of (fun _ _ _ c => c) s') S' gm).1 _ (Nat.le_refl _), l.nx _ _ _ _ S' R' (s1.trans s') q'⟩
/-- by an invariant of the turn -/
theorem for_inv {g : DG} {tb : DTS} {G : Mu → Prop} {D : DEnds} {items : List DL.D} {ρ : Rho} {μ : Mu} (P : Nat → Rho → Mu → Prop) (h0 : P 0 ρ μ) (hG : ∀ i ρ μ, i ≤ items.length → P i ρ μ → G μ)
    (hs : ∀ (i : Nat) d ρ μ (N : Rho → Mu → Prop), items[i]? = some d → P i ρ μ → (∀ ρ μ, P (i + 1) ρ μ → N ρ μ) → g d ρ μ fun ρ1 μ1 => tb { D with nx := N, ct := N, bk := D.nx } ρ1 μ1) (hd : ∀ ρ μ, P items.length ρ μ → D.nx ρ μ) : forGo g tb G D items ρ μ := by
  have go : ∀ (n i : Nat) (ρ : Rho) (μ : Mu), i + n = items.length → P i ρ μ → forGo g tb G D (items.drop i) ρ μ := by
    intro n
    induction n with
    | zero =>
      intro i ρ μ e p
      have e' : i = items.length := by omega
      subst e'
      rw [List.drop_length]
      exact ⟨hG _ _ _ (Nat.le_refl _) p, hd _ _ p⟩
    | succ n ih =>
      intro i ρ μ e p
      have hlt : i < items.length := by omega
      rw [List.drop_eq_getElem_cons hlt]
      exact ⟨hG _ _ _ (by omega) p, hs i _ ρ μ _ (List.getElem?_eq_getElem hlt) p fun ρ2 μ2 q2 => ih (i + 1) ρ2 μ2 (by omega) q2⟩
  exact go items.length 0 ρ μ (by omega) h0

/-! ### while -/
def dWhile (c : DB) (tb : DTS) : DTS := fun D ρ μ => ∃ W : Nat → Rho → Mu → Prop, (∃ m, W m ρ μ) ∧ ∀ m ρ μ, W m ρ μ → c ρ μ fun b μ1 => if b = true then
  tb { D with nx := fun ρ' μ' => ∃ m', m' < m ∧ W m' ρ' μ', ct := fun ρ' μ' => ∃ m', m' < m ∧ W m' ρ' μ', bk := D.nx } ρ μ1 else D.nx ρ μ1
theorem s_while {c : Expr} {body : List Stmt} {tc : DB} {tb : DTS} (hp : PassesOwn (model X.prog X.w) X.A X.env X.xe) (hc : DC X c tc) (hb : DSs X body tb) : DSt X (.While c body [] pos) (dWhile tc tb) := by
  obtain ⟨t0, p0, h0⟩ := hc.ex
  obtain ⟨t2, p2, h2⟩ := hb.ex
  refine ⟨_, ps_while hp p0 p2, fun Z σ ρ H μ Dd D S R h l => ?_⟩
  obtain ⟨W, ⟨m0, w0⟩, turn⟩ := h
  refine ⟨fun m σ' H' => ∃ ρ' μ', Sim X.K Z μ' H' ∧ ER X.K Z μ' H' σ' ρ' ∧ Stp μ μ' H H' ∧ W m ρ' μ', ⟨m0, ρ, μ, S, R, Stp.refl, w0⟩, fun m σ' H' hW => ?_⟩
  obtain ⟨ρ', μ', S', R', s', w'⟩ := hW
  refine h0 Z σ' ρ' H' μ' _ _ S' R' (turn m ρ' μ' w') fun b H1 μ1 S1 s1 q1 => ?_
  cases b with
  | false => exact l.nx _ _ _ _ S1 (R'.stp s1) (s'.trans s1) q1
  | true =>
    refine ⟨fun σ2 H2 => ∃ ρ2 μ2, Sim X.K Z μ2 H2 ∧ ER X.K Z μ2 H2 σ2 ρ2 ∧ Stp μ μ2 H H2 ∧ ∃ m', m' < m ∧ W m' ρ2 μ2, fun σ2 H2 hN => ?_, ?_⟩
    · obtain ⟨ρ2, μ2, S2, R2, s2, m', hm, w2⟩ := hN
      exact ⟨m', hm, ρ2, μ2, S2, R2, s2, w2⟩
    · have s01 := s'.trans s1
      exact h2 Z σ' ρ' H1 μ1 _ _ S1 (R'.stp s1) q1 ⟨fun σ4 ρ4 H4 μ4 S4 R4 s4 q4 => ⟨ρ4, μ4, S4, R4, s01.trans s4, q4⟩, l.rt.step s01, l.nx.step s01, fun σ4 ρ4 H4 μ4 S4 R4 s4 q4 => ⟨ρ4, μ4, S4, R4, s01.trans s4, q4⟩⟩
/-- by an invariant and a measure of the state -/
theorem while_inv {c : DB} {tb : DTS} {D : DEnds} {ρ : Rho} {μ : Mu} (P : Nat → Rho → Mu → Prop) (m0 : Nat) (h0 : P m0 ρ μ)
    (hs : ∀ m ρ μ (N : Rho → Mu → Prop), P m ρ μ → (∀ m' ρ μ, m' < m → P m' ρ μ → N ρ μ) → c ρ μ fun b μ1 => if b = true then tb { D with nx := N, ct := N, bk := D.nx } ρ μ1 else D.nx ρ μ1) : dWhile c tb D ρ μ :=
  ⟨P, ⟨m0, h0⟩, fun m ρ μ p => hs m ρ μ _ p fun m' ρ μ hm q => ⟨m', hm, q⟩⟩
end
end DL

namespace DL
open PySem PySem.Spec PyProof.Rows L2

section
variable {K : PySem.W.Frag} {Z Z' : Zt} {μ μ' : Mu} {H H' : Hp}
/-- data over any change that keeps what is cold -/
theorem Ob.go {a : Addr} {m : MO} (h : ∀ a o, H a = some o → Cold μ Z a → H' a = some o ∧ Cold μ' Z' a) (e : H' a = H a) (q : Ob K Z μ H a m) : Ob K Z' μ' H' a m := by
  cases q with
  | lst q r => exact .lst (e.trans q) (r.go h)
  | dk q k r => exact .dk (e.trans q) k (r.go h)
  | dt q n k kr r => exact .dt (e.trans q) n k (kr.go h) (r.go h)
  | ins q k r => exact .ins (e.trans q) k (r.go h)
theorem zw_cold {p : Addr} {o : HO} (hz : Z p) : ∀ a u, H a = some u → Cold μ Z a → upd H p o a = some u ∧ Cold μ Z a := fun a u e c => by
  have ha : a ≠ p := fun q => c.2 (by rw [q]; exact hz)
  exact ⟨by rw [upd_ne ha]; exact e, c⟩
/-- an object that stands apart is written -/
theorem Sim.zwrite {p : Addr} {o : HO} (S : Sim K Z μ H) (hz : Z p) : Sim K Z μ (upd H p o) := by
  refine ⟨fun a m e => ?_, fun a z => ?_⟩
  · have ha : a ≠ p := fun q => by
      have := (S.z p hz).2
      rw [← q, e] at this
      cases this
    exact (S.ob a m e).go (zw_cold hz) (upd_ne ha)
  · by_cases ha : a = p
    · subst ha
      exact ⟨fun q => (by rw [upd_same] at q; cases q), (S.z a hz).2⟩
    · rw [upd_ne ha]
      exact S.z a z
def zadd (Z : Zt) (p : Addr) : Zt := fun a => Z a ∨ a = p
/-- a new object that stands apart -/
theorem Sim.znew {p : Addr} {o : HO} (S : Sim K Z μ H) (hp : H p = none) : Sim K (zadd Z p) μ (upd H p o) := by
  have hc : ∀ a u, H a = some u → Cold μ Z a → upd H p o a = some u ∧ Cold μ (zadd Z p) a := fun a u e c => by
    have ha := ne_of_none e hp
    exact ⟨by rw [upd_ne ha]; exact e, c.1, fun z => z.elim c.2 ha⟩
  refine ⟨fun a m e => ?_, fun a z => ?_⟩
  · have ha : a ≠ p := fun q => by
      have := S.free hp
      rw [← q, e] at this
      cases this
    exact (S.ob a m e).go hc (upd_ne ha)
  · rcases z with z | z
    · have ha : a ≠ p := fun q => (S.z a z).1 (by rw [q]; exact hp)
      rw [upd_ne ha]
      exact S.z a z
    · subst z
      exact ⟨fun q => (by rw [upd_same] at q; cases q), S.free hp⟩
/-- fewer objects stand apart -/
theorem Sim.zless (S : Sim K Z' μ H) (h : ∀ a, Z a → Z' a) : Sim K Z μ H :=
  ⟨fun a m e => (S.ob a m e).go (fun a o e c => ⟨e, c.1, fun z => c.2 (h a z)⟩) rfl, fun a z => S.z a (h a z)⟩
end

/-! ### comprehensions -/
theorem wipe_set (i : Nat) (x : Option V) : ∀ (vs : List Nat) (σ : L2.St), wipe (σ.set i x) vs = if i ∈ vs then wipe σ vs else (wipe σ vs).set i x
  | [], σ => by simp [wipe]
  | v :: vs, σ => by
    have ih := wipe_set i x vs σ
    show (wipe (σ.set i x) vs).set v none = if i ∈ v :: vs then (wipe σ vs).set v none else ((wipe σ vs).set v none).set i x
    rw [ih]
    by_cases h : i ∈ vs
    · rw [if_pos h, if_pos (List.mem_cons_of_mem _ h)]
    · rw [if_neg h]
      by_cases e : i = v
      · subst e
        rw [if_pos List.mem_cons_self, List.set_set]
      · rw [if_neg (by rw [List.mem_cons]; exact fun q => q.elim e h), List.set_comm _ _ e]
theorem wipe_wipe {vs : List Nat} {σ : L2.St} : ∀ ws : List Nat, (∀ i ∈ ws, i ∈ vs) → wipe (wipe σ ws) vs = wipe σ vs
  | [], _ => rfl
  | w :: ws, h => by
    show wipe ((wipe σ ws).set w none) vs = wipe σ vs
    rw [wipe_set, if_pos (h w List.mem_cons_self), wipe_wipe ws fun i hi => h i (List.mem_cons_of_mem _ hi)]
/-- a target that stores to the names at vs alone -/
structure DGc (X : Cx) (tg : Expr) (g : DG) (vs : List Nat) : Prop where
  ex : ∃ t, PG X tg t ∧ ∀ Z σ ρ H μ v d Qd (Q : L2.St → Hp → Prop), Sim X.K Z μ H → ER X.K Z μ H σ ρ → Rp X.K Z μ H v d → g d ρ μ Qd →
    (∀ σ' ρ' H' μ', Sim X.K Z μ' H' → ER X.K Z μ' H' σ' ρ' → Stp μ μ' H H' → wipe σ' vs = wipe σ vs → Qd ρ' μ' → Q σ' H') → t v σ H Q
structure DGcs (X : Cx) (tgs : List Expr) (g : DGl) (vs : List Nat) : Prop where
  ex : ∃ t, PGs X tgs t ∧ ∀ Z σ ρ H μ us ds Qd (Q : L2.St → Hp → Prop), Sim X.K Z μ H → ER X.K Z μ H σ ρ → RpAll X.K Z μ H us ds → g ds ρ μ Qd →
    (∀ σ' ρ' H' μ', Sim X.K Z μ' H' → ER X.K Z μ' H' σ' ρ' → Stp μ μ' H H' → wipe σ' vs = wipe σ vs → Qd ρ' μ' → Q σ' H') → t us σ H Q
def upG (K : PySem.W.Frag) (vs : List Nat) (g : DG) : TG := fun v σ H Q => ∃ Z ρ μ d Qd, Sim K Z μ H ∧ ER K Z μ H σ ρ ∧ Rp K Z μ H v d ∧ g d ρ μ Qd ∧
  ∀ σ' ρ' H' μ', Sim K Z μ' H' → ER K Z μ' H' σ' ρ' → Stp μ μ' H H' → wipe σ' vs = wipe σ vs → Qd ρ' μ' → Q σ' H'
section
variable {X : Cx} {pos : Pos} {vs : List Nat}
theorem DGc.up {tg : Expr} {g : DG} (h : DGc X tg g vs) : PG X tg (upG X.K vs g) := by
  obtain ⟨t, p, h⟩ := h.ex
  exact ⟨fun pins s σ H v u Q I r ⟨Z, ρ, μ, d, Qd, S, R, rd, hh, q⟩ => p.run pins s σ H v u Q I r (h Z σ ρ H μ v d Qd Q S R rd hh q)⟩
theorem gc_name {i : Nat} {x : Str} (hN : X.N.Nodup) (hi : X.N[i]? = some x) (hx : Loc X.env.scope x) (hv : i ∈ vs) (hf : X.fn x = true ∨ X.env.scope.names.lookup x = some .local := by first | exact .inl rfl | exact .inr rfl | assumption) : DGc X (.Name x pos) (gN i) vs :=
  ⟨_, pg_name hN hi hx hf, fun Z σ ρ H μ v d Qd Q S R r h q => q _ _ _ _ S (R.set i r) Stp.refl (by rw [wipe_set, if_pos hv]) h⟩
theorem gcs_nil : DGcs X [] gsNil vs := ⟨_, pgs_nil, fun Z σ ρ H μ us ds Qd Q S R r h q => by
  obtain ⟨rfl, h⟩ := h
  cases r
  exact ⟨rfl, q _ _ _ _ S R Stp.refl rfl h⟩⟩
theorem gcs_cons {e : Expr} {es : List Expr} {g : DG} {gs : DGl} (h1 : DGc X e g vs) (h2 : DGcs X es gs vs) (hs : (assignEach (e :: es) X.env).map (·.2) = assign e X.env :: (assignEach es X.env).map (·.2) := by rfl) : DGcs X (e :: es) (gsCons g gs) vs := by
  obtain ⟨t1, p1, h1⟩ := h1.ex
  obtain ⟨t2, p2, h2⟩ := h2.ex
  refine ⟨_, pgs_cons p1 p2 hs, fun Z σ ρ H μ us ds Qd Q S R r h q => ?_⟩
  obtain ⟨d, dr, rfl, h⟩ := h
  cases r with
  | cons r rr =>
    refine ⟨_, _, rfl, h1 Z σ ρ H μ _ _ _ _ S R r h fun σ1 ρ1 H1 μ1 S1 R1 s1 w1 q1 => ?_⟩
    exact h2 Z σ1 ρ1 H1 μ1 _ _ _ _ S1 R1 (rr.stp s1) q1 fun σ2 ρ2 H2 μ2 S2 R2 s2 w2 q2 => q _ _ _ _ S2 R2 (s1.trans s2) (w2.trans w1) q2
theorem gc_tup {es : List Expr} {k : Nat} {gs : DGl} {n : Nat} (hc : X.calm = true) (h : DGcs X es gs vs) (hn : (assignEach es X.env).length = n := by rfl) (hst : (assignEach es X.env).findIdx? (·.1) = none := by rfl) : DGc X (.Tuple es k pos) (gTp n gs) vs := by
  obtain ⟨t1, p1, h1⟩ := h.ex
  refine ⟨_, pg_tup hc p1 hn hst, fun Z σ ρ H μ v d Qd Q S R r h q => ?_⟩
  obtain ⟨ds, rfl, hl, h⟩ := h
  obtain ⟨a, xs, rfl, _, hq, _, t⟩ := see_tup_inv (μ := μ) r rfl
  exact ⟨a, xs, rfl, hq, by rw [t.length]; exact hl, h1 Z σ ρ H μ _ _ _ _ S R t h q⟩
/-- the tests of a clause -/
structure DCs (X : Cx) (ifs : List Expr) (t : DB) : Prop where
  ex : PTs X ifs (upC X.K t)
def dYes : DB := fun _ μ Q => Q true μ
theorem cs_nil : DCs X [] dYes := ⟨⟨fun pins s σ H Q I ⟨Z, ρ, μ, Qd, S, R, hh, q⟩ => pts_nil.run pins s σ H Q I (q true H μ S Stp.refl hh)⟩⟩
theorem cs_one {c : Expr} {t : DB} (h : DC X c t) : DCs X [c] t := ⟨pts_one h.up⟩
def lcGo (g : DG) (tt : DB) (te : DT) (G : Mu → Prop) (ρ0 : Rho) (Q : List D → Mu → Prop) : List D → List D → Mu → Prop
  | [], acc, μ => G μ ∧ Q acc μ
  | d :: ds, acc, μ => G μ ∧ g d ρ0 μ fun ρ2 μ2 => tt ρ2 μ2 fun b μ3 => if b = true then te ρ2 μ3 fun y μ4 => acc.length < sizeLine ∧ lcGo g tt te G ρ0 Q ds (acc ++ [y]) μ4 else lcGo g tt te G ρ0 Q ds acc μ3
def dLc (wi : DIt) (g : DG) (tt : DB) (te : DT) (vs : List Nat) : DT := fun ρ μ Q => wi ρ μ fun items G μ1 => lcGo g tt te G (dwipe ρ vs) (fun acc μ' => Q (.lst acc) μ') items [] μ1
def dLcM (wi : DIt) (g : DG) (tt : DB) (te : DT) (vs : List Nat) : DT := fun ρ μ Q => wi ρ μ fun items G μ1 => lcGo g tt te G (dwipe ρ vs) (fun acc μ' => ∀ p, μ' p = none → Q (.ref p) (mput μ' p (.lst acc))) items [] μ1
/-- the loop of a comprehension -/
theorem lc_run {wi : DIt} {g : DG} {tt : DB} {te : DT} {w : TI} {σ : L2.St} {ρ : Rho} {H : Hp} {μ : Mu} {Z : Zt} {Q : VK} {W : List D → Mu → Prop}
    (h0 : ∀ Z σ ρ H μ Qd (R : It → Hp → Prop), Sim X.K Z μ H → ER X.K Z μ H σ ρ → wi ρ μ Qd → (∀ J items G H' μ', Sim X.K Z μ' H' → Stp μ μ' H H' → JOk X.K Z H' μ' J items G → Qd items G μ' → R J H') → w σ H R)
    (S : Sim X.K Z μ H) (R : ER X.K Z μ H σ ρ) (h : wi ρ μ fun items G μ1 => lcGo g tt te G (dwipe ρ vs) W items [] μ1)
    (fin : ∀ p xs ds H' μ', Sim X.K Z μ' H' → Stp μ μ' H H' → (∀ a o, H a = some o → μ a = none → a ≠ p) → H' p = some (.lst xs) → Cold μ' Z p → RpAll X.K Z μ' H' xs ds → Sim X.K (zadd Z p) μ' H' → RpAll X.K (zadd Z p) μ' H' xs ds → W ds μ' → Q (.ref p) H') :
    tLc w (upG X.K vs g) (upC X.K tt) (upE X.K te) vs σ H Q := by
  refine h0 Z σ ρ H μ _ _ S R h fun J items G H1 μ1 S1 s1 j q1 => fun p hp => ?_
  have np : ¬ Z p := fun z => (S1.z p z).1 hp
  have hzj : ∀ a o, H1 a = some o → Cold μ1 Z a → Cold μ1 (zadd Z p) a := fun a o e c => ⟨c.1, fun z => z.elim c.2 (ne_of_none e hp)⟩
  have S2 : Sim X.K (zadd Z p) μ1 (upd H1 p (.lst [])) := S1.znew hp
  have s2 : Stp μ1 μ1 H1 (upd H1 p (.lst [])) := Stp.new hp
  have R1 : ER X.K Z μ1 H1 σ ρ := R.stp s1
  have R2 : ER X.K (zadd Z p) μ1 (upd H1 p (.lst [])) (wipe σ vs) (dwipe ρ vs) := ((R1.zmono hzj).stp s2).wipe vs
  have keep : ∀ {μ' : Mu} {H' : Hp} {xs ys : List V}, Sim X.K (zadd Z p) μ' H' → Stp μ1 μ' H1 H' → H' p = some (.lst xs) → Stp μ1 μ' H1 (upd H' p (.lst ys)) := fun {μ' H' xs ys} S' s' e a o h1 h2 => by
    have ha := ne_of_none h1 hp
    rw [upd_ne ha]
    exact s' a o h1 h2
  refine ⟨fun i m H' => ∃ μ' xs acc, i ≤ items.length ∧ m = items.length - i ∧ Sim X.K (zadd Z p) μ' H' ∧ Stp μ1 μ' H1 H' ∧ H' p = some (.lst xs) ∧ RpAll X.K (zadd Z p) μ' H' xs acc ∧ ER X.K (zadd Z p) μ' H' (wipe σ vs) (dwipe ρ vs) ∧ lcGo g tt te G (dwipe ρ vs) W (items.drop i) acc μ',
    ⟨items.length - 0, μ1, [], [], Nat.zero_le _, rfl, S2, s2, upd_same, .nil, R2, q1⟩, fun i m H' hW => ?_⟩
  obtain ⟨μ', xs, acc, hi, rfl, S', s', eD, rx, R', q'⟩ := hW
  by_cases hlt : i < items.length
  · obtain ⟨d, hd⟩ : ∃ d, items[i]? = some d := ⟨_, List.getElem?_eq_getElem hlt⟩
    have ed : items.drop i = d :: items.drop (i + 1) := by
      rw [List.drop_eq_getElem_cons hlt]
      rw [List.getElem?_eq_getElem hlt] at hd
      cases hd
      rfl
    rw [ed] at q'
    obtain ⟨gm, q'⟩ := q'
    obtain ⟨go, yl⟩ := (j (zadd Z p) H' μ' (kp_of hzj s') S' gm).2 i d hd
    refine .inr ⟨go, fun H3 => ∃ μ3 xs acc, Sim X.K (zadd Z p) μ3 H3 ∧ Stp μ1 μ3 H1 H3 ∧ H3 p = some (.lst xs) ∧ RpAll X.K (zadd Z p) μ3 H3 xs acc ∧ ER X.K (zadd Z p) μ3 H3 (wipe σ vs) (dwipe ρ vs) ∧ lcGo g tt te G (dwipe ρ vs) W (items.drop (i + 1)) acc μ3, fun H3 hN => ?_, fun x H3 y => ?_⟩
    · obtain ⟨μ3, xs, acc, a1, a2, a3, a4, a5, a6⟩ := hN
      exact ⟨items.length - (i + 1), by omega, μ3, xs, acc, hlt, rfl, a1, a2, a3, a4, a5, a6⟩
    · obtain ⟨S3, s3, r3⟩ := yl x H3 y
      have stay : ∀ {μ4 : Mu} {H4 : Hp}, Stp μ' μ4 H' H4 → H4 p = some (.lst xs) := fun {μ4 H4} s => (s p _ eD (S'.z p (.inr rfl)).2).1
      refine ⟨zadd Z p, dwipe ρ vs, μ', d, _, S3, R'.stp s3, r3, q', fun σ4 ρ4 H4 μ4 S4 R4 s4 w4 q4 => ⟨w4.trans (wipe_wipe vs fun _ h => h), ?_⟩⟩
      have s34 := s3.trans s4
      refine ⟨zadd Z p, ρ4, μ4, _, S4, R4, q4, fun b H5 μ5 S5 s5 q5 => ?_⟩
      have s35 := s34.trans s5
      cases b with
      | false => exact ⟨μ5, xs, acc, S5, s'.trans s35, stay s35, rx.stp s35, R'.stp s35, q5⟩
      | true =>
        refine ⟨zadd Z p, ρ4, μ5, _, S5, R4.stp s5, q5, fun yv yd H6 μ6 S6 s6 r6 q6 => ?_⟩
        have s36 := s35.trans s6
        have hD := stay s36
        have zp : zadd Z p p := .inr rfl
        refine ⟨xs, hD, by rw [rx.length]; exact q6.1, μ6, xs ++ [yv], acc ++ [yd], S6.zwrite zp, keep S6 (s'.trans s36) hD, upd_same, (((rx.stp s36).append (.cons r6 .nil))).go (zw_cold zp), ?_, q6.2⟩
        have R6 := R'.stp s36
        exact ⟨R6.len, fun i d e => let ⟨v, h1, h2⟩ := R6.at_ i d e; ⟨v, h1, h2.go (zw_cold zp)⟩⟩
  · have e : i = items.length := by omega
    subst e
    rw [List.drop_length] at q'
    obtain ⟨gm, q'⟩ := q'
    refine .inl ⟨(j (zadd Z p) H' μ' (kp_of hzj s') S' gm).1 _ (Nat.le_refl _), ?_⟩
    have mp := (S'.z p (.inr rfl)).2
    refine fin p xs acc H' μ' (S'.zless fun a z => .inl z) (s1.trans s') (fun a o e1 e2 => ?_) eD ⟨mp, np⟩ (rx.go fun a o e c => ⟨e, c.1, fun z => c.2 (.inl z)⟩) S' rx q'
    exact ne_of_none (s1 a o e1 e2).1 hp
variable {tg iter elt : Expr} {ifs : List Expr} {scope : Scope} {own : List (Str × Nat)} {wi : DIt} {g : DG} {tt : DB} {te : DT}
theorem d_lc (hc : X.calm = true) (hN : X.N.Nodup) (hi : DI X tg iter wi) (ok : BlkOk X.N X.env.scope scope own)
    (hg : ∀ (s : Shared) (H : Hp) (C : Addr) (cl : List (Str × Addr)) (fp : List Addr), DGc (X.blk s H scope (compEnvC scope cl C X.env) fp) tg g (own.map (·.2))) (ht : ∀ (s : Shared) (H : Hp) (C : Addr) (cl : List (Str × Addr)) (fp : List Addr), DCs (X.blk s H scope (compEnvC scope cl C X.env) fp) ifs tt)
    (he : ∀ (s : Shared) (H : Hp) (C : Addr) (cl : List (Str × Addr)) (fp : List Addr), DE (X.blk s H scope (compEnvC scope cl C X.env) fp) elt te) (hs : ∀ x, foldedSetIterable iter X.env x = pure x := by intro _; rfl) :
    DE X (.ListComp elt [⟨tg, iter, ifs, 0⟩] scope pos) (dLc wi g tt te (own.map (·.2))) := by
  obtain ⟨w, p, h0⟩ := hi.ex
  refine ⟨_, pe_lc (g := upG X.K (own.map (·.2)) g) (tt := upC X.K tt) (te := upE X.K te) hc hN p ok (fun s H C cl fp => (hg s H C cl fp).up) (fun s H C cl fp => (ht s H C cl fp).ex) (fun s H C cl fp => (he s H C cl fp).up) hs, fun Z σ ρ H μ Qd Q S R h q => ?_⟩
  exact lc_run h0 S R h fun p xs ds H' μ' S' s' _ e c r _ _ hQ => q _ _ _ _ S' s' (.lst e c r) hQ
theorem fin_M {Z : Zt} {H H' : Hp} {μ μ' : Mu} {p : Addr} {xs : List V} {ds : List D} (S' : Sim X.K (zadd Z p) μ' H') (s' : Stp μ μ' H H') (np : ∀ a o, H a = some o → μ a = none → a ≠ p) (e : H' p = some (.lst xs)) (c : Cold μ' Z p) (r : RpAll X.K (zadd Z p) μ' H' xs ds) :
    Sim X.K Z (mput μ' p (.lst ds)) H' ∧ Stp μ (mput μ' p (.lst ds)) H H' := by
  have hc : ∀ a o, H' a = some o → Cold μ' (zadd Z p) a → H' a = some o ∧ Cold (mput μ' p (.lst ds)) Z a := fun a o e c => ⟨e, by rw [mput_ne fun q => c.2 (.inr q)]; exact c.1, fun z => c.2 (.inl z)⟩
  refine ⟨⟨fun a m h => ?_, fun a z => ?_⟩, fun a o h1 h2 => ⟨(s' a o h1 h2).1, by rw [mput_ne (np a o h1 h2)]; exact (s' a o h1 h2).2⟩⟩
  · by_cases ha : a = p
    · subst ha
      rw [mput_same] at h
      cases h
      exact .lst e (r.go hc)
    · rw [mput_ne ha] at h
      exact (S'.ob a m h).go hc rfl
  · have ha : a ≠ p := fun q => c.2 (by rw [← q]; exact z)
    rw [mput_ne ha]
    exact S'.z a (.inl z)
theorem d_lcM (hc : X.calm = true) (hN : X.N.Nodup) (hi : DI X tg iter wi) (ok : BlkOk X.N X.env.scope scope own)
    (hg : ∀ (s : Shared) (H : Hp) (C : Addr) (cl : List (Str × Addr)) (fp : List Addr), DGc (X.blk s H scope (compEnvC scope cl C X.env) fp) tg g (own.map (·.2))) (ht : ∀ (s : Shared) (H : Hp) (C : Addr) (cl : List (Str × Addr)) (fp : List Addr), DCs (X.blk s H scope (compEnvC scope cl C X.env) fp) ifs tt)
    (he : ∀ (s : Shared) (H : Hp) (C : Addr) (cl : List (Str × Addr)) (fp : List Addr), DE (X.blk s H scope (compEnvC scope cl C X.env) fp) elt te) (hs : ∀ x, foldedSetIterable iter X.env x = pure x := by intro _; rfl) :
    DE X (.ListComp elt [⟨tg, iter, ifs, 0⟩] scope pos) (dLcM wi g tt te (own.map (·.2))) := by
  obtain ⟨w, p, h0⟩ := hi.ex
  refine ⟨_, pe_lc (g := upG X.K (own.map (·.2)) g) (tt := upC X.K tt) (te := upE X.K te) hc hN p ok (fun s H C cl fp => (hg s H C cl fp).up) (fun s H C cl fp => (ht s H C cl fp).ex) (fun s H C cl fp => (he s H C cl fp).up) hs, fun Z σ ρ H μ Qd Q S R h q => ?_⟩
  refine lc_run h0 S R h fun p xs ds H' μ' S' s' np e c r S2 r2 hQ => ?_
  obtain ⟨h1, h2⟩ := fin_M (X := X) S2 s' np e c r2
  exact q _ _ _ _ h1 h2 (.ref p) (hQ p c.1)
/-- y = [..] -/
theorem s_setLc {i : Nat} {y : Str} {py spos : Pos} (hc : X.calm = true) (hN : X.N.Nodup) (hy : X.N[i]? = some y) (hyl : X.env.scope.names.lookup y = some .local)
    (hsw : swapsWith (.ListComp elt [⟨tg, iter, ifs, 0⟩] scope pos) (some (.Name y py)) spos.line X.env = pure true) (hi : DI X tg iter wi) (ok : BlkOk X.N X.env.scope scope own)
    (hg : ∀ (s : Shared) (H : Hp) (C : Addr) (cl : List (Str × Addr)) (fp : List Addr), DGc (X.blk s H scope (compEnvC scope cl C X.env) fp) tg g (own.map (·.2))) (ht : ∀ (s : Shared) (H : Hp) (C : Addr) (cl : List (Str × Addr)) (fp : List Addr), DCs (X.blk s H scope (compEnvC scope cl C X.env) fp) ifs tt)
    (he : ∀ (s : Shared) (H : Hp) (C : Addr) (cl : List (Str × Addr)) (fp : List Addr), DE (X.blk s H scope (compEnvC scope cl C X.env) fp) elt te) (hs : ∀ x, foldedSetIterable iter X.env x = pure x := by intro _; rfl) :
    DSt X (.Assign [.Name y py] (.ListComp elt [⟨tg, iter, ifs, 0⟩] scope pos) spos) (dAsg (dLc wi g tt te (own.map (·.2))) (gN i)) := by
  obtain ⟨w, p, h0⟩ := hi.ex
  refine ⟨_, ps_setLc (g := upG X.K (own.map (·.2)) g) (tt := upC X.K tt) (te := upE X.K te) hc hN hy hyl hsw p ok (fun s H C cl fp => (hg s H C cl fp).up) (fun s H C cl fp => (ht s H C cl fp).ex) (fun s H C cl fp => (he s H C cl fp).up) hs, fun Z σ ρ H μ Dd D S R h l => ?_⟩
  exact lc_run h0 S R h fun p xs ds H' μ' S' s' _ e c r _ _ hQ => l.nx _ _ _ _ S' ((R.stp s').set i (.lst e c r)) s' hQ
theorem s_setLcM {i : Nat} {y : Str} {py spos : Pos} (hc : X.calm = true) (hN : X.N.Nodup) (hy : X.N[i]? = some y) (hyl : X.env.scope.names.lookup y = some .local)
    (hsw : swapsWith (.ListComp elt [⟨tg, iter, ifs, 0⟩] scope pos) (some (.Name y py)) spos.line X.env = pure true) (hi : DI X tg iter wi) (ok : BlkOk X.N X.env.scope scope own)
    (hg : ∀ (s : Shared) (H : Hp) (C : Addr) (cl : List (Str × Addr)) (fp : List Addr), DGc (X.blk s H scope (compEnvC scope cl C X.env) fp) tg g (own.map (·.2))) (ht : ∀ (s : Shared) (H : Hp) (C : Addr) (cl : List (Str × Addr)) (fp : List Addr), DCs (X.blk s H scope (compEnvC scope cl C X.env) fp) ifs tt)
    (he : ∀ (s : Shared) (H : Hp) (C : Addr) (cl : List (Str × Addr)) (fp : List Addr), DE (X.blk s H scope (compEnvC scope cl C X.env) fp) elt te) (hs : ∀ x, foldedSetIterable iter X.env x = pure x := by intro _; rfl) :
    DSt X (.Assign [.Name y py] (.ListComp elt [⟨tg, iter, ifs, 0⟩] scope pos) spos) (dAsg (dLcM wi g tt te (own.map (·.2))) (gN i)) := by
  obtain ⟨w, p, h0⟩ := hi.ex
  refine ⟨_, ps_setLc (g := upG X.K (own.map (·.2)) g) (tt := upC X.K tt) (te := upE X.K te) hc hN hy hyl hsw p ok (fun s H C cl fp => (hg s H C cl fp).up) (fun s H C cl fp => (ht s H C cl fp).ex) (fun s H C cl fp => (he s H C cl fp).up) hs, fun Z σ ρ H μ Dd D S R h l => ?_⟩
  refine lc_run h0 S R h fun p xs ds H' μ' S' s' np e c r S2 r2 hQ => ?_
  obtain ⟨h1, h2⟩ := fin_M (X := X) S2 s' np e c r2
  exact l.nx _ _ _ _ h1 ((R.stp h2).set i (.ref p)) h2 (hQ p c.1)
end
/-- a comprehension by an invariant of the turn -/
theorem lc_inv {g : DG} {tt : DB} {te : DT} {G : Mu → Prop} {ρ0 : Rho} {Q : List D → Mu → Prop} {items : List D} {μ : Mu} (P : Nat → List D → Mu → Prop) (h0 : P 0 [] μ) (hG : ∀ i acc μ, i ≤ items.length → P i acc μ → G μ)
    (hs : ∀ (i : Nat) d acc μ (N : List D → Mu → Prop), items[i]? = some d → P i acc μ → (∀ acc μ, P (i + 1) acc μ → N acc μ) →
      g d ρ0 μ fun ρ2 μ2 => tt ρ2 μ2 fun b μ3 => if b = true then te ρ2 μ3 fun y μ4 => acc.length < sizeLine ∧ N (acc ++ [y]) μ4 else N acc μ3)
    (hd : ∀ acc μ, P items.length acc μ → Q acc μ) : lcGo g tt te G ρ0 Q items [] μ := by
  have go : ∀ (n i : Nat) (acc : List D) (μ : Mu), i + n = items.length → P i acc μ → lcGo g tt te G ρ0 Q (items.drop i) acc μ := by
    intro n
    induction n with
    | zero =>
      intro i acc μ e p
      have e' : i = items.length := by omega
      subst e'
      rw [List.drop_length]
      exact ⟨hG _ _ _ (Nat.le_refl _) p, hd _ _ p⟩
    | succ n ih =>
      intro i acc μ e p
      have hlt : i < items.length := by omega
      rw [List.drop_eq_getElem_cons hlt]
      exact ⟨hG _ _ _ (by omega) p, hs i _ acc μ _ (List.getElem?_eq_getElem hlt) p fun acc2 μ2 q2 => ih (i + 1) acc2 μ2 (by omega) q2⟩
  exact go items.length 0 [] μ (by omega) h0
/-- .. whose tests and elements are functions of the item -/
theorem lc_pure {g : DG} {tt : DB} {te : DT} {G : Mu → Prop} {ρ0 : Rho} {Q : List D → Mu → Prop} {items : List D} {μ : Mu} (p : D → Bool) (f : D → D) (hG : G μ) (hl : items.length ≤ sizeLine)
    (hs : ∀ (i : Nat) d (K1 : D → Mu → Prop) (K2 : Mu → Prop), items[i]? = some d → (p d = true → K1 (f d) μ) → (p d = false → K2 μ) → g d ρ0 μ fun ρ2 μ2 => tt ρ2 μ2 fun b μ3 => if b = true then te ρ2 μ3 K1 else K2 μ3)
    (hd : Q ((items.filter p).map f) μ) : lcGo g tt te G ρ0 Q items [] μ := by
  refine lc_inv (fun i acc μ' => μ' = μ ∧ acc = ((items.take i).filter p).map f) ⟨rfl, rfl⟩ (fun i acc μ' _ h => by rw [h.1]; exact hG) (fun i d acc μ' N hi h hN => ?_) fun acc μ' h => ?_
  · obtain ⟨rfl, rfl⟩ := h
    have hlt : i < items.length := (List.getElem?_eq_some_iff.mp hi).1
    refine hs i d _ _ hi (fun hp => ⟨?_, hN _ _ ⟨rfl, ?_⟩⟩) fun hp => hN _ _ ⟨rfl, ?_⟩
    · rw [List.length_map]
      refine Nat.lt_of_le_of_lt (List.length_filter_le _ _) ?_
      rw [List.length_take]
      omega
    · rw [List.take_add_one, hi, List.filter_append, List.map_append]
      simp [hp]
    · rw [List.take_add_one, hi, List.filter_append, List.map_append]
      simp [hp]
  · obtain ⟨rfl, rfl⟩ := h
    rw [List.take_length]
    exact hd
end DL

/-! DLq: defs whose bodies may print data: what a def promises where no display is under way (the surroundings' list of displays is known and empty). -/
namespace DL
open PySem PySem.Spec PyProof.Rows L2

/-- room, and no display under way -/
structure RoomG (k : Nat) (A : Around) : Prop where
  rm : Room k A
  gd : A.guards = some []
theorem RoomG.mono {j k : Nat} {A : Around} (r : RoomG k A) (h : j ≤ k) : RoomG j A := ⟨r.rm.mono h, r.gd⟩
theorem RoomG.deeper {k : Nat} {A : Around} (r : RoomG (k + 1) A) (env : Env) : RoomG k (A.deeper env) := ⟨r.rm.deeper env, r.gd⟩
theorem RoomG.units {k : Nat} {A : Around} (r : RoomG k A) : A.units + 64 < cLine := r.rm.units

structure FnG (P : Program) (w : World) (K : PySem.W.Frag) (mg : Str → Option Value) (base : Heap) (k : Nat) (f : Addr) (fd : FuncData) (ps : List Str) (sp : Sp) : Prop where
  len : ∀ vs H Q E, sp vs H Q E → vs.length = ps.length
  run : ∀ (A : Around) (outer : List Env) (s : Shared) (H : Hp) (args : Args) (us : List Value) (vs : List V) (Q : VK) (E : XK), RoomG k A → Env0 P w K mg base A outer s H → BindsTo s fd args (ps.zip us) → Vals vs us → sp vs H Q E →
    codeAny (model P w) A (.call (.ref f) args) (CR CX0 outer P w H s Q E) s
section
variable {P : Program} {w : World} {K : PySem.W.Frag} {mg : Str → Option Value} {base : Heap}
theorem FnG.mono {j k : Nat} {f : Addr} {fd : FuncData} {ps : List Str} {sp : Sp} (F : FnG P w K mg base j f fd ps sp) (h : j ≤ k) : FnG P w K mg base k f fd ps sp :=
  ⟨F.len, fun A outer s H args us vs Q E hr => F.run A outer s H args us vs Q E (hr.mono h)⟩
theorem FnG.imp {k : Nat} {f : Addr} {fd : FuncData} {ps : List Str} {sp sp' : Sp} (F : FnG P w K mg base k f fd ps sp) (h : ∀ vs H Q E, sp' vs H Q E → sp vs H Q E) : FnG P w K mg base k f fd ps sp' :=
  ⟨fun vs H Q E q => F.len vs H Q E (h _ _ _ _ q), fun A outer s H args us vs Q E hr he hb hv hs => F.run A outer s H args us vs Q E hr he hb hv (h _ _ _ _ hs)⟩

/-- a body keeps the promise -/
theorem Fun_okG {x qual : Str} {st : Stmt} {f : Addr} {fd : FuncData} {N ps : List Str} {k : Nat} {sp : Sp} (F : Fun K x qual st f fd) (S : FnScope N ps (defScope st)) (len : ∀ vs H Q E, sp vs H Q E → vs.length = ps.length)
    (hbody : ∀ (cdv : Value) (A : Around) (outer : List Env) (s : Shared) (H : Hp) (vs : List V) (Q : VK) (E : XK), RoomG k (A.deeper (envOfC qual (defScope st) s.heap.objs.size f cdv)) → sp vs H Q E →
      ∃ t, PSs (cxOf CX0 P w K mg base N qual (defScope st) f cdv A outer s H E).nox (defBody st) t ∧ t { nx := fun _ H' => Q .non H', rt := Q } (L2.start N vs) H) : FnG P w K mg base (k + 1) f fd ps sp := by
  obtain ⟨oc, od, kV, doc, pm, an, cdv, ct, osl, rfl, lk, hcd⟩ := F.ex
  refine ⟨len, fun A outer s H args us vs Q E hr e0 hb r hsp => ?_⟩
  have kin : K.In s.heap := e0.mod.kin.keeps fun b o e => (e0.bs b o e).1
  have nol : s.heap.NoLimit := e0.mod.nolimit.keeps fun b o e => (e0.bs b o e).1
  refine codeAny_call_function hr.rm.depth (kin _ _ lk) rfl S.co S.gen rfl (PySem.W.codeRec_of kin hcd) (hb _ _ _ _ ?_)
  refine wpAny_newFunctionEnv_cells S.kind (fun ⟨n, v⟩ hy => ?_) fun env he s1 x => ?_
  · rcases S.par n (List.of_mem_zip hy).1 with q | q
    · exact .inl q
    · exact .inr ⟨q, PySem.W.cellsFrom_some _ _ _ (.inl q)⟩
  · subst he
    refine ⟨nol.keeps x.toInCall.keep, codeAny_func ?_⟩
    obtain ⟨t, ht, hq⟩ := hbody cdv A outer s H vs Q E (hr.deeper _) hsp
    have I := inv_start (CX := CX0) (P := P) (w := w) (K := K) (mg := mg) (base := base) (E := E) S hr.rm.hd e0 (len _ _ _ _ hsp) r x
    refine wpAny_mono (ht.nox.run [] s1 (L2.start N vs) H _ I hq) (fun fl s' hs => ?_) fun e s' hs => hs
    cases fl with
    | ret u =>
      obtain ⟨v, σ', H', J, rv, q⟩ := hs
      exact ⟨v, H', J.os, J.bare, J.base, J.hok, rv, q⟩
    | next =>
      obtain ⟨σ', H', J, q⟩ := hs
      exact ⟨V.non, H', J.os, J.bare, J.base, J.hok, rfl, q⟩
    | brk =>
      obtain ⟨_, _, _, q⟩ := hs
      exact False.elim q
    | cont =>
      obtain ⟨_, _, _, q⟩ := hs
      exact False.elim q
end

/-! ### calls -/
section
variable {X : Cx} {k : Nat} {f : Addr} {fd : FuncData} {ps ks : List Str} {sp : Sp} {dvs : List V} {ds : List Value} {E : XK} {x : Str} {p pos : Pos} {e : Expr} {es : List Expr} {kws : List Keyword} {t tk : TA}
/-- the callee runs: any way of binding -/
theorem run_g {pins : List (Addr × Obj)} {σ : L2.St} {H : Hp} {s : Shared} {Q : VK} {us : List Value} {vs : List V} {args : Args} (F : FnG X.prog X.w X.K X.mg X.base k f fd ps sp) (hr : RoomG k X.A)
    (hb : us.length = ps.length → BindsTo s fd args (ps.zip us)) (hx : Passes CX0 X E) (I : Inv X pins σ H s) (r : Vals vs us) (h : sp vs H Q E) : wpAny (model X.prog X.w) X.A (call (.ref f) args.pos args.kw) (EP X pins σ Q) X.xe s := by
  have hl : us.length = ps.length := by
    rw [← r.length]
    exact F.len _ _ _ _ h
  refine wpAny_call (codeAny_mono (F.run X.A X.stack s H args us vs Q E hr I.env0 (hb hl) r h) fun z s' hq => ?_)
  match z, hq with
  | .error e, hq => exact hx pins σ H s e s' I hq
  | .ok (.ret u), hq => exact I.after hq
theorem pe_callG (F : FnG X.prog X.w X.K X.mg X.base k f fd ps sp) (hr : RoomG k X.A) (hg : Gl X x) (hm : X.mg x = some (.ref f)) (hk : PySem.W.keepIn X.K (.ref f) = true) (hb : Binds X.K fd ps ds) (hd : Vals dvs ds) (hx : Passes CX0 X E)
    (ha : PA X (e :: es) t) (hdb : (x == ("__debug__" : Str)) = false := by decide) (he : starEach (e :: es) X.env = (false, eval e X.env) :: starEach es X.env := by rfl) (hpl : (backTo pos (starEach es X.env)).any (·.1) = false := by rfl) :
    PE X (.Call (.Name x p) (e :: es) [] pos) (tCall sp dvs E t) := by
  refine ⟨fun pins s σ H Q I h => ?_⟩
  refine wpAny_Call_Name_kw (ld_glob I hg hm ?_ hdb)
  refine PySem.W.callWith_K (h₀ := X.base) I.ok.mod.kin hk (thn (ha.run pos pins s σ H _ I h) fun us s1 ⟨vs, H1, I1, r, q⟩ => ⟨I1.kIn, ?_⟩) he hpl
  exact run_g (args := ⟨us, []⟩) F hr (hb s1 us I1.kIn) hx I1 (r.append hd) q
theorem pe_call0G (F : FnG X.prog X.w X.K X.mg X.base k f fd ps sp) (hr : RoomG k X.A) (hg : Gl X x) (hm : X.mg x = some (.ref f)) (hk : PySem.W.keepIn X.K (.ref f) = true) (hb : Binds X.K fd ps ds) (hd : Vals dvs ds) (hx : Passes CX0 X E)
    (hdb : (x == ("__debug__" : Str)) = false := by decide) : PE X (.Call (.Name x p) [] [] pos) (tCall sp dvs E tNil) := by
  refine ⟨fun pins s σ H Q I h => ?_⟩
  refine wpAny_Call_Name_kw (ld_glob I hg hm ?_ hdb)
  exact PySem.W.callWith_K0 I.kIn hk (run_g (args := ⟨[], []⟩) (us := [] ++ ds) F hr (hb s [] I.kIn) hx I (Vals.append .nil hd) h)
variable {g : List Value → List Value → List Value} {gV : List V → List V → List V}
theorem pe_callKG (F : FnG X.prog X.w X.K X.mg X.base k f fd ps sp) (hr : RoomG k X.A) (hg : Gl X x) (hm : X.mg x = some (.ref f)) (hk : PySem.W.keepIn X.K (.ref f) = true) (hb : KBinds X.K fd ps ks g gV) (hx : Passes CX0 X E)
    (ha : PA X (e :: es) t) (hkw : PK X kws tk) (hall : (backToKw pos (keywordEach kws X.env)).all (·.1.isSome) = true := by rfl) (hks : (backToKw pos (keywordEach kws X.env)).filterMap (·.1) = ks := by rfl)
    (hdb : (x == ("__debug__" : Str)) = false := by decide) (he : starEach (e :: es) X.env = (false, eval e X.env) :: starEach es X.env := by rfl)
    (hpl : ((backTo pos (starEach (e :: es) X.env)).any (·.1) || (backToKw pos (keywordEach kws X.env)).any (·.1.isNone)) = false := by rfl) :
    PE X (.Call (.Name x p) (e :: es) kws pos) (tCallK sp gV E t tk) := by
  refine ⟨fun pins s σ H Q I h => ?_⟩
  refine wpAny_Call_Name_kw (ld_glob I hg hm ?_ hdb)
  refine PySem.W.callWith_KW (h₀ := X.base) I.ok.mod.kin hk hall (thn (ha.run pos pins s σ H _ I h) fun us s1 ⟨vs, H1, I1, r, q⟩ => ?_) hpl he
  refine thn (hkw.run pos pins s1 σ H1 _ I1 q) fun ws s2 ⟨zs, H2, I2, rz, q2⟩ => ⟨I2.kIn, ?_⟩
  rw [hks]
  exact run_g (args := ⟨us, ks.zip ws⟩) F hr (hb.to s2 us ws I2.kIn) hx I2 (hb.rel r rz) q2
theorem pe_callK0G (F : FnG X.prog X.w X.K X.mg X.base k f fd ps sp) (hr : RoomG k X.A) (hg : Gl X x) (hm : X.mg x = some (.ref f)) (hk : PySem.W.keepIn X.K (.ref f) = true) (hb : KBinds X.K fd ps ks g gV) (hx : Passes CX0 X E)
    (hkw : PK X kws tk) (hall : (backToKw pos (keywordEach kws X.env)).all (·.1.isSome) = true := by rfl) (hks : (backToKw pos (keywordEach kws X.env)).filterMap (·.1) = ks := by rfl)
    (hdb : (x == ("__debug__" : Str)) = false := by decide)
    (hpl : ((backTo pos (starEach [] X.env)).any (·.1) || (backToKw pos (keywordEach kws X.env)).any (·.1.isNone)) = false := by rfl) :
    PE X (.Call (.Name x p) [] kws pos) (tCallK sp gV E tNil tk) := by
  refine ⟨fun pins s σ H Q I h => ?_⟩
  refine wpAny_Call_Name_kw (ld_glob I hg hm ?_ hdb)
  refine PySem.W.callWith_KW0 (h₀ := X.base) I.ok.mod.kin hk hall (thn (hkw.run pos pins s σ H _ I h) fun ws s2 ⟨zs, H2, I2, rz, q2⟩ => ⟨I2.kIn, ?_⟩) hpl
  rw [hks]
  exact run_g (args := ⟨[], ks.zip ws⟩) F hr (hb.to s2 [] ws I2.kIn) hx I2 (hb.rel .nil rz) q2
end
/-! ### the law's head -/
/-- from an abstract heap that tracks the script at the most -/
theorem head_core {P : Program} {w : World} {K : PySem.W.Frag} {mg mb : Str → Option Value} {k : Nat} {fa a : Addr} {fd : FuncData} {x : Str} {sp : Sp} {s : Shared} {vs : List Value} {H : Hp}
    (KX : K.In s.heap) (hns : s.heap.Ns mainGlobals mg) (hb : s.heap.Ns builtinsNs mb) (hbb : ∀ x : Str, x ≠ "__name__" → mb x = bootBuiltins x) (hlim : s.heap.NoLimit) (hg : s.gens = #[])
    (ha : s.heap.get? a = some { cls := .type "list", data := .seq vs.toArray }) (hr : RoomG k callerA)
    (F : ∀ base : Heap, K.In base → base.Ns mainGlobals mg → FnG P w K mg base k fa fd [x] sp) (hbind : ∀ (s : Shared) (u : Value), BindsTo s fd ⟨[u], []⟩ [(x, u)])
    (hO : Only H) (hS : sp [.ref a] H (fun v _ => v = .bl true) fun _ _ _ => False) (hok : HOk P w H s.heap) (hA : ∀ b, H b ≠ none → b = a ∧ K.lookup b = none) :
    codeAny (model P w) callerA (.call (.ref fa) ⟨[.ref a], []⟩) (fun r s' => r = .ok (.ret (.bool true)) ∧ OldK s.heap s'.heap ∧ s'.os = s.os ∧ AllBare s'.gens) s := by
  have away : ∀ {b : Addr} {o : Obj}, s.heap.get? b = some o → (∀ vs', o.data ≠ .seq vs' ) → H b = none := fun {b o} e d => by
    cases q : H b with
    | none => rfl
    | some u =>
      have eb := (hA b (by rw [q]; exact Option.some_ne_none _)).1
      rw [eb, ha] at e
      cases e
      exact absurd rfl (d _)
  have nsb : ∀ {b : Addr} {m : Str → Option Value}, s.heap.Ns b m → (hidT s.heap H).Ns b m := fun {b m} ⟨o, es, ep, e, d, r⟩ => ⟨o, es, ep, hidT_get e (away e fun _ z => by rw [d] at z; cases z), d, r⟩
  have kb : K.In (hidT s.heap H) := fun b o e => hidT_get (KX b o e) (by
    cases q : H b with
    | none => rfl
    | some u =>
      rw [(hA b (by rw [q]; exact Option.some_ne_none _)).2] at e
      cases e)
  have e0 : Env0 P w K mg (hidT s.heap H) callerA [] s H :=
    ⟨rfl, ⟨kb, nsb hns, ⟨mb, nsb hb, hbb⟩, let ⟨mc, h1, h2⟩ := hlim; ⟨mc, nsb h1, h2⟩⟩, fun b o e => of_hidT e, Nat.le_of_eq (hidT_size _ _), trivial, fun b hb => absurd (show b ∈ ([] : List Addr) from hb) List.not_mem_nil, hok, .of_eq hg⟩
  refine codeAny_mono ((F _ kb (nsb hns)).run callerA [] s H ⟨[.ref a], []⟩ [.ref a] [.ref a] _ _ hr e0 (hbind s (.ref a)) (.cons rfl .nil) hS) fun r s' h => ?_
  match r, h with
  | .error e, h => exact absurd h (by intro z; exact z)
  | .ok (.ret u), h =>
    obtain ⟨v, H', os, bare, un, hok', rv, q⟩ := h
    obtain rfl : v = .bl true := q
    obtain rfl : u = Value.bool true := rv
    refine ⟨rfl, OldK.of_keep fun b o e => ?_, os, bare⟩
    rcases hO b with z | ⟨ob, xs, z⟩
    · exact un.keep b o e z (fun z => absurd (show b ∈ ([] : List Addr) from z) List.not_mem_nil) List.not_mem_nil
    · obtain ⟨e1, _⟩ := hok b _ z
      obtain ⟨e2, _⟩ := hok' b _ (un.frzs b ob _ z)
      rw [e] at e1
      cases e1
      exact e2
theorem law_callG {P : Program} {w : World} {K : PySem.W.Frag} {mg mb : Str → Option Value} {k : Nat} {fa a : Addr} {fd : FuncData} {x : Str} {sp : Sp} {s : Shared} {vs : List Value} {ns : List Int}
    (KX : K.In s.heap) (hns : s.heap.Ns mainGlobals mg) (hb : s.heap.Ns builtinsNs mb) (hbb : ∀ x : Str, x ≠ "__name__" → mb x = bootBuiltins x) (hlim : s.heap.NoLimit) (hg : s.gens = #[])
    (ha : s.heap.get? a = some { cls := .type "list", data := .seq vs.toArray }) (hi : IntsAre vs ns) (hl : ns.length ≤ sizeLine) (hr : RoomG k callerA)
    (F : ∀ base : Heap, K.In base → base.Ns mainGlobals mg → FnG P w K mg base k fa fd [x] sp) (hbind : ∀ (s : Shared) (u : Value), BindsTo s fd ⟨[u], []⟩ [(x, u)])
    (hsp : ∀ H : Hp, Only H → SqL K H a (ns.map V.int) → sp [.ref a] H (fun v _ => v = .bl true) fun _ _ _ => False) :
    codeAny (model P w) callerA (.call (.ref fa) ⟨[.ref a], []⟩) (fun r s' => r = .ok (.ret (.bool true)) ∧ OldK s.heap s'.heap ∧ s'.os = s.os ∧ AllBare s'.gens) s := by
  have rv := vals_ints hi
  cases hk : K.lookup a with
  | some o =>
    have e := KX a o hk
    rw [ha] at e
    cases e
    refine head_core (H := fun _ => none) KX hns hb hbb hlim hg ha hr F hbind (fun _ => .inl rfl) (hsp _ (fun _ => .inl rfl) (.inr ⟨_, vs.toArray, _, hk, rfl, rfl, rfl, ?_, by simpa using rv⟩)) (fun b u z => by cases (show (none : Option HO) = some u from z)) fun b z => absurd rfl z
    rw [List.size_toArray, hi.length]
    exact hl
  | none =>
    have only : Only fun b => if b = a then some (.frz { cls := .type "list", data := .seq vs.toArray } (.lst (ns.map V.int))) else none := fun b => by
      by_cases hb : b = a
      · exact .inr ⟨_, _, if_pos hb⟩
      · exact .inl (if_neg hb)
    refine head_core KX hns hb hbb hlim hg ha hr F hbind only (hsp _ only (.inl (.inr ⟨_, if_pos rfl⟩))) (fun b u z => ?_) fun b z => ?_
    · by_cases hb : b = a
      · cases (if_pos hb).symm.trans z
        subst hb
        exact ⟨ha, by rw [List.length_map]; exact hl, vs, _, rv, ha⟩
      · cases (if_neg hb).symm.trans z
    · by_cases hb : b = a
      · exact ⟨hb, by rw [hb]; exact hk⟩
      · exact absurd (if_neg hb) z
theorem walk_ofG {l : PySem.W.OpenLaw} {n k : Nat} {q : Program} {loose : List Str} {XP : (Str → Option Value) → Heap → Prop} {YP : World → Heap → Prop} {d : DefRec} {K : Params → PySem.W.Frag} {sp : PySem.W.Frag → Sp} {x : Str}
    (hn : l.most = some n) (hn2 : n ≤ sizeLine) (hdf : d.params.defaults = []) (hr : RoomG k callerA)
    (hY : ∀ (w : World) (h : Heap), YP w h → (K w.params).In h)
    (F : ∀ (w : World) (mg : Str → Option Value) (fa : Addr) (h : Heap), (K w.params).In h → h.Ns mainGlobals mg → mg d.name = some (.ref fa) →
      ∃ fd : FuncData, (∀ (s : Shared) (u : Value), BindsTo s fd ⟨[u], []⟩ [(x, u)]) ∧
        ∀ base : Heap, (K w.params).In base → base.Ns mainGlobals mg → FnG l.prog w (K w.params) mg base k fa fd [x] (sp (K w.params)))
    (hsp : ∀ (K : PySem.W.Frag) (H : Hp) (a : Addr) (ns : List Int), ns.length ≤ n → Only H → SqL K H a (ns.map V.int) → sp K [.ref a] H (fun v _ => v = .bl true) fun _ _ _ => False) :
    PySem.W.WalkO q loose XP YP l.row.toRowW d [] (fun f vs => PySem.call f vs) := by
  refine Att.attach_call hn hdf fun w s₀ s₁ mg mb fa o pm cd doc a vs ns G Y ho hd hcd hmg hobj hints hlen hg => ?_
  obtain ⟨fd, hb, hF⟩ := F w mg fa _ (hY w _ Y) G.T.g hmg
  exact law_callG (hY w _ Y) G.T.g G.T.b G.T.builtins G.T.nolimit hg hobj hints (Nat.le_trans hlen hn2) hr hF hb fun H hO hS => hsp _ H a ns hlen hO hS
end DL

namespace DL
open PySem PySem.Spec PyProof.Rows L2

/-! ### defs of one's own -/
abbrev DSp := List D → Mu → DQ → Prop
def spD (K : PySem.W.Frag) (C : DSp) : Sp := fun vs H Q _ => ∃ Z μ ds Qd, Sim K Z μ H ∧ RpAll K Z μ H vs ds ∧ C ds μ Qd ∧ VE K Z H μ Qd Q
def dCall (C : DSp) (dds : List D) (t : DA) : DT := fun ρ μ Q => t ρ μ fun ds μ1 => C (ds ++ dds) μ1 Q
section
variable {X : Cx} {k : Nat} {f : Addr} {fd : FuncData} {ps : List Str} {C : DSp} {dvs : List V} {us : List Value} {dds : List D} {x : Str} {p pos : Pos} {e : Expr} {es : List Expr} {t : DA}
theorem d_call (F : FnG X.prog X.w X.K X.mg X.base k f fd ps (spD X.K C)) (hr : RoomG k X.A) (hg : Gl X x) (hm : X.mg x = some (.ref f)) (hk : PySem.W.keepIn X.K (.ref f) = true) (hb : Binds X.K fd ps us) (hd : Vals dvs us) (hdd : ∀ Z μ H, RpAll X.K Z μ H dvs dds)
    (ha : DAs X (e :: es) t) (hdb : (x == ("__debug__" : Str)) = false := by decide) (he : starEach (e :: es) X.env = (false, eval e X.env) :: starEach es X.env := by rfl) (hpl : (backTo pos (starEach es X.env)).any (·.1) = false := by rfl) :
    DE X (.Call (.Name x p) (e :: es) [] pos) (dCall C dds t) := by
  obtain ⟨t1, p1, h1⟩ := ha.ex
  exact ⟨_, pe_callG F hr hg hm hk hb hd pass0 p1 hdb he hpl, fun Z σ ρ H μ Qd Q S R h q => h1 Z σ ρ H μ _ _ S R h fun vs ds H1 μ1 S1 s1 r1 q1 => ⟨Z, μ1, ds ++ dds, Qd, S1, r1.append (hdd _ _ _), q1, q.step s1⟩⟩
theorem d_call0 (F : FnG X.prog X.w X.K X.mg X.base k f fd ps (spD X.K C)) (hr : RoomG k X.A) (hg : Gl X x) (hm : X.mg x = some (.ref f)) (hk : PySem.W.keepIn X.K (.ref f) = true) (hb : Binds X.K fd ps us) (hd : Vals dvs us) (hdd : ∀ Z μ H, RpAll X.K Z μ H dvs dds)
    (hdb : (x == ("__debug__" : Str)) = false := by decide) : DE X (.Call (.Name x p) [] [] pos) (dCall C dds dNil) :=
  ⟨_, pe_call0G F hr hg hm hk hb hd pass0 hdb, fun Z σ ρ H μ Qd Q S R h q => ⟨Z, μ, [] ++ dds, Qd, S, RpAll.append .nil (hdd _ _ _), h, q⟩⟩
/-- no defaults -/
theorem no_dd {K : PySem.W.Frag} : ∀ Z μ H, RpAll K Z μ H [] [] := fun _ _ _ => .nil
/-- keywords -/
structure DKs (X : Cx) (kws : List Keyword) (t : DA) : Prop where
  ex : ∃ ta, PK X kws ta ∧ ∀ Z σ ρ H μ Qd Q, Sim X.K Z μ H → ER X.K Z μ H σ ρ → t ρ μ Qd → AE X.K Z H μ Qd Q → ta σ H Q
theorem k_nil : DKs X [] dNil := ⟨_, pk_nil, fun _ _ _ _ _ _ _ S _ h q => q _ _ _ _ S Stp.refl .nil h⟩
theorem k_cons {kws : List Keyword} {te : DT} {nm : Option Str} {kpos : Pos} (ha : DE X e te) (hr : DKs X kws t) : DKs X (⟨nm, e, kpos⟩ :: kws) (dCons te t) := by
  obtain ⟨t1, p1, h1⟩ := ha.ex
  obtain ⟨t2, p2, h2⟩ := hr.ex
  refine ⟨_, pk_cons p1 p2, fun Z σ ρ H μ Qd Q S R hh q => h1 Z σ ρ H μ _ _ S R hh fun v x H1 μ1 S1 s1 r1 q1 => ?_⟩
  refine h2 Z σ ρ H1 μ1 _ _ S1 (R.stp s1) q1 fun vs xs H2 μ2 S2 s2 r2 q2 => ?_
  exact q _ _ _ _ S2 (s1.trans s2) (.cons (r1.stp s2) r2) q2
def dCallK (C : DSp) (gD : List D → List D → List D) (t tk : DA) : DT := fun ρ μ Q => t ρ μ fun ds μ1 => tk ρ μ1 fun es μ2 => C (gD ds es) μ2 Q
theorem d_callK {kws : List Keyword} {tk : DA} {ks : List Str} {g : List Value → List Value → List Value} {gV : List V → List V → List V} {gD : List D → List D → List D} (F : FnG X.prog X.w X.K X.mg X.base k f fd ps (spD X.K C)) (hr : RoomG k X.A) (hg : Gl X x) (hm : X.mg x = some (.ref f)) (hk : PySem.W.keepIn X.K (.ref f) = true) (hb : KBinds X.K fd ps ks g gV)
    (hgd : ∀ Z μ H vs ds us es, RpAll X.K Z μ H vs ds → RpAll X.K Z μ H us es → RpAll X.K Z μ H (gV vs us) (gD ds es))
    (ha : DAs X (e :: es) t) (hkw : DKs X kws tk) (hall : (backToKw pos (keywordEach kws X.env)).all (·.1.isSome) = true := by rfl) (hks : (backToKw pos (keywordEach kws X.env)).filterMap (·.1) = ks := by rfl)
    (hdb : (x == ("__debug__" : Str)) = false := by decide) (he : starEach (e :: es) X.env = (false, eval e X.env) :: starEach es X.env := by rfl)
    (hpl : ((backTo pos (starEach (e :: es) X.env)).any (·.1) || (backToKw pos (keywordEach kws X.env)).any (·.1.isNone)) = false := by rfl) : DE X (.Call (.Name x p) (e :: es) kws pos) (dCallK C gD t tk) := by
  obtain ⟨t1, p1, h1⟩ := ha.ex
  obtain ⟨t2, p2, h2⟩ := hkw.ex
  refine ⟨_, pe_callKG F hr hg hm hk hb (E := E0) pass0 p1 p2 hall hks hdb he hpl, fun Z σ ρ H μ Qd Q S R h q => h1 Z σ ρ H μ _ _ S R h fun vs ds H1 μ1 S1 s1 r1 q1 => ?_⟩
  refine h2 Z σ ρ H1 μ1 _ _ S1 (R.stp s1) q1 fun us es H2 μ2 S2 s2 r2 q2 => ?_
  exact ⟨Z, μ2, gD ds es, Qd, S2, hgd _ _ _ _ _ _ _ (r1.stp s2) r2, q2, q.step (s1.trans s2)⟩
end
def dstart (N : List Str) (ds : List D) : Rho := ds.map some ++ List.replicate (N.length - ds.length) none
/-- what is made within is let go -/
def fin (Q : DQ) : DQ := fun d μ' => ∃ μ2, Sub μ2 μ' ∧ Q d μ2
theorem er_start {K : PySem.W.Frag} {Z : Zt} {μ : Mu} {H : Hp} {N : List Str} {vs : List V} {ds : List D} (r : RpAll K Z μ H vs ds) : ER K Z μ H (L2.start N vs) (dstart N ds) := by
  unfold L2.start dstart
  refine ⟨by simp [r.length], fun i d h => ?_⟩
  by_cases hi : i < ds.length
  · rw [List.getElem?_append_left (by simpa using hi), List.getElem?_map] at h
    cases e : ds[i]? with
    | none =>
      rw [e] at h
      cases h
    | some d' =>
      rw [e] at h
      cases h
      obtain ⟨v, h1, h2⟩ := r.get e
      exact ⟨v, by rw [List.getElem?_append_left (by rw [List.length_map, r.length]; exact hi), List.getElem?_map, h1]; rfl, h2⟩
  · rw [List.getElem?_append_right (by simpa using Nat.le_of_not_lt hi), List.getElem?_replicate] at h
    split at h <;> cases h
section
variable {P : Program} {w : World} {K : PySem.W.Frag} {mg : Str → Option Value} {base : Heap}
/-- THE RULE for a def -/
theorem dfn {x qual : Str} {st : Stmt} {f : Addr} {fd : FuncData} {N ps : List Str} {k : Nat} (C : DSp) (F : Fun K x qual st f fd) (S : FnScope N ps (defScope st)) (len : ∀ ds μ Q, C ds μ Q → ds.length = ps.length)
    (body : ∀ (cdv : Value) (A : Around) (outer : List Env) (s : Shared) (H : Hp) (E : XK), RoomG k (A.deeper (envOfC qual (defScope st) s.heap.objs.size f cdv)) →
      ∃ t, DSs (cxOf CX0 P w K mg base N qual (defScope st) f cdv A outer s H E).nox (defBody st) t ∧ ∀ ds μ Q, C ds μ Q → t { nx := fun _ μ' => fin Q .non μ', rt := fin Q } (dstart N ds) μ) : FnG P w K mg base (k + 1) f fd ps (spD K C) := by
  refine Fun_okG F S (fun vs H Q E h => ?_) (fun cdv A outer s H vs Q E hr h => ?_)
  · obtain ⟨Z, μ, ds, Qd, _, r, c, _⟩ := h
    rw [r.length]
    exact len _ _ _ c
  · obtain ⟨Z, μ, ds, Qd, Sm, r, c, q⟩ := h
    obtain ⟨t, ⟨ts, p, hts⟩, ht⟩ := body cdv A outer s H E hr
    refine ⟨ts, p, hts Z _ _ H μ _ _ Sm (er_start r) (ht ds μ Qd c) ⟨fun σ' ρ' H' μ' S' R' s' q' => ?_, fun v d H' μ' S' s' r' q' => ?_, fun _ _ _ _ _ _ _ z => z, fun _ _ _ _ _ _ _ z => z⟩⟩
    · obtain ⟨μ2, hs, q'⟩ := q'
      exact q _ _ _ _ (S'.sub hs) (s'.trans hs.stp) .non q'
    · obtain ⟨μ2, hs, q'⟩ := q'
      exact q _ _ _ _ (S'.sub hs) (s'.trans hs.stp) (r'.stp hs.stp) q'
end

/-! ### methods of a list of the store -/
section
variable {X : Cx}
structure DMl (X : Cx) (id : String) (o : Addr → List D → List D → Mu → DQ → Prop) : Prop where
  ex : ∃ r, MtR X id r ∧ ∀ Z H μ a ds vs as Qd Q, Sim X.K Z μ H → μ a = some (.lst ds) → RpAll X.K Z μ H vs as → o a ds as μ Qd → VE X.K Z H μ Qd Q → r (.ref a) vs H Q
def mAppend : Addr → List D → List D → Mu → DQ → Prop := fun a ds as μ Q => ∃ d, as = [d] ∧ ds.length < sizeLine ∧ Q .non (mput μ a (.lst (ds ++ [d])))
theorem ob_lst {K : PySem.W.Frag} {Z : Zt} {μ : Mu} {H : Hp} {a : Addr} {ds : List D} (S : Sim K Z μ H) (h : μ a = some (.lst ds)) : ∃ xs, H a = some (.lst xs) ∧ RpAll K Z μ H xs ds := by
  have o := S.ob a _ h
  cases o with
  | lst h1 t => exact ⟨_, h1, t⟩
theorem VE.put {K : PySem.W.Frag} {Z : Zt} {μ : Mu} {H : Hp} {Qd : DQ} {Q : VK} {a : Addr} {ds ds' : List D} {xs' : List V} {v : V} {d : D} (q : VE K Z H μ Qd Q) (S : Sim K Z μ H) (h : μ a = some (.lst ds)) (r : RpAll K Z μ H xs' ds') (rv : Rp K Z μ H v d) (hq : Qd d (mput μ a (.lst ds'))) : Q v (upd H a (.lst xs')) := by
  have s : Stp μ (mput μ a (.lst ds')) H (upd H a (.lst xs')) := Stp.write h
  exact q _ _ _ _ (S.write h (.lst upd_same (r.stp s))) s (rv.stp s) hq
theorem m_append : DMl X "list.append" mAppend := by
  refine ⟨_, mt_append, fun Z H μ a ds vs as Qd Q S h r o q => ?_⟩
  obtain ⟨d, rfl, hl, o⟩ := o
  obtain ⟨v, rfl, r1⟩ := rp1 r
  obtain ⟨xs, hH, t⟩ := ob_lst S h
  exact ⟨a, xs, v, rfl, rfl, hH, by rw [t.length]; exact hl, q.put S h (t.append (.cons r1 .nil)) .non o⟩
def mExtend : Addr → List D → List D → Mu → DQ → Prop := fun a ds as μ Q => ∃ d es, as = [d] ∧ seeP μ d = .lst es ∧ ds.length + es.length ≤ sizeLine ∧ Q .non (mput μ a (.lst (ds ++ es)))
theorem m_extend : DMl X "list.extend" mExtend := by
  refine ⟨_, mt_extend, fun Z H μ a ds vs as Qd Q S h r o q => ?_⟩
  obtain ⟨d, es, rfl, e, hl, o⟩ := o
  obtain ⟨v, rfl, r1⟩ := rp1 r
  obtain ⟨xs, hH, t⟩ := ob_lst S h
  obtain ⟨b, ys, rfl, hB, t2⟩ := seeP_lst_inv S r1 e
  exact ⟨a, b, xs, ys, rfl, rfl, hH, hB, by rw [t.length, t2.length]; exact hl, q.put S h (t.append t2) .non o⟩
def mPop : Addr → List D → List D → Mu → DQ → Prop := fun a ds as μ Q => ∃ d, as = [] ∧ ds[ds.length - 1]? = some d ∧ Q d (mput μ a (.lst ds.dropLast))
theorem rp_dropLast {K : PySem.W.Frag} {Z : Zt} {μ : Mu} {H : Hp} {vs : List V} {ds : List D} (r : RpAll K Z μ H vs ds) : RpAll K Z μ H vs.dropLast ds.dropLast := by
  rw [List.dropLast_eq_take, List.dropLast_eq_take, r.length]
  exact r.take _
theorem m_pop : DMl X "list.pop" mPop := by
  refine ⟨_, mt_pop, fun Z H μ a ds vs as Qd Q S h r o q => ?_⟩
  obtain ⟨d, rfl, e, o⟩ := o
  cases r
  obtain ⟨xs, hH, t⟩ := ob_lst S h
  obtain ⟨v, hv, rv⟩ := t.get e
  exact ⟨a, xs, v, rfl, rfl, hH, by rw [t.length]; exact hv, q.put S h (rp_dropLast t) rv o⟩
def mPopAt : Addr → List D → List D → Mu → DQ → Prop := fun a ds as μ Q => ∃ i k d, as = [.int i] ∧ -(2 ^ 63) ≤ i ∧ i < 2 ^ 63 ∧ seqIndex? i ds.length = some k ∧ ds[k]? = some d ∧ Q d (mput μ a (.lst (ds.eraseIdx k)))
theorem m_popAt : DMl X "list.pop" mPopAt := by
  refine ⟨_, mt_popAt, fun Z H μ a ds vs as Qd Q S h r o q => ?_⟩
  obtain ⟨i, k, d, rfl, h1, h2, h3, e, o⟩ := o
  obtain ⟨v, rfl, r1⟩ := rp1 r
  cases r1
  obtain ⟨xs, hH, t⟩ := ob_lst S h
  obtain ⟨v, hv, rv⟩ := t.get e
  exact ⟨a, xs, i, k, v, rfl, rfl, hH, h1, h2, by rw [t.length]; exact h3, hv, q.put S h (t.eraseIdx k) rv o⟩
variable {o e : Expr} {es : List Expr} {to : DT} {t : DA} {name : Str} {apos cpos : Pos} {id : String} {op : Addr → List D → List D → Mu → DQ → Prop}
def isL (x : D) (μ : Mu) (k : Addr → Prop) : Prop := ∃ a ds, x = .ref a ∧ μ a = some (.lst ds) ∧ k a
def onL (op : Addr → List D → List D → Mu → DQ → Prop) (a : Addr) (as : List D) (μ : Mu) (Q : DQ) : Prop := ∃ ds, μ a = some (.lst ds) ∧ op a ds as μ Q
def dMl (op : Addr → List D → List D → Mu → DQ → Prop) (to : DT) (t : DA) : DT := fun ρ μ Q => to ρ μ fun x μ1 => isL x μ1 fun a => t ρ μ1 fun as μ2 => onL op a as μ2 Q
theorem d_ml (slot : Slot "list" name id) (hty : typeOf (.builtin id) = pure (.type "method_descriptor")) (hm : DMl X id op) (ho : DE X o to) (ha : DAs X (e :: es) t)
    (hbase : attributeBase o name X.env (eval o X.env) = eval o X.env := by rfl)
    (hfew : ((backTo cpos (starEach (e :: es) X.env)).all (fun x => !x.1) && (backToKw cpos (keywordEach [] X.env)).all (fun x => x.1.isSome)
      && decide ((e :: es).length + ([] : List Keyword).length + (if ([] : List Keyword).isEmpty then 0 else 1) < 30)) = true := by rfl)
    (hline : (apos.endLine == cpos.line) = true := by rfl) (hs : starEach (e :: es) X.env = (false, eval e X.env) :: starEach es X.env := by rfl) (hplain : (backTo cpos (starEach es X.env)).any (·.1) = false := by rfl) :
    DE X (.Call (.Attribute o name apos) (e :: es) [] cpos) (dMl op to t) := by
  obtain ⟨r, hr, w⟩ := hm.ex
  obtain ⟨t1, p1, h1⟩ := ho.ex
  obtain ⟨t2, p2, h2⟩ := ha.ex
  refine ⟨_, pe_bm PySem.F.plainAttrs_list slot hty hr p1 p2 hbase hfew hline hs hplain, fun Z σ ρ H μ Qd Q S R h q => h1 Z σ ρ H μ _ _ S R h fun v x H1 μ1 S1 s1 r1 q1 => ?_⟩
  obtain ⟨a, ds0, rfl, e0, q1⟩ := q1
  cases r1
  obtain ⟨xs, hH, _⟩ := ob_lst S1 e0
  refine ⟨.inl ⟨rfl, _, SqL.of hH⟩, h2 Z σ ρ H1 μ1 _ _ S1 (R.stp s1) q1 fun vs as H2 μ2 S2 s2 r2 q2 => ?_⟩
  obtain ⟨ds, e2, q2⟩ := q2
  exact w Z H2 μ2 a ds vs as Qd Q S2 e2 r2 q2 (q.step (s1.trans s2))
theorem d_ml0 (slot : Slot "list" name id) (hty : typeOf (.builtin id) = pure (.type "method_descriptor")) (hm : DMl X id op) (ho : DE X o to)
    (hbase : attributeBase o name X.env (eval o X.env) = eval o X.env := by rfl) (hline : (apos.endLine == cpos.line) = true := by rfl) : DE X (.Call (.Attribute o name apos) [] [] cpos) (dMl op to dNil) := by
  obtain ⟨r, hr, w⟩ := hm.ex
  obtain ⟨t1, p1, h1⟩ := ho.ex
  refine ⟨_, pe_bm0 PySem.F.plainAttrs_list slot hty hr p1 hbase hline, fun Z σ ρ H μ Qd Q S R h q => h1 Z σ ρ H μ _ _ S R h fun v x H1 μ1 S1 s1 r1 q1 => ?_⟩
  obtain ⟨a, ds0, rfl, e0, ds, e2, q2⟩ := q1
  cases r1
  obtain ⟨xs, hH, _⟩ := ob_lst S1 e0
  exact ⟨.inl ⟨rfl, _, SqL.of hH⟩, w Z H1 μ1 a ds [] [] Qd Q S1 e2 .nil q2 (q.step s1)⟩
end
end DL

namespace DL
open PySem PySem.Spec PyProof.Rows L2

abbrev oSub : O2 := dI2 (fun _ _ => True) fun i j => .int (i - j)
abbrev oFdiv : O2 := dI2 DivOk fun i j => .int (i / j)
abbrev oMod : O2 := dI2 (fun _ j => 0 < j) fun i j => .int (i % j)
abbrev oPow : O2 := dI2 PowOk fun i j => .int (i ^ j.toNat)
abbrev oLt : O2 := dI2 (fun _ _ => True) fun i j => .bl (decide (i < j))
abbrev oLe : O2 := dI2 (fun _ _ => True) fun i j => .bl (decide (i ≤ j))
abbrev oGt : O2 := dI2 (fun _ _ => True) fun i j => .bl (decide (j < i))
abbrev oGe : O2 := dI2 (fun _ _ => True) fun i j => .bl (decide (j ≤ i))
def dNeg (ta : DT) : DT := fun ρ μ Q => ta ρ μ fun x μ1 => ∃ i, x = .int i ∧ Q (.int (-i)) μ1
section
variable {X : Cx}
theorem d_neg {a : Expr} {ta : DT} {pos : Pos} (ha : DE X a ta) : DE X (.UnaryOp .USub a pos) (dNeg ta) := by
  obtain ⟨t1, p1, h1⟩ := ha.ex
  refine ⟨_, pe_un un_neg p1, fun Z σ ρ H μ Qd Q S R hh q => h1 Z σ ρ H μ _ _ S R hh fun v x H1 μ1 S1 s1 r1 q1 => ?_⟩
  obtain ⟨i, rfl, q1⟩ := q1
  cases r1
  exact ⟨i, rfl, q _ _ _ _ S1 s1 (.int _) q1⟩

/-! ### keywords -/
def kord {α : Type} (d : α) (np nk : Nat) (o : List Nat) (us ws : List α) : List α := if us.length = np ∧ ws.length = nk then o.map fun i => (us ++ ws).getD i d else []
theorem vals_getD {vs : List V} {us : List Value} (r : Vals vs us) (i : Nat) : RelV (vs.getD i .non) (us.getD i Value.none) := by
  rw [List.getD_eq_getElem?_getD, List.getD_eq_getElem?_getD]
  cases e : vs[i]? with
  | none =>
    rw [Vals.none_of r e]
    rfl
  | some v =>
    obtain ⟨u, hu, rv⟩ := r.get e
    rw [hu]
    exact rv
theorem vals_map {vs : List V} {us : List Value} (r : Vals vs us) : ∀ o : List Nat, Vals (o.map fun i => vs.getD i .non) (o.map fun i => us.getD i Value.none)
  | [] => .nil
  | i :: o => .cons (vals_getD r i) (vals_map r o)
theorem kord_vals {np nk : Nat} {o : List Nat} {vs : List V} {us : List Value} {zs : List V} {ws : List Value} (r : Vals vs us) (q : Vals zs ws) : Vals (kord .non np nk o vs zs) (kord Value.none np nk o us ws) := by
  unfold kord
  rw [r.length, q.length]
  split
  · exact vals_map (r.append q) o
  · exact .nil
theorem kord_rp {K : PySem.W.Frag} {np nk : Nat} {o : List Nat} : ∀ Z μ H vs ds us es, RpAll K Z μ H vs ds → RpAll K Z μ H us es → RpAll K Z μ H (kord .non np nk o vs us) (kord .non np nk o ds es) := fun Z μ H vs ds us es r q => by
  unfold kord
  rw [r.length, q.length]
  split
  · have t := r.append q
    induction o with
    | nil => exact .nil
    | cons i o ih =>
      refine .cons ?_ ih
      show Rp K Z μ H ((vs ++ us).getD i V.non) ((ds ++ es).getD i D.non)
      rw [List.getD_eq_getElem?_getD, List.getD_eq_getElem?_getD]
      cases e : (ds ++ es)[i]? with
      | none =>
        have hl : (ds ++ es).length ≤ i := List.getElem?_eq_none_iff.mp e
        have e2 : (vs ++ us)[i]? = none := List.getElem?_eq_none_iff.mpr (by rw [t.length]; exact hl)
        rw [e2]
        exact .non
      | some d =>
        obtain ⟨v, hv, rv⟩ := t.get e
        rw [hv]
        exact rv
  · exact .nil
theorem kb_of {K : PySem.W.Frag} {x qual : Str} {st : Stmt} {f : Addr} {fd : FuncData} {ps ks : List Str} {np nk : Nat} {o : List Nat} (F : Fun K x qual st f fd) (hp : 0 < ps.length)
    (h : ∀ (kV doc pm : Value) (an : Option Addr) (cdv ct : Value) (us ws : List Value), us.length = np → ws.length = nk → bindArgs (PySem.W.fnOf x qual (defArgs st) (defBody st) (defScope st) .none kV doc pm an cdv ct) ⟨us, ks.zip ws⟩ = pure (ps.zip (o.map fun i => (us ++ ws).getD i Value.none))) :
    KBinds K fd ps ks (kord Value.none np nk o) (kord .non np nk o) := by
  obtain ⟨oc, od, kV, doc, pm, an, cdv, ct, osl, rfl, lk, hcd⟩ := F.ex
  refine ⟨fun s us ws _ hl => ?_, fun r q => kord_vals r q⟩
  unfold kord at hl ⊢
  split at hl
  · rename_i hh
    rw [if_pos hh]
    exact .of_eq (h kV doc pm an cdv ct us ws hh.1 hh.2)
  · exact absurd hl (by show ¬ 0 = ps.length; omega)
variable {k : Nat} {f : Addr} {fd : FuncData} {ps : List Str} {C : DSp} {x : Str} {p pos : Pos}
/-- a call by keywords alone -/
theorem d_callK0 {kws : List Keyword} {tk : DA} {ks : List Str} {g : List Value → List Value → List Value} {gV : List V → List V → List V} {gD : List D → List D → List D} (F : FnG X.prog X.w X.K X.mg X.base k f fd ps (spD X.K C)) (hr : RoomG k X.A) (hg : Gl X x) (hm : X.mg x = some (.ref f)) (hk : PySem.W.keepIn X.K (.ref f) = true) (hb : KBinds X.K fd ps ks g gV)
    (hgd : ∀ Z μ H vs ds us es, RpAll X.K Z μ H vs ds → RpAll X.K Z μ H us es → RpAll X.K Z μ H (gV vs us) (gD ds es))
    (hkw : DKs X kws tk) (hall : (backToKw pos (keywordEach kws X.env)).all (·.1.isSome) = true := by rfl) (hks : (backToKw pos (keywordEach kws X.env)).filterMap (·.1) = ks := by rfl)
    (hdb : (x == ("__debug__" : Str)) = false := by decide)
    (hpl : ((backTo pos (starEach [] X.env)).any (·.1) || (backToKw pos (keywordEach kws X.env)).any (·.1.isNone)) = false := by rfl) : DE X (.Call (.Name x p) [] kws pos) (dCallK C gD dNil tk) := by
  obtain ⟨t2, p2, h2⟩ := hkw.ex
  refine ⟨tCallK (spD X.K C) gV E0 tNil t2, pe_callK0G F hr hg hm hk hb pass0 p2 hall hks hdb hpl, fun Z σ ρ H μ Qd Q S R h q => ?_⟩
  · refine h2 Z σ ρ H μ _ _ S R h fun us es H2 μ2 S2 s2 r2 q2 => ?_
    exact ⟨Z, μ2, gD [] es, Qd, S2, hgd _ _ _ _ _ _ _ .nil r2, q2, q.step s2⟩
/-- a, b, c = x, y, z: local names -/
def dPar3 (i j l : Nat) (ta : DA) : DTS := fun D ρ μ => ta ρ μ fun ds μ1 => ∃ d d' d'', ds = [d, d', d''] ∧ D.nx (((ρ.set i (some d)).set j (some d')).set l (some d'')) μ1
end

/-! ### the law's own promise -/
def spLaw (K : PySem.W.Frag) : Sp := fun vs H Q _ => ∃ (a : Addr) (ns : List Int), vs = [.ref a] ∧ SqL K H a (ns.map V.int) ∧ ns.length ≤ 63 ∧ ∀ H', Q (.bl true) H'
def cLaw : DSp := fun ds μ Q => ∃ ns : List Int, ds = [.fz (ns.map D.int)] ∧ ns.length ≤ 63 ∧ ∀ μ', Q (.bl true) μ'
theorem law_sp {P : Program} {w : World} {K : PySem.W.Frag} {mg : Str → Option Value} {base : Heap} {k : Nat} {f : Addr} {fd : FuncData} {x : Str} (F : FnG P w K mg base k f fd [x] (spD K cLaw)) : FnG P w K mg base k f fd [x] (spLaw K) := by
  refine F.imp fun vs H Q E h => ?_
  obtain ⟨a, ns, rfl, hS, hl, q⟩ := h
  have cold : ∀ b, Cold (fun _ => none) (fun _ => False) b := fun b => ⟨rfl, fun z => z⟩
  refine ⟨fun _ => False, fun _ => none, [.fz (ns.map D.int)], fun d _ => d = .bl true, ⟨fun a m e => (by cases e), fun a (z : False) => z.elim⟩, .cons (.fz ?_ (RpAll.ints ns)) .nil, ⟨ns, rfl, hl, fun _ => rfl⟩, fun v d H' μ' _ _ r e => ?_⟩
  · rcases hS with h | h
    · exact .inl ⟨h, cold a⟩
    · exact .inr h
  · subst e
    cases r
    exact q H'
end DL

/-! DLr: repr of data. -/
namespace DL
open PySem PySem.Spec PyProof.Rows L2

mutual
def toP : D → PyData
  | .bl b => .bool b
  | .int i => .int i
  | .str x => .str x
  | .tup xs => .tuple (toPs xs)
  | .lst xs => .list (toPs xs)
  | .fz xs => .list (toPs xs)
  | .dk _ => .dict []
  | _ => .none
def toPs : List D → List PyData
  | [] => []
  | d :: ds => toP d :: toPs ds
end
def shw (d : D) : Str := (toP d).shown
/-- d is shown by n signs at the most, and its depth is at most k -/
def Shb : Nat → Nat → D → Prop
  | _, n, .non => 4 ≤ n
  | _, n, .bl _ => 5 ≤ n
  | _, n, .int i => -(2 ^ 250) < i ∧ i < 2 ^ 250 ∧ 252 ≤ n
  | _, n, .str x => (reprText x).length ≤ n
  | k + 1, n, .tup ds => ∃ m, (∀ d ∈ ds, Shb k m d) ∧ ds.length * (m + 2) + 3 ≤ n
  | k + 1, n, .lst ds => ∃ m, (∀ d ∈ ds, Shb k m d) ∧ ds.length * (m + 2) + 3 ≤ n
  | k + 1, n, .fz ds => ∃ m, (∀ d ∈ ds, Shb k m d) ∧ ds.length * (m + 2) + 3 ≤ n
  | _, _, _ => False
theorem piled_le {ts : List Str} {m : Nat} (h : ∀ t ∈ ts, t.length ≤ m) : piled ts ≤ ts.length * (m + 2) := by
  induction ts with
  | nil => exact Nat.zero_le _
  | cons t ts ih =>
    rw [piled_cons, List.length_cons, Nat.succ_mul]
    have h1 := h t List.mem_cons_self
    have h2 := ih fun u hu => h u (List.mem_cons_of_mem _ hu)
    omega
theorem join_le {ts : List Str} {m : Nat} (h : ∀ t ∈ ts, t.length ≤ m) : (Str.join ", " ts).length ≤ ts.length * (m + 2) := by
  cases ts with
  | nil => exact Nat.zero_le _
  | cons t ts =>
    have h1 := join_length_add (t :: ts) (by simp)
    have h2 := piled_le h
    omega
theorem tupleText_le {ts : List Str} {m : Nat} (h : ∀ t ∈ ts, t.length ≤ m) : (tupleText ts).length ≤ ts.length * (m + 2) + 3 := by
  unfold tupleText
  rw [strLen_append, strLen_append]
  have e1 : ((("(" : String) : Str)).length = 1 := rfl
  have e3 : (((if ts.length == 1 then ",)" else ")" : String) : Str)).length ≤ 2 := by split <;> decide
  have := join_le h
  omega
theorem listText_le {ts : List Str} {m : Nat} (h : ∀ t ∈ ts, t.length ≤ m) : (listText ts).length ≤ ts.length * (m + 2) + 3 := by
  rw [listText_eq_join, strLen_append, strLen_append]
  have e1 : ((("[" : String) : Str)).length = 1 := rfl
  have e3 : ((("]" : String) : Str)).length = 1 := rfl
  have := join_le h
  omega
theorem toPs_length : ∀ ds : List D, (toPs ds).length = ds.length
  | [] => rfl
  | _ :: ds => congrArg (· + 1) (toPs_length ds)
theorem shownAll_length : ∀ ds : List PyData, (PyData.shownAll ds).length = ds.length
  | [] => rfl
  | _ :: ds => congrArg (· + 1) (shownAll_length ds)
theorem shb_int {i : Int} (h1 : -(2 ^ 250) < i) (h2 : i < 2 ^ 250) : i.natAbs.log2 < 250 := by
  have e : ((2 ^ 250 : Nat) : Int) = 2 ^ 250 := by norm_cast
  have h : i.natAbs < 2 ^ 250 := by omega
  by_cases h0 : i.natAbs = 0
  · rw [h0]
    decide
  · exact (Nat.log2_lt h0).mpr h
/-- what stands behind a bound -/
structure Shn (k n : Nat) (p : PyData) : Prop where
  ok : p.showable = true
  dp : p.depth ≤ k
  ln : p.shown.length ≤ n
theorem shn_all {k m : Nat} : ∀ {ds : List D}, (∀ d ∈ ds, Shn k m (toP d)) → PyData.showableAll (toPs ds) = true ∧ PyData.depthAll (toPs ds) ≤ k ∧ ∀ t ∈ PyData.shownAll (toPs ds), t.length ≤ m
  | [], _ => ⟨rfl, Nat.zero_le _, fun t h => nomatch h⟩
  | d :: ds, h => by
    obtain ⟨h1, h2, h3⟩ := shn_all (ds := ds) fun e he => h e (List.mem_cons_of_mem _ he)
    have h0 := h d List.mem_cons_self
    refine ⟨?_, ?_, fun t ht => ?_⟩
    · show (PyData.showable (toP d) && PyData.showableAll (toPs ds)) = true
      rw [h0.ok, h1]
      rfl
    · exact Nat.max_le.mpr ⟨h0.dp, h2⟩
    · rcases List.mem_cons.mp ht with rfl | ht
      · exact h0.ln
      · exact h3 t ht
theorem Shb.shn : ∀ {k n : Nat} {d : D}, Shb k n d → Shn k n (toP d) := by
  intro k
  induction k with
  | zero =>
    intro n d h
    cases d with
    | non => exact ⟨rfl, Nat.zero_le _, h⟩
    | bl b =>
      refine ⟨rfl, Nat.zero_le _, Nat.le_trans ?_ h⟩
      cases b <;> decide
    | int i =>
      unfold Shb at h
      have hl := shb_int h.1 h.2.1
      refine ⟨decide_eq_true (Nat.lt_trans hl (by decide)), Nat.zero_le _, ?_⟩
      show (Str.ofString (toString i)).length ≤ n
      have e := int_text_length_le (k := 250) (by decide) hl
      rw [PySem.ofString_length]
      omega
    | str x =>
      unfold Shb at h
      exact ⟨rfl, Nat.zero_le _, h⟩
    | _ => exact (h : False).elim
  | succ k ih =>
    intro n d h
    cases d with
    | non => exact ⟨rfl, Nat.zero_le _, h⟩
    | bl b =>
      refine ⟨rfl, Nat.zero_le _, Nat.le_trans ?_ h⟩
      cases b <;> decide
    | int i =>
      unfold Shb at h
      have hl := shb_int h.1 h.2.1
      refine ⟨decide_eq_true (Nat.lt_trans hl (by decide)), Nat.zero_le _, ?_⟩
      show (Str.ofString (toString i)).length ≤ n
      have e := int_text_length_le (k := 250) (by decide) hl
      rw [PySem.ofString_length]
      omega
    | str x =>
      unfold Shb at h
      exact ⟨rfl, Nat.zero_le _, h⟩
    | tup ds =>
      obtain ⟨m, h1, h2⟩ := (h : ∃ m, (∀ d ∈ ds, Shb k m d) ∧ ds.length * (m + 2) + 3 ≤ n)
      obtain ⟨a1, a2, a3⟩ := shn_all fun d hd => ih (h1 d hd)
      refine ⟨a1, Nat.succ_le_succ a2, Nat.le_trans (tupleText_le a3) ?_⟩
      rw [shownAll_length, toPs_length]
      exact h2
    | lst ds =>
      obtain ⟨m, h1, h2⟩ := (h : ∃ m, (∀ d ∈ ds, Shb k m d) ∧ ds.length * (m + 2) + 3 ≤ n)
      obtain ⟨a1, a2, a3⟩ := shn_all fun d hd => ih (h1 d hd)
      refine ⟨a1, Nat.succ_le_succ a2, Nat.le_trans (listText_le a3) ?_⟩
      rw [shownAll_length, toPs_length]
      exact h2
    | fz ds =>
      obtain ⟨m, h1, h2⟩ := (h : ∃ m, (∀ d ∈ ds, Shb k m d) ∧ ds.length * (m + 2) + 3 ≤ n)
      obtain ⟨a1, a2, a3⟩ := shn_all fun d hd => ih (h1 d hd)
      refine ⟨a1, Nat.succ_le_succ a2, Nat.le_trans (listText_le a3) ?_⟩
      rw [shownAll_length, toPs_length]
      exact h2
    | _ => exact (h : False).elim
section
variable {K : PySem.W.Frag} {Z : Zt} {μ : Mu} {H : Hp}
theorem dps {k : Nat} (ih : ∀ {n : Nat} {v : V} {d : D}, Shb k n d → Rp K Z μ H v d → Dp K H v (toP d)) {m : Nat} : ∀ {ds : List D} {vs : List V}, (∀ d ∈ ds, Shb k m d) → RpAll K Z μ H vs ds → DpAll K H vs (toPs ds)
  | [], _, _, .nil => .nil
  | d :: ds, _, h, .cons r t => .cons (ih (h d List.mem_cons_self) r) (dps ih (fun e he => h e (List.mem_cons_of_mem _ he)) t)
theorem Shb.dp : ∀ {k n : Nat} {v : V} {d : D}, Shb k n d → Rp K Z μ H v d → Dp K H v (toP d) := by
  intro k
  induction k with
  | zero =>
    intro n v d h r
    cases r with
    | non => exact .non
    | bl b => exact .bl b
    | int i => exact .int i
    | str x => exact .str x
    | _ => exact (h : False).elim
  | succ k ih =>
    intro n v d h r
    cases r with
    | non => exact .non
    | bl b => exact .bl b
    | int i => exact .int i
    | str x => exact .str x
    | @tup a xs ds hc t =>
      obtain ⟨m, h1, _⟩ := (h : ∃ m, (∀ d ∈ ds, Shb k m d) ∧ ds.length * (m + 2) + 3 ≤ n)
      exact .tup hc.sq (dps ih h1 t)
    | @lst a xs ds ho hc t =>
      obtain ⟨m, h1, _⟩ := (h : ∃ m, (∀ d ∈ ds, Shb k m d) ∧ ds.length * (m + 2) + 3 ≤ n)
      exact .lst (SqL.of ho) (dps ih h1 t)
    | @fz a xs ds hc t =>
      obtain ⟨m, h1, _⟩ := (h : ∃ m, (∀ d ∈ ds, Shb k m d) ∧ ds.length * (m + 2) + 3 ≤ n)
      exact .lst hc.sq (dps ih h1 t)
    | _ => exact (h : False).elim
theorem see_nfz {d : D} {ds : List D} : see μ d ≠ .fz ds := by
  cases d with
  | ref a =>
    intro e
    cases q : μ a with
    | none => simp only [see, q] at e; cases e
    | some m => cases m <;> (simp only [see, q] at e; cases e)
  | _ => exact fun e => by cases e
mutual
theorem dp_nodict : ∀ {v : V} {p : PyData}, Dp K H v p → p.hasDict = false
  | _, _, .non => by simp only [PyData.hasDict]
  | _, _, .bl _ => by simp only [PyData.hasDict]
  | _, _, .int _ => by simp only [PyData.hasDict]
  | _, _, .str _ => by simp only [PyData.hasDict]
  | _, _, .lst _ h => by
    simp only [PyData.hasDict]
    exact dps_nodict h
  | _, _, .tup _ h => by
    simp only [PyData.hasDict]
    exact dps_nodict h
theorem dps_nodict : ∀ {vs : List V} {ps : List PyData}, DpAll K H vs ps → PyData.hasDictAll ps = false
  | _, _, .nil => by simp only [PyData.hasDictAll]
  | _, _, .cons h t => by
    simp only [PyData.hasDictAll]
    rw [dp_nodict h, dps_nodict t]
    rfl
end
/-- the same, seen through an address -/
theorem shb_see (S : Sim K Z μ H) {k n : Nat} {v : V} {d : D} (h : Shb k n (see μ d)) (r : Rp K Z μ H v d) : Dp K H v (toP (see μ d)) := by
  cases k with
  | zero =>
    cases d with
    | non => exact h.dp r
    | bl b => exact h.dp r
    | int i => exact h.dp r
    | str x => exact h.dp r
    | ref a =>
      unfold see at h
      split at h <;> first | exact (h : False).elim | (split at h <;> exact (h : False).elim)
    | _ => exact (h : False).elim
  | succ k =>
    cases e : see μ d with
    | lst ds =>
      rw [e] at h
      obtain ⟨m, h1, _⟩ := (h : ∃ m, (∀ d ∈ ds, Shb k m d) ∧ ds.length * (m + 2) + 3 ≤ n)
      obtain ⟨a, xs, rfl, hs, t⟩ := see_lst_inv S r e
      exact .lst hs (dps (fun h r => h.dp r) h1 t)
    | tup ds =>
      rw [e] at h
      obtain ⟨a, xs, rfl, rfl, _⟩ := see_tup_inv r e
      exact h.dp r
    | int i =>
      rw [see_int_inv r e]
      exact .int i
    | bl b =>
      rw [see_bl_inv r e]
      exact .bl b
    | str x =>
      rw [see_str_inv r e]
      exact .str x
    | non =>
      rw [see_non_inv r e]
      exact .non
    | fz ds => exact absurd e see_nfz
    | _ =>
      rw [e] at h
      exact (h : False).elim
end
section
variable {X : Cx}
/-- repr(x) of data of any depth -/
theorem call_repr_dp (hu : X.A.units + 64 < cLine) (hg : X.A.guards = some []) : CallR X (.builtin "repr") (fun xs H Q => ∃ v p n, xs = [v] ∧ Dp X.K H v p ∧ Shn 40 n p ∧ n ≤ sizeLine ∧ Q (.str p.shown) H) := by
  intro pins s σ H xs us Q I r h
  obtain ⟨v, p, n, rfl, hd, hs, hn, q⟩ := h
  obtain ⟨u, rfl, r1⟩ := vals1 r
  have nd2 := dp_nodict hd
  have hz : p.shown.length ≤ sizeLine := Nat.le_trans hs.ln hn
  have done : ∀ (h' : Heap) (t tk : Tok), (∀ b o, s.heap.get? b = some o → h'.get? b = some o) → EP X pins σ Q (.str p.shown t) { s with heap := h', toks := tk } := fun h' t tk hk => ⟨.str p.shown, H, I.kept hk, ⟨t, rfl⟩, q⟩
  obtain ⟨as, rd⟩ := Dp.reads I p v u hd r1
  cases hd with
  | non =>
    cases r1
    exact PySem.P.repr_of_none (done _ _ _ fun _ _ e => e)
  | bl b =>
    cases r1
    refine PySem.P.repr_of_bool ?_
    have := done s.heap s.toks (s.toks + 1) fun _ _ e => e
    exact this
  | int i =>
    obtain ⟨t, rfl⟩ := r1
    exact PySem.P.repr_of_int (of_decide_eq_true (by simpa [PyData.showable] using hs.ok)) (done _ _ _ fun _ _ e => e)
  | str x =>
    obtain ⟨t, rfl⟩ := r1
    exact PySem.P.repr_of_str (done _ _ _ fun _ _ e => e) hz
  | @lst a xs ds hl ha =>
    cases r1
    have hd := hs.dp
    exact repr_of_reads' rd hs.ok (PyData.noDict_hsm nd2) hg (by omega) (fun _ _ e => e) (fun h' t tk hk => done h' t tk hk) hz
  | @tup a xs ds hl ha =>
    cases r1
    have hd := hs.dp
    exact repr_of_reads' rd hs.ok (PyData.noDict_hsm nd2) hg (by omega) (fun _ _ e => e) (fun h' t tk hk => done h' t tk hk) hz
def fRepr : List D → Mu → DQ → Prop := fun ds μ Q => ∃ d, ds = [d] ∧ (∃ n, Shb 40 n (see μ d) ∧ n ≤ sizeLine) ∧ Q (.str (shw (see μ d))) μ
theorem b_repr (hu : X.A.units + 64 < cLine) (hg : X.A.guards = some []) : DCa X (.builtin "repr") fRepr := by
  refine ⟨_, call_repr_dp hu hg, fun Z H μ vs ds Qd Q S r h q => ?_⟩
  obtain ⟨d, rfl, ⟨n, h1, h2⟩, h⟩ := h
  obtain ⟨v, rfl, r1⟩ := rp1 r
  exact ⟨v, toP (see μ d), n, rfl, shb_see S h1 r1, h1.shn, h2, q.same S (.str _) h⟩
/-- == of texts -/
def dEqS : O2 := fun x y μ Q => ∃ i j, x = .str i ∧ y = .str j ∧ Q (.bl (decide (i = j))) μ
def dNeS : O2 := fun x y μ Q => ∃ i j, x = .str i ∧ y = .str j ∧ Q (.bl (!decide (i = j))) μ
theorem dec_strV {i j : Str} : decide (V.str i = V.str j) = decide (i = j) := by
  rw [Bool.eq_iff_iff]
  simp
theorem o_eqS : DO X (compareOp .Eq) dEqS := by
  refine ⟨_, op_eq, fun Z H μ x y dx dy Qd Q S rx ry h q => ?_⟩
  obtain ⟨i, j, rfl, rfl, h⟩ := h
  cases rx
  cases ry
  exact ⟨rfl, by rw [dec_strV]; exact q.same S (.bl _) h⟩
theorem o_neS : DO X (compareOp .NotEq) dNeS := by
  refine ⟨_, op_ne, fun Z H μ x y dx dy Qd Q S rx ry h q => ?_⟩
  obtain ⟨i, j, rfl, rfl, h⟩ := h
  cases rx
  cases ry
  exact ⟨rfl, by rw [dec_strV]; exact q.same S (.bl _) h⟩
end
section
variable {μ : Mu} {Q : DQ} {d : D}
theorem z_repr : fRepr [d] μ Q = ((∃ n, Shb 40 n (see μ d) ∧ n ≤ sizeLine) ∧ Q (.str (shw (see μ d))) μ) := propext (Iff.intro (fun ⟨_, e, h⟩ => by cases e; exact h) fun h => ⟨_, rfl, h⟩)
theorem z_eqS {i j : Str} : dEqS (.str i) (.str j) μ Q = Q (.bl (decide (i = j))) μ := propext (Iff.intro (fun ⟨_, _, e1, e2, h⟩ => by cases e1; cases e2; exact h) fun h => ⟨_, _, rfl, rfl, h⟩)
theorem z_neS {i j : Str} : dNeS (.str i) (.str j) μ Q = Q (.bl (!decide (i = j))) μ := propext (Iff.intro (fun ⟨_, _, e1, e2, h⟩ => by cases e1; cases e2; exact h) fun h => ⟨_, _, rfl, rfl, h⟩)
theorem shb_bl {b : Bool} : ∃ n, Shb 40 n (.bl b) ∧ n ≤ sizeLine := ⟨5, Nat.le_refl _, by decide⟩
theorem shb_non : ∃ n, Shb 40 n .non ∧ n ≤ sizeLine := ⟨4, Nat.le_refl _, by decide⟩
theorem shb_i {i : Int} (h1 : -(2 ^ 250) < i) (h2 : i < 2 ^ 250) : ∃ n, Shb 40 n (.int i) ∧ n ≤ sizeLine := ⟨252, ⟨h1, h2, Nat.le_refl _⟩, by decide⟩
end
end DL

/-! DLu: enumerate and zip over lists and tuples. -/
namespace PySem
open Sem (wp)
theorem newEnum1 {v : Value} {o : Obj} {H : Heap → Prop} (B : Begins v o H) :
    Meets (Builtin.«enumerate.__new__» ⟨[.type "enumerate", v], []⟩) (fun _ R s => H s.heap ∧
      R (.ok (.ret (.ref (s.heap.push o).objs.size))) { s with heap := (s.heap.push o).push { cls := .type "enumerate", data := .fields #[.none, .bool false, .ref s.heap.objs.size, rawInt 0, .none, .none] } }) :=
  .of_wp fun prog w A R s h => by
    obtain ⟨hp, g, d, tk, os⟩ := s
    obtain ⟨h1, h⟩ := h
    have hsub := sub_enumerate
    have q1 : ∀ {A' : Around} {E : Value → Shared → Prop} {Q : Value → Shared → Prop}, Q (.ref hp.objs.size) ⟨hp.push o, g, d, tk, os⟩ → wpAny (model prog w) A' (pyIter v) Q E ⟨hp, g, d, tk, os⟩ :=
      fun q => B.iter prog w _ _ ⟨hp, g, d, tk, os⟩ _ h1 q
    wp_walk using q1
    refine wpAny_stack_any fun st => wpAny_pure ?_
    split
    · rename_i c _ _ _ _ _
      cases (c == Value.type "enumerate")
      · wp_walk using q1
        exact ⟨_, rfl, h⟩
      · wp_walk using q1
        exact ⟨_, rfl, h⟩
    · wp_walk using q1
      exact ⟨_, rfl, h⟩
theorem enumBegins1 {prog : Program} {w : World} {A : Around} {E : Value → Shared → Prop} {s : Shared} {v : Value} {o : Obj} {H : Heap → Prop} {Q : Value → Shared → Prop} (B : Begins v o H) (h1 : H s.heap)
    (h : ∀ h', IsEnum h' (s.heap.objs.size + 1) s.heap.objs.size 0 .none → h'.get? s.heap.objs.size = some o → h'.objs.size = s.heap.objs.size + 2 →
      (∀ b o, s.heap.get? b = some o → h'.get? b = some o) → Q (.ref (s.heap.objs.size + 1)) { s with heap := h' }) :
    wpAny (model prog w) A (call (.type "enumerate") [v]) Q E s := by
  refine callType_new F.called_enumerate (by decide) (F.typeCall_enumerate_1 _) (F.newCall_enumerate_1 _) (fun obj => F.args_object_init_2 obj _) F.entry_enumerate_new (newEnum1 B) ⟨h1, ?_⟩
  have hz : (s.heap.push o).objs.size = s.heap.objs.size + 1 := Heap.size_push ..
  show _ ∧ _
  rw [hz]
  have he : IsEnum ((s.heap.push o).push { cls := .type "enumerate", data := .fields #[.none, .bool false, .ref s.heap.objs.size, rawInt 0, .none, .none] }) (s.heap.objs.size + 1) s.heap.objs.size 0 .none := by
    have := Heap.get?_push_size (s.heap.push o) (o := { cls := .type "enumerate", data := .fields #[.none, .bool false, .ref s.heap.objs.size, rawInt 0, .none, .none] }) rfl
    rw [hz] at this
    exact this
  exact ⟨⟨_, he, rfl⟩, h _ he (Heap.get?_push_of_some _ (Heap.get?_push_size _ B.free)) (by rw [Heap.size_push, hz]) fun b o x => Heap.get?_push_of_some _ (Heap.get?_push_of_some _ x)⟩
end PySem
namespace DL
open PySem PySem.Spec PyProof.Rows L2
/-- the tuple at a, each item in a new pair -/
def IteT (K : PySem.W.Frag) (a : Addr) : It :=
  ⟨fun i H => ∃ (xs : List V) (x : V), SqT K H a xs ∧ xs[i]? = some x, fun i H v H' => ∃ T x, v = .ref T ∧ H T = none ∧ H' = upd H T (.tup [.int (i : Nat), x]) ∧ ∀ xs, SqT K H a xs → xs[i]? = some x, fun i H => ∃ xs : List V, SqT K H a xs ∧ xs.length ≤ i⟩
theorem turn_enumT {P : Program} {w : World} {K : PySem.W.Frag} {elts : List Expr} {kk : Nat} {tpos : Pos} (a e it : Addr) :
    Turn P w K (.Tuple elts kk tpos) (IteT K a) [e, it] e (fun i h => (∃ old, IsEnum h e it ((i : Nat) : Int) old) ∧ h.IsTupleIter it a i ∧ e ≠ it ∧ a ≠ it ∧ a ≠ e) where
  mem := by simp
  obj := fun i h st b hb => by
    obtain ⟨⟨old, he⟩, ⟨o, ho, hc, hd⟩, _⟩ := st
    have e' : b = e ∨ b = it := by simpa using hb
    rcases e' with z | z
    · rw [z]; exact ⟨_, he, fun v q => nomatch q⟩
    · rw [z]; exact ⟨o, ho, fun v q => by rw [hd] at q; cases q⟩
  keep := fun i h h' st k => let ⟨⟨old, he⟩, hi, hne⟩ := st; ⟨⟨old, k e (by simp) _ he⟩, hi.at fun o q => k it (by simp) o q, hne⟩
  item := by
    intro X hP hw hK hc i pins s σ H E I hf st hg
    subst hP hw hK
    obtain ⟨⟨old, he⟩, hit, hne, hai, hae⟩ := st
    obtain ⟨xs, x, hq, hx⟩ := hg
    obtain ⟨its, rv, p, hz⟩ := I.tuple hq
    obtain ⟨u, hu, ru⟩ := rv.get hx
    have hel : e < s.heap.objs.size := Heap.lt_size he
    have hil : it < s.heap.objs.size := by obtain ⟨_, q, _⟩ := hit; exact Heap.lt_size q
    have hp : s.heap.IsTuple a its.toArray := p
    refine wpAny_pyNext_enum_itemD (Draws.tuple (A := X.A.in1) (I.ok.hd hc) it a hai its.toArray) he ⟨hit, hp⟩ (by
      have := (List.getElem?_eq_some_iff.mp hu).1
      simpa using this) hne (by simp [hne, Ne.symm hae]) fun y h' tk hy ho st' hT hsz hk => ?_
    have ey : y = u := by
      have h2 : its[i]? = some y := by simpa using hy
      rw [hu] at h2
      exact (Option.some.inj h2).symm
    subst ey
    refine ⟨_, rfl, wpAny_letOwnedTupleGo_enum (s := { s with heap := h', toks := tk + 1 }) ho fun h'' he' sb => ?_⟩
    have hT2 : h''.get? s.heap.objs.size = some { cls := .type "tuple", data := .seq #[.int i tk, y] } := (sb.2 _ (Nat.ne_of_gt hel)).trans hT
    have new : ObjOk X.prog X.w (upd H s.heap.objs.size (.tup [.int (i : Nat), x])) h'' s.heap.objs.size (.tup [.int (i : Nat), x]) :=
      ⟨by show 2 ≤ sizeLine; decide, [.int i tk, y], .cons ⟨_, rfl⟩ (.cons ru .nil), ⟨_, hT2, rfl, _, rfl⟩⟩
    have I1 : Inv X pins σ (upd H s.heap.objs.size (.tup [.int (i : Nat), x])) { s with heap := h'', toks := tk + 1 } :=
      I.turnedNew (ch := [e, it]) (fun b ob hb q => (sb.2 b (fun z => hb (by simp [z]))).trans (hk b ob (fun z => hb (by simp [z])) (fun z => hb (by simp [z])) q)) hf (Nat.le_refl _) new
    refine ⟨.ref s.heap.objs.size, _, I1, rfl, ⟨_, x, rfl, I.hok.fresh (Nat.le_refl _), rfl, fun ys hy => by rw [I.tuple_inj hy hq]; exact hx⟩, ⟨⟨y, ?_⟩, st'.1.at fun o q => (sb.2 it (Ne.symm hne)).trans q, hne, hai, hae⟩, fun b hb => ?_⟩
    · have e1 : ((i + 1 : Nat) : Int) = (i : Int) + 1 := by omega
      rw [e1]; exact he'
    · have hb' : b < s.heap.objs.size := by
        have e' : b = e ∨ b = it := by simpa using hb
        rcases e' with z | z
        · rw [z]; exact hel
        · rw [z]; exact hil
      rw [upd_ne (Nat.ne_of_lt hb')]
      exact (hf b hb).1
  done := by
    intro X hP hw hK hc i pins s σ H E I hf st hg
    subst hP hw hK
    obtain ⟨⟨old, he⟩, hit, hne, hai, hae⟩ := st
    obtain ⟨xs, hq, hx⟩ := hg
    obtain ⟨its, rv, p, hz⟩ := I.tuple hq
    have hl := rv.length
    have hp : s.heap.IsTuple a its.toArray := p
    have hT : s.TypeIs (.ref e) "enumerate" := ⟨_, he, rfl⟩
    unfold pyNext
    refine wpAny_bind (wpAny_attempt (wpAny_callSpecial?_slot (name := Str.ofString "__next__") hT F.slot_enumerate_next
      (wpAny_call_entry F.slot_enumerate_next hT F.entry_enumerate_next ?_ (F.args_enumerate_next_1 _))))
    show wpAny _ _ (field (.ref e) 2 >>= _) _ _ _
    refine wpAny_bind (wpAny_field he rfl (x := .ref it) rfl ?_)
    refine wpAny_bind (wpAny_nextOf_tuple_end (A := X.A.in1) (I.ok.hd hc) hit hp (by simp; omega) fun h' x eb hx' => ?_)
    obtain ⟨o, ho, hc'⟩ := hx'
    refine wpAny_bind (wpAny_isInstance (T := "StopIteration") (b := true) ⟨o, ho, hc'⟩ isSubtype_stop ?_)
    obtain ⟨f0, f1, f2, f3, f4, f5⟩ := hf it (by simp)
    exact wpAny_pure ⟨rfl, I.turned (t' := s.toks) (fun b o hb q => eb b o hb q) f0 f1 f3 f4 f5⟩
  self := fun A i s Q E st h => let ⟨⟨_, he⟩, _⟩ := st; wpAny_pyIter_enum he h
def iEnumT (K : PySem.W.Frag) (ta : TA) : TI := fun σ H R => ta σ H fun vs H1 => ∃ a xs, vs = [.ref a] ∧ ((SqL K H1 a xs ∧ R (Ite K a) H1) ∨ (SqT K H1 a xs ∧ R (IteT K a) H1))
theorem pi_enumA {X : Cx} {e : Expr} {ta : TA} {p pos tpos : Pos} {elts : List Expr} {kk : Nat} (hg : Gl X "enumerate") (hm : X.mg "enumerate" = none) (ha : PA X [e] ta) (hs : starEach [e] X.env = [(false, eval e X.env)] := by rfl) :
    PI X (.Tuple elts kk tpos) (.Call (.Name "enumerate" p) [e] [] pos) (iEnumT X.K ta) := by
  refine ⟨fun pins s σ H R I h => ?_⟩
  refine Call_ (ld_blt I hg hm boot_enumerate (PyProof.Rows.callWith_type1 (thn (ha.run pos pins s σ H _ I h) fun us s1 ⟨vs, H1, I1, r1, q1⟩ => ?_) hs rfl))
  obtain ⟨a, xs, ex, q1⟩ := q1
  subst ex
  cases r1 with
  | cons r rr =>
    cases rr
    cases r
    have fp : ∀ b ∈ [s1.heap.objs.size + 1, s1.heap.objs.size], FpOk X pins H1 b := fun b hb => by
      have e' : b = s1.heap.objs.size + 1 ∨ b = s1.heap.objs.size := by simpa using hb
      have hle : s1.heap.objs.size ≤ b := by
        rcases e' with z | z
        · rw [z]; exact Nat.le_add_right _ _
        · rw [z]; exact Nat.le_refl _
      exact I1.fpOk hle (I1.hok.fresh hle)
    rcases q1 with ⟨hq, q⟩ | ⟨hq, q⟩
    · obtain ⟨its, rv, p', hz⟩ := I1.list hq
      refine call_enumerate_list p'.isList fun h' he hit hsz hk => wpAny_pyIter_enum he ?_
      have I2 : Inv X pins σ H1 { s1 with heap := h' } := I1.kept (t' := s1.toks) hk
      exact ⟨s1.heap.objs.size + 1, [s1.heap.objs.size + 1, s1.heap.objs.size], _, _, H1, rfl, I2, turn_enum a (s1.heap.objs.size + 1) s1.heap.objs.size, ⟨⟨.none, he⟩, hit, Nat.succ_ne_self _⟩, fp, q⟩
    · obtain ⟨its, rv, p', hz⟩ := I1.tuple hq
      have hp : s1.heap.IsTuple a its.toArray := p'
      have hal : a < s1.heap.objs.size := by obtain ⟨o, ho, _⟩ := hp; exact Heap.lt_size ho
      refine enumBegins1 (begins_tuple a its.toArray) hp fun h' he hit hsz hk => wpAny_pyIter_enum he ?_
      have I2 : Inv X pins σ H1 { s1 with heap := h' } := I1.kept (t' := s1.toks) hk
      exact ⟨s1.heap.objs.size + 1, [s1.heap.objs.size + 1, s1.heap.objs.size], _, _, H1, rfl, I2, turn_enumT a (s1.heap.objs.size + 1) s1.heap.objs.size,
        ⟨⟨.none, he⟩, ⟨_, hit, rfl, rfl⟩, Nat.succ_ne_self _, Nat.ne_of_lt hal, Nat.ne_of_lt (Nat.lt_succ_of_lt hal)⟩, fp, q⟩
/-- a list (false) or a tuple (true) -/
def SqB (t : Bool) (K : PySem.W.Frag) (H : Hp) (a : Addr) (xs : List V) : Prop := cond t (SqT K H a xs) (SqL K H a xs)
def ItrB (t : Bool) (h : Heap) (it a : Addr) (i : Nat) : Prop := cond t (h.IsTupleIter it a i) (h.IsListIter it a i)
def SeqB (t : Bool) (h : Heap) (a : Addr) (its : Array Value) : Prop := cond t (h.IsTuple a its) (h.IsList a its)
theorem drawsB {prog : Program} {w : World} {A : Around} (t : Bool) (hh : A.handled = none) (it a : Addr) (hne : a ≠ it) (items : Array Value) :
    Draws prog w A it [it, a] items.size (fun i v => items[i]? = some v) (fun i h => ItrB t h it a i ∧ SeqB t h a items) := by
  cases t
  · exact Draws.list hh it a hne items
  · exact Draws.tuple hh it a hne items
theorem draws_end {prog : Program} {w : World} {A : Around} (t : Bool) (hh : A.handled = none) (it a : Addr) (hne : a ≠ it) (items : Array Value) (i : Nat) :
    ∃ (n : Nat) (P : Nat → Value → Prop) (St : Nat → Heap → Prop), Draws prog w A it [it, a] n P St ∧ i ≤ n ∧ (items.size ≤ i → i = n) ∧ ∀ h, ItrB t h it a i → SeqB t h a items → St i h := by
  by_cases hi : i ≤ items.size
  · exact ⟨items.size, _, _, drawsB t hh it a hne items, hi, fun z => Nat.le_antisymm hi z, fun h x y => ⟨x, y⟩⟩
  · have hn : items[i]? = none := by simp; omega
    refine ⟨i, fun _ _ => True, fun j h => (ItrB t h it a j ∧ SeqB t h a items) ∧ i ≤ j, ⟨fun j h st => (drawsB (prog := prog) (w := w) t hh it a hne items).live j h st.1, fun j h h' st k => ⟨(drawsB (prog := prog) (w := w) t hh it a hne items).frame j h h' st.1 k, st.2⟩, fun j s Q E hj st _ => absurd hj (Nat.not_lt_of_le st.2), fun s Q E st hE => ?_⟩, Nat.le_refl _, fun _ => rfl, fun h x y => ⟨⟨x, y⟩, Nat.le_refl _⟩⟩
    cases t
    · exact wpAny_nextOf_list_end hh st.1.1 st.1.2 hn hE
    · exact wpAny_nextOf_tuple_end hh st.1.1 st.1.2 hn hE
theorem inv_seqB {X : Cx} {pins : List (Addr × Obj)} {σ : L2.St} {H : Hp} {s : Shared} (I : Inv X pins σ H s) {t : Bool} {a : Addr} {xs : List V} (h : SqB t X.K H a xs) :
    ∃ its, Vals xs its ∧ SeqB t s.heap a its.toArray ∧ a < s.heap.objs.size := by
  cases t
  · obtain ⟨its, rv, p, _⟩ := I.list h
    exact ⟨its, rv, p.isList, p.lt⟩
  · obtain ⟨its, rv, p, _⟩ := I.tuple h
    obtain ⟨o, ho, _⟩ := id p
    exact ⟨its, rv, p, Heap.lt_size ho⟩
theorem sqB_inj {X : Cx} {pins : List (Addr × Obj)} {σ : L2.St} {H : Hp} {s : Shared} (I : Inv X pins σ H s) {t : Bool} {a : Addr} {xs ys : List V} (h : SqB t X.K H a xs) (h' : SqB t X.K H a ys) : xs = ys := by
  cases t
  · exact I.list_inj h h'
  · exact I.tuple_inj h h'
theorem ItrB.live {t : Bool} {h : Heap} {it a : Addr} {i : Nat} (q : ItrB t h it a i) : ∃ o, h.get? it = some o ∧ ∀ v, o.data ≠ .cell v := by
  cases t
  · obtain ⟨o, ho, _, d⟩ := q
    exact ⟨o, ho, fun v z => by rw [d] at z; cases z⟩
  · obtain ⟨o, ho, _, d⟩ := q
    exact ⟨o, ho, fun v z => by rw [d] at z; cases z⟩
theorem ItrB.at {t : Bool} {h h' : Heap} {it a : Addr} {i : Nat} (q : ItrB t h it a i) (k : ∀ o, h.get? it = some o → h'.get? it = some o) : ItrB t h' it a i := by
  cases t
  · exact Heap.IsListIter.at q k
  · exact Heap.IsTupleIter.at q k
theorem beginsB (t : Bool) (a : Addr) (its : Array Value) : ∃ o, Begins (.ref a) o (fun h => SeqB t h a its) ∧ ∀ (h : Heap) (it : Addr), h.get? it = some o → ItrB t h it a 0 := by
  cases t
  · exact ⟨_, begins_list a its, fun h it e => ⟨_, e, rfl, rfl⟩⟩
  · exact ⟨_, begins_tuple a its, fun h it e => ⟨_, e, rfl, rfl⟩⟩
/-- the sequences at a and b as they stand at each turn, the items in new pairs -/
def ItzB (t1 t2 : Bool) (K : PySem.W.Frag) (a b : Addr) : It :=
  ⟨fun i H => ∃ (xs ys : List V) (x y : V), SqB t1 K H a xs ∧ SqB t2 K H b ys ∧ xs[i]? = some x ∧ ys[i]? = some y,
    fun i H v H' => ∃ T x y, v = .ref T ∧ H T = none ∧ H' = upd H T (.tup [x, y]) ∧ (∀ xs, SqB t1 K H a xs → xs[i]? = some x) ∧ ∀ ys, SqB t2 K H b ys → ys[i]? = some y,
    fun i H => ∃ xs ys : List V, SqB t1 K H a xs ∧ SqB t2 K H b ys ∧ (xs.length ≤ i ∨ ys.length ≤ i)⟩
theorem turn_zipB {P : Program} {w : World} {K : PySem.W.Frag} {elts : List Expr} {kk : Nat} {tpos : Pos} {t1 t2 : Bool} {a b z TI TO i1 i2 : Addr} (D : ZipSep2 z TI TO i1 i2 [i1, a] [i2, b]) (ha : a ≠ i1) (hb : b ≠ i2) :
    Turn P w K (.Tuple elts kk tpos) (ItzB t1 t2 K a b) [z, TI, TO, i1, i2] z (fun i h => IsZip h z TI TO .none ∧ IsTupOf2 h TI (.ref i1) (.ref i2) ∧ (∃ x y, IsTupOf2 h TO x y) ∧ ItrB t1 h i1 a i ∧ ItrB t2 h i2 b i) where
  mem := by simp
  obj := fun i h st c hc => by
    obtain ⟨hz, hTI, ⟨x, y, hTO⟩, h1, h2⟩ := st
    obtain ⟨o1, e1, d1⟩ := h1.live
    obtain ⟨o2, e2, d2⟩ := h2.live
    have e' : c = z ∨ c = TI ∨ c = TO ∨ c = i1 ∨ c = i2 := by simpa using hc
    rcases e' with q | q | q | q | q
    · rw [q]; exact ⟨_, hz, fun v q => nomatch q⟩
    · rw [q]; exact ⟨_, hTI, fun v q => nomatch q⟩
    · rw [q]; exact ⟨_, hTO, fun v q => nomatch q⟩
    · rw [q]; exact ⟨o1, e1, fun v q => d1 _ q⟩
    · rw [q]; exact ⟨o2, e2, fun v q => d2 _ q⟩
  keep := fun i h h' st k => by
    obtain ⟨hz, hTI, ⟨x, y, hTO⟩, h1, h2⟩ := st
    exact ⟨k z (by simp) _ hz, k TI (by simp) _ hTI, ⟨x, y, k TO (by simp) _ hTO⟩, h1.at fun o q => k i1 (by simp) o q, h2.at fun o q => k i2 (by simp) o q⟩
  item := by
    intro X hP hw hK hc i pins s σ H E I hf st hg
    subst hP hw hK
    obtain ⟨hz, hTI, ⟨x0, y0, hTO⟩, h1, h2⟩ := st
    obtain ⟨xs, ys, x, y, hqx, hqy, hx, hy⟩ := hg
    obtain ⟨its, rv, p, _⟩ := inv_seqB I hqx
    obtain ⟨its2, rv2, p2, _⟩ := inv_seqB I hqy
    obtain ⟨u, hu, ru⟩ := rv.get hx
    obtain ⟨u2, hu2, ru2⟩ := rv2.get hy
    have hzl : z < s.heap.objs.size := Heap.lt_size hz
    have b1 : i < its.toArray.size := by have := (List.getElem?_eq_some_iff.mp hu).1; simpa using this
    have b2 : i < its2.toArray.size := by have := (List.getElem?_eq_some_iff.mp hu2).1; simpa using this
    refine wpAny_pyNext_zipD2_item D (drawsB t1 (A := X.A.in1) (I.ok.hd hc) i1 a ha its.toArray) (drawsB t2 (A := X.A.in1) (I.ok.hd hc) i2 b hb its2.toArray) hz hTI hTO ⟨h1, p⟩ ⟨h2, p2⟩ b1 b2 fun v1 v2 h' tk g1 g2 z' TO' st1 st2 hT hsz hk => ?_
    have ev1 : v1 = u := by
      have h2 : its[i]? = some v1 := by simpa using g1
      rw [hu] at h2
      exact (Option.some.inj h2).symm
    have ev2 : v2 = u2 := by
      have h2 : its2[i]? = some v2 := by simpa using g2
      rw [hu2] at h2
      exact (Option.some.inj h2).symm
    subst ev1 ev2
    refine ⟨_, rfl, wpAny_letOwnedTupleGo_zip (s := { s with heap := h', toks := tk }) z' fun h'' z'' sb => ?_⟩
    have hT2 : h''.get? s.heap.objs.size = some { cls := .type "tuple", data := .seq #[v1, v2] } := (sb.2 _ (Nat.ne_of_gt hzl)).trans hT
    have new : ObjOk X.prog X.w (upd H s.heap.objs.size (.tup [x, y])) h'' s.heap.objs.size (.tup [x, y]) :=
      ⟨by show 2 ≤ sizeLine; decide, [v1, v2], .cons ru (.cons ru2 .nil), ⟨_, hT2, rfl, _, rfl⟩⟩
    have I1 : Inv X pins σ (upd H s.heap.objs.size (.tup [x, y])) { s with heap := h'', toks := tk } :=
      I.turnedNew (ch := [z, TI, TO, i1, i2]) (fun c o hb q => (sb.2 c (fun q' => hb (by simp [q']))).trans (hk c o (fun q' => hb (by simp [q'])) (fun q' => hb (by simp [q'])) (fun q' => hb (by simp [q'])) (fun q' => hb (by simp [q'])) q)) hf (Nat.le_refl _) new
    refine ⟨.ref s.heap.objs.size, _, I1, rfl, ⟨_, x, y, rfl, I.hok.fresh (Nat.le_refl _), rfl, fun l hl => by rw [sqB_inj I hl hqx]; exact hx, fun l hl => by rw [sqB_inj I hl hqy]; exact hy⟩, ⟨z'', ?_, ⟨v1, v2, ?_⟩, ?_, ?_⟩, fun c hcm => ?_⟩
    · exact (sb.2 _ D.TIz).trans (hk _ _ D.TIz D.TITO D.TIi1 D.TIi2 hTI)
    · exact (sb.2 _ D.TOz).trans TO'
    · exact st1.1.at fun o q => (sb.2 _ (Ne.symm D.zi1)).trans q
    · exact st2.1.at fun o q => (sb.2 _ (Ne.symm D.zi2)).trans q
    · have hlt : c < s.heap.objs.size := by
        have e' : c = z ∨ c = TI ∨ c = TO ∨ c = i1 ∨ c = i2 := by simpa using hcm
        rcases e' with q | q | q | q | q
        · rw [q]; exact hzl
        · rw [q]; exact Heap.lt_size hTI
        · rw [q]; exact Heap.lt_size hTO
        · rw [q]; obtain ⟨_, e1, _⟩ := h1.live; exact Heap.lt_size e1
        · rw [q]; obtain ⟨_, e2, _⟩ := h2.live; exact Heap.lt_size e2
      rw [upd_ne (Nat.ne_of_lt hlt)]
      exact (hf c hcm).1
  done := by
    intro X hP hw hK hc i pins s σ H E I hf st hg
    subst hP hw hK
    obtain ⟨hz, hTI, ⟨x0, y0, hTO⟩, h1, h2⟩ := st
    obtain ⟨xs, ys, hqx, hqy, hend⟩ := hg
    obtain ⟨its, rv, p, _⟩ := inv_seqB I hqx
    obtain ⟨its2, rv2, p2, _⟩ := inv_seqB I hqy
    have m1 : its.toArray.size = xs.length := by rw [List.size_toArray, rv.length]
    have m2 : its2.toArray.size = ys.length := by rw [List.size_toArray, rv2.length]
    obtain ⟨n1, P1, St1, D1, l1, f1, g1⟩ := draws_end (prog := X.prog) (w := X.w) t1 (A := X.A.in1) (I.ok.hd hc) i1 a ha its.toArray i
    obtain ⟨n2, P2, St2, D2, l2, f2, g2⟩ := draws_end (prog := X.prog) (w := X.w) t2 (A := X.A.in1) (I.ok.hd hc) i2 b hb its2.toArray i
    refine wpAny_pyNext_zipD2_end D D1 D2 hz hTI hTO (g1 _ h1 p) (g2 _ h2 p2) l1 l2 (hend.elim (fun q => .inl (f1 (by rw [m1]; exact q))) fun q => .inr (f2 (by rw [m2]; exact q))) fun h' tk hk => ?_
    exact ⟨rfl, I.turnedL (t' := tk) (ch := [z, TI, TO, i1, i2]) (fun c o hb q =>
      hk c o (fun q' => hb (by simp [q'])) (fun q' => hb (by simp [q'])) (fun q' => hb (by simp [q'])) (fun q' => hb (by simp [q'])) q) hf⟩
  self := fun A i s Q E st h => wpAny_pyIter_zip st.1 h
def iZipB (K : PySem.W.Frag) (ta : TA) : TI := fun σ H R => ta σ H fun vs H1 => ∃ a b xs ys t1 t2, vs = [.ref a, .ref b] ∧ SqB t1 K H1 a xs ∧ SqB t2 K H1 b ys ∧ R (ItzB t1 t2 K a b) H1
theorem pi_zipB {X : Cx} {e e2 : Expr} {ta : TA} {p pos tpos : Pos} {elts : List Expr} {kk : Nat} (hg : Gl X "zip") (hm : X.mg "zip" = none) (ha : PA X [e, e2] ta)
    (hs : starEach [e, e2] X.env = (false, eval e X.env) :: starEach [e2] X.env := by rfl) (hpl : (backTo pos (starEach [e2] X.env)).any (·.1) = false := by rfl) :
    PI X (.Tuple elts kk tpos) (.Call (.Name "zip" p) [e, e2] [] pos) (iZipB X.K ta) := by
  refine ⟨fun pins s σ H R I h => ?_⟩
  refine Call_ (ld_blt I hg hm PyProof.Rows.boot_zip (PyProof.Rows.callWith_type1 (thn (ha.run pos pins s σ H _ I h) fun us s1 ⟨vs, H1, I1, r1, q1⟩ => ?_) hs hpl))
  obtain ⟨a, b, xs, ys, t1, t2, ex, hqx, hqy, q⟩ := q1
  subst ex
  cases r1 with
  | cons r rr =>
    cases rr with
    | cons r' rr =>
      cases rr
      cases r
      cases r'
      have fresh5 : ∀ c, c ∈ [s1.heap.objs.size + 4, s1.heap.objs.size + 2, s1.heap.objs.size + 3, s1.heap.objs.size, s1.heap.objs.size + 1] → FpOk X pins H1 c := fun c hcm => by
        have e' : c = s1.heap.objs.size + 4 ∨ c = s1.heap.objs.size + 2 ∨ c = s1.heap.objs.size + 3 ∨ c = s1.heap.objs.size ∨ c = s1.heap.objs.size + 1 := by simpa using hcm
        have hle : s1.heap.objs.size ≤ c := by
          rcases e' with z | z | z | z | z
          · rw [z]; exact Nat.le_add_right _ _
          · rw [z]; exact Nat.le_add_right _ _
          · rw [z]; exact Nat.le_add_right _ _
          · rw [z]; exact Nat.le_refl _
          · rw [z]; exact Nat.le_add_right _ _
        exact I1.fpOk hle (I1.hok.fresh hle)
      obtain ⟨its, rv, p1, hal⟩ := inv_seqB I1 hqx
      obtain ⟨its2, rv2, p2, hbl⟩ := inv_seqB I1 hqy
      obtain ⟨o1, B1, g1⟩ := beginsB t1 a its.toArray
      obtain ⟨o2, B2, g2⟩ := beginsB t2 b its2.toArray
      refine zip_begins2 B1 B2 p1 p2 fun h' hz hTI hTO h1 h2 hsz hk => wpAny_pyIter_zip hz ?_
      have I2 : Inv X pins σ H1 { s1 with heap := h' } := I1.kept (t' := s1.toks) hk
      exact ⟨s1.heap.objs.size + 4, [s1.heap.objs.size + 4, s1.heap.objs.size + 2, s1.heap.objs.size + 3, s1.heap.objs.size, s1.heap.objs.size + 1], _, _, H1, rfl, I2,
        turn_zipB (zip_sep2 (fp1 := [a]) (fp2 := [b]) (fun c hc => by rw [List.mem_singleton.mp hc]; exact hal) (fun c hc => by rw [List.mem_singleton.mp hc]; exact hbl)) (Nat.ne_of_lt hal) (Nat.ne_of_lt (Nat.lt_succ_of_lt hbl)),
        ⟨hz, hTI, ⟨_, _, hTO⟩, g1 _ _ h1, g2 _ _ h2⟩, fresh5, q⟩
section
variable {X : Cx} {e e2 : Expr} {ta : DA} {p pos tpos : Pos} {elts : List Expr} {kk : Nat}
def enumD (xs : List D) : List D := xs.mapIdx fun i d => .tup [.int (i : Nat), d]
theorem enumD_get {xs : List D} {i : Nat} {d : D} : (enumD xs)[i]? = some d ↔ ∃ x, xs[i]? = some x ∧ d = .tup [.int (i : Nat), x] := by
  unfold enumD
  rw [List.getElem?_mapIdx]
  cases xs[i]? with
  | none => simp
  | some x => simp [eq_comm]
theorem enumD_len {xs : List D} : (enumD xs).length = xs.length := by
  unfold enumD
  rw [List.length_mapIdx]
def dIEnum (ta : DA) : DIt := fun ρ μ Q => ta ρ μ fun ds μ1 => ∃ d xs, ds = [d] ∧ (see μ1 d = .lst xs ∨ see μ1 d = .tup xs) ∧ Q (enumD xs) (fun μ => see μ d = see μ1 d) μ1
/-- a new pair -/
theorem new_pair {K : PySem.W.Frag} {Z : Zt} {μ : Mu} {H : Hp} {T : Addr} {v u : V} {d d' : D} (S : Sim K Z μ H) (hT : H T = none) (r : Rp K Z μ H v d) (r' : Rp K Z μ H u d') :
    Sim K Z μ (upd H T (.tup [v, u])) ∧ Stp μ μ H (upd H T (.tup [v, u])) ∧ Rp K Z μ (upd H T (.tup [v, u])) (.ref T) (.tup [d, d']) :=
  ⟨S.new hT, Stp.new hT, .tup ⟨upd_same, S.cold hT⟩ (.cons (r.stp (Stp.new hT)) (.cons (r'.stp (Stp.new hT)) .nil))⟩
theorem i_enum (hg : Gl X "enumerate") (hm : X.mg "enumerate" = none) (ha : DAs X [e] ta) (hs : starEach [e] X.env = [(false, eval e X.env)] := by rfl) : DI X (.Tuple elts kk tpos) (.Call (.Name "enumerate" p) [e] [] pos) (dIEnum ta) := by
  obtain ⟨t1, p1, h1⟩ := ha.ex
  refine ⟨_, pi_enumA hg hm p1 hs, fun Z σ ρ H μ Qd R S E h q => h1 Z σ ρ H μ _ _ S E h fun vs ds H1 μ1 S1 s1 r1 q1 => ?_⟩
  obtain ⟨d, xs, rfl, e, q1⟩ := q1
  obtain ⟨v, rfl, r3⟩ := rp1 r1
  rcases e with e | e
  · obtain ⟨a, us, rfl, hq, t⟩ := see_lst_inv S1 r3 e
    refine ⟨a, us, rfl, .inl ⟨hq, q _ _ _ H1 μ1 S1 s1 (fun Z' H2 μ2 s2 S2 g => ?_) q1⟩⟩
    have r2 : Rp X.K Z' μ2 H2 (.ref a) d := r3.go s2
    obtain ⟨b, ws, eb, hq2, t2⟩ := see_lst_inv S2 r2 (g.trans e)
    cases eb
    refine ⟨fun i hi => ⟨ws, hq2, by rw [t2.length]; rw [enumD_len] at hi; exact hi⟩, fun i d' hd => ?_⟩
    obtain ⟨x, hx, rfl⟩ := enumD_get.mp hd
    obtain ⟨w, hw, rw'⟩ := t2.get hx
    refine ⟨⟨ws, w, hq2, hw⟩, fun y H' yl => ?_⟩
    obtain ⟨T, w', rfl, hT, rfl, yl⟩ := yl
    have := yl ws hq2
    rw [hw] at this
    cases this
    exact new_pair S2 hT (.int _) rw'
  · obtain ⟨a, us, rfl, ed, hq, _, t⟩ := see_tup_inv r3 e
    refine ⟨a, us, rfl, .inr ⟨hq, q _ _ _ H1 μ1 S1 s1 (fun Z' H2 μ2 s2 S2 g => ?_) q1⟩⟩
    have r2 : Rp X.K Z' μ2 H2 (.ref a) d := r3.go s2
    obtain ⟨b, ws, eb, _, hq2, _, t2⟩ := see_tup_inv r2 (g.trans e)
    cases eb
    refine ⟨fun i hi => ⟨ws, hq2, by rw [t2.length]; rw [enumD_len] at hi; exact hi⟩, fun i d' hd => ?_⟩
    obtain ⟨x, hx, rfl⟩ := enumD_get.mp hd
    obtain ⟨w, hw, rw'⟩ := t2.get hx
    refine ⟨⟨ws, w, hq2, hw⟩, fun y H' yl => ?_⟩
    obtain ⟨T, w', rfl, hT, rfl, yl⟩ := yl
    have := yl ws hq2
    rw [hw] at this
    cases this
    exact new_pair S2 hT (.int _) rw'
def zipD (xs ys : List D) : List D := List.zipWith (fun x y => .tup [x, y]) xs ys
theorem zipD_get {xs ys : List D} {i : Nat} {d : D} : (zipD xs ys)[i]? = some d ↔ ∃ x y, xs[i]? = some x ∧ ys[i]? = some y ∧ d = .tup [x, y] := by
  unfold zipD
  rw [List.getElem?_zipWith]
  cases xs[i]? with
  | none => simp
  | some x =>
    cases ys[i]? with
    | none => simp
    | some y => simp [eq_comm]
theorem zipD_len {xs ys : List D} : (zipD xs ys).length = min xs.length ys.length := by
  unfold zipD
  rw [List.length_zipWith]
/-- lists and tuples -/
def SeeB (μ : Mu) (t : Bool) (d : D) (xs : List D) : Prop := see μ d = cond t (.tup xs) (.lst xs)
theorem seeB_inv {K : PySem.W.Frag} {Z : Zt} {μ : Mu} {H : Hp} {t : Bool} {v : V} {d : D} {xs : List D} (S : Sim K Z μ H) (r : Rp K Z μ H v d) (e : see μ d = cond t (.tup xs) (.lst xs)) :
    ∃ a us, v = .ref a ∧ SqB t K H a us ∧ RpAll K Z μ H us xs := by
  cases t
  · obtain ⟨a, us, e1, hq, t⟩ := see_lst_inv S r e
    exact ⟨a, us, e1, hq, t⟩
  · obtain ⟨a, us, e1, _, hq, _, t⟩ := see_tup_inv r e
    exact ⟨a, us, e1, hq, t⟩
def dIZip (ta : DA) : DIt := fun ρ μ Q => ta ρ μ fun ds μ1 => ∃ d d' xs ys, ds = [d, d'] ∧ ((see μ1 d = .lst xs ∧ see μ1 d' = .lst ys) ∨ (see μ1 d = .tup xs ∧ see μ1 d' = .tup ys) ∨ (see μ1 d = .lst xs ∧ see μ1 d' = .tup ys) ∨ (see μ1 d = .tup xs ∧ see μ1 d' = .lst ys)) ∧ Q (zipD xs ys) (fun μ => see μ d = see μ1 d ∧ see μ d' = see μ1 d') μ1
theorem i_zip (hg : Gl X "zip") (hm : X.mg "zip" = none) (ha : DAs X [e, e2] ta) (hs : starEach [e, e2] X.env = (false, eval e X.env) :: starEach [e2] X.env := by rfl) (hpl : (backTo pos (starEach [e2] X.env)).any (·.1) = false := by rfl) :
    DI X (.Tuple elts kk tpos) (.Call (.Name "zip" p) [e, e2] [] pos) (dIZip ta) := by
  obtain ⟨t1, p1, h1⟩ := ha.ex
  refine ⟨_, pi_zipB hg hm p1 hs hpl, fun Z σ ρ H μ Qd R S E h q => h1 Z σ ρ H μ _ _ S E h fun vs ds H1 μ1 S1 s1 r1 q1 => ?_⟩
  obtain ⟨d, d', xs, ys, rfl, e, q1⟩ := q1
  obtain ⟨v, v', rfl, r3, r3'⟩ := rp2 r1
  obtain ⟨k1, k2, e, e'⟩ : ∃ k1 k2, see μ1 d = cond k1 (.tup xs) (.lst xs) ∧ see μ1 d' = cond k2 (.tup ys) (.lst ys) := by
    rcases e with ⟨e, e'⟩ | ⟨e, e'⟩ | ⟨e, e'⟩ | ⟨e, e'⟩
    · exact ⟨false, false, e, e'⟩
    · exact ⟨true, true, e, e'⟩
    · exact ⟨false, true, e, e'⟩
    · exact ⟨true, false, e, e'⟩
  obtain ⟨a, us, rfl, hq, t⟩ := seeB_inv S1 r3 e
  obtain ⟨b, us', rfl, hq', t'⟩ := seeB_inv S1 r3' e'
  refine ⟨a, b, us, us', k1, k2, rfl, hq, hq', q _ _ _ H1 μ1 S1 s1 (fun Z' H2 μ2 s2 S2 g => ?_) q1⟩
  obtain ⟨_, ws, eb, hq2, t2⟩ := seeB_inv S2 (r3.go s2) (g.1.trans e)
  cases eb
  obtain ⟨_, ws', eb, hq2', t2'⟩ := seeB_inv S2 (r3'.go s2) (g.2.trans e')
  cases eb
  refine ⟨fun i hi => ⟨ws, ws', hq2, hq2', ?_⟩, fun i dd hd => ?_⟩
  · rw [t2.length, t2'.length]
    rw [zipD_len] at hi
    omega
  obtain ⟨x, y, hx, hy, rfl⟩ := zipD_get.mp hd
  obtain ⟨w, hw, rw1⟩ := t2.get hx
  obtain ⟨w', hw', rw2⟩ := t2'.get hy
  refine ⟨⟨ws, ws', w, w', hq2, hq2', hw, hw'⟩, fun z H' yl => ?_⟩
  obtain ⟨T, z1, z2, rfl, hT, rfl, y1, y2⟩ := yl
  have := y1 ws hq2
  rw [hw] at this
  cases this
  have := y2 ws' hq2'
  rw [hw'] at this
  cases this
  exact new_pair S2 hT rw1 rw2
end
end DL

/-! DLv: sorted of ints in a tuple, list(range(..)), tuple(range(..)), tuples that compare. -/
namespace DL
open PySem PySem.Spec PyProof.Rows L2
section
variable {X : Cx}
/-- sorted(t), t a tuple of ints -/
theorem call_sortT : CallR X (.builtin "sorted") (fun vs H Q => ∃ (a : Addr) (ns : List Int), vs = [V.ref a] ∧ SqT X.K H a (ns.map V.int) ∧
    ∀ (ms : List Int) (p : Addr), ms.Perm ns → ms.Pairwise (· ≤ ·) → H p = none → Q (.ref p) (upd H p (.lst (ms.map V.int)))) := by
  intro pins s σ H vs us Q I r h
  obtain ⟨a, ns, rfl, hs, q⟩ := h
  obtain ⟨its, rv, ⟨o, ho, hc, n, hd⟩, hz⟩ := I.tuple hs
  rw [Vals.ref1 r]
  have hi := rv.ints
  have hz' : its.length ≤ sizeLine := by rw [← rv.length]; exact hz
  refine Calls.call_function_entry kind_sorted plain_sorted entry_sorted (args_sorted1 _) ?_
  unfold Builtin.«sorted»
  refine wpAny_bind (m := checkCount "sorted" 1 1 _) (wpAny_pure ?_)
  refine wpAny_bind (wpAny_collect_seq a (.inr rfl) ho hc hd (fun h' hk => ?_) (by rw [List.size_toArray]; exact hz'))
  have I1 : Inv X pins σ H { s with heap := h' } := I.kept (t' := s.toks) hk
  have el : its.toArray.toList = its := rfl
  refine wpAny_bind (wpAny_newList ?_ (by rw [el]; exact hz'))
  have hoL : (h'.push (seqObj "list" its.toArray 0)).get? h'.objs.size = some (seqObj "list" its.toArray 0) := Heap.get?_push_size _ rfl
  show wpAny _ _ _ _ _ { s with heap := h'.push (seqObj "list" its.toArray 0) }
  refine wpAny_bind (wpAny_holding (wpAny_call_entry slot_list_sort ⟨_, hoL, rfl⟩ entry_list_sort
    (SrtO.list_sort_ord (s := { s with heap := h'.push (seqObj "list" its.toArray 0) }) SrtO.swo_int hoL hz' (fun h2 => SrtO.ints_sortable hi h2) fun out h1 h2 => ⟨_, rfl, ?_⟩) (args_list_sort _)))
  obtain ⟨k1, k2, k3⟩ := SrtO.ints_out hi h1 h2
  obtain ⟨ep, he'⟩ := sortedHeap_at (vs := its) (out := out.toArray) hoL
  have hlen : ((out.map SrtO.iv).map V.int).length ≤ sizeLine := by
    rw [List.length_map, k2.length_eq]
    rw [List.length_map] at hz
    exact hz
  refine wpAny_pure ⟨_, rfl, .ref h'.objs.size, upd H h'.objs.size (.lst ((out.map SrtO.iv).map V.int)), I1.laid (t' := s.toks) (fun b u e => ?_) (Nat.le_refl _) ⟨hlen, out, ep, vals_of_ints k1, he'⟩, rfl, q _ _ k2 k3 (I1.hok.fresh (Nat.le_refl _))⟩
  have hb : b < h'.objs.size := Heap.lt_size e
  rw [sortedHeap_old (Nat.ne_of_lt hb) (by rw [Heap.size_push]; exact Nat.lt_succ_of_lt hb)]
  exact Heap.get?_push_of_some _ e
theorem CallR_or {f : Value} {r r' : List V → Hp → VK → Prop} (h : CallR X f r) (h' : CallR X f r') : CallR X f (fun vs H Q => r vs H Q ∨ r' vs H Q) := fun pins s σ H vs us Q I rv hq =>
  hq.elim (h pins s σ H vs us Q I rv) (h' pins s σ H vs us Q I rv)
/-- sorted of ints in a list or a tuple -/
def fSort : List D → Mu → DQ → Prop := fun ds μ Q => ∃ (d : D) (ns : List Int), ds = [d] ∧ (see μ d = .lst (ns.map D.int) ∨ see μ d = .tup (ns.map D.int)) ∧ ∀ ms : List Int, ms.Perm ns → ms.Pairwise (· ≤ ·) → Q (.lst (ms.map D.int)) μ
theorem b_sort : DCa X (.builtin "sorted") fSort := by
  refine ⟨_, CallR_or cr_sortedI call_sortT, fun Z H μ vs ds Qd Q S r h q => ?_⟩
  obtain ⟨d, ns, rfl, e, h⟩ := h
  obtain ⟨v, rfl, r1⟩ := rp1 r
  rcases e with e | e
  · obtain ⟨a, us, rfl, hq, t⟩ := see_lst_inv S r1 e
    rw [RpAll.ints_inv t] at hq
    exact .inl ⟨a, ns, rfl, hq, fun ms p h1 h2 hp => q.newL S hp (RpAll.ints ms) (h ms h1 h2)⟩
  · obtain ⟨a, us, rfl, _, hq, _, t⟩ := see_tup_inv r1 e
    rw [RpAll.ints_inv t] at hq
    exact .inr ⟨a, ns, rfl, hq, fun ms p h1 h2 hp => q.newL S hp (RpAll.ints ms) (h ms h1 h2)⟩
/-- .. the list is one of the store -/
def fSortM : List D → Mu → DQ → Prop := fun ds μ Q => ∃ (d : D) (ns : List Int), ds = [d] ∧ (see μ d = .lst (ns.map D.int) ∨ see μ d = .tup (ns.map D.int)) ∧ ∀ (ms : List Int) (p : Addr), ms.Perm ns → ms.Pairwise (· ≤ ·) → μ p = none → Q (.ref p) (mput μ p (.lst (ms.map D.int)))
theorem b_sortM : DCa X (.builtin "sorted") fSortM := by
  refine ⟨_, CallR_or cr_sortedI call_sortT, fun Z H μ vs ds Qd Q S r h q => ?_⟩
  obtain ⟨d, ns, rfl, e, h⟩ := h
  obtain ⟨v, rfl, r1⟩ := rp1 r
  rcases e with e | e
  · obtain ⟨a, us, rfl, hq, t⟩ := see_lst_inv S r1 e
    rw [RpAll.ints_inv t] at hq
    exact .inl ⟨a, ns, rfl, hq, fun ms p h1 h2 hp => q.newM S hp (RpAll.ints ms) (h ms p h1 h2 (S.free hp))⟩
  · obtain ⟨a, us, rfl, _, hq, _, t⟩ := see_tup_inv r1 e
    rw [RpAll.ints_inv t] at hq
    exact .inr ⟨a, ns, rfl, hq, fun ms p h1 h2 hp => q.newM S hp (RpAll.ints ms) (h ms p h1 h2 (S.free hp))⟩

/-! ### list(range(..)), tuple(range(..)) -/
variable {a b : Expr} {ta tb : DT} {p pos rp rpos : Pos}
theorem rp_rg {K : PySem.W.Frag} {Z : Zt} {μ : Mu} {H : Hp} {i j : Int} : RpAll K Z μ H (rgV i j) (rng i (j - i).toNat) := by
  unfold rgV rng
  generalize (j - i).toNat = n
  refine RpAll.of_get (by simp) fun k v d h1 h2 => ?_
  rw [List.getElem?_map] at h1 h2
  cases e : (List.range n)[k]? with
  | none => rw [e] at h1; cases h1
  | some m =>
    rw [e] at h1 h2
    cases h1
    cases h2
    exact .int _
/-- lo .. hi - 1 -/
def dRg1 (ta : DT) : Rho → Mu → (Int → Int → Mu → Prop) → Prop := fun ρ μ Q => ta ρ μ fun x μ1 => ∃ n : Int, x = .int n ∧ n ≤ 16777216 ∧ -16777216 ≤ n ∧ Q 0 n μ1
def dRg2 (ta tb : DT) : Rho → Mu → (Int → Int → Mu → Prop) → Prop := fun ρ μ Q => ta ρ μ fun x μ1 => tb ρ μ1 fun y μ2 => ∃ i n : Int, x = .int i ∧ y = .int n ∧ (0 ≤ i ∧ i ≤ 16777216 ∧ n ≤ 16777216 ∧ -16777216 ≤ n) ∧ Q i n μ2
structure DRg (X : Cx) (e : Expr) (t : Rho → Mu → (Int → Int → Mu → Prop) → Prop) : Prop where
  ex : ∃ tr, PRg X e tr ∧ ∀ Z σ ρ H μ Qd (Q : Int → Int → Hp → Prop), Sim X.K Z μ H → ER X.K Z μ H σ ρ → t ρ μ Qd → (∀ i j H' μ', Sim X.K Z μ' H' → Stp μ μ' H H' → RgOk i j → Qd i j μ' → Q i j H') → tr σ H Q
theorem r_1 (hg : Gl X "range") (hm : X.mg "range" = none) (ha : DE X a ta) (na : starEach [a] X.env = (false, eval a X.env) :: starEach [] X.env := by rfl) : DRg X (.Call (.Name "range" p) [a] [] pos) (dRg1 ta) := by
  obtain ⟨t1, p1, h1⟩ := ha.ex
  refine ⟨_, prg_1 hg hm p1 na, fun Z σ ρ H μ Qd Q S R h q => h1 Z σ ρ H μ _ _ S R h fun v d H1 μ1 S1 s1 r1 q1 => ?_⟩
  obtain ⟨n, rfl, b1, b2, q1⟩ := q1
  cases r1
  exact ⟨n, rfl, q _ _ _ _ S1 s1 ⟨by omega, by omega, by omega, by omega, by omega⟩ q1⟩
theorem r_2 (hg : Gl X "range") (hm : X.mg "range" = none) (ha : DE X a ta) (hb : DE X b tb) (na : starEach [a, b] X.env = (false, eval a X.env) :: starEach [b] X.env := by rfl)
    (nb : starEach [b] X.env = (false, eval b X.env) :: starEach [] X.env := by rfl) (hp : (backTo pos (starEach [b] X.env)).any (·.1) = false := by rfl) : DRg X (.Call (.Name "range" p) [a, b] [] pos) (dRg2 ta tb) := by
  obtain ⟨t1, p1, h1⟩ := ha.ex
  obtain ⟨t2, p2, h2⟩ := hb.ex
  refine ⟨_, prg_2 hg hm p1 p2 na nb hp, fun Z σ ρ H μ Qd Q S R h q => h1 Z σ ρ H μ _ _ S R h fun v d H1 μ1 S1 s1 r1 q1 => ?_⟩
  refine h2 Z σ ρ H1 μ1 _ _ S1 (R.stp s1) q1 fun u d' H2 μ2 S2 s2 r2 q2 => ?_
  obtain ⟨i, n, rfl, rfl, b1, q2⟩ := q2
  cases r1
  cases r2
  exact ⟨i, n, rfl, rfl, q _ _ _ _ S2 (s1.trans s2) ⟨by omega, by omega, by omega, by omega, by omega⟩ q2⟩
variable {e : Expr} {te : Rho → Mu → (Int → Int → Mu → Prop) → Prop}
def dLstRg (te : Rho → Mu → (Int → Int → Mu → Prop) → Prop) : DT := fun ρ μ Q => te ρ μ fun i j μ1 => Q (.lst (rng i (j - i).toNat)) μ1
def dLstRgM (te : Rho → Mu → (Int → Int → Mu → Prop) → Prop) : DT := fun ρ μ Q => te ρ μ fun i j μ1 => ∀ p, μ1 p = none → Q (.ref p) (mput μ1 p (.lst (rng i (j - i).toNat)))
def dTupRg (te : Rho → Mu → (Int → Int → Mu → Prop) → Prop) : DT := fun ρ μ Q => te ρ μ fun i j μ1 => Q (.tup (rng i (j - i).toNat)) μ1
theorem d_lstRg (hc : X.calm = true) (hg : Gl X "list") (hm : X.mg "list" = none) (he : DRg X e te) (na : starEach [e] X.env = (false, eval e X.env) :: starEach [] X.env := by rfl) : DE X (.Call (.Name "list" p) [e] [] pos) (dLstRg te) := by
  obtain ⟨t1, p1, h1⟩ := he.ex
  exact ⟨_, pe_listRg hc hg hm p1 na, fun Z σ ρ H μ Qd Q S R h q => h1 Z σ ρ H μ _ _ S R h fun i j H1 μ1 S1 s1 ok q1 => ⟨ok, fun l hl => (q.step s1).newL S1 hl rp_rg q1⟩⟩
theorem d_lstRgM (hc : X.calm = true) (hg : Gl X "list") (hm : X.mg "list" = none) (he : DRg X e te) (na : starEach [e] X.env = (false, eval e X.env) :: starEach [] X.env := by rfl) : DE X (.Call (.Name "list" p) [e] [] pos) (dLstRgM te) := by
  obtain ⟨t1, p1, h1⟩ := he.ex
  exact ⟨_, pe_listRg hc hg hm p1 na, fun Z σ ρ H μ Qd Q S R h q => h1 Z σ ρ H μ _ _ S R h fun i j H1 μ1 S1 s1 ok q1 => ⟨ok, fun l hl => (q.step s1).newM S1 hl rp_rg (q1 l (S1.free hl))⟩⟩
theorem d_tupRg (hc : X.calm = true) (hg : Gl X "tuple") (hm : X.mg "tuple" = none) (he : DRg X e te) (na : starEach [e] X.env = (false, eval e X.env) :: starEach [] X.env := by rfl) : DE X (.Call (.Name "tuple" p) [e] [] pos) (dTupRg te) := by
  obtain ⟨t1, p1, h1⟩ := he.ex
  exact ⟨_, pe_tupRg hc hg hm p1 na, fun Z σ ρ H μ Qd Q S R h q => h1 Z σ ρ H μ _ _ S R h fun i j H1 μ1 S1 s1 ok q1 => ⟨ok, fun l hl => (q.step s1).newT S1 hl rp_rg q1⟩⟩

/-! ### t < u of tuples of ints -/
def dLtT : O2 := fun x y μ Q => ∃ ns ms : List Int, x = .tup (ns.map D.int) ∧ y = .tup (ms.map D.int) ∧ Q (.bl (HT.lexLt ns ms)) μ
theorem o_ltT (hu : X.A.units + 64 < cLine) : DO X (compareOp .Lt) dLtT := by
  refine ⟨_, op_ltT (by omega), fun Z H μ x y dx dy Qd Q S rx ry h q => ?_⟩
  obtain ⟨ns, ms, rfl, rfl, h⟩ := h
  obtain ⟨a, us, rfl, _, hq, _, t⟩ := see_tup_inv rx rfl
  obtain ⟨b, us', rfl, _, hq', _, t'⟩ := see_tup_inv ry rfl
  rw [RpAll.ints_inv t] at hq
  rw [RpAll.ints_inv t'] at hq'
  exact ⟨a, b, ns, ms, rfl, rfl, hq, hq', q.same S (.bl _) h⟩
/-- is True, is False -/
def dIsB : O2 := fun x y μ Q => ∃ a b, x = .bl a ∧ y = .bl b ∧ Q (.bl (decide (a = b))) μ
theorem o_isB : DO X (compareOp .Is) dIsB := by
  refine ⟨_, op_isBl, fun Z H μ x y dx dy Qd Q S rx ry h q => ?_⟩
  obtain ⟨i, j, rfl, rfl, h⟩ := h
  cases rx
  cases ry
  exact ⟨i, j, rfl, rfl, q.same S (.bl _) h⟩
end
section
variable {μ : Mu} {Q : DQ}
theorem z_ltT {ns ms : List Int} : dLtT (.tup (ns.map D.int)) (.tup (ms.map D.int)) μ Q = Q (.bl (HT.lexLt ns ms)) μ := propext (Iff.intro (fun ⟨a, b, e1, e2, h⟩ => by
  have inj : ∀ {x y : List Int}, x.map D.int = y.map D.int → x = y := fun {x y} e => (List.map_inj_right (fun x y h => by cases h; rfl)).mp e
  injection e1 with e1
  injection e2 with e2
  rw [inj e1, inj e2]
  exact h) fun h => ⟨_, _, rfl, rfl, h⟩)
theorem z_isB {a b : Bool} : dIsB (.bl a) (.bl b) μ Q = Q (.bl (decide (a = b))) μ := propext (Iff.intro (fun ⟨_, _, e1, e2, h⟩ => by cases e1; cases e2; exact h) fun h => ⟨_, _, rfl, rfl, h⟩)
theorem sort_of {x : D} {ns : List Int} (h : see μ x = .lst (ns.map D.int) ∨ see μ x = .tup (ns.map D.int)) (q : ∀ ms : List Int, ms.Perm ns → ms.Pairwise (· ≤ ·) → Q (.lst (ms.map D.int)) μ) : fSort [x] μ Q := ⟨x, ns, rfl, h, q⟩
end
end DL

/-! DLw: a, b, c = x, y, z. -/
namespace DL
open PySem PySem.Spec PyProof.Rows L2
section
variable {X : Cx}
theorem rp3 {K : PySem.W.Frag} {Z : Zt} {μ : Mu} {H : Hp} {vs : List V} {d e f : D} (r : RpAll K Z μ H vs [d, e, f]) : ∃ v u w, vs = [v, u, w] ∧ Rp K Z μ H v d ∧ Rp K Z μ H u e ∧ Rp K Z μ H w f := by
  cases r with
  | cons h t =>
    obtain ⟨u, w, rfl, h2, h3⟩ := rp2 t
    exact ⟨_, u, w, rfl, h, h2, h3⟩
theorem s_par3 {i j k : Nat} {x y z : Str} {a b c : Expr} {ta : DA} {px py pz pt pos : Pos} {kt k2 pt2} (hc : X.calm = true) (hN : X.N.Nodup) (hi : X.N[i]? = some x) (hj : X.N[j]? = some y) (hl : X.N[k]? = some z) (hij : i ≠ j) (hil : i ≠ k) (hjl : j ≠ k)
    (hx : X.env.scope.names.lookup x = some .local) (hy : X.env.scope.names.lookup y = some .local) (hz : X.env.scope.names.lookup z = some .local) (ha : DAs X [a, b, c] ta)
    (hw : swappedStores [.Tuple [.Name x px, .Name y py, .Name z pz] kt pt] (.Tuple [a, b, c] k2 pt2) X.env = pure (some [x, y, z]))
    (hs : swapsWithSole [.Tuple [.Name x px, .Name y py, .Name z pz] kt pt] (.Tuple [a, b, c] k2 pt2) pos.line X.env = pure false := by rfl) :
    DSt X (.Assign [.Tuple [.Name x px, .Name y py, .Name z pz] kt pt] (.Tuple [a, b, c] k2 pt2) pos) (dPar3 i j k ta) := by
  obtain ⟨t1, p1, h2⟩ := ha.ex
  refine ⟨_, ps_par3 hc hN hi hj hl hij hil hjl hx hy hz p1 hw hs, fun Z σ ρ H μ Dd D S R h l => h2 Z σ ρ H μ _ _ S R h fun vs ds H1 μ1 S1 s1 r1 q1 => ?_⟩
  obtain ⟨d, d', d'', rfl, q1⟩ := q1
  obtain ⟨v, v', v'', rfl, ra, rb, rc⟩ := rp3 r1
  exact ⟨v, v', v'', rfl, l.nx _ _ _ _ S1 ((((R.stp s1).set i ra).set j rb).set k rc) s1 q1⟩
end
end DL

/-! DLx: dicts. -/
namespace DL
open PySem PySem.Spec PyProof.Rows L2
def keyD : Key → D
  | .inl i => .int i
  | .inr x => .str x
section
variable {K : PySem.W.Frag} {Z : Zt} {μ μ' : Mu} {H H' : Hp} {v : V} {d : D}
theorem key_inv {k : Key} (r : Rp K Z μ H v (keyD k)) : v = kV k := by
  cases k with
  | inl i => cases r; rfl
  | inr x => cases r; rfl
theorem keys_inv : ∀ {ks : List Key} {vs : List V}, RpAll K Z μ H vs (ks.map keyD) → vs = ks.map kV
  | [], _, .nil => rfl
  | k :: ks, _, .cons r t => by
    rw [key_inv r, keys_inv t]
    rfl
theorem keyD_inj {k k' : Key} (h : keyD k = keyD k') : k = k' := by
  cases k <;> cases k' <;> first | (cases h; rfl) | cases h
section
variable {κ : Type} [DecidableEq κ]
def getT (kvs : List (κ × D)) (k : κ) : Option D := (kvs.find? fun kv => decide (kv.1 = k)).map (·.2)
def putT (kvs : List (κ × D)) (k : κ) (d : D) : List (κ × D) := if (kvs.any fun kv => decide (kv.1 = k)) = true then kvs.map (fun kv => if kv.1 = k then (kv.1, d) else kv) else kvs ++ [(k, d)]
/-- the table ws in H is the table ds -/
def TR (K : PySem.W.Frag) (Z : Zt) (μ : Mu) (H : Hp) (ws : List (κ × V)) (ds : List (κ × D)) : Prop := ws.map (·.1) = ds.map (·.1) ∧ RpAll K Z μ H (ws.map (·.2)) (ds.map (·.2))
theorem TR.nil : TR (κ := κ) K Z μ H [] [] := ⟨rfl, .nil⟩
theorem TR.uncons {w : κ × V} {ws : List (κ × V)} {e : κ × D} {ds : List (κ × D)} (h : TR K Z μ H (w :: ws) (e :: ds)) : w.1 = e.1 ∧ Rp K Z μ H w.2 e.2 ∧ TR K Z μ H ws ds := by
  obtain ⟨h1, h2⟩ := h
  rw [List.map_cons, List.map_cons] at h1 h2
  cases h2 with
  | cons r t => exact ⟨(List.cons.inj h1).1, r, (List.cons.inj h1).2, t⟩
theorem TR.cons {w : κ × V} {ws : List (κ × V)} {e : κ × D} {ds : List (κ × D)} (h1 : w.1 = e.1) (h2 : Rp K Z μ H w.2 e.2) (h : TR K Z μ H ws ds) : TR K Z μ H (w :: ws) (e :: ds) :=
  ⟨by rw [List.map_cons, List.map_cons, h1, h.1], .cons h2 h.2⟩
theorem TR.length {ws : List (κ × V)} {ds : List (κ × D)} (h : TR K Z μ H ws ds) : ws.length = ds.length := by
  have := congrArg List.length h.1
  rw [List.length_map, List.length_map] at this
  exact this
theorem TR.stp {ws : List (κ × V)} {ds : List (κ × D)} (s : Stp μ μ' H H') (h : TR K Z μ H ws ds) : TR K Z μ' H' ws ds := ⟨h.1, h.2.stp s⟩
theorem TR.val (k : κ) : ∀ {ws : List (κ × V)} {ds : List (κ × D)}, TR K Z μ H ws ds → (match getT ds k with
    | some d => ∃ v, valV ws k = some v ∧ Rp K Z μ H v d
    | none => valV ws k = none)
  | [], [], _ => rfl
  | w :: ws, e :: ds, h => by
    obtain ⟨h1, h2, h3⟩ := h.uncons
    have ih := TR.val k h3
    by_cases c : e.1 = k
    · have e1 : getT (e :: ds) k = some e.2 := by simp [getT, List.find?_cons, c]
      rw [e1]
      exact ⟨w.2, valV_pos (h1.trans c), h2⟩
    · have e1 : getT (e :: ds) k = getT ds k := by simp [getT, List.find?_cons, c]
      rw [e1, valV_neg (fun z => c (h1.symm.trans z))]
      exact ih
  | [], _ :: _, h => by
    have := h.length
    simp at this
  | _ :: _, [], h => by
    have := h.length
    simp at this
theorem TR.any (k : κ) : ∀ {ws : List (κ × V)} {ds : List (κ × D)}, TR K Z μ H ws ds → (ws.any fun kv => decide (kv.1 = k)) = (ds.any fun kv => decide (kv.1 = k))
  | [], [], _ => rfl
  | w :: ws, e :: ds, h => by
    obtain ⟨h1, h2, h3⟩ := h.uncons
    rw [List.any_cons, List.any_cons, TR.any k h3, h1]
  | [], _ :: _, h => by
    have := h.length
    simp at this
  | _ :: _, [], h => by
    have := h.length
    simp at this
theorem TR.mapput {k : κ} (r : Rp K Z μ H v d) : ∀ {ws : List (κ × V)} {ds : List (κ × D)}, TR K Z μ H ws ds → TR K Z μ H (ws.map fun kv => if kv.1 = k then (kv.1, v) else kv) (ds.map fun kv => if kv.1 = k then (kv.1, d) else kv)
  | [], [], _ => .nil
  | w :: ws, e :: ds, h => by
    obtain ⟨h1, h2, h3⟩ := h.uncons
    rw [List.map_cons, List.map_cons]
    refine .cons ?_ ?_ (TR.mapput r h3)
    · by_cases c : e.1 = k
      · rw [if_pos c, if_pos (h1.trans c)]
        exact h1
      · rw [if_neg c, if_neg (fun z => c (h1.symm.trans z))]
        exact h1
    · by_cases c : e.1 = k
      · rw [if_pos c, if_pos (h1.trans c)]
        exact r
      · rw [if_neg c, if_neg (fun z => c (h1.symm.trans z))]
        exact h2
  | [], _ :: _, h => by
    have := h.length
    simp at this
  | _ :: _, [], h => by
    have := h.length
    simp at this
theorem TR.put {k : κ} (r : Rp K Z μ H v d) {ws : List (κ × V)} {ds : List (κ × D)} (h : TR K Z μ H ws ds) : TR K Z μ H (putK ws k v) (putT ds k d) := by
  unfold putK putT
  rw [h.any k]
  split
  · exact h.mapput r
  · refine ⟨by rw [List.map_append, List.map_append, h.1]; rfl, ?_⟩
    rw [List.map_append, List.map_append]
    exact h.2.append (.cons r .nil)
end
theorem see_dk_inv {ds : List (Key × D)} (S : Sim K Z μ H) (r : Rp K Z μ H v d) (e : see μ d = .dk ds) : ∃ a ws, v = .ref a ∧ Rd H a (.dK ws) ∧ TR K Z μ H ws ds := by
  cases r with
  | @dk a od ws es h c k t =>
    cases e
    exact ⟨a, ws, rfl, .inr ⟨od, h⟩, k, t⟩
  | ref a =>
    cases q : μ a with
    | none =>
      unfold see at e
      simp only [q] at e
      cases e
    | some m =>
      have o := S.ob a m q
      unfold see at e
      simp only [q] at e
      cases o with
      | @dk ws es h k t =>
        cases e
        exact ⟨a, ws, rfl, .inl h, k, t⟩
      | _ => cases e
  | _ => cases e
mutual
/-- a key of a dict -/
theorem rp_kis : ∀ {k : NestedKey} {v : V}, Rp K Z μ H v (nkD k) → KIs H k v
  | .none, _, r => by
    rw [nkD] at r
    cases r
    intro P w h u ok ru
    cases (show u = Value.none from ru)
    exact .none
  | .num i, _, r => by
    rw [nkD] at r
    cases r
    intro P w h u ok ru
    obtain ⟨t, rfl⟩ := ru
    exact .int i t
  | .text x, _, r => by
    rw [nkD] at r
    cases r
    intro P w h u ok ru
    obtain ⟨t, rfl⟩ := ru
    exact .text x t
  | .tup ks, _, r => by
    rw [nkD] at r
    obtain ⟨a, xs, rfl, _, _, hc, t⟩ := see_tup_inv (μ := μ) r rfl
    intro P w h u ok ru
    cases (show u = Value.ref a from ru)
    obtain ⟨_, its, vs, o, ho, hcl, n, hd⟩ := (show ObjOk P w H h a (.tup xs) from ok a _ hc.1)
    exact .tup ho hcl hd (rp_kiss t P w h its ok vs)
theorem rp_kiss : ∀ {ks : List NestedKey} {vs : List V}, RpAll K Z μ H vs (nkDs ks) → ∀ (P : Program) (w : World) (h : Heap) (us : List Value), HOk P w H h → Vals vs us → NestedAll h ks us
  | [], _, r, P, w, h, us, ok, rv => by
    rw [nkDs] at r
    cases r
    cases rv
    exact .nil
  | k :: ks, _, r, P, w, h, us, ok, rv => by
    rw [nkDs] at r
    cases r with
    | cons r t =>
      cases rv with
      | cons r1 r2 => exact .cons (rp_kis r P w h _ ok r1) (rp_kiss t P w h _ ok r2)
end
/-- the keys of a dict stand -/
theorem kok_of {xs : NXs} {ds : List (NestedKey × D)} (e : xs.map (·.1) = ds.map (·.1)) (r : RpAll K Z μ H (xs.map fun x => V.ref x.2.1) (ds.map fun e => nkD e.1)) : KOk H xs := by
  intro x hx
  obtain ⟨i, hi⟩ := List.mem_iff_getElem?.mp hx
  have hl : i < ds.length := by
    have h1 := congrArg List.length e
    rw [List.length_map, List.length_map] at h1
    rw [← h1]
    exact (List.getElem?_eq_some_iff.mp hi).1
  have h2 : (ds.map fun e => nkD e.1)[i]? = some (nkD ds[i].1) := by rw [List.getElem?_map, List.getElem?_eq_getElem hl]; rfl
  obtain ⟨v, h3, h4⟩ := r.get h2
  rw [List.getElem?_map, hi] at h3
  cases h3
  have h5 : (xs.map (·.1))[i]? = (ds.map (·.1))[i]? := by rw [e]
  rw [List.getElem?_map, List.getElem?_map, hi, List.getElem?_eq_getElem hl] at h5
  have h6 : x.1 = ds[i].1 := Option.some.inj h5
  rw [h6]
  exact rp_kis h4
theorem see_dt_inv {ds : List (NestedKey × D)} (S : Sim K Z μ H) (r : Rp K Z μ H v d) (e : see μ d = .dt ds) : ∃ a xs ws, v = .ref a ∧ IsN H a xs ∧ NR xs ws ∧ RpAll K Z μ H (xs.map fun x => V.ref x.2.1) (ds.map fun e => nkD e.1) ∧ TR K Z μ H ws ds := by
  cases r with
  | @dt a od xs ws es h c n k kr t =>
    cases e
    exact ⟨a, xs, ws, rfl, .inr ⟨od, h⟩, n, kr, k, t⟩
  | ref a =>
    cases q : μ a with
    | none =>
      unfold see at e
      simp only [q] at e
      cases e
    | some m =>
      have o := S.ob a m q
      unfold see at e
      simp only [q] at e
      cases o with
      | @dt xs ws es h n k kr t =>
        cases e
        exact ⟨a, xs, ws, rfl, .inl h, n, kr, k, t⟩
      | _ => cases e
  | _ => cases e
theorem nr_keys {xs : NXs} {ws : List (NestedKey × V)} {ds : List (NestedKey × D)} (n : NR xs ws) (t : TR K Z μ H ws ds) : xs.map (·.1) = ds.map (·.1) := by
  rw [← n.keys, t.1]
theorem see_refk {a : Addr} {ds : List (Key × D)} (h : μ a = some (.dk ds)) : see μ (.ref a) = .dk ds := by simp only [see, h]
theorem see_reft {a : Addr} {ds : List (NestedKey × D)} (h : μ a = some (.dt ds)) : see μ (.ref a) = .dt ds := by simp only [see, h]
/-- what x[y] looks up -/
def Lku (μ : Mu) (x y : D) (o : Option D) : Prop := (∃ kvs k, see μ x = .dk kvs ∧ y = keyD k ∧ o = getT kvs k) ∨ ∃ kvs ks, see μ x = .dt kvs ∧ y = nkD (.tup ks) ∧ (NestedKey.tup ks).depth ≤ 8 ∧ o = getT kvs (.tup ks)
theorem lku_inv {x y : D} {w u : V} {o : Option D} (S : Sim K Z μ H) (r : Rp K Z μ H w x) (q : Rp K Z μ H u y) (h : Lku μ x y o) : ∃ a o', w = .ref a ∧ XGet H a u o' ∧ IsX H a ∧ o'.isSome = o.isSome ∧ (∀ d, o = some d → ∃ v, o' = some v ∧ Rp K Z μ H v d) := by
  rcases h with ⟨kvs, k, e, rfl, rfl⟩ | ⟨kvs, ks, e, rfl, hd, rfl⟩
  · obtain ⟨a, ws, rfl, hH, t⟩ := see_dk_inv S r e
    have tv := t.val k
    refine ⟨a, valV ws k, rfl, .inl (.inl ⟨ws, k, hH, key_inv q, rfl⟩), .inl (.inl ⟨ws, hH⟩), ?_, fun d hd => ?_⟩
    · cases c : getT kvs k with
      | none =>
        rw [c] at tv
        rw [show valV ws k = none from tv]
        rfl
      | some d =>
        rw [c] at tv
        obtain ⟨v, h1, _⟩ := tv
        rw [h1]
        rfl
    · rw [hd] at tv
      exact tv
  · obtain ⟨a, xs, ws, rfl, hN, n, kr, t⟩ := see_dt_inv S r e
    have tv := t.val (.tup ks)
    have kq := rp_kis q
    rw [nkD] at q
    obtain ⟨b, ys, rfl, _, _, hc, tb⟩ := see_tup_inv (μ := μ) q rfl
    refine ⟨a, valV ws (.tup ks), rfl, .inr ⟨xs, ws, .tup ks, b, hN, kok_of (nr_keys n t) kr, n, rfl, kq, hd, rfl⟩, .inr ⟨xs, hN⟩, ?_, fun d hd => ?_⟩
    · cases c : getT kvs (.tup ks) with
      | none =>
        rw [c] at tv
        rw [show valV ws (.tup ks) = none from tv]
        rfl
      | some d =>
        rw [c] at tv
        obtain ⟨v, h1, _⟩ := tv
        rw [h1]
        rfl
    · rw [hd] at tv
      exact tv
end
section
variable {X : Cx} {o i e f value : Expr} {to ti te tf tv : DT} {pos pos' apos cpos : Pos}
/-- a new dict -/
def dNewK : DT := fun _ μ Q => ∀ p, μ p = none → Q (.ref p) (mput μ p (.dk []))
def dNewT : DT := fun _ μ Q => ∀ p, μ p = none → Q (.ref p) (mput μ p (.dt []))
theorem d_newK : DE X (.Dict [] [] pos) dNewK := by
  refine ⟨_, pe_dnewK, fun Z σ ρ H μ Qd Q S R h q p hp => ?_⟩
  have hp' := S.free hp
  exact q _ _ _ _ (S.newM hp (.dk upd_same rfl .nil)) (Stp.newM hp) (.ref p) (h p hp')
theorem d_newT : DE X (.Dict [] [] pos) dNewT := by
  refine ⟨_, pe_dnewN, fun Z σ ρ H μ Qd Q S R h q p hp => ?_⟩
  have hp' := S.free hp
  exact q _ _ _ _ (S.newM hp (.dt (kvs := []) upd_same .nil rfl .nil .nil)) (Stp.newM hp) (.ref p) (h p hp')
/-- x[y] of a dict -/
def dGetD (to ti : DT) : DT := fun ρ μ Q => to ρ μ fun x μ1 => ti ρ μ1 fun y μ2 => ∃ d, Lku μ2 x y (some d) ∧ Q d μ2
theorem d_dget (hu : X.A.units + 64 < cLine) (ho : DE X o to) (hi : DE X i ti) (hs : NoSl i) : DE X (.Subscript o i pos) (dGetD to ti) := by
  obtain ⟨t1, p1, h1⟩ := ho.ex
  obtain ⟨t2, p2, h2⟩ := hi.ex
  refine ⟨_, pe_xget hu p1 p2 hs, fun Z σ ρ H μ Qd Q S R h q => two h1 h2 S R h fun v u x y H2 μ2 S2 s2 rx ry q2 => ?_⟩
  obtain ⟨d, hl, q2⟩ := q2
  obtain ⟨a, o', rfl, g, _, _, hd⟩ := lku_inv S2 rx ry hl
  obtain ⟨w, rfl, rw'⟩ := hd d rfl
  exact ⟨a, w, rfl, g, (q.step s2).same S2 rw' q2⟩
/-- x.get(y, z) -/
def isDic (μ : Mu) (x : D) : Prop := (∃ kvs, see μ x = .dk kvs) ∨ ∃ kvs, see μ x = .dt kvs
def dGet2 (to ti tf : DT) : DT := fun ρ μ Q => to ρ μ fun x μ1 => isDic μ1 x ∧ ti ρ μ1 fun y μ2 => tf ρ μ2 fun z μ3 => ∃ o, Lku μ3 x y o ∧ Q (o.getD z) μ3
theorem d_get2' (hu : X.A.units + 64 < cLine) (ho : DE X o to) (he : DE X e te) (hf : DE X f tf) (m : M2 X o "get" apos e f cpos) : DE X (.Call (.Attribute o "get" apos) [e, f] [] cpos) (dGet2 to te tf) := by
  obtain ⟨t1, p1, h1⟩ := ho.ex
  obtain ⟨t2, p2, h2⟩ := he.ex
  obtain ⟨t3, p3, h3⟩ := hf.ex
  refine ⟨_, pe_xget2 hu p1 p2 p3 m, fun Z σ ρ H μ Qd Q S R h q => h1 Z σ ρ H μ _ _ S R h fun v x H1 μ1 S1 s1 r1 q1 => ?_⟩
  obtain ⟨hd, q1⟩ := q1
  obtain ⟨a, ex, hx⟩ : ∃ a, v = .ref a ∧ IsX H1 a := by
    rcases hd with ⟨kvs, hd⟩ | ⟨kvs, hd⟩
    · obtain ⟨a, ws, e1, hH, _⟩ := see_dk_inv S1 r1 hd
      exact ⟨a, e1, .inl (.inl ⟨ws, hH⟩)⟩
    · obtain ⟨a, xs, ws, e1, hN, _⟩ := see_dt_inv S1 r1 hd
      exact ⟨a, e1, .inr ⟨xs, hN⟩⟩
  refine ⟨a, ex, hx, h2 Z σ ρ H1 μ1 _ _ S1 (R.stp s1) q1 fun u y H2 μ2 S2 s2 r2 q2 => ?_⟩
  refine h3 Z σ ρ H2 μ2 _ _ S2 ((R.stp s1).stp s2) q2 fun w z H3 μ3 S3 s3 r3 q3 => ?_
  obtain ⟨od, hl, q3⟩ := q3
  obtain ⟨a', o', e', g, _, es, hv⟩ := lku_inv S3 ((r1.stp s2).stp s3) (r2.stp s3) hl
  subst ex
  cases e'
  refine ⟨o', g, ?_⟩
  have s0 := (s1.trans s2).trans s3
  cases od with
  | none =>
    cases o' with
    | none => exact (q.step s0).same S3 r3 q3
    | some v => cases es
  | some d =>
    obtain ⟨v, rfl, rv⟩ := hv d rfl
    exact (q.step s0).same S3 rv q3
/-- y in x, y not in x -/
def dInD (neg : Bool) : O2 := fun y x μ Q => ∃ o, Lku μ x y o ∧ Q (.bl (if neg then !o.isSome else o.isSome)) μ
theorem o_inD (hu : X.A.units + 64 < cLine) : DO X (compareOp .In) (dInD false) := by
  refine ⟨_, op_xin hu, fun Z H μ y x dy dx Qd Q S ry rx h q => ?_⟩
  obtain ⟨o, hl, h⟩ := h
  obtain ⟨a, o', rfl, g, _, e, _⟩ := lku_inv S rx ry hl
  exact ⟨a, o', rfl, g, by rw [e]; exact q.same S (.bl _) h⟩
theorem o_notinD (hu : X.A.units + 64 < cLine) : DO X (compareOp .NotIn) (dInD true) := by
  refine ⟨_, op_xnotin hu, fun Z H μ y x dy dx Qd Q S ry rx h q => ?_⟩
  obtain ⟨o, hl, h⟩ := h
  obtain ⟨a, o', rfl, g, _, e, _⟩ := lku_inv S rx ry hl
  exact ⟨a, o', rfl, g, by rw [e]; exact q.same S (.bl _) h⟩
/-- behind x[y] = v -/
def Put (μ : Mu) (x y d : D) (k : Mu → Prop) : Prop := (∃ a kvs j, x = .ref a ∧ μ a = some (.dk kvs) ∧ y = keyD j ∧ kvs.length < sizeLine ∧ k (mput μ a (.dk (putT kvs j d)))) ∨ ∃ a kvs js, x = .ref a ∧ μ a = some (.dt kvs) ∧ y = nkD (.tup js) ∧ NT (.tup js) = true ∧ (NestedKey.tup js).depth ≤ 8 ∧ kvs.length < sizeLine ∧ k (mput μ a (.dt (putT kvs (.tup js) d)))
theorem ob_dk {K : PySem.W.Frag} {Z : Zt} {μ : Mu} {H : Hp} {a : Addr} {ds : List (Key × D)} (S : Sim K Z μ H) (h : μ a = some (.dk ds)) : ∃ ws, H a = some (.dK ws) ∧ TR K Z μ H ws ds := by
  have o := S.ob a _ h
  cases o with
  | dk h1 k t => exact ⟨_, h1, k, t⟩
theorem ob_dt {K : PySem.W.Frag} {Z : Zt} {μ : Mu} {H : Hp} {a : Addr} {ds : List (NestedKey × D)} (S : Sim K Z μ H) (h : μ a = some (.dt ds)) : ∃ xs ws, H a = some (DNo a xs) ∧ NR xs ws ∧ RpAll K Z μ H (xs.map fun x => V.ref x.2.1) (ds.map fun e => nkD e.1) ∧ TR K Z μ H ws ds := by
  have o := S.ob a _ h
  cases o with
  | dt h1 n k kr t => exact ⟨_, _, h1, n, kr, k, t⟩
/-- the keys behind a store -/
theorem kr_put {K : PySem.W.Frag} {Z : Zt} {μ : Mu} {H : Hp} {k : NestedKey} {b : Addr} {u : Value} {d : D} (rb : Rp K Z μ H (.ref b) (nkD k)) {xs : NXs} {ds : List (NestedKey × D)} (e : xs.map (·.1) = ds.map (·.1)) (r : RpAll K Z μ H (xs.map fun x => V.ref x.2.1) (ds.map fun e => nkD e.1)) :
    RpAll K Z μ H ((storedH xs k b u).map fun x => V.ref x.2.1) ((putT ds k d).map fun e => nkD e.1) := by
  have ea : (atKey xs k).isSome = (ds.any fun kv => decide (kv.1 = k)) := by
    have h1 : ∀ xs : NXs, (atKey xs k).isSome = (xs.map (·.1)).any fun z => decide (z = k) := fun xs => by
      unfold atKey
      rw [Option.isSome_map, Bool.eq_iff_iff, List.find?_isSome, List.any_map, List.any_eq_true]
      rfl
    rw [h1, e, List.any_map]
    rfl
  unfold storedH putT
  rw [ea]
  split
  · rw [List.map_map, List.map_map]
    have h1 : ((fun x : NestedKey × Addr × Value => V.ref x.2.1) ∘ putAt k u) = fun x => V.ref x.2.1 := funext fun x => by
      show V.ref (putAt k u x).2.1 = V.ref x.2.1
      unfold putAt
      split <;> rfl
    have h2 : ((fun e : NestedKey × D => nkD e.1) ∘ fun kv => if kv.1 = k then (kv.1, d) else kv) = fun e => nkD e.1 := funext fun x => by
      show nkD (if x.1 = k then (x.1, d) else x).1 = nkD x.1
      split <;> rfl
    rw [h1, h2]
    exact r
  · rw [List.map_append, List.map_append]
    exact r.append (.cons rb .nil)
def sDPutD (to ti tv : DT) : DTS := fun D ρ μ => tv ρ μ fun d μ1 => to ρ μ1 fun x μ2 => ti ρ μ2 fun y μ3 => Put μ3 x y d (D.nx ρ)
theorem s_dput (hu : X.A.units + 64 < cLine) (ho : DE X o to) (hi : DE X i ti) (hv : DE X value tv) (hs : swapsWith value (some (.Subscript o i pos')) pos.line X.env = pure false := by rfl) : DSt X (.Assign [.Subscript o i pos'] value pos) (sDPutD to ti tv) := by
  obtain ⟨t1, p1, h1⟩ := ho.ex
  obtain ⟨t2, p2, h2⟩ := hi.ex
  obtain ⟨t3, p3, h3⟩ := hv.ex
  refine ⟨_, ps_xput hu p1 p2 p3 hs, fun Z σ ρ H μ Dd D S R h l => h3 Z σ ρ H μ _ _ S R h fun v d H1 μ1 S1 s1 r1 q1 => ?_⟩
  refine h1 Z σ ρ H1 μ1 _ _ S1 (R.stp s1) q1 fun w x H2 μ2 S2 s2 r2 q2 => ?_
  refine h2 Z σ ρ H2 μ2 _ _ S2 ((R.stp s1).stp s2) q2 fun u y H3 μ3 S3 s3 r3 q3 => ?_
  have rv := (r1.stp s2).stp s3
  have s0 := (s1.trans s2).trans s3
  rcases q3 with ⟨a, kvs, j, rfl, hm, rfl, hl, q3⟩ | ⟨a, kvs, js, rfl, hm, rfl, hn, hd, hl, q3⟩
  · obtain ⟨ws, hH, t⟩ := ob_dk S3 hm
    have st : Stp μ3 (mput μ3 a (.dk (putT kvs j d))) H3 (upd H3 a (.dK (putK ws j v))) := Stp.write hm
    have tp := (t.put (k := j) rv).stp st
    have r2' := r2.stp s3
    cases r2'
    exact ⟨a, rfl, .inl ⟨_, .inl ⟨ws, j, hH, key_inv r3, by rw [t.length]; exact hl, rfl⟩, l.nx _ _ _ _ (S3.write hm (.dk upd_same tp.1 tp.2)) ((R.stp s0).stp st) (s0.trans st) q3⟩⟩
  · obtain ⟨xs, ws, hH, n, kr, t⟩ := ob_dt S3 hm
    have ke := nr_keys n t
    have r3' := r3
    rw [nkD] at r3'
    obtain ⟨b, ys, rfl, _, _, hc, tb⟩ := see_tup_inv (μ := μ3) r3' rfl
    have r2' := r2.stp s3
    cases r2'
    refine ⟨a, rfl, .inr ⟨xs, .tup js, b, hH, kok_of ke kr, rfl, rp_kis r3, hn, hd, by rw [n.len, t.length]; exact hl, fun w rw' => ?_⟩⟩
    have st : Stp μ3 (mput μ3 a (.dt (putT kvs (.tup js) d))) H3 (upd H3 a (DNo a (storedH xs (.tup js) b w))) := Stp.write hm
    have tp := (t.put (k := NestedKey.tup js) rv).stp st
    have kp := (kr_put (u := w) (d := d) r3 ke kr).stp st
    exact l.nx _ _ _ _ (S3.write hm (.dt upd_same (nr_put rw' n) tp.1 kp tp.2)) ((R.stp s0).stp st) (s0.trans st) q3
/-- x.setdefault(y, z), keys of one part -/
def dSetd (to te tf : DT) : DT := fun ρ μ Q => to ρ μ fun x μ1 => ∃ a, x = .ref a ∧ (∃ kvs, μ1 a = some (.dk kvs)) ∧ te ρ μ1 fun y μ2 => tf ρ μ2 fun z μ3 => ∃ kvs k, μ3 a = some (.dk kvs) ∧ y = keyD k ∧ kvs.length < sizeLine ∧
  (∀ d, getT kvs k = some d → Q d μ3) ∧ (getT kvs k = none → Q z (mput μ3 a (.dk (putT kvs k z))))
theorem d_setd (ho : DE X o to) (he : DE X e te) (hf : DE X f tf) (m : M2 X o "setdefault" apos e f cpos) : DE X (.Call (.Attribute o "setdefault" apos) [e, f] [] cpos) (dSetd to te tf) := by
  obtain ⟨t1, p1, h1⟩ := ho.ex
  obtain ⟨t2, p2, h2⟩ := he.ex
  obtain ⟨t3, p3, h3⟩ := hf.ex
  refine ⟨_, pe_dsetd p1 p2 p3 m, fun Z σ ρ H μ Qd Q S R h q => h1 Z σ ρ H μ _ _ S R h fun v x H1 μ1 S1 s1 r1 q1 => ?_⟩
  obtain ⟨a, rfl, ⟨kvs0, hm0⟩, q1⟩ := q1
  cases r1
  obtain ⟨ws0, hH0, _⟩ := ob_dk S1 hm0
  refine ⟨a, rfl, .inl ⟨ws0, .inl hH0⟩, h2 Z σ ρ H1 μ1 _ _ S1 (R.stp s1) q1 fun u y H2 μ2 S2 s2 r2 q2 => ?_⟩
  refine h3 Z σ ρ H2 μ2 _ _ S2 ((R.stp s1).stp s2) q2 fun w z H3 μ3 S3 s3 r3 q3 => ?_
  obtain ⟨kvs, k, hm, rfl, hl, k1, k2⟩ := q3
  obtain ⟨ws, hH, t⟩ := ob_dk S3 hm
  have tv := t.val k
  have s0 := (s1.trans s2).trans s3
  refine ⟨ws, k, hH, key_inv (r2.stp s3), by rw [t.length]; exact hl, fun v0 hv0 => ?_, fun hn => ?_⟩
  · cases c : getT kvs k with
    | none =>
      rw [c] at tv
      rw [show valV ws k = none from tv] at hv0
      cases hv0
    | some d =>
      rw [c] at tv
      obtain ⟨v1, h4, r4⟩ := tv
      rw [h4] at hv0
      cases hv0
      exact (q.step s0).same S3 r4 (k1 d c)
  · cases c : getT kvs k with
    | some d =>
      rw [c] at tv
      obtain ⟨v1, h4, r4⟩ := tv
      rw [h4] at hn
      cases hn
    | none =>
      have st : Stp μ3 (mput μ3 a (.dk (putT kvs k z))) H3 (upd H3 a (.dK (putK ws k w))) := Stp.write hm
      have tp := (t.put (k := k) r3).stp st
      exact (q.step s0) _ _ _ _ (S3.write hm (.dk upd_same tp.1 tp.2)) st (r3.stp st) (k2 c)
/-- sorted(d) of a dict with fewer than 64 keys, all ints -/
def fSortD : List D → Mu → DQ → Prop := fun ds μ Q => ∃ (d : D) (kvs : List (Key × D)) (ks : List Int), ds = [d] ∧ see μ d = .dk kvs ∧ kvs.map (·.1) = ks.map Sum.inl ∧ ks.length < 64 ∧ ∀ ms : List Int, ms.Perm ks → ms.Pairwise (· ≤ ·) → Q (.lst (ms.map D.int)) μ
theorem b_sortD (hc : X.calm = true) : DCa X (.builtin "sorted") fSortD := by
  refine ⟨_, call_sortedDI hc, fun Z H μ vs ds Qd Q S r h q => ?_⟩
  obtain ⟨d, kvs, ks, rfl, e, h1, h2, h⟩ := h
  obtain ⟨v, rfl, r1⟩ := rp1 r
  obtain ⟨a, ws, rfl, hH, t⟩ := see_dk_inv S r1 e
  exact ⟨a, ws, ks, rfl, hH, t.1.trans h1, h2, fun ys p g1 g2 hp => q.newL S hp (RpAll.ints ys) (h ys g1 g2)⟩
end
end DL

/-! DLy: sorted({elt for .. if ..}), ints. -/
namespace DL
open PySem PySem.Spec PyProof.Rows L2 PpSet
/-- {elt for target in iter if ..}, elt an int: D the new set, ns what was met -/
def tScI (w : World) (wi : TI) (g : TG) (tt : TT) (te : TE) (vs : List Nat) : TE := fun σ H Q => wi σ H fun J H1 => ∀ D, H1 D = none → ∃ W : Nat → Nat → Hp → Prop, (∃ m, W 0 m (upd H1 D (SetO w D (fun _ => false) 0))) ∧ ∀ i m H, W i m H →
  (J.stop i H ∧ Q (.ref D) H) ∨ (J.go i H ∧ ∃ Nx : Hp → Prop, (∀ H', Nx H' → ∃ m', m' < m ∧ W (i + 1) m' H') ∧ ∀ x H', J.yld i H x H' → g x (wipe σ vs) H' fun σ2 H2 => wipe σ2 vs = wipe σ vs ∧ tt σ2 H2 fun b H3 =>
    if b = true then te σ2 H3 fun y H4 => ∃ (c : Int) (S : Int → Bool) (n : Nat), y = .int c ∧ H4 D = some (SetO w D S n) ∧ n + 1 < scanBound ∧ Nx (upd H4 D (SetO w D (fun j => S j || decide (j = c)) (if S c = true then n else n + 1))) else Nx H3)
section
variable {X : Cx}
theorem addI_ok {pins : List (Addr × Obj)} {σ : L2.St} {H : Hp} {s : Shared} {E : Value → Shared → Prop} {D : Addr} {S : Int → Bool} {n : Nat} {c : Int} {t : Tok} {Q : Value → Shared → Prop} (I : Inv X pins σ H s) (hD : H D = some (SetO X.w D S n)) (room : n + 1 < scanBound)
    (h : ∀ s', Inv X pins σ (upd H D (SetO X.w D (fun j => S j || decide (j = c)) (if S c = true then n else n + 1))) s' → Q .none s') : wpAny (model X.prog X.w) X.A (call (.builtin "set.add") [.ref D, .int c t]) Q E s := by
  refine setR_add (setO_get I hD) room fun h' sb new => ?_
  have he : ∃ u, h'.get? D = some u := let ⟨o, _, _, _, ho, _⟩ := new; ⟨o, ho⟩
  exact h _ (I.write (e := D) (t' := s.toks + 1) (by rw [hD]; trivial) (.inl rfl) (fun b u hb hu => (sb.2 b hb).trans hu) he (setO_new new))
variable {elt tg iter : Expr} {ifs : List Expr} {scope : Scope} {own : List (PySem.Str × Nat)} {pos : Pos} {wi : TI} {g : TG} {tt : TT} {te : TE}
theorem pe_scI (hc : X.calm = true) (hN : X.N.Nodup) (hi : PI X tg iter wi) (ok : BlkOk X.N X.env.scope scope own)
    (hg : ∀ (s : Shared) (H : Hp) (C : Addr) (cl : List (PySem.Str × Addr)) (fp : List Addr), PG (X.blk s H scope (compEnvC scope cl C X.env) fp) tg g) (ht : ∀ (s : Shared) (H : Hp) (C : Addr) (cl : List (PySem.Str × Addr)) (fp : List Addr), PTs (X.blk s H scope (compEnvC scope cl C X.env) fp) ifs tt)
    (he : ∀ (s : Shared) (H : Hp) (C : Addr) (cl : List (PySem.Str × Addr)) (fp : List Addr), PE (X.blk s H scope (compEnvC scope cl C X.env) fp) elt te) (hs : ∀ x, foldedSetIterable iter X.env x = pure x := by intro _; rfl) :
    PE X (.SetComp elt [⟨tg, iter, ifs, 0⟩] scope pos) (tScI X.w wi g tt te (own.map (·.2))) := by
  refine ⟨fun pins s σ H Q I h => ?_⟩
  rw [eval_SetComp]
  have hfree : ∀ y ∈ scope.names, y.2 = .free → ∃ c, X.env.cells.lookup y.1 = some c := fun y hy e => (ok.free y hy e).elim (fun k => I.ok.has _ (.inl k)) fun k => I.ok.has _ (.inr k)
  refine wpAny_comprehension_free (use := none) rfl hs (closure_ok hfree) ok.kind (fun y hy e => by rw [ok.uniq y hy, e]) (thn (hi.run pins s σ H _ I h) fun xv s1 hx => thn hx fun itv s2 h2 => ?_)
  obtain ⟨it, fp, tn, J, H2, rfl, I2, T, st2, f2, q⟩ := h2
  refine newSet_ok (newEnv_comp ?_)
  obtain ⟨D, hD⟩ : ∃ D, s2.heap.objs.size = D := ⟨_, rfl⟩
  rw [hD]
  obtain ⟨W, ⟨m0, w0⟩, turn⟩ := q D (I2.hok.fresh (Nat.le_of_eq hD))
  obtain ⟨s3, hs3⟩ : ∃ s3 : Shared, ({ s2 with heap := s2.heap.push { cls := .type "set", dict := none, data := .set #[] 0 (.fresh 0 0 (!X.w.params.followText "set-order")) } } : Shared) = s3 := ⟨_, rfl⟩
  have h3 : s3.heap = s2.heap.push { cls := .type "set", dict := none, data := .set #[] 0 (.fresh 0 0 (!X.w.params.followText "set-order")) } := by rw [← hs3]
  obtain ⟨H3, hH3⟩ : ∃ H3 : Hp, upd H2 D (SetO X.w D (fun _ => false) 0) = H3 := ⟨_, rfl⟩
  have I3 : Inv X pins σ H3 s3 := by
    rw [← hs3, ← hH3]
    exact I2.laid (t' := s2.toks) (fun b o e => Heap.get?_push_of_some _ e) (Nat.le_of_eq hD) (by rw [← hD]; exact setO_new (setR_fresh X.w))
  have f3 : ∀ b ∈ fp, FpOk X pins H3 b ∧ b < s3.heap.objs.size := fun b hb => by
    obtain ⟨o, e, _⟩ := T.obj _ _ st2 b hb
    have hlt := Heap.lt_size e
    refine ⟨⟨?_, (f2 b hb).2⟩, by rw [h3, Heap.size_push]; exact Nat.lt_succ_of_lt hlt⟩
    rw [← hH3, upd_ne (by rw [← hD]; exact Nat.ne_of_lt hlt)]
    exact (f2 b hb).1
  have I4 := block_start I3 ok hN f3
  obtain ⟨cs, hcs⟩ : ∃ cs, cellsFrom (s3.heap.objs.size + 1) scope.names (cloFrom X.env.cells scope.names []) = cs := ⟨_, rfl⟩
  rw [hcs] at I4
  have pg := hg s3 H3 s3.heap.objs.size cs fp
  have pt := ht s3 H3 s3.heap.objs.size cs fp
  have pe := he s3 H3 s3.heap.objs.size cs fp
  rw [hs3, hcs]
  rw [hH3] at w0
  show codeAny _ _ (.compStart (.SetComp elt [⟨tg, iter, ifs, 0⟩] scope pos) 0 (.ref it) (.ref D) (compEnvC scope cs s3.heap.objs.size X.env)) (compPost (model X.prog X.w) X.A X.xe none (EP X pins σ Q) (.ref D) s3.heap.objs.size) { s3 with heap := pushCells (s3.heap.push { cls := .type "dict", data := .dict #[] }) scope.names }
  obtain ⟨ce, hce⟩ : ∃ ce, compEnvC scope cs s3.heap.objs.size X.env = ce := ⟨_, rfl⟩
  have cL : ce.locals = s3.heap.objs.size := by rw [← hce]; rfl
  rw [hce] at I4 pg pt pe ⊢
  obtain ⟨s4, hs4⟩ : ∃ s4 : Shared, ({ s3 with heap := pushCells (s3.heap.push { cls := .type "dict", data := .dict #[] }) scope.names } : Shared) = s4 := ⟨_, rfl⟩
  rw [hs4] at I4 ⊢
  have st4 : tn 0 s4.heap := T.keep _ _ _ st2 fun b _ o e => by rw [← hs4]; exact pushCells_keeps _ _ _ _ (Heap.get?_push_of_some _ (by rw [h3]; exact Heap.get?_push_of_some _ e))
  have stat : ∀ {σ' : L2.St} {H' : Hp} {s' : Shared}, Inv (X.blk s3 H3 scope ce fp) [] σ' H' s' → (∀ b ∈ fp, H' b = none) → ∀ b ∈ fp, FpOk (X.blk s3 H3 scope ce fp) [] H' b := fun {σ' H' s'} I' hn b hb =>
    ⟨hn b hb, (I'.ok.exf b hb).1, I'.ok.exfs b hb, .inl hb, fun x c e => (I'.ok.exf b hb).2 x c e, fun p hp => absurd (show p ∈ ([] : List (Addr × Obj)) ++ [] from hp) (by simp)⟩
  have loop : codeAny (model X.prog X.w) X.A (.compLoop (.SetComp elt [⟨tg, iter, ifs, 0⟩] scope pos) 0 (.ref it) (.ref D) ce) (compPost (model X.prog X.w) X.A X.xe none (EP X pins σ Q) (.ref D) s3.heap.objs.size) s4 := by
    refine PpSet.compLoopS_any (fun n s' => ∃ i H', Inv (X.blk s3 H3 scope ce fp) [] (wipe σ (own.map (·.2))) H' s' ∧ tn i s'.heap ∧ (∀ b ∈ fp, H' b = none) ∧ W i n H') ?_ m0 ⟨0, H3, I4, st4, fun b hb => (f3 b hb).1.1, w0⟩
    rintro n s5 ⟨i, H5, I5, st5, n5, w5⟩
    rcases turn i n H5 w5 with ⟨stop, qq⟩ | ⟨go, Nx, hNx, step⟩
    · refine thnF (T.done (X.blk s3 H3 scope ce fp) rfl rfl rfl hc i [] s5 _ H5 (fun _ _ => False) I5 (stat I5 n5) st5 stop) fun r s6 ⟨hr, I6⟩ => ?_
      subst hr
      have I7 : Inv X pins σ H5 s6 := I3.call' (ch := fp) I6.os I6.base I6.hok I6.bare fun b hb => ⟨(f3 b hb).1.2.2.2.1, (f3 b hb).1.2.1, (f3 b hb).1.2.2.2.2.1, (f3 b hb).1.2.2.2.2.2⟩
      have nC : H5 s3.heap.objs.size = none := by rw [← cL]; exact I6.free
      obtain ⟨m, hn, _⟩ := I6.loc
      have hn : s6.heap.Ns s3.heap.objs.size m := by rw [← cL]; exact hn
      refine ⟨m, hn, fun h'' sb => ?_⟩
      obtain ⟨g0, g1, g2, g3, g4, g5⟩ := I3.fpOk (Nat.le_refl _) nC
      exact ⟨.ref D, H5, I7.turned (t' := s6.toks) (fun b o hb e => (sb.2 b hb).trans e) g0 g1 g3 g4 g5, rfl, qq⟩
    · refine thnF (T.item (X.blk s3 H3 scope ce fp) rfl rfl rfl hc i [] s5 _ H5 (fun _ _ => False) I5 (stat I5 n5) st5 go) fun r s6 ⟨u, hr, h6⟩ => ?_
      subst hr
      refine thnF h6 fun _ s7 ⟨x, H7, I7, r7, y7, st7, n7⟩ => ?_
      refine thnF (pg.run _ s7 _ H7 x u _ (I7.pinned (stat I7 n7) (T.obj _ _ st7)) r7 (step x H7 y7)) fun _ s8 ⟨σ8, H8, I8, hw8, q8⟩ => ?_
      refine thnF (pt.run _ s8 σ8 H8 _ I8 q8) fun b s9 ⟨H9, I9, q9⟩ => ?_
      have done : ∀ {s' : Shared} {H' : Hp}, Inv (X.blk s3 H3 scope ce fp) ([] ++ pinsAt fp s7.heap) σ8 H' s' → Nx H' → ∃ m, m < n ∧ ∃ i H', Inv (X.blk s3 H3 scope ce fp) [] (wipe σ (own.map (·.2))) H' s' ∧ tn i s'.heap ∧ (∀ b ∈ fp, H' b = none) ∧ W i m H' := fun {s' H'} I' nx => by
        obtain ⟨m', hm, w'⟩ := hNx H' nx
        have pin' : ∀ b ∈ fp, ∀ o, s7.heap.get? b = some o → s'.heap.get? b = some o ∧ H' b = none := fun b hb o e =>
          let z := I'.pin (b, o) (List.mem_append_right _ (List.mem_append_right _ (mem_pinsAt hb e)))
          ⟨z.1, z.2.1⟩
        refine ⟨m', hm, i + 1, H', (I'.unpinned (pins := [])).weak (by rw [← hw8, wipe_length]) (fun j v e => ?_), T.keep _ _ _ st7 fun b hb o e => (pin' b hb o e).1, fun b hb => ?_, w'⟩
        · rw [← hw8] at e
          exact (wipe_some e).1
        · obtain ⟨o, e, _⟩ := T.obj _ _ st7 b hb
          exact (pin' b hb o e).2
      cases b with
      | false =>
        simp only [Bool.false_eq_true, if_false] at q9 ⊢
        exact done I9 q9
      | true =>
        simp only [if_true] at q9 ⊢
        refine thnF (pe.run _ s9 σ8 H9 _ I9 q9) fun z s10 ⟨yv, H10, I10, r10, c, S0, n0, ey, hD10, hz10, nx⟩ => ?_
        subst ey
        obtain ⟨tk, rfl⟩ := r10
        exact addI_ok (X := X.blk s3 H3 scope ce fp) I10 hD10 hz10 fun s11 I11 => done I11 nx
  exact PpSet.codeAny_compStart_set loop (T.self X.A 0 _ _ _ st4 loop)
end
section
variable {X : Cx} {vs : List Nat}
def scGo (g : DG) (tt : DB) (te : DT) (G : Mu → Prop) (ρ0 : Rho) (Q : List Int → Mu → Prop) : List D → List Int → Mu → Prop
  | [], acc, μ => G μ ∧ Q acc μ
  | d :: ds, acc, μ => G μ ∧ g d ρ0 μ fun ρ2 μ2 => tt ρ2 μ2 fun b μ3 => if b = true then te ρ2 μ3 fun y μ4 => ∃ c, y = .int c ∧ acc.length < 63 ∧ scGo g tt te G ρ0 Q ds (acc ++ [c]) μ4 else scGo g tt te G ρ0 Q ds acc μ3
/-- sorted({elt for ..}), ints -/
def dSortSc (wi : DIt) (g : DG) (tt : DB) (te : DT) (vs : List Nat) : DT := fun ρ μ Q => wi ρ μ fun items G μ1 => scGo g tt te G (dwipe ρ vs) (fun acc μ' => ∀ ms : List Int, ms.Pairwise (· < ·) → (∀ k, k ∈ ms ↔ k ∈ acc) → Q (.lst (ms.map D.int)) μ') items [] μ1
theorem sc_run {wi : DIt} {g : DG} {tt : DB} {te : DT} {w : TI} {σ : L2.St} {ρ : Rho} {H : Hp} {μ : Mu} {Z : Zt} {Q : VK} {W : List Int → Mu → Prop}
    (h0 : ∀ Z σ ρ H μ Qd (R : It → Hp → Prop), Sim X.K Z μ H → ER X.K Z μ H σ ρ → wi ρ μ Qd → (∀ J items G H' μ', Sim X.K Z μ' H' → Stp μ μ' H H' → JOk X.K Z H' μ' J items G → Qd items G μ' → R J H') → w σ H R)
    (S : Sim X.K Z μ H) (R : ER X.K Z μ H σ ρ) (h : wi ρ μ fun items G μ1 => scGo g tt te G (dwipe ρ vs) W items [] μ1)
    (fin : ∀ p acc n H' μ', Sim X.K Z μ' H' → Stp μ μ' H H' → n < 64 → H' p = some (SetO X.w p (fun k => decide (k ∈ acc)) n) → W acc μ' → Q (.ref p) H') :
    tScI X.w w (upG X.K vs g) (upC X.K tt) (upE X.K te) vs σ H Q := by
  refine h0 Z σ ρ H μ _ _ S R h fun J items G H1 μ1 S1 s1 j q1 => fun p hp => ?_
  have hzj : ∀ a o, H1 a = some o → Cold μ1 Z a → Cold μ1 (zadd Z p) a := fun a o e c => ⟨c.1, fun z => z.elim c.2 (ne_of_none e hp)⟩
  have S2 : Sim X.K (zadd Z p) μ1 (upd H1 p (SetO X.w p (fun _ => false) 0)) := S1.znew hp
  have s2 : Stp μ1 μ1 H1 (upd H1 p (SetO X.w p (fun _ => false) 0)) := Stp.new hp
  have R2 : ER X.K (zadd Z p) μ1 (upd H1 p (SetO X.w p (fun _ => false) 0)) (wipe σ vs) (dwipe ρ vs) := (((R.stp s1).zmono hzj).stp s2).wipe vs
  have keep : ∀ {μ' : Mu} {H' : Hp} {o : HO}, Stp μ1 μ' H1 H' → Stp μ1 μ' H1 (upd H' p o) := fun {μ' H' o} s' a u h1 h2 => by
    rw [upd_ne (ne_of_none h1 hp)]
    exact s' a u h1 h2
  have e00 : (fun _ : Int => false) = fun k => decide (k ∈ ([] : List Int)) := by
    funext k
    simp
  refine ⟨fun i m H' => ∃ μ' acc n, i ≤ items.length ∧ m = items.length - i ∧ n ≤ acc.length ∧ acc.length ≤ 63 ∧ Sim X.K (zadd Z p) μ' H' ∧ Stp μ1 μ' H1 H' ∧ H' p = some (SetO X.w p (fun k => decide (k ∈ acc)) n) ∧ ER X.K (zadd Z p) μ' H' (wipe σ vs) (dwipe ρ vs) ∧ scGo g tt te G (dwipe ρ vs) W (items.drop i) acc μ',
    ⟨items.length - 0, μ1, [], 0, Nat.zero_le _, rfl, Nat.zero_le _, Nat.zero_le _, S2, s2, by rw [upd_same, e00], R2, q1⟩, fun i m H' hW => ?_⟩
  obtain ⟨μ', acc, n, hi, rfl, hn, h63, S', s', eD, R', q'⟩ := hW
  by_cases hlt : i < items.length
  · obtain ⟨d, hd⟩ : ∃ d, items[i]? = some d := ⟨_, List.getElem?_eq_getElem hlt⟩
    have ed : items.drop i = d :: items.drop (i + 1) := by
      rw [List.drop_eq_getElem_cons hlt]
      rw [List.getElem?_eq_getElem hlt] at hd
      cases hd
      rfl
    rw [ed] at q'
    obtain ⟨gm, q'⟩ := q'
    obtain ⟨go, yl⟩ := (j (zadd Z p) H' μ' (kp_of hzj s') S' gm).2 i d hd
    refine .inr ⟨go, fun H3 => ∃ μ3 acc n, n ≤ acc.length ∧ acc.length ≤ 63 ∧ Sim X.K (zadd Z p) μ3 H3 ∧ Stp μ1 μ3 H1 H3 ∧ H3 p = some (SetO X.w p (fun k => decide (k ∈ acc)) n) ∧ ER X.K (zadd Z p) μ3 H3 (wipe σ vs) (dwipe ρ vs) ∧ scGo g tt te G (dwipe ρ vs) W (items.drop (i + 1)) acc μ3, fun H3 hN => ?_, fun x H3 y => ?_⟩
    · obtain ⟨μ3, acc, n, a0, a1, a2, a3, a4, a5, a6⟩ := hN
      exact ⟨items.length - (i + 1), by omega, μ3, acc, n, hlt, rfl, a0, a1, a2, a3, a4, a5, a6⟩
    · obtain ⟨S3, s3, r3⟩ := yl x H3 y
      have stay : ∀ {μ4 : Mu} {H4 : Hp}, Stp μ' μ4 H' H4 → H4 p = some (SetO X.w p (fun k => decide (k ∈ acc)) n) := fun {μ4 H4} s => (s p _ eD (S'.z p (.inr rfl)).2).1
      refine ⟨zadd Z p, dwipe ρ vs, μ', d, _, S3, R'.stp s3, r3, q', fun σ4 ρ4 H4 μ4 S4 R4 s4 w4 q4 => ⟨w4.trans (wipe_wipe vs fun _ h => h), ?_⟩⟩
      have s34 := s3.trans s4
      refine ⟨zadd Z p, ρ4, μ4, _, S4, R4, q4, fun b H5 μ5 S5 s5 q5 => ?_⟩
      have s35 := s34.trans s5
      cases b with
      | false => exact ⟨μ5, acc, n, hn, h63, S5, s'.trans s35, stay s35, R'.stp s35, q5⟩
      | true =>
        refine ⟨zadd Z p, ρ4, μ5, _, S5, R4.stp s5, q5, fun yv yd H6 μ6 S6 s6 r6 q6 => ?_⟩
        have s36 := s35.trans s6
        have hD := stay s36
        have zp : zadd Z p p := .inr rfl
        obtain ⟨c, rfl, hl, q6⟩ := q6
        cases r6
        have eS : (fun k => decide (k ∈ acc) || decide (k = c)) = fun k => decide (k ∈ acc ++ [c]) := by
          funext k
          simp [List.mem_append]
        refine ⟨c, _, n, rfl, hD, Nat.lt_of_le_of_lt (show n + 1 ≤ 64 by omega) (by decide), μ6, acc ++ [c], (if decide (c ∈ acc) = true then n else n + 1), ?_, ?_, S6.zwrite zp, keep (s'.trans s36), by rw [upd_same, eS], ?_, q6⟩
        · rw [List.length_append, List.length_cons, List.length_nil]
          split <;> omega
        · rw [List.length_append, List.length_cons, List.length_nil]
          omega
        have R6 := R'.stp s36
        exact ⟨R6.len, fun i d e => let ⟨v, h1, h2⟩ := R6.at_ i d e; ⟨v, h1, h2.go (zw_cold zp)⟩⟩
  · have e : i = items.length := by omega
    subst e
    rw [List.drop_length] at q'
    obtain ⟨gm, q'⟩ := q'
    exact .inl ⟨(j (zadd Z p) H' μ' (kp_of hzj s') S' gm).1 _ (Nat.le_refl _), fin p acc n H' μ' (S'.zless fun a z => .inl z) (s1.trans s') (by omega) eD q'⟩
variable {tg iter elt : Expr} {ifs : List Expr} {scope : Scope} {own : List (Str × Nat)} {wi : DIt} {g : DG} {tt : DB} {te : DT} {p pos cpos : Pos}
theorem d_sortSc (hc : X.calm = true) (hN : X.N.Nodup) (hgl : Gl X "sorted") (hm : X.mg "sorted" = none) (hi : DI X tg iter wi) (ok : BlkOk X.N X.env.scope scope own)
    (hg : ∀ (s : Shared) (H : Hp) (C : Addr) (cl : List (Str × Addr)) (fp : List Addr), DGc (X.blk s H scope (compEnvC scope cl C X.env) fp) tg g (own.map (·.2))) (ht : ∀ (s : Shared) (H : Hp) (C : Addr) (cl : List (Str × Addr)) (fp : List Addr), DCs (X.blk s H scope (compEnvC scope cl C X.env) fp) ifs tt)
    (he : ∀ (s : Shared) (H : Hp) (C : Addr) (cl : List (Str × Addr)) (fp : List Addr), DE (X.blk s H scope (compEnvC scope cl C X.env) fp) elt te) (hs : ∀ x, foldedSetIterable iter X.env x = pure x := by intro _; rfl)
    (hst : starEach [Expr.SetComp elt [⟨tg, iter, ifs, 0⟩] scope pos] X.env = (false, eval (.SetComp elt [⟨tg, iter, ifs, 0⟩] scope pos) X.env) :: starEach [] X.env := by rfl) :
    DE X (.Call (.Name "sorted" p) [.SetComp elt [⟨tg, iter, ifs, 0⟩] scope pos] [] cpos) (dSortSc wi g tt te (own.map (·.2))) := by
  obtain ⟨w, pw, h0⟩ := hi.ex
  have psc := pe_scI (pos := pos) (g := upG X.K (own.map (·.2)) g) (tt := upC X.K tt) (te := upE X.K te) hc hN pw ok (fun s H C cl fp => (hg s H C cl fp).up) (fun s H C cl fp => (ht s H C cl fp).ex) (fun s H C cl fp => (he s H C cl fp).up) hs
  refine ⟨_, pe_callB (cr_sortedSet hc) hgl hm (by decide +kernel) (pa_cons psc pa_nil hst) (by decide) (by decide) hst (by rfl), fun Z σ ρ H μ Qd Q S R h q => ?_⟩
  refine (show tScI X.w w (upG X.K (own.map (·.2)) g) (upC X.K tt) (upE X.K te) (own.map (·.2)) σ H (fun x H1 => rSortedSet X.w [x] H1 Q) → _ from id) ?_
  refine sc_run h0 S R h fun p acc n H' μ' S' s' hn eD hW => ?_
  refine ⟨p, _, n, rfl, eD, hn, fun ns l h1 h2 _ hl => (q.step s').newL S' hl (RpAll.ints ns) (hW ns h1 fun k => ?_)⟩
  rw [h2]
  simp
/-- over data made of xs -/
theorem sc_gen {α : Type} {tt : DB} {te : DT} {G : Mu → Prop} {ρ0 : Rho} {Q : List Int → Mu → Prop} {g : DG} {μ : Mu} (xs : List α) (gx : α → D) (p : α → Bool) (f : α → Int) (hG : G μ) (hn : xs.length ≤ 63)
    (hs : ∀ (x : α) (K1 : D → Mu → Prop) (K2 : Mu → Prop), x ∈ xs → (p x = true → K1 (.int (f x)) μ) → (p x = false → K2 μ) → g (gx x) ρ0 μ fun ρ2 μ2 => tt ρ2 μ2 fun b μ3 => if b = true then te ρ2 μ3 K1 else K2 μ3)
    (hd : Q ((xs.filter p).map f) μ) : scGo g tt te G ρ0 Q (xs.map gx) [] μ := by
  have go : ∀ (ys zs : List α), ys ++ zs = xs → scGo g tt te G ρ0 Q (zs.map gx) ((ys.filter p).map f) μ := by
    intro ys zs
    induction zs generalizing ys with
    | nil =>
      intro e
      rw [List.append_nil] at e
      subst e
      exact ⟨hG, hd⟩
    | cons z zs ih =>
      intro e
      have ih' := ih (ys ++ [z]) (by rw [List.append_assoc]; exact e)
      have hl : (ys.filter p).length < 63 := by
        have h1 := List.length_filter_le p ys
        have h2 := congrArg List.length e
        rw [List.length_append, List.length_cons] at h2
        omega
      refine ⟨hG, hs z _ _ (by rw [← e]; simp) (fun hp => ⟨f z, rfl, by rw [List.length_map]; exact hl, ?_⟩) fun hp => ?_⟩
      · rw [List.filter_append, List.filter_cons, if_pos hp, List.map_append] at ih'
        exact ih'
      · rw [List.filter_append, List.filter_cons, if_neg (by rw [hp]; decide), List.filter_nil, List.append_nil] at ih'
        exact ih'
  exact go [] xs rfl
end
end DL

/-! DLz: t * k of a tuple, from k = 1 on. -/
namespace DL
open PySem PySem.Spec PyProof.Rows L2
open PySem.AutoSeq1 (wpAny_loadPart')
theorem tuple_mulOne (l : Addr) (items : Array Value) (n : Nat) (dd : Option Addr) (sl : Array (Option Value)) (u : Tok) :
    Meets (Builtin.«tuple.__mul__» ⟨[.ref l, .int 1 u], []⟩) (fun _ R s => s.heap.get? l = some { cls := .type "tuple", dict := dd, data := .seq items n, slots := sl } ∧ R (.ok (.ret (Value.ref l))) s) :=
  .of_wp fun prog w A R s h => by
    obtain ⟨hp, g, d, tk, os⟩ := s
    obtain ⟨hl, h⟩ := h
    have f1 := AutoSeq1.idx_int
    have c1 : (items.isEmpty || (1 : Int) == 1) = true := by rw [show ((1 : Int) == 1) = true from rfl, Bool.or_true]
    wp_walk using wpAny_loadPart' hl
    repeat (first
      | (refine wpAny_ite_false (decide_eq_false (by decide)) ?_; wp_walk using wpAny_loadPart' hl)
      | (refine wpAny_ite_true (decide_eq_true c1) ?_; wp_walk using wpAny_loadPart' hl))
    exact ⟨_, rfl, h⟩
section
variable {X : Cx}
theorem op_rep1 : OpR X (binaryOp .Mult) (fun x y H Q => ∃ l xs, x = .ref l ∧ y = .int 1 ∧ SqT X.K H l xs ∧ Q (.ref l) H) := by
  intro pins s σ H x y v u Q I rx ry h
  obtain ⟨l, xs, rfl, rfl, hT, q⟩ := h
  cases rx
  obtain ⟨t, rfl⟩ := ry
  obtain ⟨its, r, ⟨⟨cls, dd, data, sl⟩, ho, hc, n, hd⟩, hs⟩ := I.tuple hT
  simp only at hc hd
  subst hc hd
  exact wpAny_binaryOp_repeat_ref (T := "tuple") (U := "int") (by decide) ⟨_, ho, rfl⟩ (fun s' => typeIs_int s' 1 t) noFill_tuple_mul PySem.F.fills_int_mul PySem.F.slot_int_rmul repeat_tuple PySem.F.slot_int_index.lookup
    (call_meets PySem.F.slot_int_rmul (typeIs_int s 1 t) PySem.F.entry_int_rmul (PySem.F.args_int_rmul_2 _ _) (int_rmul_tuple 1 t l its.toArray n dd sl)
      ⟨ho, rfl, ⟨_, ho, rfl⟩, call_meets PySem.F.slot_tuple_mul ⟨_, ho, rfl⟩ PySem.F.entry_tuple_mul (PySem.F.args_tuple_mul_2 _ _) (tuple_mulOne l its.toArray n dd sl t) ⟨ho, ⟨.ref l, H, I, rfl, q⟩⟩⟩)
theorem op_repB : OpR X (binaryOp .Mult) (fun x y H Q => ∃ l k xs, x = .ref l ∧ y = .int k ∧ SqT X.K H l xs ∧ xs ≠ [] ∧ 2 ≤ k ∧ k ≤ 100000 ∧ xs.length ≤ 10 ∧ ∀ p, H p = none → Q (.ref p) (upd H p (.tup (List.replicate k.toNat xs).flatten))) := by
  intro pins s σ H x y v u Q I rx ry h
  obtain ⟨l, k, xs, rfl, rfl, hT, hne, h1, h2, hz, q⟩ := h
  cases rx
  obtain ⟨t, rfl⟩ := ry
  obtain ⟨its, r, ⟨⟨cls, dd, data, sl⟩, ho, hc, n, hd⟩, hs⟩ := I.tuple hT
  simp only at hc hd
  subst hc hd
  have hle : its.length = xs.length := r.length.symm
  have hi : its.toArray.isEmpty = false := by
    cases its with
    | nil => exact absurd (List.eq_nil_of_length_eq_zero hle.symm) hne
    | cons a b => rfl
  have hsz0 : its.toArray.size = xs.length := by rw [List.size_toArray, hle]
  have a1 : ((xs.length : Nat) : Int) * k ≤ 10 * k := Int.mul_le_mul_of_nonneg_right (by omega) (by omega)
  have a2 : k.toNat * xs.length ≤ 100000 * 10 := Nat.mul_le_mul (by omega) hz
  have fl : ∀ ys : List Value, ys.length = xs.length → (List.replicate k.toNat ys).flatten.length ≤ sizeLine := fun ys hy => by
    rw [PyProof.Rows.lm_len_rep_flat, hy, sizeLine_eq]
    omega
  refine wpAny_binaryOp_repeat_ref (T := "tuple") (U := "int") (by decide) ⟨_, ho, rfl⟩ (fun s' => typeIs_int s' k t) noFill_tuple_mul PySem.F.fills_int_mul PySem.F.slot_int_rmul repeat_tuple PySem.F.slot_int_index.lookup
    (call_meets PySem.F.slot_int_rmul (typeIs_int s k t) PySem.F.entry_int_rmul (PySem.F.args_int_rmul_2 _ _) (int_rmul_tuple k t l its.toArray n dd sl)
      ⟨ho, rfl, ⟨_, ho, rfl⟩, call_meets PySem.F.slot_tuple_mul ⟨_, ho, rfl⟩ PySem.F.entry_tuple_mul (PySem.F.args_tuple_mul_2 _ _)
        (tuple_mulW l its.toArray n dd sl k t (by rw [decide_eq_false (by omega), decide_eq_false (by omega)] <;> rfl) (by rw [hi, Bool.false_or]; exact beq_eq_false_iff_ne.mpr (by omega)) (by rw [hi, Bool.or_false]; exact decide_eq_false (by omega)) (by rw [hsz0]; omega)
          (by unfold Builtin.Tuple.tupleTooMany; rw [sizeLine_eq, hsz0]; exact decide_eq_false (by omega)) (by rw [size_rep, List.size_toArray]; exact fl its hle)) ⟨ho, ?_⟩⟩)
  rw [size_rep]
  refine ⟨.ref s.heap.objs.size, _, I.laid (t' := s.toks) (o := .tup (List.replicate k.toNat xs).flatten) (fun b ob q => Heap.get?_push_of_some _ q) (Nat.le_refl _) ?_, rfl, q _ (I.hok.fresh (Nat.le_refl _))⟩
  exact ⟨by rw [PyProof.Rows.lm_len_rep_flat, sizeLine_eq]; omega, _, r.rep k.toNat, IsTup.new _ _⟩
/-- t * k of a tuple -/
def dMulT : O2 := fun x y μ Q => ∃ xs k, x = .tup xs ∧ y = .int k ∧ xs ≠ [] ∧ 1 ≤ k ∧ k ≤ 100000 ∧ xs.length ≤ 10 ∧ Q (.tup (List.replicate k.toNat xs).flatten) μ
theorem o_mulT : DO X (binaryOp .Mult) dMulT := by
  refine ⟨_, OpR.or op_rep1 op_repB, fun Z H μ x y dx dy Qd Q S rx ry h q => ?_⟩
  obtain ⟨xs, k, rfl, rfl, h1, h2, h3, h4, h⟩ := h
  obtain ⟨a, us, rfl, _, hq, _, t⟩ := see_tup_inv (μ := μ) rx rfl
  cases ry
  rcases Int.lt_or_eq_of_le h2 with h5 | h5
  · refine .inr ⟨a, k, us, rfl, rfl, hq, fun e => h1 ?_, by omega, h3, by rw [t.length]; exact h4, fun p hp => q.newT S hp (rp_repl t _) h⟩
    have := t.length
    rw [e] at this
    exact List.length_eq_zero_iff.mp this.symm
  · subst h5
    have e : (List.replicate (1 : Int).toNat xs).flatten = xs := by simp
    rw [e] at h
    exact .inl ⟨a, us, rfl, rfl, hq, q.same S rx h⟩
end
theorem z_mulT {xs : List D} {k : Int} {μ : Mu} {Q : DQ} : dMulT (.tup xs) (.int k) μ Q = (xs ≠ [] ∧ 1 ≤ k ∧ k ≤ 100000 ∧ xs.length ≤ 10 ∧ Q (.tup (List.replicate k.toNat xs).flatten) μ) := propext (Iff.intro (fun ⟨_, _, e1, e2, h⟩ => by cases e1; cases e2; exact h) fun h => ⟨_, _, rfl, rfl, h⟩)
end DL

/-! DLaa: x *= e of ints. -/
namespace DL
open PySem PySem.Spec PyProof.Rows L2
section
variable {X : Cx} {e : Expr} {te : DT} {pos : Pos}
theorem ip_mul : PIp X .Mult (fun x y H Q => ∃ i j, x = .int i ∧ y = .int j ∧ MulOk i j ∧ Q (.int (i * j)) H) := by
  intro pins s σ H x y v u Q I r1 r2 h
  obtain ⟨i, j, rfl, rfl, hm, q⟩ := h
  obtain ⟨t, rfl⟩ := r1
  obtain ⟨t', rfl⟩ := r2
  exact PySem.AutoIntOps.imul_0 ⟨.int _, H, I.tok _, ⟨_, rfl⟩, q⟩ (CMulW.ok hm)
def dAugM (i : Nat) (te : DT) : DTS := fun D ρ μ => ∃ m, ρ[i]? = some (some (.int m)) ∧ te ρ μ fun y μ1 => ∃ n, y = .int n ∧ MulOk m n ∧ D.nx (ρ.set i (some (.int (m * n)))) μ1
theorem s_augM {i : Nat} {x : Str} {pos' : Pos} (hN : X.N.Nodup) (hi : X.N[i]? = some x) (hx : Loc X.env.scope x) (he : DE X e te) (hf : X.fn x = true ∨ X.env.scope.names.lookup x = some .local := by first | exact .inl rfl | exact .inr rfl | assumption) :
    DSt X (.AugAssign (.Name x pos') .Mult e pos) (dAugM i te) := by
  obtain ⟨t1, p1, h2⟩ := he.ex
  refine ⟨_, ps_aug hN hi hx p1 ip_mul hf, fun Z σ ρ H μ Dd D S R h l => ?_⟩
  obtain ⟨m, hd, h⟩ := h
  obtain ⟨v, e1, r⟩ := R.at_ i _ hd
  refine ⟨v, e1, h2 Z σ ρ H μ _ _ S R h fun u y H1 μ1 S1 s1 r1 q1 => ?_⟩
  obtain ⟨n, rfl, hm, q1⟩ := q1
  cases r
  cases r1
  exact ⟨m, n, rfl, rfl, hm, l.nx _ _ _ _ S1 ((R.stp s1).set i (.int _)) s1 q1⟩
end
end DL

/-! DLab: more rules: str of an int, an empty dict among data. -/
namespace DL
open PySem PySem.Spec PyProof.Rows L2
def fStr : List D → Mu → DQ → Prop := fun ds μ Q => ∃ i, ds = [.int i] ∧ -(2 ^ 250) < i ∧ i < 2 ^ 250 ∧ Q (.str (toString i)) μ
section
variable {X : Cx} {pos : Pos}
theorem t_str : DCa X (.type "str") fStr := by
  refine ⟨_, call_str_int, fun Z H μ vs ds Qd Q S r h q => ?_⟩
  obtain ⟨i, rfl, h1, h2, h⟩ := h
  obtain ⟨v, rfl, r1⟩ := rp1 r
  cases r1
  exact ⟨i, rfl, by have := shb_int h1 h2; omega, q.same S (.str _) h⟩
/-- an empty dict that never changes -/
def dNewD : DT := fun _ μ Q => Q (.dk []) μ
theorem d_newD : DE X (.Dict [] [] pos) dNewD := by
  refine ⟨_, pe_frz pe_dnewK, fun Z σ ρ H μ Qd Q S R h q p hp => ⟨p, .dK [], rfl, upd_same, trivial, fun od => ?_⟩⟩
  rw [upd_upd]
  exact q _ _ _ _ (S.new hp) (Stp.new hp) (.dk upd_same (S.cold hp) rfl .nil) h
end
theorem z_str {i : Int} {μ : Mu} {Q : DQ} : fStr [.int i] μ Q = (-(2 ^ 250) < i ∧ i < 2 ^ 250 ∧ Q (.str (toString i)) μ) := propext (Iff.intro (fun ⟨_, e, h⟩ => by cases e; exact h) fun h => ⟨_, rfl, h⟩)
/-! ### is not True; in, among data of any depth -/
def dIsNB : O2 := fun x y μ Q => ∃ a b : Bool, x = .bl a ∧ y = .bl b ∧ Q (.bl (!decide (a = b))) μ
theorem o_isNB {X : Cx} : DO X (compareOp .IsNot) dIsNB := by
  refine ⟨_, op_notBl, fun Z H μ x y dx dy Qd Q S rx ry h q => ?_⟩
  obtain ⟨i, j, rfl, rfl, h⟩ := h
  cases rx
  cases ry
  exact ⟨i, j, rfl, rfl, q.same S (.bl _) h⟩
theorem z_isNB {a b : Bool} {μ : Mu} {Q : DQ} : dIsNB (.bl a) (.bl b) μ Q = Q (.bl (!decide (a = b))) μ := propext (Iff.intro (fun ⟨_, _, e1, e2, h⟩ => by cases e1; cases e2; exact h) fun h => ⟨_, _, rfl, rfl, h⟩)
def dInX (neg : Bool) : O2 := fun x y μ Q => Pl (see μ x) ∧ ∃ ys, (see μ y = .lst ys ∨ see μ y = .tup ys) ∧ Pl (.tup ys) ∧ Q (.bl (if neg then !inD (see μ x) ys else inD (see μ x) ys)) μ
def rInX (K : PySem.W.Frag) (neg : Bool) : R2 := fun x y H Q => ∃ d ds, Dp K H x d ∧ (Dp K H y (.list ds) ∨ Dp K H y (.tuple ds)) ∧ d.canLay0 = true ∧ PyData.canLayAll0 ds = true ∧ d.depth ≤ 60 ∧ Q (.bl (if neg then !ds.any fun z => PyData.eqv z d else ds.any fun z => PyData.eqv z d)) H
theorem op_inX {X : Cx} (hu : X.A.units + 64 < cLine) : OpR X (compareOp .In) (rInX X.K false) := by
  intro pins s σ H x y v u Q I rx ry h
  obtain ⟨d, ds, hd, he, sd, se, hp, q⟩ := h
  obtain ⟨as, r1⟩ := Dp.reads I d x v hd rx
  rcases he with he | he
  · obtain ⟨bs, r2⟩ := Dp.reads I (.list ds) y u he ry
    exact SeqAt.in_list_reads r2 r1 se sd (by omega) ⟨.bl _, H, I, rfl, q⟩
  · obtain ⟨bs, r2⟩ := Dp.reads I (.tuple ds) y u he ry
    exact SeqAt.in_tuple_reads r2 r1 se sd (by omega) ⟨.bl _, H, I, rfl, q⟩
theorem op_notInX {X : Cx} (hu : X.A.units + 64 < cLine) : OpR X (compareOp .NotIn) (rInX X.K true) := by
  intro pins s σ H x y v u Q I rx ry h
  obtain ⟨d, ds, hd, he, sd, se, hp, q⟩ := h
  obtain ⟨as, r1⟩ := Dp.reads I d x v hd rx
  rcases he with he | he
  · obtain ⟨bs, r2⟩ := Dp.reads I (.list ds) y u he ry
    exact SeqAt.notIn_list_reads r2 r1 se sd (by omega) ⟨.bl _, H, I, rfl, q⟩
  · obtain ⟨bs, r2⟩ := Dp.reads I (.tuple ds) y u he ry
    exact SeqAt.notIn_tuple_reads r2 r1 se sd (by omega) ⟨.bl _, H, I, rfl, q⟩
theorem inX_of {K : PySem.W.Frag} {Z : Zt} {H : Hp} {μ : Mu} {x y : V} {dx dy : D} {Qd : DQ} {Q : VK} {neg : Bool} (S : Sim K Z μ H) (rx : Rp K Z μ H x dx) (ry : Rp K Z μ H y dy) (h : dInX neg dx dy μ Qd) (q : VE K Z H μ Qd Q) : rInX K neg x y H Q := by
  obtain ⟨h1, ys, e, h2, h3⟩ := h
  have p1 := pl_depth 60 _ h1
  have e2 : inD (see μ dx) ys = (toPys ys).any fun z => PyData.eqv z (toPy (see μ dx)) := by
    rw [toPys_map, List.any_map]
    rfl
  rw [e2] at h3
  have h2' : plDs 59 ys = true := h2
  refine ⟨_, toPys ys, see_dp S rx h1, ?_, p1.2, (pl_depths 59 ys h2').2, p1.1, q.same S (.bl _) h3⟩
  rcases e with e | e
  · left
    have := see_dp (n := 60) S ry (by rw [e]; exact h2)
    rw [e, toPy] at this
    exact this
  · right
    have := see_dp (n := 60) S ry (by rw [e]; exact h2)
    rw [e, toPy] at this
    exact this
theorem o_inX {X : Cx} (hu : X.A.units + 64 < cLine) : DO X (compareOp .In) (dInX false) := ⟨_, op_inX hu, fun _ _ _ _ _ _ _ _ _ S rx ry h q => inX_of S rx ry h q⟩
theorem o_notinX {X : Cx} (hu : X.A.units + 64 < cLine) : DO X (compareOp .NotIn) (dInX true) := ⟨_, op_notInX hu, fun _ _ _ _ _ _ _ _ _ S rx ry h q => inX_of S rx ry h q⟩
end DL

/-! DLac: dicts that change no more; their pairs, keys, values; dict(pairs); len. -/
namespace DL
open PySem PySem.Spec PyProof.Rows L2
section
variable {K : PySem.W.Frag} {Z : Zt} {μ : Mu} {H : Hp} {a : Addr} {m : MO} {o : HO}
/-- an object of the store is locked for good -/
theorem Stp.lock (h : μ a = some m) : Stp μ (mdel μ a) H (upd H a o) := fun b u e n => by
  have hb : b ≠ a := fun q => by rw [q, h] at n; cases n
  exact ⟨by rw [upd_ne hb]; exact e, by rw [mdel_ne hb]; exact n⟩
theorem Sim.lock (S : Sim K Z μ H) (h : μ a = some m) : Sim K Z (mdel μ a) (upd H a o) := by
  refine ⟨fun b u e => ?_, fun b z => ?_⟩
  · have hb : b ≠ a := fun q => by rw [q, mdel_same] at e; cases e
    rw [mdel_ne hb] at e
    exact (S.ob b u e).stp (Stp.lock h) (upd_ne hb)
  · have hb : b ≠ a := fun q => by
      have := (S.z b z).2
      rw [q, h] at this
      cases this
    rw [upd_ne hb, mdel_ne hb]
    exact S.z b z
theorem Sim.lockC (S : Sim K Z μ H) (h : μ a = some m) : Cold (mdel μ a) Z a := ⟨mdel_same, fun z => by
  have := (S.z a z).2
  rw [h] at this
  cases this⟩
end
/-- a name's dict, from now on never changed -/
def dFrzD (i : Nat) : DT := fun ρ μ Q => match ρ[i]? with
  | some (some (.ref a)) => (∃ ds, μ a = some (.dk ds) ∧ Q (.dk ds) (mdel μ a)) ∨ ∃ ds, μ a = some (.dt ds) ∧ Q (.dt ds) (mdel μ a)
  | _ => False
section
variable {X : Cx} {tg e : Expr} {te : DT} {pos p apos cpos tpos : Pos} {elts : List Expr} {kk : Nat}
theorem dvD (i : Nat) {x : Str} {pos : Pos} (hN : X.N[i]? = some x := by rfl) (hv : Vis X.env.scope x := by first | exact Or.inl rfl | exact Or.inr (Or.inl rfl) | exact Or.inr (Or.inr rfl)) (hd : (x == ("__debug__" : Str)) = false := by decide)
    (hcd : (x == ("__classdict__" : Str)) = false := by decide) : DE X (.Name x pos) (dFrzD i) := by
  refine ⟨_, pe_frz (pe_var hN hv hd hcd), fun Z σ ρ H μ Qd Q S R h q => ?_⟩
  unfold dFrzD at h
  split at h
  · rename_i a e
    obtain ⟨v, h1, h2⟩ := R.at_ i _ e
    cases h2
    rcases h with ⟨ds, h3, h⟩ | ⟨ds, h3, h⟩
    · obtain ⟨ws, hH, t⟩ := ob_dk S h3
      refine ⟨.ref a, h1, a, _, rfl, hH, trivial, fun od => ?_⟩
      have s : Stp μ (mdel μ a) H (upd H a (.frz od (.dK ws))) := Stp.lock h3
      exact q _ _ _ _ (S.lock h3) s (.dk upd_same (S.lockC h3) t.1 (t.2.stp s)) h
    · obtain ⟨xs, ws, hH, n, kr, t⟩ := ob_dt S h3
      refine ⟨.ref a, h1, a, _, rfl, hH, trivial, fun od => ?_⟩
      have s : Stp μ (mdel μ a) H (upd H a (.frz od (DNo a xs))) := Stp.lock h3
      exact q _ _ _ _ (S.lock h3) s (.dt upd_same (S.lockC h3) n t.1 (kr.stp s) (t.2.stp s)) h
  · exact h.elim
/-! ### what is walked -/
def itemsK (ds : List (Key × D)) : List D := ds.map fun e => .tup [keyD e.1, e.2]
def itemsN (ds : List (NestedKey × D)) : List D := ds.map fun e => .tup [nkD e.1, e.2]
def dIItems (te : DT) : DIt := fun ρ μ Q => te ρ μ fun d μ1 => (∃ ds, d = .dk ds ∧ Q (itemsK ds) (fun _ => True) μ1) ∨ ∃ ds, d = .dt ds ∧ Q (itemsN ds) (fun _ => True) μ1
theorem rp_key {K : PySem.W.Frag} {Z : Zt} {μ : Mu} {H : Hp} : ∀ k : Key, Rp K Z μ H (kV k) (keyD k)
  | .inl i => .int i
  | .inr x => .str x
theorem vs_ok {xs : NXs} {ws : List (NestedKey × V)} (n : NR xs ws) : VsOk xs := fun x hx => by
  obtain ⟨i, hi⟩ := List.mem_iff_getElem?.mp hx
  obtain ⟨w, _, h⟩ := paired_get n hi
  exact ⟨w.2, h.2⟩
theorem i_items (he : DE X e te) (hbase : attributeBase e "items" X.env (eval e X.env) = eval e X.env := by rfl) (hline : (apos.endLine == cpos.line) = true := by rfl) :
    DI X (.Tuple elts kk tpos) (.Call (.Attribute e "items" apos) [] [] cpos) (dIItems te) := by
  obtain ⟨t1, p1, h1⟩ := he.ex
  refine ⟨_, pi_itemsX p1 hbase hline, fun Z σ ρ H μ Qd R S E h q => h1 Z σ ρ H μ _ _ S E h fun v d H1 μ1 S1 s1 r1 q1 => ?_⟩
  rcases q1 with ⟨ds, rfl, q1⟩ | ⟨ds, rfl, q1⟩
  · cases r1 with
    | @dk a od ws es hH c k t =>
      refine ⟨a, od, rfl, .inl ⟨ws, hH, q _ _ _ H1 μ1 S1 s1 (fun Z' H2 μ2 s2 S2 _ => ?_) q1⟩⟩
      have r2 : Rp X.K Z' μ2 H2 (.ref a) (.dk ds) := (Rp.dk hH c k t).go s2
      have hH2 := (s2 _ _ hH c).1
      have t2 : RpAll X.K Z' μ2 H2 (ws.map (·.2)) (ds.map (·.2)) := t.go s2
      have hl : ws.length = ds.length := by
        have := congrArg List.length k
        rw [List.length_map, List.length_map] at this
        exact this
      refine ⟨fun i hi => ⟨hH2, by unfold itemsK at hi; rw [List.length_map] at hi; omega⟩, fun i d' hd => ?_⟩
      unfold itemsK at hd
      rw [List.getElem?_map] at hd
      cases ed : ds[i]? with
      | none => rw [ed] at hd; cases hd
      | some x =>
        rw [ed] at hd
        cases hd
        have hil : i < ds.length := (List.getElem?_eq_some_iff.mp ed).1
        refine ⟨⟨hH2, by omega⟩, fun y H' yl => ?_⟩
        obtain ⟨T, k', v, hw, rfl, hT, rfl⟩ := yl
        obtain ⟨v', h3, h4⟩ := t2.get (i := i) (d := x.2) (by rw [List.getElem?_map, ed]; rfl)
        rw [List.getElem?_map, hw] at h3
        cases h3
        have h5 : (ws.map (·.1))[i]? = (ds.map (·.1))[i]? := by rw [k]
        rw [List.getElem?_map, List.getElem?_map, hw, ed] at h5
        have h6 : k' = x.1 := Option.some.inj h5
        rw [h6] at *
        exact new_pair S2 hT (rp_key x.1) h4
  · cases r1 with
    | @dt a od xs ws es hH c n k kr t =>
      refine ⟨a, od, rfl, .inr ⟨xs, hH, vs_ok n, q _ _ _ H1 μ1 S1 s1 (fun Z' H2 μ2 s2 S2 _ => ?_) q1⟩⟩
      have hH2 := (s2 _ _ hH c).1
      have t2 : RpAll X.K Z' μ2 H2 (ws.map (·.2)) (ds.map (·.2)) := t.go s2
      have kr2 : RpAll X.K Z' μ2 H2 (xs.map fun x => V.ref x.2.1) (ds.map fun e => nkD e.1) := kr.go s2
      have hl : xs.length = ds.length := by
        have := kr.length
        rw [List.length_map, List.length_map] at this
        exact this
      refine ⟨fun i hi => ⟨hH2, by unfold itemsN at hi; rw [List.length_map] at hi; omega⟩, fun i d' hd => ?_⟩
      unfold itemsN at hd
      rw [List.getElem?_map] at hd
      cases ed : ds[i]? with
      | none => rw [ed] at hd; cases hd
      | some x =>
        rw [ed] at hd
        cases hd
        have hil : i < ds.length := (List.getElem?_eq_some_iff.mp ed).1
        refine ⟨⟨hH2, by omega⟩, fun y H' yl => ?_⟩
        obtain ⟨T, k', b, u, v, hx, rv, rfl, hT, rfl⟩ := yl
        obtain ⟨w, hw, h7⟩ := paired_get n hx
        obtain ⟨v', h3, h4⟩ := t2.get (i := i) (d := x.2) (by rw [List.getElem?_map, ed]; rfl)
        rw [List.getElem?_map, hw] at h3
        cases h3
        have e1 := RelV.inj rv h7.2
        obtain ⟨b', h8, h9⟩ := kr2.get (i := i) (d := nkD x.1) (by rw [List.getElem?_map, ed]; rfl)
        rw [List.getElem?_map, hx] at h8
        cases h8
        rw [e1]
        exact new_pair S2 hT h9 h4
def dIVals (te : DT) : DIt := fun ρ μ Q => te ρ μ fun d μ1 => (∃ ds, d = .dk ds ∧ Q (ds.map (·.2)) (fun _ => True) μ1) ∨ ∃ ds, d = .dt ds ∧ Q (ds.map (·.2)) (fun _ => True) μ1
theorem i_vals (he : DE X e te) (hbase : attributeBase e "values" X.env (eval e X.env) = eval e X.env := by rfl) (hline : (apos.endLine == cpos.line) = true := by rfl) :
    DI X tg (.Call (.Attribute e "values" apos) [] [] cpos) (dIVals te) := by
  obtain ⟨t1, p1, h1⟩ := he.ex
  refine ⟨_, pi_valsX p1 hbase hline, fun Z σ ρ H μ Qd R S E h q => h1 Z σ ρ H μ _ _ S E h fun v d H1 μ1 S1 s1 r1 q1 => ?_⟩
  rcases q1 with ⟨ds, rfl, q1⟩ | ⟨ds, rfl, q1⟩
  · cases r1 with
    | @dk a od ws es hH c k t =>
      refine ⟨a, od, rfl, .inl ⟨ws, hH, q _ _ _ H1 μ1 S1 s1 (fun Z' H2 μ2 s2 S2 _ => ?_) q1⟩⟩
      have hH2 := (s2 _ _ hH c).1
      have t2 : RpAll X.K Z' μ2 H2 (ws.map (·.2)) (ds.map (·.2)) := t.go s2
      have hl : ws.length = ds.length := by
        have := congrArg List.length k
        rw [List.length_map, List.length_map] at this
        exact this
      refine ⟨fun i hi => ⟨hH2, by rw [List.length_map] at hi; omega⟩, fun i d' hd => ?_⟩
      have hil : i < ds.length := by
        have := (List.getElem?_eq_some_iff.mp hd).1
        rw [List.length_map] at this
        exact this
      refine ⟨⟨hH2, by omega⟩, fun y H' yl => ?_⟩
      obtain ⟨rfl, k', hw⟩ := yl
      obtain ⟨v', h3, h4⟩ := t2.get hd
      rw [List.getElem?_map, hw] at h3
      cases h3
      exact ⟨S2, Stp.refl, h4⟩
  · cases r1 with
    | @dt a od xs ws es hH c n k kr t =>
      refine ⟨a, od, rfl, .inr ⟨xs, hH, vs_ok n, q _ _ _ H1 μ1 S1 s1 (fun Z' H2 μ2 s2 S2 _ => ?_) q1⟩⟩
      have hH2 := (s2 _ _ hH c).1
      have t2 : RpAll X.K Z' μ2 H2 (ws.map (·.2)) (ds.map (·.2)) := t.go s2
      have hl : xs.length = ds.length := by
        have := kr.length
        rw [List.length_map, List.length_map] at this
        exact this
      refine ⟨fun i hi => ⟨hH2, by rw [List.length_map] at hi; omega⟩, fun i d' hd => ?_⟩
      have hil : i < ds.length := by
        have := (List.getElem?_eq_some_iff.mp hd).1
        rw [List.length_map] at this
        exact this
      refine ⟨⟨hH2, by omega⟩, fun y H' yl => ?_⟩
      obtain ⟨rfl, k', b, u, hx, rv⟩ := yl
      obtain ⟨w, hw, h7⟩ := paired_get n hx
      obtain ⟨v', h3, h4⟩ := t2.get hd
      rw [List.getElem?_map, hw] at h3
      cases h3
      rw [RelV.inj rv h7.2]
      exact ⟨S2, Stp.refl, h4⟩
/-- the keys: ints and texts -/
def dIKeys (te : DT) : DIt := fun ρ μ Q => te ρ μ fun d μ1 => ∃ ds, d = .dk ds ∧ Q (ds.map fun e => keyD e.1) (fun _ => True) μ1
theorem i_keys (he : DE X e te) : DI X tg e (dIKeys te) := by
  obtain ⟨t1, p1, h1⟩ := he.ex
  refine ⟨_, pi_keys p1, fun Z σ ρ H μ Qd R S E h q => h1 Z σ ρ H μ _ _ S E h fun v d H1 μ1 S1 s1 r1 q1 => ?_⟩
  obtain ⟨ds, rfl, q1⟩ := q1
  cases r1 with
  | @dk a od ws es hH c k t =>
    refine ⟨a, od, rfl, .inl ⟨ws, hH, q _ _ _ H1 μ1 S1 s1 (fun Z' H2 μ2 s2 S2 _ => ?_) q1⟩⟩
    have hH2 := (s2 _ _ hH c).1
    have hl : ws.length = ds.length := by
      have := congrArg List.length k
      rw [List.length_map, List.length_map] at this
      exact this
    refine ⟨fun i hi => ⟨hH2, by rw [List.length_map] at hi; omega⟩, fun i d' hd => ?_⟩
    rw [List.getElem?_map] at hd
    cases ed : ds[i]? with
    | none => rw [ed] at hd; cases hd
    | some x =>
      rw [ed] at hd
      cases hd
      have hil : i < ds.length := (List.getElem?_eq_some_iff.mp ed).1
      refine ⟨⟨hH2, by omega⟩, fun y H' yl => ?_⟩
      obtain ⟨rfl, k', v, hw, rfl⟩ := yl
      have h5 : (ws.map (·.1))[i]? = (ds.map (·.1))[i]? := by rw [k]
      rw [List.getElem?_map, List.getElem?_map, hw, ed] at h5
      have h6 : k' = x.1 := Option.some.inj h5
      rw [h6]
      exact ⟨S2, Stp.refl, rp_key x.1⟩
/-! ### len -/
def fLenD : List D → Mu → DQ → Prop := fun ds μ Q => ∃ d, ds = [d] ∧ ((∃ kvs, see μ d = .dk kvs ∧ Q (.int (kvs.length : Nat)) μ) ∨ ∃ kvs, see μ d = .dt kvs ∧ Q (.int (kvs.length : Nat)) μ)
theorem call_lenX : CallR X (.builtin "len") (fun vs H Q => ∃ a, vs = [.ref a] ∧ ((∃ kvs, Rd H a (.dK kvs) ∧ Q (.int (kvs.length : Nat)) H) ∨ ∃ xs, IsN H a xs ∧ KOk H xs ∧ Q (.int (xs.length : Nat)) H)) := by
  intro pins s σ H vs us Q I r h
  obtain ⟨a, rfl, h⟩ := h
  rcases h with ⟨kvs, e, q⟩ | ⟨xs, e, ko, q⟩
  · obtain ⟨u, rfl, ru⟩ := vals1 r
    cases ru
    exact d_len I e fun t s' I' => ⟨.int kvs.length, H, I', ⟨t, rfl⟩, q⟩
  · exact call_lenN pins s σ H _ us Q I r ⟨a, xs, rfl, e, ko, q⟩
theorem b_lenD : DCa X (.builtin "len") fLenD := by
  refine ⟨_, call_lenX, fun Z H μ vs ds Qd Q S r h q => ?_⟩
  obtain ⟨d, rfl, h⟩ := h
  obtain ⟨v, rfl, r1⟩ := rp1 r
  rcases h with ⟨kvs, e, h⟩ | ⟨kvs, e, h⟩
  · obtain ⟨a, ws, rfl, hH, t⟩ := see_dk_inv S r1 e
    exact ⟨a, rfl, .inl ⟨ws, hH, by rw [t.length]; exact q.same S (.int _) h⟩⟩
  · obtain ⟨a, xs, ws, rfl, hN, n, kr, t⟩ := see_dt_inv S r1 e
    exact ⟨a, rfl, .inr ⟨xs, hN, kok_of (nr_keys n t) kr, by rw [n.len, t.length]; exact q.same S (.int _) h⟩⟩
/-! ### dict(pairs) -/
def foldT {κ : Type} [DecidableEq κ] (kvs : List (κ × D)) : List (κ × D) := kvs.foldl (fun acc e => putT acc e.1 e.2) []
def dDictN (ta : DA) : DT := fun ρ μ Q => ta ρ μ fun ds μ1 => ∃ (d : D) (kvs : List (List NestedKey × D)), ds = [d] ∧ (see μ1 d = .lst (kvs.map fun e => .tup [nkD (.tup e.1), e.2])) ∧ (∀ e ∈ kvs, NT (.tup e.1) = true ∧ (NestedKey.tup e.1).depth ≤ 8) ∧ Q (.dt (foldT (kvs.map fun e => (NestedKey.tup e.1, e.2)))) μ1
end
section
variable {K : PySem.W.Frag} {Z : Zt} {μ : Mu} {H : Hp}
def RQ (K : PySem.W.Frag) (Z : Zt) (μ : Mu) (H : Hp) (ts : NTs4) (kvs : List (List NestedKey × D)) : Prop := Paired (fun (t : Addr × NestedKey × Addr × V) (e : List NestedKey × D) => t.2.1 = .tup e.1 ∧ Rp K Z μ H (.ref t.2.2.1) (nkD (.tup e.1)) ∧ Rp K Z μ H t.2.2.2 e.2) ts kvs
theorem quads : ∀ {kvs : List (List NestedKey × D)} {vs : List V}, RpAll K Z μ H vs (kvs.map fun e => .tup [nkD (.tup e.1), e.2]) → ∃ ts : NTs4, vs = ts.map (fun t => V.ref t.1) ∧ RQ K Z μ H ts kvs ∧ ∀ t ∈ ts, SqT K H t.1 [.ref t.2.2.1, t.2.2.2]
  | [], _, .nil => ⟨[], rfl, .nil, fun t ht => (nomatch ht)⟩
  | e :: kvs, _, .cons r rs => by
    obtain ⟨ts, h1, h2, h3⟩ := quads rs
    obtain ⟨T, ys, rfl, _, hs, hc, t⟩ := see_tup_inv (μ := μ) r rfl
    obtain ⟨x, y, rfl, rx, ry⟩ := rp2 t
    have rx' := rx
    rw [nkD] at rx'
    obtain ⟨b, zs, rfl, _⟩ := see_tup_inv (μ := μ) rx' rfl
    refine ⟨(T, .tup e.1, b, y) :: ts, by rw [h1]; rfl, .cons ⟨rfl, rx, ry⟩ h2, fun t ht => ?_⟩
    rcases List.mem_cons.mp ht with rfl | ht
    · exact hs
    · exact h3 t ht
theorem fold_ok : ∀ {ts : NTs4} {xs : NXs} {kvs : List (List NestedKey × D)} {xa : NXs} {wa : List (NestedKey × V)} {da : List (NestedKey × D)}, Paired (fun (t : Addr × NestedKey × Addr × V) (x : NestedKey × Addr × Value) => x.1 = t.2.1 ∧ x.2.1 = t.2.2.1 ∧ RelV t.2.2.2 x.2.2) ts xs → RQ K Z μ H ts kvs →
    NR xa wa → TR K Z μ H wa da → RpAll K Z μ H (xa.map fun x => V.ref x.2.1) (da.map fun e => nkD e.1) →
    ∃ wa', NR (storedAllH xa xs) wa' ∧ TR K Z μ H wa' ((kvs.map fun e => (NestedKey.tup e.1, e.2)).foldl (fun acc e => putT acc e.1 e.2) da) ∧ RpAll K Z μ H ((storedAllH xa xs).map fun x => V.ref x.2.1) (((kvs.map fun e => (NestedKey.tup e.1, e.2)).foldl (fun acc e => putT acc e.1 e.2) da).map fun e => nkD e.1)
  | [], _, _, xa, wa, da, .nil, .nil, n, t, k => ⟨wa, n, t, k⟩
  | t0 :: ts, x :: xs, e :: kvs, xa, wa, da, .cons p ps, .cons q qs, n, t, k => by
    obtain ⟨h1, h2, h3⟩ := p
    obtain ⟨h4, h5, h6⟩ := q
    have e1 : x.1 = .tup e.1 := h1.trans h4
    rw [← h2] at h5
    have n2 := nr_put (k := NestedKey.tup e.1) (b := x.2.1) h3 n
    have t2 := t.put (k := NestedKey.tup e.1) h6
    have k2 := kr_put (u := x.2.2) (d := e.2) h5 (nr_keys n t) k
    have := fold_ok ps qs n2 t2 k2
    rw [← e1] at this
    rw [List.map_cons, List.foldl_cons, ← e1]
    exact this
end
section
variable {X : Cx} {e : Expr} {te : DT} {p pos : Pos}
theorem d_dictN {ta : DA} {es : List Expr} (hc : X.calm = true) (hu : X.A.units + 64 < cLine) (hg : Gl X "dict") (hm : X.mg "dict" = none) (ha : DAs X (e :: es) ta)
    (hs : starEach (e :: es) X.env = (false, eval e X.env) :: starEach es X.env := by rfl) (hpl : (backTo pos (starEach es X.env)).any (·.1) = false := by rfl) : DE X (.Call (.Name "dict" p) (e :: es) [] pos) (dDictN ta) := by
  obtain ⟨t1, p1, h1⟩ := ha.ex
  refine ⟨_, pe_frz (pe_callTy (call_dictN hc hu) hg hm rfl p1 (by decide) (by decide) hs hpl), fun Z σ ρ H μ Qd Q S R h q => h1 Z σ ρ H μ _ _ S R h fun vs ds H1 μ1 S1 s1 r1 q1 => ?_⟩
  obtain ⟨d, kvs, rfl, e, hk, q1⟩ := q1
  obtain ⟨v, rfl, r2⟩ := rp1 r1
  obtain ⟨a, us, rfl, hq, t⟩ := see_lst_inv S1 r2 e
  obtain ⟨ts, rfl, rq, hts⟩ := quads t
  refine ⟨a, ts, rfl, hq, fun t ht => ?_, fun p xs hp px => ?_⟩
  · obtain ⟨i, hi⟩ := List.mem_iff_getElem?.mp ht
    obtain ⟨e, he, h2, h3, h4⟩ := paired_get rq hi
    refine ⟨hts t ht, ?_, ?_⟩
    · rw [h2]
      exact rp_kis h3
    · rw [h2]
      exact hk e (List.mem_of_getElem? he)
  · obtain ⟨wa, n, tr, kr⟩ := fold_ok px rq .nil .nil .nil
    refine ⟨p, _, rfl, upd_same, trivial, fun od => ?_⟩
    rw [upd_upd]
    have s2 : Stp μ1 μ1 H1 (upd H1 p (.frz od (DNo p (storedAllH [] xs)))) := Stp.new hp
    exact q _ _ _ μ1 (S1.new hp) (s1.trans s2) (.dt upd_same (S1.cold hp) n tr.1 (kr.stp s2) (tr.2.stp s2)) q1
end
end DL

/-! DLad: repr of a dict (keys: ints and texts; values without lists and dicts). -/
namespace DL
open PySem PySem.Spec PyProof.Rows L2
mutual
/-- no list, no dict within -/
def noL : PyData → Bool
  | .list _ => false
  | .dict _ => false
  | .tuple xs => noLs xs
  | _ => true
def noLs : List PyData → Bool
  | [] => true
  | x :: xs => noL x && noLs xs
end
mutual
theorem reads_nil {h : Heap} : ∀ {v : Value} {d : PyData} {as : List Addr}, Reads h v d as → noL d = true → as = []
  | _, _, _, .none, _ => rfl
  | _, _, _, .bool _, _ => rfl
  | _, _, _, .int _ _, _ => rfl
  | _, _, _, .str _ _, _ => rfl
  | _, _, _, .list _ _ _ _, e => by simp [noL] at e
  | _, _, _, .tuple _ _ _ h4, e => readsAll_nil h4 (by simpa [noL] using e)
  | _, _, _, .dict _ _ _ _ _, e => by simp [noL] at e
theorem readsAll_nil {h : Heap} : ∀ {vs : List Value} {ds : List PyData} {as : List Addr}, ReadsAll h vs ds as → noLs ds = true → as = []
  | _, _, _, .nil, _ => rfl
  | _, _, _, .cons r rs, e => by
    rw [noLs, Bool.and_eq_true] at e
    rw [reads_nil r e.1, readsAll_nil rs e.2]
    rfl
end
def keyP : Key → PyData
  | .inl i => .int i
  | .inr x => .str x
def pairsP (ds : List (Key × D)) : List (PyData × PyData) := ds.map fun e => (keyP e.1, toP e.2)
def shwK (ds : List (Key × D)) : Str := (PyData.dict (pairsP ds)).shown
/-- ints as keys -/
def DkOk (m : Nat) (ds : List (Key × D)) : Prop := ∀ e ∈ ds, (∃ i : Int, e.1 = .inl i ∧ -(2 ^ 250) < i ∧ i < 2 ^ 250) ∧ Shb 30 m e.2 ∧ noL (toP e.2) = true
def fReprD : List D → Mu → DQ → Prop := fun ds μ Q => ∃ (d : D) (kvs : List (Key × D)) (m : Nat), ds = [d] ∧ see μ d = .dk kvs ∧ DkOk m kvs ∧ kvs.length * (m + 260) + 10 ≤ sizeLine ∧ Q (.str (shwK kvs)) μ
theorem pairs_ok {m : Nat} : ∀ {ds : List (Key × D)}, DkOk m ds → PyData.showableKv (pairsP ds) = true ∧ PyData.depthKv (pairsP ds) ≤ 30 ∧ ∀ t ∈ PyData.shownKv (pairsP ds), t.length ≤ m + 254
  | [], _ => ⟨by simp only [pairsP, List.map_nil, PyData.showableKv], by simp only [pairsP, List.map_nil, PyData.depthKv]; omega, fun t ht => by simp [pairsP, PyData.shownKv] at ht⟩
  | (k, d) :: ds, h => by
    obtain ⟨h1, h2, h3⟩ := pairs_ok (ds := ds) fun e he => h e (List.mem_cons_of_mem _ he)
    obtain ⟨⟨i, ei, i1, i2⟩, hs, _⟩ := h (k, d) List.mem_cons_self
    dsimp only at ei hs
    subst ei
    obtain ⟨s1, s2, s3⟩ := hs.shn
    have ki : Shb 30 252 (.int i) := ⟨i1, i2, Nat.le_refl _⟩
    obtain ⟨k1, k2, k3⟩ := ki.shn
    show PyData.showableKv ((PyData.int i, toP d) :: pairsP ds) = true ∧ PyData.depthKv ((PyData.int i, toP d) :: pairsP ds) ≤ 30 ∧ ∀ t ∈ PyData.shownKv ((PyData.int i, toP d) :: pairsP ds), t.length ≤ m + 254
    refine ⟨?_, ?_, fun t ht => ?_⟩
    · rw [PyData.showableKv, h1, s1]
      have k1 : (PyData.int i).showable = true := k1
      rw [k1]
      rfl
    · rw [PyData.depthKv]
      have k2 : (PyData.int i).depth ≤ 30 := k2
      omega
    · rw [PyData.shownKv] at ht
      rcases List.mem_cons.mp ht with rfl | ht
      · have k3 : (PyData.int i).shown.length ≤ 252 := k3
        rw [strLen_append, strLen_append]
        have : (": " : Str).length = 2 := by decide +kernel
        omega
      · exact h3 t ht
theorem dict_le {ts : List Str} {m : Nat} (h : ∀ t ∈ ts, t.length ≤ m) : (dictText ts).length ≤ ts.length * (m + 2) + 3 := by
  have h1 := join_le h
  unfold dictText
  rw [strLen_append, strLen_append]
  have e1 : ("{" : Str).length = 1 := by decide +kernel
  have e2 : ("}" : Str).length = 1 := by decide +kernel
  omega
section
variable {X : Cx}
theorem reads_keys {P : Program} {w : World} {h : Heap} : ∀ {es : List DictEntry} {vs : List (Key × Value)} {ws : List (Key × V)}, Pairs (mixKind P w) es vs → KV ws vs → ReadsAll h (es.map (·.key)) (ws.map fun e => keyP e.1) [] ∧ es.map (·.val) = vs.map (·.2)
  | [], [], [], _, _ => ⟨.nil, rfl⟩
  | e :: es, kv :: vs, w0 :: ws, p, q => by
    cases p with
    | cons p1 p2 p3 =>
      cases q with
      | cons q1 q2 =>
        obtain ⟨h1, h2⟩ := reads_keys (h := h) p3 q2
        refine ⟨?_, by rw [List.map_cons, List.map_cons, h2, p2]⟩
        have r : Reads h e.key (keyP w0.1) [] := by
          rw [q1.1]
          rcases keyIs_shape (show keyIs kv.1 e.key = true from p1) with ⟨i, t, e1, e2⟩ | ⟨x, t, e1, e2⟩
          · rw [e1, e2]
            exact .int i t
          · rw [e1, e2]
            exact .str x t
        exact .cons r h1
  | [], _ :: _, _, p, _ => by cases p
  | [], [], _ :: _, _, q => by cases q
  | _ :: _, [], _, p, _ => by cases p
  | _ :: _, _ :: _, [], _, q => by cases q
def rReprD (K : PySem.W.Frag) : List V → Hp → VK → Prop := fun xs H Q => ∃ (a : Addr) (ws : List (Key × V)) (ps : List PyData), xs = [.ref a] ∧ Rd H a (.dK ws) ∧ DpAll K H (ws.map (·.2)) ps ∧ noLs ps = true ∧ ps.length = ws.length ∧
  (PyData.dict ((ws.map fun e => keyP e.1).zip ps)).showable = true ∧ (PyData.dict ((ws.map fun e => keyP e.1).zip ps)).depth ≤ 40 ∧ (PyData.dict ((ws.map fun e => keyP e.1).zip ps)).shown.length ≤ sizeLine ∧ Q (.str (PyData.dict ((ws.map fun e => keyP e.1).zip ps)).shown) H
theorem call_reprD (hu : X.A.units + 64 < cLine) (hg : X.A.guards = some []) : CallR X (.builtin "repr") (rReprD X.K) := by
  intro pins s σ H xs us Q I r h
  obtain ⟨a, ws, ps, rfl, e, hd, hn, hl, h1, h2, h3, q⟩ := h
  obtain ⟨u, rfl, ru⟩ := vals1 r
  cases ru
  obtain ⟨hz, hs, vs, kv, o, es, ep, ho, hx, hdt, hk, hpr, hnd⟩ := dk_rd I.hok e
  obtain ⟨rk, ev⟩ := reads_keys (h := s.heap) hpr kv
  have rv : Vals (ws.map (·.2)) (vs.map (·.2)) := by
    clear hd hn hl h1 h2 h3 q rk ev hpr hnd hk hz e
    induction kv with
    | nil => exact .nil
    | cons h t ih => exact .cons h.2 ih
  obtain ⟨as, ra⟩ := Dp.readsAll I ps _ _ hd rv
  have ea := readsAll_nil ra hn
  subst ea
  have rd : Reads s.heap (.ref a) (.dict ((ws.map fun e => keyP e.1).zip ps)) (a :: [] ++ []) := by
    refine .dict ho hx.1 hdt ?_ ?_
    · have : ((ws.map fun e => keyP e.1).zip ps).map (·.1) = ws.map fun e => keyP e.1 := List.map_fst_zip (by rw [List.length_map]; omega)
      rw [this]
      exact rk
    · have : ((ws.map fun e => keyP e.1).zip ps).map (·.2) = ps := List.map_snd_zip (by rw [List.length_map]; omega)
      rw [this, ev]
      exact ra
  have done : ∀ (h' : Heap) (t tk : Tok), (∀ b o, s.heap.get? b = some o → h'.get? b = some o) → EP X pins σ Q (.str (PyData.dict ((ws.map fun e => keyP e.1).zip ps)).shown t) { s with heap := h', toks := tk } := fun h' t tk hk => ⟨.str _, H, I.kept hk, ⟨t, rfl⟩, q⟩
  refine repr_of_reads' rd h1 (fun _ hm => ?_) hg (by omega) (fun _ _ e => e) (fun h' t tk hk => done h' t tk hk) h3
  have : sysModules = a := by simpa using hm
  rw [← this] at hs
  simp at hs
theorem b_reprD (hu : X.A.units + 64 < cLine) (hg : X.A.guards = some []) : DCa X (.builtin "repr") fReprD := by
  refine ⟨_, call_reprD hu hg, fun Z H μ vs ds Qd Q S r h q => ?_⟩
  obtain ⟨d, kvs, m, rfl, e, ok, hl, h⟩ := h
  obtain ⟨v, rfl, r1⟩ := rp1 r
  obtain ⟨a, ws, rfl, hH, t⟩ := see_dk_inv S r1 e
  have ek : ws.map (fun e => keyP e.1) = kvs.map fun e => keyP e.1 := by
    have := congrArg (List.map keyP) t.1
    rw [List.map_map, List.map_map] at this
    exact this
  have ez : (ws.map fun e => keyP e.1).zip (toPs (kvs.map (·.2))) = pairsP kvs := by
    rw [ek]
    unfold pairsP
    clear ek ok hl h t hH r1 e
    induction kvs with
    | nil => rfl
    | cons x xs ih => rw [List.map_cons, List.map_cons, List.map_cons, toPs, List.zip_cons_cons, ih]
  obtain ⟨p1, p2, p3⟩ := pairs_ok ok
  have hlen : (PyData.shownKv (pairsP kvs)).length = kvs.length := by
    rw [PyData.shownKv_length]
    unfold pairsP
    rw [List.length_map]
  have hdl := dict_le p3
  rw [hlen] at hdl
  refine ⟨a, ws, toPs (kvs.map (·.2)), rfl, hH, dps Shb.dp (k := 30) (m := m) (fun d hd => ?_) t.2, ?_, ?_, ?_⟩
  · obtain ⟨x, hx, rfl⟩ := List.mem_map.mp hd
    exact (ok x hx).2.1
  · clear ek ez p1 p2 p3 hlen hdl hl h t hH r1 e
    induction kvs with
    | nil => rfl
    | cons x xs ih =>
      rw [List.map_cons, toPs, noLs, (ok x List.mem_cons_self).2.2, ih fun e he => ok e (List.mem_cons_of_mem _ he)]
      rfl
  · rw [toPs_length, List.length_map, t.length]
  · rw [ez]
    refine ⟨by simpa [PyData.showable] using p1, by simp only [PyData.depth]; omega, ?_, q.same S (.str _) h⟩
    have e : (PyData.dict (pairsP kvs)).shown = dictText (PyData.shownKv (pairsP kvs)) := by simp only [PyData.shown]
    rw [e]
    have : kvs.length * (m + 254 + 2) + 3 ≤ kvs.length * (m + 260) + 10 := by
      have := Nat.mul_le_mul_left kvs.length (by omega : m + 254 + 2 ≤ m + 260)
      omega
    omega
end
end DL

/-! DLae: comprehensions of two clauses. -/
namespace DL
open PySem PySem.Spec PyProof.Rows L2
def upI (K : PySem.W.Frag) (wi : DIt) : TI := fun σ H R => ∃ Z ρ μ Qd, Sim K Z μ H ∧ ER K Z μ H σ ρ ∧ wi ρ μ Qd ∧ ∀ J items G H' μ', Sim K Z μ' H' → Stp μ μ' H H' → JOk K Z H' μ' J items G → Qd items G μ' → R J H'
theorem DI.up {X : Cx} {tg iter : Expr} {wi : DIt} (h : DI X tg iter wi) : PI X tg iter (upI X.K wi) := by
  obtain ⟨w, p, h0⟩ := h.ex
  exact ⟨fun pins s σ H R I ⟨Z, ρ, μ, Qd, S, E, hh, q⟩ => p.run pins s σ H R I (h0 Z σ ρ H μ Qd R S E hh q)⟩
def lcGo2 (g : DG) (tt : DB) (wi1 : DIt) (g1 : DG) (tt1 : DB) (te : DT) (vs1 : List Nat) (G : Mu → Prop) (ρ0 : Rho) (Q : List D → Mu → Prop) : List D → List D → Mu → Prop
  | [], acc, μ => G μ ∧ Q acc μ
  | d :: ds, acc, μ => G μ ∧ g d ρ0 μ fun ρ2 μ2 => tt ρ2 μ2 fun b μ3 => if b = true then wi1 ρ2 μ3 fun items1 G1 μ4 => lcGo g1 tt1 te G1 (dwipe ρ2 vs1) (fun acc' μ5 => lcGo2 g tt wi1 g1 tt1 te vs1 G ρ0 Q ds acc' μ5) items1 acc μ4 else lcGo2 g tt wi1 g1 tt1 te vs1 G ρ0 Q ds acc μ3
def dLc2 (wi : DIt) (g : DG) (tt : DB) (wi1 : DIt) (g1 : DG) (tt1 : DB) (te : DT) (vs vs1 : List Nat) : DT := fun ρ μ Q => wi ρ μ fun items G μ1 => lcGo2 g tt wi1 g1 tt1 te vs1 G (dwipe ρ vs) (fun acc μ' => Q (.lst acc) μ') items [] μ1
section
variable {X : Cx} {pos : Pos} {vs vs1 : List Nat}
theorem lc2_run {wi wi1 : DIt} {g g1 : DG} {tt tt1 : DB} {te : DT} {w : TI} {σ : L2.St} {ρ : Rho} {H : Hp} {μ : Mu} {Z : Zt} {Q : VK} {W : List D → Mu → Prop} (hv : ∀ i ∈ vs1, i ∈ vs)
    (h0 : ∀ Z σ ρ H μ Qd (R : It → Hp → Prop), Sim X.K Z μ H → ER X.K Z μ H σ ρ → wi ρ μ Qd → (∀ J items G H' μ', Sim X.K Z μ' H' → Stp μ μ' H H' → JOk X.K Z H' μ' J items G → Qd items G μ' → R J H') → w σ H R)
    (S : Sim X.K Z μ H) (R : ER X.K Z μ H σ ρ) (h : wi ρ μ fun items G μ1 => lcGo2 g tt wi1 g1 tt1 te vs1 G (dwipe ρ vs) W items [] μ1)
    (fin : ∀ p xs ds H' μ', Sim X.K Z μ' H' → Stp μ μ' H H' → (∀ a o, H a = some o → μ a = none → a ≠ p) → H' p = some (.lst xs) → Cold μ' Z p → RpAll X.K Z μ' H' xs ds → Sim X.K (zadd Z p) μ' H' → RpAll X.K (zadd Z p) μ' H' xs ds → W ds μ' → Q (.ref p) H') :
    tLc2 w (upG X.K vs g) (upC X.K tt) (upI X.K wi1) (upG X.K vs1 g1) (upC X.K tt1) (upE X.K te) vs vs1 σ H Q := by
  refine h0 Z σ ρ H μ _ _ S R h fun J items G H1 μ1 S1 s1 j q1 => fun p hp => ?_
  have np : ¬ Z p := fun z => (S1.z p z).1 hp
  have hzj : ∀ a o, H1 a = some o → Cold μ1 Z a → Cold μ1 (zadd Z p) a := fun a o e c => ⟨c.1, fun z => z.elim c.2 (ne_of_none e hp)⟩
  have S2 : Sim X.K (zadd Z p) μ1 (upd H1 p (.lst [])) := S1.znew hp
  have s2 : Stp μ1 μ1 H1 (upd H1 p (.lst [])) := Stp.new hp
  have R1 : ER X.K Z μ1 H1 σ ρ := R.stp s1
  have R2 : ER X.K (zadd Z p) μ1 (upd H1 p (.lst [])) (wipe σ vs) (dwipe ρ vs) := ((R1.zmono hzj).stp s2).wipe vs
  have keep : ∀ {μ0 μ' : Mu} {H0 H' : Hp} {xs ys : List V}, Stp μ0 μ' H0 H' → (∀ a o, H0 a = some o → μ0 a = none → a ≠ p) → Stp μ0 μ' H0 (upd H' p (.lst ys)) := fun {μ0 μ' H0 H' xs ys} s' ne a o h1 h2 => by
    rw [upd_ne (ne a o h1 h2)]
    exact s' a o h1 h2
  have ne1 : ∀ a o, H1 a = some o → μ1 a = none → a ≠ p := fun a o h1 _ => ne_of_none h1 hp
  refine ⟨fun i m H' => ∃ μ' xs acc, i ≤ items.length ∧ m = items.length - i ∧ Sim X.K (zadd Z p) μ' H' ∧ Stp μ1 μ' H1 H' ∧ H' p = some (.lst xs) ∧ RpAll X.K (zadd Z p) μ' H' xs acc ∧ ER X.K (zadd Z p) μ' H' (wipe σ vs) (dwipe ρ vs) ∧ lcGo2 g tt wi1 g1 tt1 te vs1 G (dwipe ρ vs) W (items.drop i) acc μ',
    ⟨items.length - 0, μ1, [], [], Nat.zero_le _, rfl, S2, s2, upd_same, .nil, R2, q1⟩, fun i m H' hW => ?_⟩
  obtain ⟨μ', xs, acc, hi, rfl, S', s', eD, rx, R', q'⟩ := hW
  by_cases hlt : i < items.length
  · obtain ⟨d, hd⟩ : ∃ d, items[i]? = some d := ⟨_, List.getElem?_eq_getElem hlt⟩
    have ed : items.drop i = d :: items.drop (i + 1) := by
      rw [List.drop_eq_getElem_cons hlt]
      rw [List.getElem?_eq_getElem hlt] at hd
      cases hd
      rfl
    rw [ed] at q'
    obtain ⟨gm, q'⟩ := q'
    obtain ⟨go, yl⟩ := (j (zadd Z p) H' μ' (kp_of hzj s') S' gm).2 i d hd
    refine .inr ⟨go, fun H3 => ∃ μ3 xs acc, Sim X.K (zadd Z p) μ3 H3 ∧ Stp μ1 μ3 H1 H3 ∧ H3 p = some (.lst xs) ∧ RpAll X.K (zadd Z p) μ3 H3 xs acc ∧ ER X.K (zadd Z p) μ3 H3 (wipe σ vs) (dwipe ρ vs) ∧ lcGo2 g tt wi1 g1 tt1 te vs1 G (dwipe ρ vs) W (items.drop (i + 1)) acc μ3, fun H3 hN => ?_, fun x H3 y => ?_⟩
    · obtain ⟨μ3, xs, acc, a1, a2, a3, a4, a5, a6⟩ := hN
      exact ⟨items.length - (i + 1), by omega, μ3, xs, acc, hlt, rfl, a1, a2, a3, a4, a5, a6⟩
    · obtain ⟨S3, s3, r3⟩ := yl x H3 y
      have stay : ∀ {μ4 : Mu} {H4 : Hp}, Stp μ' μ4 H' H4 → H4 p = some (.lst xs) := fun {μ4 H4} s => (s p _ eD (S'.z p (.inr rfl)).2).1
      refine ⟨zadd Z p, dwipe ρ vs, μ', d, _, S3, R'.stp s3, r3, q', fun σ4 ρ4 H4 μ4 S4 R4 s4 w4 q4 => ⟨w4.trans (wipe_wipe vs fun _ h => h), ?_⟩⟩
      have s34 := s3.trans s4
      refine ⟨zadd Z p, ρ4, μ4, _, S4, R4, q4, fun b H5 μ5 S5 s5 q5 => ?_⟩
      have s35 := s34.trans s5
      cases b with
      | false => exact ⟨μ5, xs, acc, S5, s'.trans s35, stay s35, rx.stp s35, R'.stp s35, q5⟩
      | true =>
        refine ⟨zadd Z p, ρ4, μ5, _, S5, R4.stp s5, q5, fun J1 items1 G1 H6 μ6 S6 s6 j1 q6 => ?_⟩
        have s36 := s35.trans s6
        have R46 := (R4.stp s5).stp s6
        have ep5 : H6 p = some (.lst xs) := stay s36
        refine ⟨fun jj k H' => ∃ μ' xs acc, jj ≤ items1.length ∧ k = items1.length - jj ∧ Sim X.K (zadd Z p) μ' H' ∧ Stp μ1 μ' H1 H' ∧ Kp (zadd Z p) (zadd Z p) H6 H' μ6 μ' ∧ H' p = some (.lst xs) ∧ RpAll X.K (zadd Z p) μ' H' xs acc ∧ ER X.K (zadd Z p) μ' H' (wipe σ vs) (dwipe ρ vs) ∧ ER X.K (zadd Z p) μ' H' (wipe σ4 vs1) (dwipe ρ4 vs1) ∧
            lcGo g1 tt1 te G1 (dwipe ρ4 vs1) (fun acc' μ5 => lcGo2 g tt wi1 g1 tt1 te vs1 G (dwipe ρ vs) W (items.drop (i + 1)) acc' μ5) (items1.drop jj) acc μ',
          ⟨items1.length - 0, μ6, xs, acc, Nat.zero_le _, rfl, S6, s'.trans s36, fun a o e c => ⟨e, c⟩, ep5, rx.stp s36, R'.stp s36, R46.wipe vs1, q6⟩, fun jj k H7 hW => ?_⟩
        obtain ⟨μ7, xs7, acc7, hj, rfl, S7, s7, k7, e7, rx7, R7, R7', q7⟩ := hW
        by_cases hlt1 : jj < items1.length
        · obtain ⟨d1, hd1⟩ : ∃ d, items1[jj]? = some d := ⟨_, List.getElem?_eq_getElem hlt1⟩
          have ed1 : items1.drop jj = d1 :: items1.drop (jj + 1) := by
            rw [List.drop_eq_getElem_cons hlt1]
            rw [List.getElem?_eq_getElem hlt1] at hd1
            cases hd1
            rfl
          rw [ed1] at q7
          obtain ⟨gm1, q7⟩ := q7
          obtain ⟨go1, yl1⟩ := (j1 (zadd Z p) H7 μ7 k7 S7 gm1).2 jj d1 hd1
          refine .inr ⟨go1, fun H' => ∃ μ' xs acc, Sim X.K (zadd Z p) μ' H' ∧ Stp μ1 μ' H1 H' ∧ Kp (zadd Z p) (zadd Z p) H6 H' μ6 μ' ∧ H' p = some (.lst xs) ∧ RpAll X.K (zadd Z p) μ' H' xs acc ∧ ER X.K (zadd Z p) μ' H' (wipe σ vs) (dwipe ρ vs) ∧ ER X.K (zadd Z p) μ' H' (wipe σ4 vs1) (dwipe ρ4 vs1) ∧
              lcGo g1 tt1 te G1 (dwipe ρ4 vs1) (fun acc' μ5 => lcGo2 g tt wi1 g1 tt1 te vs1 G (dwipe ρ vs) W (items.drop (i + 1)) acc' μ5) (items1.drop (jj + 1)) acc μ', fun H8 hN => ?_, fun x1 H8 y1 => ?_⟩
          · obtain ⟨μ3, xs, acc, a1, a2, a3, a4, a5, a6, a7, a8⟩ := hN
            exact ⟨items1.length - (jj + 1), by omega, μ3, xs, acc, hlt1, rfl, a1, a2, a3, a4, a5, a6, a7, a8⟩
          · obtain ⟨S8, s8, r8⟩ := yl1 x1 H8 y1
            have stay7 : ∀ {μ4 : Mu} {H4 : Hp}, Stp μ7 μ4 H7 H4 → H4 p = some (.lst xs7) := fun {μ4 H4} s => (s p _ e7 (S7.z p (.inr rfl)).2).1
            have kps : ∀ {μ4 : Mu} {H4 : Hp}, Stp μ7 μ4 H7 H4 → Kp (zadd Z p) (zadd Z p) H6 H4 μ6 μ4 := fun {μ4 H4} s a o e c => by
              obtain ⟨h1, h2, h3⟩ := k7 a o e c
              exact ⟨(s a o h1 h2).1, (s a o h1 h2).2, h3⟩
            refine ⟨zadd Z p, dwipe ρ4 vs1, μ7, d1, _, S8, R7'.stp s8, r8, q7, fun σ9 ρ9 H9 μ9 S9 R9 s9 w9 q9 => ⟨w9.trans (wipe_wipe vs1 fun _ h => h), ?_⟩⟩
            have s79 := s8.trans s9
            refine ⟨zadd Z p, ρ9, μ9, _, S9, R9, q9, fun b1 H10 μ10 S10 s10 q10 => ?_⟩
            have s710 := s79.trans s10
            cases b1 with
            | false => exact ⟨μ10, xs7, acc7, S10, s7.trans s710, kps s710, stay7 s710, rx7.stp s710, R7.stp s710, R7'.stp s710, q10⟩
            | true =>
              refine ⟨zadd Z p, ρ9, μ10, _, S10, R9.stp s10, q10, fun yv yd H11 μ11 S11 s11 r11 q11 => ?_⟩
              have s711 := s710.trans s11
              have hD := stay7 s711
              have zp : zadd Z p p := .inr rfl
              have er : ∀ {σ' : L2.St} {ρ' : Rho}, ER X.K (zadd Z p) μ7 H7 σ' ρ' → ER X.K (zadd Z p) μ11 (upd H11 p (.lst (xs7 ++ [yv]))) σ' ρ' := fun {σ' ρ'} R => by
                have R6 := R.stp s711
                exact ⟨R6.len, fun i d e => let ⟨v, h1, h2⟩ := R6.at_ i d e; ⟨v, h1, h2.go (zw_cold zp)⟩⟩
              refine ⟨xs7, hD, by rw [rx7.length]; exact q11.1, μ11, xs7 ++ [yv], acc7 ++ [yd], S11.zwrite zp, keep (xs := xs7) (s7.trans s711) ne1, fun a o e c => ?_, upd_same, (((rx7.stp s711).append (.cons r11 .nil))).go (zw_cold zp), er R7, er R7', q11.2⟩
              have ha : a ≠ p := fun z => c.2 (.inr z)
              obtain ⟨h1, h2⟩ := kps s711 a o e c
              exact ⟨by rw [upd_ne ha]; exact h1, h2⟩
        · have e : jj = items1.length := by omega
          subst e
          rw [List.drop_length] at q7
          obtain ⟨gm1, q7⟩ := q7
          exact .inl ⟨(j1 (zadd Z p) H7 μ7 k7 S7 gm1).1 _ (Nat.le_refl _), μ7, xs7, acc7, S7, s7, e7, rx7, R7, q7⟩
  · have e : i = items.length := by omega
    subst e
    rw [List.drop_length] at q'
    obtain ⟨gm, q'⟩ := q'
    refine .inl ⟨(j (zadd Z p) H' μ' (kp_of hzj s') S' gm).1 _ (Nat.le_refl _), ?_⟩
    have mp := (S'.z p (.inr rfl)).2
    refine fin p xs acc H' μ' (S'.zless fun a z => .inl z) (s1.trans s') (fun a o e1 e2 => ?_) eD ⟨mp, np⟩ (rx.go fun a o e c => ⟨e, c.1, fun z => c.2 (.inl z)⟩) S' rx q'
    exact ne_of_none (s1 a o e1 e2).1 hp
variable {tg iter elt tg1 iter1 : Expr} {ifs ifs1 : List Expr} {scope : Scope} {own : List (Str × Nat)} {wi wi1 : DIt} {g g1 : DG} {tt tt1 : DB} {te : DT}
theorem d_lc2 (hc : X.calm = true) (hN : X.N.Nodup) (hi : DI X tg iter wi) (ok : BlkOk X.N X.env.scope scope own) (hv : ∀ i ∈ vs1, i ∈ own.map (·.2))
    (hg : ∀ (s : Shared) (H : Hp) (C : Addr) (cl : List (Str × Addr)) (fp : List Addr), DGc (X.blk s H scope (compEnvC scope cl C X.env) fp) tg g (own.map (·.2))) (ht : ∀ (s : Shared) (H : Hp) (C : Addr) (cl : List (Str × Addr)) (fp : List Addr), DCs (X.blk s H scope (compEnvC scope cl C X.env) fp) ifs tt)
    (hi1 : ∀ (s : Shared) (H : Hp) (C : Addr) (cl : List (Str × Addr)) (fp : List Addr), DI (X.blk s H scope (compEnvC scope cl C X.env) fp) tg1 iter1 wi1)
    (hg1 : ∀ (s : Shared) (H : Hp) (C : Addr) (cl : List (Str × Addr)) (fp : List Addr), DGc (X.blk s H scope (compEnvC scope cl C X.env) fp) tg1 g1 vs1) (ht1 : ∀ (s : Shared) (H : Hp) (C : Addr) (cl : List (Str × Addr)) (fp : List Addr), DCs (X.blk s H scope (compEnvC scope cl C X.env) fp) ifs1 tt1)
    (he : ∀ (s : Shared) (H : Hp) (C : Addr) (cl : List (Str × Addr)) (fp : List Addr), DE (X.blk s H scope (compEnvC scope cl C X.env) fp) elt te) (hs : ∀ x, foldedSetIterable iter X.env x = pure x := by intro _; rfl) (hs1 : ∀ env x, foldedSetIterable iter1 env x = pure x := by intro _ _; rfl) :
    DE X (.ListComp elt [⟨tg, iter, ifs, 0⟩, ⟨tg1, iter1, ifs1, 0⟩] scope pos) (dLc2 wi g tt wi1 g1 tt1 te (own.map (·.2)) vs1) := by
  obtain ⟨w, p, h0⟩ := hi.ex
  refine ⟨_, pe_lc2 (g := upG X.K (own.map (·.2)) g) (tt := upC X.K tt) (wi1 := upI X.K wi1) (g1 := upG X.K vs1 g1) (tt1 := upC X.K tt1) (te := upE X.K te) hc hN p ok hv (fun s H C cl fp => (hg s H C cl fp).up) (fun s H C cl fp => (ht s H C cl fp).ex) (fun s H C cl fp => (hi1 s H C cl fp).up) (fun s H C cl fp => (hg1 s H C cl fp).up) (fun s H C cl fp => (ht1 s H C cl fp).ex) (fun s H C cl fp => (he s H C cl fp).up) hs hs1, fun Z σ ρ H μ Qd Q S R h q => ?_⟩
  exact lc2_run hv h0 S R h fun p xs ds H' μ' S' s' _ e c r _ _ hQ => q _ _ _ _ S' s' (.lst e c r) hQ
theorem s_setLc2 {i : Nat} {y : Str} {py spos : Pos} (hc : X.calm = true) (hN : X.N.Nodup) (hy : X.N[i]? = some y) (hyl : X.env.scope.names.lookup y = some .local)
    (hsw : swapsWith (.ListComp elt [⟨tg, iter, ifs, 0⟩, ⟨tg1, iter1, ifs1, 0⟩] scope pos) (some (.Name y py)) spos.line X.env = pure true) (hi : DI X tg iter wi) (ok : BlkOk X.N X.env.scope scope own) (hv : ∀ i ∈ vs1, i ∈ own.map (·.2))
    (hg : ∀ (s : Shared) (H : Hp) (C : Addr) (cl : List (Str × Addr)) (fp : List Addr), DGc (X.blk s H scope (compEnvC scope cl C X.env) fp) tg g (own.map (·.2))) (ht : ∀ (s : Shared) (H : Hp) (C : Addr) (cl : List (Str × Addr)) (fp : List Addr), DCs (X.blk s H scope (compEnvC scope cl C X.env) fp) ifs tt)
    (hi1 : ∀ (s : Shared) (H : Hp) (C : Addr) (cl : List (Str × Addr)) (fp : List Addr), DI (X.blk s H scope (compEnvC scope cl C X.env) fp) tg1 iter1 wi1)
    (hg1 : ∀ (s : Shared) (H : Hp) (C : Addr) (cl : List (Str × Addr)) (fp : List Addr), DGc (X.blk s H scope (compEnvC scope cl C X.env) fp) tg1 g1 vs1) (ht1 : ∀ (s : Shared) (H : Hp) (C : Addr) (cl : List (Str × Addr)) (fp : List Addr), DCs (X.blk s H scope (compEnvC scope cl C X.env) fp) ifs1 tt1)
    (he : ∀ (s : Shared) (H : Hp) (C : Addr) (cl : List (Str × Addr)) (fp : List Addr), DE (X.blk s H scope (compEnvC scope cl C X.env) fp) elt te) (hs : ∀ x, foldedSetIterable iter X.env x = pure x := by intro _; rfl) (hs1 : ∀ env x, foldedSetIterable iter1 env x = pure x := by intro _ _; rfl) :
    DSt X (.Assign [.Name y py] (.ListComp elt [⟨tg, iter, ifs, 0⟩, ⟨tg1, iter1, ifs1, 0⟩] scope pos) spos) (dAsg (dLc2 wi g tt wi1 g1 tt1 te (own.map (·.2)) vs1) (gN i)) := by
  obtain ⟨w, p, h0⟩ := hi.ex
  refine ⟨_, ps_setLc2 (g := upG X.K (own.map (·.2)) g) (tt := upC X.K tt) (wi1 := upI X.K wi1) (g1 := upG X.K vs1 g1) (tt1 := upC X.K tt1) (te := upE X.K te) hc hN hy hyl hsw p ok hv (fun s H C cl fp => (hg s H C cl fp).up) (fun s H C cl fp => (ht s H C cl fp).ex) (fun s H C cl fp => (hi1 s H C cl fp).up) (fun s H C cl fp => (hg1 s H C cl fp).up) (fun s H C cl fp => (ht1 s H C cl fp).ex) (fun s H C cl fp => (he s H C cl fp).up) hs hs1, fun Z σ ρ H μ Dd D S R h l => ?_⟩
  exact lc2_run hv h0 S R h fun p xs ds H' μ' S' s' _ e c r _ _ hQ => l.nx _ _ _ _ S' ((R.stp s').set i (.lst e c r)) s' hQ
end
end DL

/-! DLaf: repr of a tuple with dicts among its parts. -/
namespace DL
open PySem PySem.Spec PyProof.Rows L2
/-- a part of the tuple as the text-maker sees it -/
def tpP : D → PyData
  | .dk kvs => .dict (pairsP kvs)
  | d => toP d
def tpPs (ds : List D) : List PyData := ds.map tpP
def shwT (ds : List D) : Str := (PyData.tuple (tpPs ds)).shown
def PtOk (n : Nat) (d : D) : Prop := (∃ kvs m, d = .dk kvs ∧ DkOk m kvs ∧ kvs.length * (m + 260) + 10 ≤ n) ∨ (tpP d = toP d ∧ Shb 30 n d ∧ noL (toP d) = true)
theorem dk_shn {m n : Nat} {kvs : List (Key × D)} (ok : DkOk m kvs) (hl : kvs.length * (m + 260) + 10 ≤ n) : Shn 31 n (.dict (pairsP kvs)) := by
  obtain ⟨p1, p2, p3⟩ := pairs_ok ok
  have hlen : (PyData.shownKv (pairsP kvs)).length = kvs.length := by
    rw [PyData.shownKv_length]
    unfold pairsP
    rw [List.length_map]
  have hdl := dict_le p3
  rw [hlen] at hdl
  refine ⟨by simpa [PyData.showable] using p1, by simp only [PyData.depth]; omega, ?_⟩
  have e : (PyData.dict (pairsP kvs)).shown = dictText (PyData.shownKv (pairsP kvs)) := by simp only [PyData.shown]
  rw [e]
  have : kvs.length * (m + 254 + 2) + 3 ≤ kvs.length * (m + 260) + 10 := by
    have := Nat.mul_le_mul_left kvs.length (by omega : m + 254 + 2 ≤ m + 260)
    omega
  omega
theorem PtOk.shn {n : Nat} {d : D} (h : PtOk n d) : Shn 31 n (tpP d) := by
  rcases h with ⟨kvs, m, rfl, ok, hl⟩ | ⟨e, hs, _⟩
  · exact dk_shn ok hl
  · rw [e]
    have := hs.shn
    exact ⟨this.ok, Nat.le_succ_of_le this.dp, this.ln⟩
theorem shn_parts {k m : Nat} : ∀ {ds : List D}, (∀ d ∈ ds, Shn k m (tpP d)) → PyData.showableAll (tpPs ds) = true ∧ PyData.depthAll (tpPs ds) ≤ k ∧ ∀ t ∈ PyData.shownAll (tpPs ds), t.length ≤ m
  | [], _ => ⟨rfl, Nat.zero_le _, fun t h => nomatch h⟩
  | d :: ds, h => by
    obtain ⟨h1, h2, h3⟩ := shn_parts (ds := ds) fun e he => h e (List.mem_cons_of_mem _ he)
    have h0 := h d List.mem_cons_self
    refine ⟨?_, ?_, fun t ht => ?_⟩
    · show (PyData.showable (tpP d) && PyData.showableAll (tpPs ds)) = true
      rw [h0.ok, h1]
      rfl
    · exact Nat.max_le.mpr ⟨h0.dp, h2⟩
    · rcases List.mem_cons.mp ht with rfl | ht
      · exact h0.ln
      · exact h3 t ht
/-- a part as a value stands for it -/
def DqV (K : PySem.W.Frag) (H : Hp) (v : V) (p : PyData) : Prop := (∃ (a : Addr) (ws : List (Key × V)) (ps : List PyData), v = .ref a ∧ Rd H a (.dK ws) ∧ DpAll K H (ws.map (·.2)) ps ∧ noLs ps = true ∧ ps.length = ws.length ∧ p = .dict ((ws.map fun e => keyP e.1).zip ps)) ∨ (Dp K H v p ∧ noL p = true)
theorem vals_of_kv {ws : List (Key × V)} {vs : List (Key × Value)} (kv : KV ws vs) : Vals (ws.map (·.2)) (vs.map (·.2)) := by
  induction kv with
  | nil => exact .nil
  | cons h t ih => exact .cons h.2 ih
inductive DqAll (K : PySem.W.Frag) (H : Hp) : List V → List PyData → Prop
  | nil : DqAll K H [] []
  | cons {v : V} {vs : List V} {p : PyData} {ps : List PyData} : DqV K H v p → DqAll K H vs ps → DqAll K H (v :: vs) (p :: ps)
section
variable {X : Cx} {pins : List (Addr × Obj)} {σ : L2.St} {H : Hp} {s : Shared}
theorem DqV.reads (I : Inv X pins σ H s) {v : V} {p : PyData} {u : Value} (h : DqV X.K H v p) (r : RelV v u) : ∃ as, Reads s.heap u p as ∧ sysModules ∉ as := by
  rcases h with ⟨a, ws, ps, rfl, e, hd, hn, hl, rfl⟩ | ⟨hd, hn⟩
  · cases r
    obtain ⟨hz, hs, vs, kv, o, es, ep, ho, hx, hdt, hk, hpr, hnd⟩ := dk_rd I.hok e
    obtain ⟨rk, ev⟩ := reads_keys (h := s.heap) hpr kv
    have rv := vals_of_kv kv
    obtain ⟨as, ra⟩ := Dp.readsAll I ps _ _ hd rv
    have ea := readsAll_nil ra hn
    subst ea
    have rd : Reads s.heap (.ref a) (.dict ((ws.map fun e => keyP e.1).zip ps)) (a :: [] ++ []) := by
      refine .dict ho hx.1 hdt ?_ ?_
      · have : ((ws.map fun e => keyP e.1).zip ps).map (·.1) = ws.map fun e => keyP e.1 := List.map_fst_zip (by rw [List.length_map]; omega)
        rw [this]
        exact rk
      · have : ((ws.map fun e => keyP e.1).zip ps).map (·.2) = ps := List.map_snd_zip (by rw [List.length_map]; omega)
        rw [this, ev]
        exact ra
    refine ⟨_, rd, fun hm => ?_⟩
    have : sysModules = a := by simpa using hm
    rw [← this] at hs
    simp at hs
  · obtain ⟨as, ra⟩ := Dp.reads I p v u hd r
    have ea := reads_nil ra hn
    subst ea
    exact ⟨_, ra, by simp⟩
theorem DqAll.reads (I : Inv X pins σ H s) : ∀ {ps : List PyData} {vs : List V} {us : List Value}, DqAll X.K H vs ps → Vals vs us → ∃ as, ReadsAll s.heap us ps as ∧ sysModules ∉ as
  | _, _, _, .nil, .nil => ⟨_, .nil, by simp⟩
  | _, _, _, .cons h t, .cons r rs => by
    obtain ⟨as, h1, h2⟩ := DqV.reads I h r
    obtain ⟨bs, h3, h4⟩ := DqAll.reads I t rs
    exact ⟨_, .cons h1 h3, fun hm => (List.mem_append.mp hm).elim h2 h4⟩
end
section
variable {X : Cx}
def rReprT (K : PySem.W.Frag) : List V → Hp → VK → Prop := fun xs H Q => ∃ (a : Addr) (vs : List V) (ps : List PyData), xs = [.ref a] ∧ SqT K H a vs ∧ DqAll K H vs ps ∧ (PyData.tuple ps).showable = true ∧ (PyData.tuple ps).depth ≤ 40 ∧ (PyData.tuple ps).shown.length ≤ sizeLine ∧ Q (.str (PyData.tuple ps).shown) H
theorem call_reprT (hu : X.A.units + 64 < cLine) (hg : X.A.guards = some []) : CallR X (.builtin "repr") (rReprT X.K) := by
  intro pins s σ H xs us Q I r h
  obtain ⟨a, vs, ps, rfl, hs, hd, h1, h2, h3, q⟩ := h
  obtain ⟨u, rfl, ru⟩ := vals1 r
  cases ru
  obtain ⟨its, rv, ⟨o, ho, hc, n, hdt⟩, _⟩ := I.tuple hs
  obtain ⟨as, hr, hsm⟩ := DqAll.reads I hd rv
  have rd := Reads.tuple ho hc hdt hr
  have done : ∀ (h' : Heap) (t tk : Tok), (∀ b o, s.heap.get? b = some o → h'.get? b = some o) → EP X pins σ Q (.str (PyData.tuple ps).shown t) { s with heap := h', toks := tk } := fun h' t tk hk => ⟨.str _, H, I.kept hk, ⟨t, rfl⟩, q⟩
  exact repr_of_reads' rd h1 (fun _ => hsm) hg (by omega) (fun _ _ e => e) (fun h' t tk hk => done h' t tk hk) h3
def fReprT : List D → Mu → DQ → Prop := fun ds μ Q => ∃ (xs : List D) (n : Nat), ds = [.tup xs] ∧ (∀ x ∈ xs, PtOk n x) ∧ xs.length * (n + 2) + 3 ≤ sizeLine ∧ Q (.str (shwT xs)) μ
theorem dk_dq {Z : Zt} {μ : Mu} {H : Hp} {v : V} {kvs : List (Key × D)} {m : Nat} (S : Sim X.K Z μ H) (r : Rp X.K Z μ H v (.dk kvs)) (ok : DkOk m kvs) : DqV X.K H v (.dict (pairsP kvs)) := by
  obtain ⟨a, ws, rfl, hH, t⟩ := see_dk_inv S r (see_dk (μ := μ))
  have ek : ws.map (fun e => keyP e.1) = kvs.map fun e => keyP e.1 := by
    have := congrArg (List.map keyP) t.1
    rw [List.map_map, List.map_map] at this
    exact this
  have ez : (ws.map fun e => keyP e.1).zip (toPs (kvs.map (·.2))) = pairsP kvs := by
    rw [ek]
    unfold pairsP
    clear ek ok t hH r
    induction kvs with
    | nil => rfl
    | cons x xs ih => rw [List.map_cons, List.map_cons, List.map_cons, toPs, List.zip_cons_cons, ih]
  refine .inl ⟨a, ws, toPs (kvs.map (·.2)), rfl, hH, dps Shb.dp (k := 30) (m := m) (fun d hd => ?_) t.2, ?_, ?_, by rw [ez]⟩
  · obtain ⟨x, hx, rfl⟩ := List.mem_map.mp hd
    exact (ok x hx).2.1
  · clear ek ez t hH r
    induction kvs with
    | nil => rfl
    | cons x xs ih =>
      rw [List.map_cons, toPs, noLs, (ok x List.mem_cons_self).2.2, ih fun e he => ok e (List.mem_cons_of_mem _ he)]
      rfl
  · rw [toPs_length, List.length_map, t.length]
theorem pt_dq {Z : Zt} {μ : Mu} {H : Hp} {n : Nat} (S : Sim X.K Z μ H) : ∀ {ds : List D} {vs : List V}, (∀ d ∈ ds, PtOk n d) → RpAll X.K Z μ H vs ds → DqAll X.K H vs (tpPs ds)
  | [], _, _, .nil => .nil
  | d :: ds, _, h, .cons r t => by
    refine .cons ?_ (pt_dq S (fun e he => h e (List.mem_cons_of_mem _ he)) t)
    rcases h d List.mem_cons_self with ⟨kvs, m, rfl, ok, hl⟩ | ⟨e, hs, hn⟩
    · exact dk_dq S r ok
    · rw [e]
      exact .inr ⟨hs.dp r, hn⟩
theorem b_reprT (hu : X.A.units + 64 < cLine) (hg : X.A.guards = some []) : DCa X (.builtin "repr") fReprT := by
  refine ⟨_, call_reprT hu hg, fun Z H μ vs ds Qd Q S r h q => ?_⟩
  obtain ⟨xs, n, rfl, ok, hl, h⟩ := h
  obtain ⟨v, rfl, r1⟩ := rp1 r
  cases r1 with
  | @tup a vs _ hc t =>
    obtain ⟨h1, h2, h3⟩ := shn_parts fun d hd => (ok d hd).shn
    refine ⟨a, vs, tpPs xs, rfl, hc.sq, pt_dq S ok t, h1, ?_, ?_, q.same S (.str _) h⟩
    · show PyData.depthAll _ + 1 ≤ 40
      omega
    · refine Nat.le_trans (tupleText_le h3) ?_
      rw [shownAll_length]
      unfold tpPs
      rw [List.length_map]
      exact hl
end
end DL

/-! DLag: sorted(..) of data that compare. -/
namespace DL
open PySem PySem.Spec PyProof.Rows L2
def leD : D → D → Bool := PySem.W.dataLe false toP
def rSortX (K : PySem.W.Frag) : List V → Hp → VK → Prop := fun xs H Q => ∃ (a : Addr) (bs : List (V × D)), xs = [.ref a] ∧ SqL K H a (bs.map (·.1)) ∧ (∀ b ∈ bs, Dp K H b.1 (toP b.2)) ∧ PySem.W.AllAlike (bs.map fun b => toP b.2) ∧ PySem.W.Sortable (bs.map fun b => toP b.2) ∧ (∀ b ∈ bs, (toP b.2).depth ≤ 40) ∧
  ∀ p, H p = none → Q (.ref p) (upd H p (.lst ((bs.mergeSort (PySem.W.dataLe false fun b => toP b.2)).map (·.1))))
theorem each_of_vals {β : Type} {f : β → V} : ∀ {bs : List β} {us : List Value}, Vals (bs.map f) us → PySem.W.EachIs (fun u b => RelV (f b) u) us bs
  | [], _, h => by
    cases h
    exact .nil
  | b :: bs, _, h => by
    cases h with
    | cons r t => exact .cons r (each_of_vals t)
theorem vals_of_each {β : Type} {f : β → V} : ∀ {bs : List β} {us : List Value}, PySem.W.EachIs (fun u b => RelV (f b) u) us bs → Vals (bs.map f) us
  | _, _, .nil => .nil
  | _, _, .cons r t => .cons r (vals_of_each t)
section
variable {X : Cx}
theorem each_reads {pins : List (Addr × Obj)} {σ : L2.St} {H : Hp} {s : Shared} (I : Inv X pins σ H s) : ∀ {bs : List (V × D)} {us : List Value}, (∀ b ∈ bs, Dp X.K H b.1 (toP b.2)) → PySem.W.EachIs (fun u b => RelV b.1 u) us bs → PySem.W.EachIs (fun v b => ∃ as, Reads s.heap v (toP b.2) as) us bs
  | _, _, _, .nil => .nil
  | b :: bs, _, h, .cons r t => .cons (Dp.reads I _ _ _ (h b List.mem_cons_self) r) (each_reads I (fun e he => h e (List.mem_cons_of_mem _ he)) t)
theorem call_sortX (hu : X.A.units + 64 < cLine) : CallR X (.builtin "sorted") (rSortX X.K) := by
  intro pins s σ H vs us Q I r h
  obtain ⟨a, bs, rfl, hs, hd, hal, hk, hdp, q⟩ := h
  obtain ⟨its, rv, hl, hz⟩ := I.list hs
  rw [Vals.ref1 r]
  rw [List.length_map] at hz
  have e := each_of_vals rv
  refine PySem.W.sorted_data (R := fun u b => RelV b.1 u) (enc := fun b => toP b.2) hl.isList e (each_reads I hd e) hal hk hz (fun b hb => by have := hdp b hb; omega) fun out h1 h2 => ?_
  obtain ⟨ep, he'⟩ := PyProof.Rows.sortedAll_at s.heap its out.toArray
  have hlen : ((bs.mergeSort (PySem.W.dataLe false fun b => toP b.2)).map (·.1)).length ≤ sizeLine := by
    rw [List.length_map, List.length_mergeSort]
    exact hz
  exact ⟨.ref _, upd H (s.heap.objs.size + 1) (.lst ((bs.mergeSort (PySem.W.dataLe false fun b => toP b.2)).map (·.1))), I.laid (t' := s.toks) (fun _ _ => PyProof.Rows.sortedAll_old) (Nat.le_succ _) ⟨hlen, out, ep, vals_of_each h2, he'⟩, rfl, q _ (I.hok.fresh (Nat.le_succ _))⟩
def fSortX : List D → Mu → DQ → Prop := fun ds μ Q => ∃ (d : D) (ps : List D), ds = [d] ∧ see μ d = .lst ps ∧ (∀ x ∈ ps, ∃ n, Shb 30 n x) ∧ PySem.W.AllAlike (ps.map toP) ∧ PySem.W.Sortable (ps.map toP) ∧ Q (.lst (ps.mergeSort leD)) μ
theorem rpAll_mem {K : PySem.W.Frag} {Z : Zt} {μ : Mu} {H : Hp} : ∀ {vs : List V} {ds : List D}, RpAll K Z μ H vs ds → vs.length = ds.length ∧ ∀ b ∈ vs.zip ds, Rp K Z μ H b.1 b.2
  | _, _, .nil => ⟨rfl, fun b hb => by cases hb⟩
  | _, _, .cons r t => by
    obtain ⟨h1, h2⟩ := rpAll_mem t
    refine ⟨by rw [List.length_cons, List.length_cons, h1], fun b hb => ?_⟩
    rw [List.zip_cons_cons] at hb
    rcases List.mem_cons.mp hb with rfl | hb
    · exact r
    · exact h2 b hb
theorem rpAll_of {K : PySem.W.Frag} {Z : Zt} {μ : Mu} {H : Hp} : ∀ {bs : List (V × D)}, (∀ b ∈ bs, Rp K Z μ H b.1 b.2) → RpAll K Z μ H (bs.map (·.1)) (bs.map (·.2))
  | [], _ => .nil
  | b :: bs, h => .cons (h b List.mem_cons_self) (rpAll_of fun e he => h e (List.mem_cons_of_mem _ he))
theorem b_sortX (hu : X.A.units + 64 < cLine) : DCa X (.builtin "sorted") fSortX := by
  refine ⟨_, call_sortX hu, fun Z H μ vs ds Qd Q S r h q => ?_⟩
  obtain ⟨d, ps, rfl, e, hsb, hal, hk, h⟩ := h
  obtain ⟨v, rfl, r1⟩ := rp1 r
  obtain ⟨a, us, rfl, hq, t⟩ := see_lst_inv S r1 e
  obtain ⟨hlen, hm⟩ := rpAll_mem t
  have e1 : (us.zip ps).map (·.1) = us := List.map_fst_zip (by omega)
  have e2 : (us.zip ps).map (·.2) = ps := List.map_snd_zip (by omega)
  have e3 : ((us.zip ps).map fun b => toP b.2) = ps.map toP := by
    show (us.zip ps).map (toP ∘ Prod.snd) = _
    rw [← List.map_map, e2]
  refine ⟨a, us.zip ps, rfl, by rw [e1]; exact hq, fun b hb => ?_, by rw [e3]; exact hal, by rw [e3]; exact hk, fun b hb => ?_, fun p hp => ?_⟩
  · obtain ⟨n, hs⟩ := hsb b.2 (List.of_mem_zip hb).2
    exact hs.dp (hm b hb)
  · obtain ⟨n, hs⟩ := hsb b.2 (List.of_mem_zip hb).2
    exact Nat.le_trans hs.shn.dp (by decide)
  · have e4 : ((us.zip ps).mergeSort (PySem.W.dataLe false fun b => toP b.2)).map (·.2) = ps.mergeSort leD := by
      have e5 := List.map_mergeSort (r := PySem.W.dataLe false fun b : V × D => toP b.2) (s := leD) (f := Prod.snd) (l := us.zip ps) fun a _ b _ => rfl
      rw [e2] at e5
      exact e5
    have t2 := rpAll_of (K := X.K) (Z := Z) (μ := μ) (H := H) (bs := (us.zip ps).mergeSort (PySem.W.dataLe false fun b => toP b.2)) fun b hb => hm b (List.mem_mergeSort.mp hb)
    rw [e4] at t2
    exact q.newL S hp t2 h
end
end DL

/-! DLah: a name's dict or list that changes no more, told ahead of a statement. -/
namespace DL
open PySem PySem.Spec PyProof.Rows L2
section
variable {X : Cx} {st : Stmt} {t : DTS}
theorem ps_lock {i : Nat} {ts : TS} (h : PS X st ts) : PS X st fun D σ H => ∃ a u, σ[i]? = some (some (.ref a)) ∧ H a = some u ∧ Mut (some u) ∧ ∀ od, ts D σ (upd H a (.frz od u)) := by
  refine ⟨fun pins s σ H D I hw => ?_⟩
  obtain ⟨a, u, _, hd, mu, q⟩ := hw
  obtain ⟨od, I2⟩ := I.lock hd mu
  exact h.run pins s σ _ D I2 (q od)
/-- the dict at slot i changes no more -/
def dLock (i : Nat) (t : DTS) : DTS := fun D ρ μ => ∃ a, ρ[i]? = some (some (.ref a)) ∧ ((∃ ds, μ a = some (.dk ds) ∧ t D (ρ.set i (some (.dk ds))) (mdel μ a)) ∨ ∃ ds, μ a = some (.dt ds) ∧ t D (ρ.set i (some (.dt ds))) (mdel μ a))
theorem ER.reset {K : PySem.W.Frag} {Z : Zt} {μ : Mu} {H : Hp} {σ : L2.St} {ρ : Rho} {v : V} {d : D} {i : Nat} (e : ER K Z μ H σ ρ) (h : σ[i]? = some (some v)) (r : Rp K Z μ H v d) : ER K Z μ H σ (ρ.set i (some d)) := by
  refine ⟨by rw [List.length_set]; exact e.len, fun j d' hj => ?_⟩
  by_cases c : i = j
  · subst c
    by_cases hi : i < ρ.length
    · rw [List.getElem?_set_self hi] at hj
      cases hj
      exact ⟨v, h, r⟩
    · rw [List.getElem?_eq_none (by rw [List.length_set]; exact Nat.le_of_not_lt hi)] at hj
      cases hj
  · rw [List.getElem?_set_ne c] at hj
    exact e.at_ j d' hj
theorem s_lock (i : Nat) (h : DSt X st t) : DSt X st (dLock i t) := by
  obtain ⟨ts, p, h0⟩ := h.ex
  refine ⟨_, ps_lock (i := i) p, fun Z σ ρ H μ Dd D S R hh l => ?_⟩
  obtain ⟨a, e, hh⟩ := hh
  obtain ⟨v, h1, h2⟩ := R.at_ i _ e
  cases h2
  rcases hh with ⟨ds, h3, hh⟩ | ⟨ds, h3, hh⟩
  · obtain ⟨ws, hH, t⟩ := ob_dk S h3
    refine ⟨a, _, h1, hH, trivial, fun od => ?_⟩
    have s : Stp μ (mdel μ a) H (upd H a (.frz od (.dK ws))) := Stp.lock h3
    exact h0 Z σ _ _ _ Dd D (S.lock h3) ((R.stp s).reset h1 (.dk upd_same (S.lockC h3) t.1 (t.2.stp s))) hh (l.step s)
  · obtain ⟨xs, ws, hH, n, kr, t⟩ := ob_dt S h3
    refine ⟨a, _, h1, hH, trivial, fun od => ?_⟩
    have s : Stp μ (mdel μ a) H (upd H a (.frz od (DNo a xs))) := Stp.lock h3
    exact h0 Z σ _ _ _ Dd D (S.lock h3) ((R.stp s).reset h1 (.dt upd_same (S.lockC h3) n t.1 (kr.stp s) (t.2.stp s))) hh (l.step s)
/-- the list at slot i changes no more -/
def dLockL (i : Nat) (t : DTS) : DTS := fun D ρ μ => ∃ a ds, ρ[i]? = some (some (.ref a)) ∧ μ a = some (.lst ds) ∧ t D (ρ.set i (some (.lst ds))) (mdel μ a)
theorem s_lockL (i : Nat) (h : DSt X st t) : DSt X st (dLockL i t) := by
  obtain ⟨ts, p, h0⟩ := h.ex
  refine ⟨_, p, fun Z σ ρ H μ Dd D S R hh l => ?_⟩
  obtain ⟨a, ds, e, h3, hh⟩ := hh
  obtain ⟨v, h1, h2⟩ := R.at_ i _ e
  cases h2
  obtain ⟨xs, hH, t⟩ := ob_lst S h3
  have s : Sub (mdel μ a) μ := Sub.del
  exact h0 Z σ _ _ _ Dd D (S.sub s) ((R.stp s.stp).reset h1 (.lst hH ⟨mdel_same, fun z => by have := (S.z a z).2; rw [h3] at this; cases this⟩ (t.stp s.stp))) hh (l.step s.stp)
end
end DL

/-! DLai: dict(..) of pairs with plain keys, of a dict; xs[::-1]. -/
namespace DL
open PySem PySem.Spec PyProof.Rows L2
section
variable {K : PySem.W.Frag} {Z : Zt} {μ : Mu} {H : Hp}
def pairD (e : Key × D) : D := .tup [keyD e.1, e.2]
theorem key_rp : ∀ {k : Key} {v : V}, Rp K Z μ H v (keyD k) → v = kV k
  | .inl _, _, .int _ => rfl
  | .inr _, _, .str _ => rfl
theorem pairs_rp : ∀ {kvs : List (Key × D)} {vs : List V}, RpAll K Z μ H vs (kvs.map pairD) → ∃ (ps : List Addr) (ws : List (Key × V)), vs = ps.map V.ref ∧ Paired (fun p kv => SqT K H p [kV kv.1, kv.2]) ps ws ∧ TR K Z μ H ws kvs
  | [], _, .nil => ⟨[], [], rfl, .nil, .nil⟩
  | e :: kvs, _, .cons r rs => by
    obtain ⟨ps, ws, h1, h2, h3⟩ := pairs_rp rs
    obtain ⟨T, ys, rfl, _, hs, hc, t⟩ := see_tup_inv (μ := μ) r rfl
    obtain ⟨x, y, rfl, rx, ry⟩ := rp2 t
    obtain rfl := key_rp rx
    exact ⟨T :: ps, (e.1, y) :: ws, by rw [h1]; rfl, .cons hs h2, TR.cons rfl ry h3⟩
theorem merge_tr : ∀ {ws : List (Key × V)} {kvs : List (Key × D)} {wa : List (Key × V)} {da : List (Key × D)}, TR K Z μ H ws kvs → TR K Z μ H wa da → TR K Z μ H (ws.foldl (fun acc kv => putK acc kv.1 kv.2) wa) (kvs.foldl (fun acc e => putT acc e.1 e.2) da)
  | [], [], _, _, _, t => t
  | w :: ws, e :: kvs, wa, da, h, t => by
    obtain ⟨h1, h2, h3⟩ := h.uncons
    rw [List.foldl_cons, List.foldl_cons]
    refine merge_tr h3 ?_
    rw [h1]
    exact t.put h2
  | [], _ :: _, _, _, h, _ => by have := h.length; simp at this
  | _ :: _, [], _, _, h, _ => by have := h.length; simp at this
end
/-- dict(pairs), never changed -/
def dDictK (ta : DA) : DT := fun ρ μ Q => ta ρ μ fun ds μ1 => ∃ (d : D) (kvs : List (Key × D)), ds = [d] ∧ see μ1 d = .lst (kvs.map pairD) ∧ Q (.dk (foldT kvs)) μ1
/-- dict(pairs), an object of the store -/
def dDictKM (ta : DA) : DT := fun ρ μ Q => ta ρ μ fun ds μ1 => ∃ (d : D) (kvs : List (Key × D)), ds = [d] ∧ see μ1 d = .lst (kvs.map pairD) ∧ ∀ p, μ1 p = none → Q (.ref p) (mput μ1 p (.dk (foldT kvs)))
/-- dict(a dict) -/
def dDictC (ta : DA) : DT := fun ρ μ Q => ta ρ μ fun ds μ1 => ∃ (d : D) (kvs : List (Key × D)), ds = [d] ∧ see μ1 d = .dk kvs ∧ Q (.dk kvs) μ1
def dDictCM (ta : DA) : DT := fun ρ μ Q => ta ρ μ fun ds μ1 => ∃ (d : D) (kvs : List (Key × D)), ds = [d] ∧ see μ1 d = .dk kvs ∧ ∀ p, μ1 p = none → Q (.ref p) (mput μ1 p (.dk kvs))
section
variable {X : Cx} {e : Expr} {te : DT} {p pos : Pos}
theorem d_dictK {ta : DA} {es : List Expr} (hc : X.calm = true) (hg : Gl X "dict") (hm : X.mg "dict" = none) (ha : DAs X (e :: es) ta)
    (hs : starEach (e :: es) X.env = (false, eval e X.env) :: starEach es X.env := by rfl) (hpl : (backTo pos (starEach es X.env)).any (·.1) = false := by rfl) : DE X (.Call (.Name "dict" p) (e :: es) [] pos) (dDictK ta) := by
  obtain ⟨t1, p1, h1⟩ := ha.ex
  refine ⟨_, pe_frz (pe_callTy (call_dictP hc) hg hm rfl p1 (by decide) (by decide) hs hpl), fun Z σ ρ H μ Qd Q S R h q => h1 Z σ ρ H μ _ _ S R h fun vs ds H1 μ1 S1 s1 r1 q1 => ?_⟩
  obtain ⟨d, kvs, rfl, e, q1⟩ := q1
  obtain ⟨v, rfl, r2⟩ := rp1 r1
  obtain ⟨a, us, rfl, hq, t⟩ := see_lst_inv S1 r2 e
  obtain ⟨ps, ws, rfl, h2, h3⟩ := pairs_rp t
  refine ⟨a, ps, ws, rfl, hq, h2, fun p hp => ⟨p, _, rfl, upd_same, trivial, fun od => ?_⟩⟩
  rw [upd_upd]
  have tr := merge_tr h3 (TR.nil (κ := Key))
  have s2 : Stp μ1 μ1 H1 (upd H1 p (.frz od (.dK (mergeK [] ws)))) := Stp.new hp
  exact q _ _ _ μ1 (S1.new hp) (s1.trans s2) (.dk upd_same (S1.cold hp) tr.1 (tr.2.stp s2)) q1
theorem d_dictKM {ta : DA} {es : List Expr} (hc : X.calm = true) (hg : Gl X "dict") (hm : X.mg "dict" = none) (ha : DAs X (e :: es) ta)
    (hs : starEach (e :: es) X.env = (false, eval e X.env) :: starEach es X.env := by rfl) (hpl : (backTo pos (starEach es X.env)).any (·.1) = false := by rfl) : DE X (.Call (.Name "dict" p) (e :: es) [] pos) (dDictKM ta) := by
  obtain ⟨t1, p1, h1⟩ := ha.ex
  refine ⟨_, pe_callTy (call_dictP hc) hg hm rfl p1 (by decide) (by decide) hs hpl, fun Z σ ρ H μ Qd Q S R h q => h1 Z σ ρ H μ _ _ S R h fun vs ds H1 μ1 S1 s1 r1 q1 => ?_⟩
  obtain ⟨d, kvs, rfl, e, q1⟩ := q1
  obtain ⟨v, rfl, r2⟩ := rp1 r1
  obtain ⟨a, us, rfl, hq, t⟩ := see_lst_inv S1 r2 e
  obtain ⟨ps, ws, rfl, h2, h3⟩ := pairs_rp t
  refine ⟨a, ps, ws, rfl, hq, h2, fun p hp => ?_⟩
  have tr := merge_tr h3 (TR.nil (κ := Key))
  have s2 : Stp μ1 (mput μ1 p (.dk (foldT kvs))) H1 (upd H1 p (.dK (mergeK [] ws))) := Stp.newM hp
  exact q _ _ _ _ (S1.newM hp (.dk upd_same tr.1 (tr.2.stp s2))) (s1.trans s2) (.ref p) (q1 p (S1.free hp))
theorem d_dictC {ta : DA} {es : List Expr} (hg : Gl X "dict") (hm : X.mg "dict" = none) (ha : DAs X (e :: es) ta)
    (hs : starEach (e :: es) X.env = (false, eval e X.env) :: starEach es X.env := by rfl) (hpl : (backTo pos (starEach es X.env)).any (·.1) = false := by rfl) : DE X (.Call (.Name "dict" p) (e :: es) [] pos) (dDictC ta) := by
  obtain ⟨t1, p1, h1⟩ := ha.ex
  refine ⟨_, pe_frz (pe_callTy call_dictD hg hm rfl p1 (by decide) (by decide) hs hpl), fun Z σ ρ H μ Qd Q S R h q => h1 Z σ ρ H μ _ _ S R h fun vs ds H1 μ1 S1 s1 r1 q1 => ?_⟩
  obtain ⟨d, kvs, rfl, e, q1⟩ := q1
  obtain ⟨v, rfl, r2⟩ := rp1 r1
  obtain ⟨a, ws, rfl, hH, t⟩ := see_dk_inv S1 r2 e
  refine ⟨a, ws, rfl, hH, fun p hp => ⟨p, _, rfl, upd_same, trivial, fun od => ?_⟩⟩
  rw [upd_upd]
  have s2 : Stp μ1 μ1 H1 (upd H1 p (.frz od (.dK ws))) := Stp.new hp
  exact q _ _ _ μ1 (S1.new hp) (s1.trans s2) (.dk upd_same (S1.cold hp) t.1 (t.2.stp s2)) q1
theorem d_dictCM {ta : DA} {es : List Expr} (hg : Gl X "dict") (hm : X.mg "dict" = none) (ha : DAs X (e :: es) ta)
    (hs : starEach (e :: es) X.env = (false, eval e X.env) :: starEach es X.env := by rfl) (hpl : (backTo pos (starEach es X.env)).any (·.1) = false := by rfl) : DE X (.Call (.Name "dict" p) (e :: es) [] pos) (dDictCM ta) := by
  obtain ⟨t1, p1, h1⟩ := ha.ex
  refine ⟨_, pe_callTy call_dictD hg hm rfl p1 (by decide) (by decide) hs hpl, fun Z σ ρ H μ Qd Q S R h q => h1 Z σ ρ H μ _ _ S R h fun vs ds H1 μ1 S1 s1 r1 q1 => ?_⟩
  obtain ⟨d, kvs, rfl, e, q1⟩ := q1
  obtain ⟨v, rfl, r2⟩ := rp1 r1
  obtain ⟨a, ws, rfl, hH, t⟩ := see_dk_inv S1 r2 e
  refine ⟨a, ws, rfl, hH, fun p hp => ?_⟩
  have s2 : Stp μ1 (mput μ1 p (.dk kvs)) H1 (upd H1 p (.dK ws)) := Stp.newM hp
  exact q _ _ _ _ (S1.newM hp (.dk upd_same t.1 (t.2.stp s2))) (s1.trans s2) (.ref p) (q1 p (S1.free hp))
/-- xs[::-1] of a list -/
def dRevL (te : DT) : DT := fun ρ μ Q => te ρ μ fun x μ1 => ∃ xs, see μ1 x = .lst xs ∧ Q (.lst xs.reverse) μ1
theorem d_revL {k p1 p2 p3} (he : DE X e te) : DE X (.Subscript e (.Slice none none (some (.UnaryOp .USub (.Constant (.int 1) k p1) p2)) p3) pos) (dRevL te) := by
  obtain ⟨t1, q1, h1⟩ := he.ex
  refine ⟨_, pe_revL q1, fun Z σ ρ H μ Qd Q S R h q => h1 Z σ ρ H μ _ _ S R h fun v x H1 μ1 S1 s1 r1 q2 => ?_⟩
  obtain ⟨xs, e, q2⟩ := q2
  obtain ⟨a, us, rfl, hq, t⟩ := see_lst_inv S1 r1 e
  exact ⟨a, us, rfl, hq, fun p hp => (q.step s1).newL S1 hp t.reverse q2⟩
end
end DL

/-! DLaj: list(d.items()), of any dict with plain keys. -/
namespace DL
open PySem PySem.Spec PyProof.Rows L2
section
variable {X : Cx} {e : Expr} {te : TE} {p apos cpos pos : Pos}
def tListItemsR (te : TE) : TE := fun σ H Q => te σ H fun x H1 => ∃ (d : Addr) (kvs : List (Key × V)), x = .ref d ∧ Rd H1 d (.dK kvs) ∧
  ∀ (H' : Hp) (p : Addr) (ts : List Addr), (∀ b o, H1 b = some o → H' b = some o) → H1 p = none → (∀ t ∈ ts, H1 t = none) → p ∉ ts → H' p = some (.lst (ts.map V.ref)) → Paired (fun (t : Addr) (q : Key × V) => H' t = some (.tup [kV q.1, q.2])) ts kvs → Q (.ref p) H'
theorem pe_listItemsR (hc : X.calm = true) (he : PE X e te) (hg : Gl X "list") (hm : X.mg "list" = none) (hv : bootBuiltins "list" = some (.type "list")) (hbase : attributeBase e "items" X.env (eval e X.env) = eval e X.env := by rfl) (hline : (apos.endLine == cpos.line) = true := by rfl)
    (hs : starEach [.Call (.Attribute e "items" apos) [] [] cpos] X.env = (false, eval (.Call (.Attribute e "items" apos) [] [] cpos) X.env) :: starEach [] X.env := by rfl) :
    PE X (.Call (.Name "list" p) [.Call (.Attribute e "items" apos) [] [] cpos] [] pos) (tListItemsR te) := by
  refine ⟨fun pins s σ H Q I hq => ?_⟩
  refine wpAny_Call_Name_kw (ld_blt I hg hm hv ?_)
  refine PyProof.Rows.callWith_type1 ?_ hs rfl
  rw [hs]
  show wpAny _ _ (spliced ((false, eval (.Call (.Attribute e "items" apos) [] [] cpos) X.env) :: backTo pos (starEach [] X.env))) _ _ s
  refine Calls.spliced_cons ?_
  refine wpAny_Call_method (T := "dict") (id := "dict.items") hbase rfl hline F.plainAttrs_dict F.slot_dict_items F.type_dict_items (thn (he.run pins s σ H _ I hq) fun u s1 ⟨x, H1, I1, rx, d, kvs, ex, hd, q⟩ => ?_)
  subst ex
  obtain rfl : u = Value.ref d := rx
  obtain ⟨hz, hs0, vs, kv, hdo⟩ := dk_rd I1.hok hd
  obtain ⟨ep, hat⟩ := hdo.dictAt
  have lk : kvs.length = vs.length := Paired.length kv
  have I2 : Inv X pins σ H1 { s1 with heap := s1.heap.push { cls := .type "dict_items", data := .fields #[.ref d] } } := I1.kept (t' := s1.toks) fun b ob q => Heap.get?_push_of_some _ q
  refine ⟨hdo.typeIs, hdo.mapOf.noDict, ?_⟩
  show wpAny _ _ (callWith cpos (.builtin "dict.items") [.ref d] [] []) _ X.xe s1
  refine method_meetsIn F.slot_dict_items F.entry_dict_items rfl (PySem.evalArgs_none ⟨rfl, hdo.typeIs, F.args_dict_items_1 _, _, meets_dict_items (mixKind X.prog X.w) d hs0, ⟨vs, hdo⟩, ?_⟩)
  refine Calls.spliced_nil ?_
  refine PySem.W.kdx_call (knd := mixKind X.prog X.w) (kvs := vs) (ep := ep) (I1.ok.hd hc) ⟨_, Heap.get?_push_size _ rfl, rfl, rfl⟩ (hat.push _) (by omega) fun h' tk acc c as hk hS hl hG hacc => ?_
  obtain ⟨H', k1, k2, k3, k4, k5, k6, J⟩ := LiI.items_laid (tk := tk) I2 hz kv hk hS hl hG hacc
  exact ⟨.ref _, H', J, rfl, q H' _ as k1 k2 k3 k4 k5 k6⟩
end
section
variable {K : PySem.W.Frag} {Z : Zt} {μ : Mu} {H H' : Hp}
/-- new objects that the store does not know -/
theorem Stp.ext (h : ∀ b o, H b = some o → H' b = some o) : Stp μ μ H H' := fun b o e n => ⟨h b o e, n⟩
theorem Ob.some {a : Addr} {m : MO} (h : Ob K Z μ H a m) : ∃ o, H a = some o := by
  cases h with
  | lst h _ => exact ⟨_, h⟩
  | dk h _ _ => exact ⟨_, h⟩
  | dt h _ _ _ _ => exact ⟨_, h⟩
  | ins h _ _ => exact ⟨_, h⟩
theorem Sim.ext (S : Sim K Z μ H) (h : ∀ b o, H b = some o → H' b = some o) : Sim K Z μ H' := by
  refine ⟨fun a m e => ?_, fun a z => ?_⟩
  · have o := S.ob a m e
    obtain ⟨u, hu⟩ := o.some
    exact o.stp (Stp.ext h) ((h a u hu).trans hu.symm)
  · obtain ⟨h1, h2⟩ := S.z a z
    refine ⟨fun c => ?_, h2⟩
    cases e : H a with
    | none => exact h1 e
    | some u => rw [h a u e] at c; cases c
theorem items_rp : ∀ {ts : List Addr} {ws : List (Key × V)} {kvs : List (Key × D)}, Paired (fun (t : Addr) (q : Key × V) => H' t = some (.tup [kV q.1, q.2])) ts ws → (∀ t ∈ ts, Cold μ Z t) → TR K Z μ H' ws kvs → RpAll K Z μ H' (ts.map V.ref) (kvs.map pairD)
  | [], [], [], .nil, _, _ => .nil
  | t :: ts, w :: ws, e :: kvs, .cons h hs, hc, tr => by
    obtain ⟨h1, h2, h3⟩ := tr.uncons
    refine .cons (.tup ⟨h, hc t List.mem_cons_self⟩ (.cons ?_ (.cons h2 .nil))) (items_rp hs (fun u hu => hc u (List.mem_cons_of_mem _ hu)) h3)
    rw [h1]
    exact rp_key e.1
  | [], [], _ :: _, .nil, _, tr => by have := tr.length; simp at this
  | _ :: _, _ :: _, [], _, _, tr => by have := tr.length; simp at this
end
def dListItems (te : DT) : DT := fun ρ μ Q => te ρ μ fun d μ1 => ∃ kvs, see μ1 d = .dk kvs ∧ Q (.lst (kvs.map pairD)) μ1
theorem d_listItems {X : Cx} {e : Expr} {te : DT} {p apos cpos pos : Pos} (hc : X.calm = true) (hg : Gl X "list") (hm : X.mg "list" = none) (he : DE X e te) (hbase : attributeBase e "items" X.env (eval e X.env) = eval e X.env := by rfl) (hline : (apos.endLine == cpos.line) = true := by rfl)
    (hs : starEach [.Call (.Attribute e "items" apos) [] [] cpos] X.env = (false, eval (.Call (.Attribute e "items" apos) [] [] cpos) X.env) :: starEach [] X.env := by rfl) :
    DE X (.Call (.Name "list" p) [.Call (.Attribute e "items" apos) [] [] cpos] [] pos) (dListItems te) := by
  obtain ⟨t1, q1, h1⟩ := he.ex
  refine ⟨_, pe_listItemsR hc q1 hg hm rfl hbase hline hs, fun Z σ ρ H μ Qd Q S R h q => h1 Z σ ρ H μ _ _ S R h fun v x H1 μ1 S1 s1 r1 q2 => ?_⟩
  obtain ⟨kvs, e, q2⟩ := q2
  obtain ⟨a, ws, rfl, hH, t⟩ := see_dk_inv S1 r1 e
  refine ⟨a, ws, rfl, hH, fun H' p ts k1 k2 k3 k4 k5 k6 => ?_⟩
  have s2 : Stp μ1 μ1 H1 H' := Stp.ext k1
  have c : ∀ b, H1 b = none → Cold μ1 Z b := fun b hb => S1.cold hb
  exact q _ _ _ μ1 (S1.ext k1) (s1.trans s2) (.lst k5 (c p k2) (items_rp k6 (fun t ht => c t (k3 t ht)) (t.stp s2))) q2
end DL

/-! DLak: len(set(xs)) of a list of ints. -/
namespace DL
open PySem PySem.Spec PyProof.Rows L2
/-- how many unlike ones -/
def unlike (ns : List Int) : Nat := (PyProof.Rows.firstMet (fun i => ns.getD i 0) ns.length).length
def dLenSet (te : DT) : DT := fun ρ μ Q => te ρ μ fun d μ1 => ∃ ns : List Int, see μ1 d = .lst (ns.map D.int) ∧ ns.length ≤ 4000 ∧ Q (.int (unlike ns : Nat)) μ1
theorem pe_lenSetA {X : Cx} {a : Expr} {ta : TE} {p p2 q pos : Pos} (hc : X.calm = true) (hg : Gl X "len") (hm : X.mg "len" = none) (hg2 : Gl X "set") (hm2 : X.mg "set" = none) (ha : PE X a ta)
    (na : starEach [a] X.env = (false, eval a X.env) :: starEach [] X.env := by rfl) : PE X (.Call (.Name "len" p) [.Call (.Name "set" p2) [a] [] q] [] pos)
      (fun σ H Q => ta σ H fun x H1 => ∃ (l : Addr) (ns : List Int), x = .ref l ∧ SqL X.K H1 l (ns.map V.int) ∧ ns.length ≤ 4000 ∧ Q (.int (unlike ns : Nat)) H1) := ⟨fun pins s σ H Q I h =>
  Call_ (ld_blt I hg hm boot_len (callWith_builtin1 (args_cons (Call_ (ld_blt I hg2 hm2 boot_set (callWith_type1 (args_cons (thn (ha.run pins s σ H _ I h) fun v s1 ⟨x, H1, I1, r1, l, ns, ex, hq, hl, q1⟩ => args_nil (by
    subst ex
    cases r1
    obtain ⟨its, r, pl, _⟩ := I1.list hq
    have sz : its.toArray.size = ns.length := by
      rw [List.size_toArray, ← r.length, List.length_map]
    have bound := firstMet_length_le (fun i => ns.getD i 0) ns.length
    refine call_set_list (I1.ok.hd hc) pl.isList (by simpa using RZ.intsAre_vals r) (by rw [sz]; unfold scanBound; omega) fun h' tk hS hk => args_nil ?_
    rw [sz] at hS
    obtain ⟨o, es, ep, t, ho, hex, hd, _, _, _, hf, hn⟩ := hS
    refine call_len_set ho hex hd hf (by rw [hn]; omega) ⟨.int (unlike ns : Nat), H1, (I1.kept (t' := tk) fun b o e => hk b o (Heap.lt_size e) e).tok _, ⟨_, by rw [hn]; rfl⟩, q1⟩)) na) na rfl))) rfl) rfl rfl))⟩
theorem d_lenSet {X : Cx} {a : Expr} {ta : DT} {p p2 q pos : Pos} (hc : X.calm = true) (hg : Gl X "len") (hm : X.mg "len" = none) (hg2 : Gl X "set") (hm2 : X.mg "set" = none) (ha : DE X a ta)
    (na : starEach [a] X.env = (false, eval a X.env) :: starEach [] X.env := by rfl) : DE X (.Call (.Name "len" p) [.Call (.Name "set" p2) [a] [] q] [] pos) (dLenSet ta) := by
  obtain ⟨t1, q1, h1⟩ := ha.ex
  refine ⟨_, pe_lenSetA hc hg hm hg2 hm2 q1 na, fun Z σ ρ H μ Qd Q S R h q => h1 Z σ ρ H μ _ _ S R h fun v x H1 μ1 S1 s1 r1 q2 => ?_⟩
  obtain ⟨ns, e, hl, q2⟩ := q2
  obtain ⟨b, us, rfl, hq, t⟩ := see_lst_inv S1 r1 e
  rw [RpAll.ints_inv t] at hq
  exact ⟨b, ns, rfl, hq, hl, q _ _ _ _ S1 s1 (.int _) q2⟩
/-! ### what it tells -/
theorem fm_nodup (val : Nat → Int) : ∀ n, (PyProof.Rows.firstMet val n).Nodup
  | 0 => by rw [firstMet_zero]; exact List.nodup_nil
  | n + 1 => by
    rw [firstMet_succ]
    unfold PyProof.Rows.step_dedup
    split
    · exact fm_nodup val n
    · rename_i h
      refine List.nodup_append.mpr ⟨fm_nodup val n, by simp, fun a ha b hb e => ?_⟩
      rw [List.mem_singleton] at hb
      subst hb
      subst e
      exact h (List.any_eq_true.mpr ⟨_, ha, by simp⟩)
theorem fm_mem (ns : List Int) (k : Int) : k ∈ PyProof.Rows.firstMet (fun i => ns.getD i 0) ns.length ↔ k ∈ ns := by
  have h := firstMet_any (fun i => ns.getD i 0) ns.length k
  have e : (List.range ns.length).map (fun i => ns.getD i 0) = ns := by
    refine List.ext_getElem (by rw [List.length_map, List.length_range]) fun i h1 h2 => ?_
    rw [List.getElem_map, List.getElem_range, List.getD_eq_getElem?_getD, List.getElem?_eq_getElem h2]
    rfl
  rw [e, Bool.eq_iff_iff, List.any_eq_true, List.any_eq_true] at h
  constructor
  · intro hk
    obtain ⟨x, h1, h2⟩ := h.mp ⟨k, hk, by simp⟩
    have : x = k := by simpa using h2
    exact this ▸ h1
  · intro hk
    obtain ⟨x, h1, h2⟩ := h.mpr ⟨k, hk, by simp⟩
    have : x = k := by simpa using h2
    exact this ▸ h1
theorem unlike_le (ns : List Int) : unlike ns ≤ ns.length := firstMet_length_le _ _
theorem fm_full (val : Nat → Int) : ∀ n, (PyProof.Rows.firstMet val n).length = n → PyProof.Rows.firstMet val n = (List.range n).map val
  | 0, _ => by rw [firstMet_zero]; rfl
  | n + 1, h => by
    rw [firstMet_succ] at h ⊢
    unfold PyProof.Rows.step_dedup at h ⊢
    have b := firstMet_length_le val n
    split at h
    · omega
    · rename_i c
      rw [if_neg c]
      rw [List.length_append] at h
      rw [fm_full val n (by simpa using h), List.range_succ, List.map_append]
      rfl
/-- as many as there are just where each stands once -/
theorem unlike_all {ns : List Int} : unlike ns = ns.length ↔ ns.Nodup := by
  have nd := fm_nodup (fun i => ns.getD i 0) ns.length
  constructor
  · intro h
    have e : (List.range ns.length).map (fun i => ns.getD i 0) = ns := by
      refine List.ext_getElem (by rw [List.length_map, List.length_range]) fun i h1 h2 => ?_
      rw [List.getElem_map, List.getElem_range, List.getD_eq_getElem?_getD, List.getElem?_eq_getElem h2]
      rfl
    rw [fm_full _ _ h, e] at nd
    exact nd
  · intro h
    exact ((List.perm_ext_iff_of_nodup nd h).mpr fun k => fm_mem ns k).length_eq
end DL

/-! DLal: a, b = a list. -/
namespace DL
open PySem PySem.Spec PyProof.Rows L2
def gTpL (n : Nat) (gs : DGl) : DG := fun d ρ μ Q => ∃ ds, see μ d = .lst ds ∧ ds.length = n ∧ gs ds ρ μ Q
theorem g_tupL {X : Cx} {es : List Expr} {k : Nat} {gs : DGl} {n : Nat} {pos : Pos} (hc : X.calm = true) (h : DGs X es gs) (hn : (assignEach es X.env).length = n := by rfl) (hst : (assignEach es X.env).findIdx? (·.1) = none := by rfl) : DGt X (.Tuple es k pos) (gTpL n gs) := by
  obtain ⟨t1, p1, h1⟩ := h.ex
  refine ⟨_, pg_lst hc p1 hn hst, fun Z σ ρ H μ v d Qd Q S R r h q => ?_⟩
  obtain ⟨ds, e, hl, h⟩ := h
  obtain ⟨a, xs, rfl, hq, t⟩ := see_lst_inv S r e
  exact ⟨a, xs, rfl, hq, by rw [t.length]; exact hl, h1 Z σ ρ H μ _ _ _ _ S R t h q⟩
end DL

/-! DLam: sorted(d.items()), of dicts with keys of tuples. -/
namespace DL
open PySem PySem.Spec PyProof.Rows L2
abbrev En := (V × D) × (V × D)
def pD (e : En) : D := .tup [e.1.2, e.2.2]
def tItemsN (te : TE) : TE := fun σ H Q => te σ H fun x H1 => ∃ (d : Addr) (xs : NXs), x = .ref d ∧ IsN H1 d xs ∧ ∀ p, H1 p = none → Q (.ref p) (upd H1 p (L2.DX.itemsO p d))
section
variable {X : Cx} {e : Expr} {te : TE} {apos cpos pos : Pos}
theorem pe_itemsN (he : PE X e te) (hbase : attributeBase e "items" X.env (eval e X.env) = eval e X.env := by rfl) (hline : (apos.endLine == cpos.line) = true := by rfl) :
    PE X (.Call (.Attribute e "items" apos) [] [] cpos) (tItemsN te) := by
  refine ⟨fun pins s σ H Q I hq => ?_⟩
  refine wpAny_Call_method (T := "dict") (id := "dict.items") hbase rfl hline F.plainAttrs_dict F.slot_dict_items F.type_dict_items (thn (he.run pins s σ H _ I hq) fun u s1 ⟨x, H1, I1, rx, d, xs, ex, hd, q⟩ => ?_)
  subst ex
  obtain rfl : u = Value.ref d := rx
  obtain ⟨f1, f2, f3, f4, o, es, ep, w0, ho, hx, hdt, hes⟩ := isN_f I1 hd
  have hm : s1.heap.DictRaw d es ep := ⟨o, ho, hx, hdt⟩
  have hf : H1 s1.heap.objs.size = none := I1.hok.fresh (Nat.le_refl _)
  refine ⟨hm.typeIs, fun b q => ⟨o, by cases q; exact ho, hx.2.1⟩, ?_⟩
  show wpAny _ _ (callWith cpos (.builtin "dict.items") [.ref d] [] []) _ X.xe s1
  refine method_meetsIn F.slot_dict_items F.entry_dict_items rfl (PySem.evalArgs_none ⟨rfl, hm.typeIs, F.args_dict_items_1 _, _, meets_dict_items_raw d f1, ⟨_, _, hm⟩, ?_⟩)
  exact ⟨.ref s1.heap.objs.size, upd H1 s1.heap.objs.size (L2.DX.itemsO s1.heap.objs.size d), I1.laid (t' := s1.toks) (fun b u e => Heap.get?_push_of_some _ e) (Nat.le_refl _) (L2.DX.itemsO_ok (Heap.get?_push_size _ rfl)), rfl, q _ hf⟩
end
def rSortItN (K : PySem.W.Frag) : List V → Hp → VK → Prop := fun vs H Q => ∃ (p a : Addr) (xs : NXs) (bs : List En), vs = [.ref p] ∧ H p = some (L2.DX.itemsO p a) ∧ IsN H a xs ∧ Paired (fun (x : NestedKey × Addr × Value) (b : En) => b.1.1 = .ref x.2.1 ∧ RelV b.2.1 x.2.2) xs bs ∧
  (∀ b ∈ bs, Dp K H b.1.1 (toP b.1.2) ∧ Dp K H b.2.1 (toP b.2.2)) ∧ PySem.W.AllAlike (bs.map fun b => toP (pD b)) ∧ PySem.W.Sortable (bs.map fun b => toP (pD b)) ∧ (∀ b ∈ bs, (toP (pD b)).depth ≤ 40) ∧
  ∀ (H' : Hp) (l : Addr) (zs : List (Addr × En)), (∀ b o, H b = some o → H' b = some o) → H l = none → (∀ z ∈ zs, H z.1 = none) → zs.map (·.2) = bs.mergeSort (PySem.W.dataLe false fun b => toP (pD b)) → H' l = some (.lst (zs.map fun z => V.ref z.1)) →
    (∀ z ∈ zs, H' z.1 = some (.tup [z.2.1.1, z.2.2.1])) → Q (.ref l) H'
theorem each_zip {P : Addr → En → Prop} : ∀ (as : List Addr) (bs : List En), as.length = bs.length → (∀ (j : Nat) a b, as[j]? = some a → bs[j]? = some b → P a b) → PySem.W.EachIs (fun (v : Value) (z : Addr × En) => v = .ref z.1 ∧ P z.1 z.2) (as.map Value.ref) (as.zip bs)
  | [], _, _, _ => .nil
  | a :: as, [], h, _ => by simp at h
  | a :: as, b :: bs, h, hp => .cons ⟨rfl, hp 0 a b rfl rfl⟩ (each_zip as bs (by simpa using h) fun j a b h1 h2 => hp (j + 1) a b h1 h2)
theorem each_refs : ∀ {vs : List Value} {zs : List (Addr × En)}, PySem.W.EachIs (fun v z => v = .ref z.1) vs zs → vs = zs.map fun z => Value.ref z.1
  | _, _, .nil => rfl
  | _, _, .cons h t => by rw [List.map_cons, ← each_refs t, h]
theorem each_both {α β : Type} {R S : α → β → Prop} : ∀ {vs : List α} {zs : List β}, PySem.W.EachIs (fun v z => R v z ∧ S v z) vs zs → PySem.W.EachIs R vs zs ∧ PySem.W.EachIs S vs zs
  | _, _, .nil => ⟨.nil, .nil⟩
  | _, _, .cons h t => ⟨.cons h.1 (each_both t).1, .cons h.2 (each_both t).2⟩
section
variable {X : Cx}
theorem call_sortItN (hc : X.calm = true) (hu : X.A.units + 64 < cLine) : CallR X (.builtin "sorted") (rSortItN X.K) := by
  intro pins s σ H vs us Q I r h
  obtain ⟨p, a, xs, bs, rfl, hp, ha, pr0, hdp, hal, hk, hdep, q⟩ := h
  obtain rfl := Vals.ref1 r
  have view : s.heap.IsItemsView p a := (show ObjOk X.prog X.w H s.heap p (L2.DX.itemsO p a) from I.hok p _ hp).1
  obtain ⟨f1, f2, f3, f4, o, es, ep, w0, ho, hx, hdt, hes⟩ := isN_f I ha
  have l1 : xs.length = bs.length := Paired.length pr0
  have l2 : es.size = xs.length := by rw [← Array.length_toList, hes, List.length_map]
  have hh : X.A.handled = none := I.ok.hd hc
  refine _root_.DT.sortedI (es := es) (ep := ep) hh view ⟨o, ho, hx, hdt⟩ (by omega) fun h' tk as hk' hlt hl hG => ?_
  have lab : as.length = bs.length := by omega
  have nd : as.Nodup := List.Pairwise.imp (fun h => Nat.ne_of_lt h) hG.rise
  -- the pairs that were made
  have pr : ∀ (j : Nat) (c : Addr) (b : En), as[j]? = some c → bs[j]? = some b → ∃ x : NestedKey × Addr × Value, xs[j]? = some x ∧ b.1.1 = .ref x.2.1 ∧ RelV b.2.1 x.2.2 ∧ h'.get? c = some { cls := .type "tuple", data := .seq #[Value.ref x.2.1, x.2.2] } := by
    intro j c b hj hb
    obtain ⟨en, he, hg⟩ := hG.pairs j c hj
    obtain ⟨x, hxj, r1, r2⟩ := L2.DX.pget pr0 hb
    refine ⟨x, hxj, r1, r2, ?_⟩
    rw [← Array.getElem?_toList, hes, List.getElem?_map, hxj] at he
    cases he
    exact hg
  have hob : (h'.push { cls := .type "list", data := .seq (as.map Value.ref).toArray }).get? h'.objs.size = some (seqObj "list" (as.map Value.ref).toArray 0) := Heap.get?_push_size _ rfl
  have kb : ∀ b o, s.heap.get? b = some o → (h'.push { cls := .type "list", data := .seq (as.map Value.ref).toArray }).get? b = some o := fun b o e => Heap.get?_push_of_some _ (hk' b o e)
  have ne0 : ∀ b o, h'.get? b = some o → b ≠ h'.objs.size := fun b o e => Nat.ne_of_lt (Heap.lt_size e)
  generalize hh2 : h'.push { cls := .type "list", data := .seq (as.map Value.ref).toArray } = h2 at hob kb ⊢
  have ka : ∀ b o, h'.get? b = some o → h2.get? b = some o := fun b o e => by rw [← hh2]; exact Heap.get?_push_of_some _ e
  have ks : ∀ b o, h'.get? b = some o → (PySem.W.sortingHeap h2 h'.objs.size (as.map Value.ref)).get? b = some o := fun b o e => PySem.W.sortingHeap_old (ne0 _ _ e) (ka _ _ e)
  have each := each_zip (P := fun c b => ∃ rs, Reads (PySem.W.sortingHeap h2 h'.objs.size (as.map Value.ref)) (.ref c) (toP (pD b)) rs) as bs lab fun j c b hj hb => by
    obtain ⟨x, hxj, r1, r2, hg⟩ := pr j c b hj hb
    obtain ⟨d1, d2⟩ := hdp b (List.mem_of_getElem? hb)
    rw [r1] at d1
    obtain ⟨as1, e1⟩ := Dp.reads I _ _ (Value.ref x.2.1) d1 rfl
    obtain ⟨as2, e2⟩ := Dp.reads I _ _ _ d2 r2
    have g1 := PyProof.Rows.Reads.keeps (fun b o e => ks b o (hk' b o e)) e1
    have g2 := PyProof.Rows.Reads.keeps (fun b o e => ks b o (hk' b o e)) e2
    exact ⟨_, Reads.tuple (ks _ _ hg) rfl rfl (.cons g1 (.cons g2 .nil))⟩
  obtain ⟨ea, er0⟩ := each_both each
  have er : PySem.W.EachIs (fun (v : Value) (z : Addr × En) => ∃ rs, Reads (PySem.W.sortingHeap h2 h'.objs.size (as.map Value.ref)) v (toP (pD z.2)) rs) (as.map Value.ref) (as.zip bs) := each.mono fun v z h => by
    rw [h.1]
    exact h.2
  have em : (as.zip bs).map (fun z => toP (pD z.2)) = bs.map fun b => toP (pD b) := by
    show (as.zip bs).map ((fun b => toP (pD b)) ∘ Prod.snd) = _
    rw [← List.map_map, List.map_snd_zip (by omega)]
  have hal2 : PySem.W.AllAlike ((as.zip bs).map fun z => toP (pD z.2)) := by rw [em]; exact hal
  have hk2 : PySem.W.Sortable ((as.zip bs).map fun z => toP (pD z.2)) := by rw [em]; exact hk
  have hzl : (as.map Value.ref).length ≤ sizeLine := by rw [List.length_map]; omega
  refine wpAny_call_entry PyProof.Rows.slot_list_sort ⟨_, hob, rfl⟩ PyProof.Rows.entry_list_sort
    (PySem.W.list_sort_vals (s := { s with heap := h2, toks := tk }) (κ := PySem.W.dataKind (PySem.W.sortingHeap h2 h'.objs.size (as.map Value.ref)) ((as.zip bs).map fun z => toP (pD z.2))) hob
      (PySem.W.SortsAt.data (s := { s with heap := PySem.W.sortingHeap h2 h'.objs.size (as.map Value.ref), toks := tk }) (PySem.W.each_map (R := fun v d => ∃ rs, Reads (PySem.W.sortingHeap h2 h'.objs.size (as.map Value.ref)) v d rs) (fun z : Addr × En => toP (pD z.2)) er) hal2 hk2 fun d hd => ?_) hzl ⟨.none, rfl, ?_⟩) (PyProof.Rows.args_list_sort _)
  · rw [em] at hd
    obtain ⟨b, hb, rfl⟩ := List.mem_map.mp hd
    have := hdep b hb
    show X.A.units + 1 + 1 + _ < cLine
    omega
  have eo := PySem.W.sortVals_data (enc := fun z : Addr × En => toP (pD z.2)) false ea er hal2
  generalize PySem.W.sortVals (PySem.W.dataKind (PySem.W.sortingHeap h2 h'.objs.size (as.map Value.ref)) ((as.zip bs).map fun z => toP (pD z.2))) false (as.map Value.ref) (as.map Value.ref) = out at eo ⊢
  have hout := each_refs eo
  have pz := List.mergeSort_perm (as.zip bs) (PySem.W.dataLe false fun z : Addr × En => toP (pD z.2))
  have em2 : ((as.zip bs).mergeSort (PySem.W.dataLe false fun z : Addr × En => toP (pD z.2))).map (·.2) = bs.mergeSort (PySem.W.dataLe false fun b => toP (pD b)) := by
    have e5 := List.map_mergeSort (r := PySem.W.dataLe false fun z : Addr × En => toP (pD z.2)) (s := PySem.W.dataLe false fun b : En => toP (pD b)) (f := Prod.snd) (l := as.zip bs) fun a _ b _ => rfl
    rw [List.map_snd_zip (by omega)] at e5
    exact e5
  generalize (as.zip bs).mergeSort (PySem.W.dataLe false fun z : Addr × En => toP (pD z.2)) = zs at eo hout pz em2
  have idx : ∀ z ∈ zs, ∃ j : Nat, as[j]? = some z.1 ∧ bs[j]? = some z.2 := fun z hz => by
    obtain ⟨j, hj⟩ := List.mem_iff_getElem?.mp (pz.mem_iff.mp hz)
    exact ⟨j, List.getElem?_zip_eq_some.mp hj⟩
  show EP X pins σ Q (.ref h'.objs.size) { s with heap := sortedHeap h2 h'.objs.size (as.map Value.ref) out.toArray, toks := tk }
  have kF : ∀ b o, b ≠ h'.objs.size → h2.get? b = some o → (sortedHeap h2 h'.objs.size (as.map Value.ref) out.toArray).get? b = some o := fun b o hb e => (PyProof.Rows.sortedHeap_old hb (Heap.lt_size e)).trans e
  have kS : ∀ b o, s.heap.get? b = some o → (sortedHeap h2 h'.objs.size (as.map Value.ref) out.toArray).get? b = some o := fun b o e => kF b o (ne0 _ _ (hk' b o e)) (kb b o e)
  obtain ⟨eF, heF⟩ := PyProof.Rows.sortedHeap_at (vs := as.map Value.ref) (out := out.toArray) hob
  have I1 : Inv X pins σ H { s with heap := sortedHeap h2 h'.objs.size (as.map Value.ref) out.toArray, toks := tk } := I.kept (t' := tk) kS
  have hn0 : H h'.objs.size = none := I.hok.fresh (Nat.le_of_lt hlt)
  have hlen : (zs.map fun z => V.ref z.1).length ≤ sizeLine := by
    have e := pz.length_eq
    rw [List.length_zip] at e
    rw [List.length_map]
    omega
  have rv : Vals (zs.map fun z => V.ref z.1) out.toArray.toList := by
    rw [show out.toArray.toList = out from rfl, hout]
    exact vals_maps (fun z : Addr × En => V.ref z.1) (fun z => Value.ref z.1) zs fun _ _ => rfl
  have I2 : Inv X pins σ (upd H h'.objs.size (.lst (zs.map fun z => V.ref z.1))) { s with heap := sortedHeap h2 h'.objs.size (as.map Value.ref) out.toArray, toks := tk } :=
    I1.take (h' := sortedHeap h2 h'.objs.size (as.map Value.ref) out.toArray) (t' := tk) (fun b ob _ e => e) (I.fpOk (Nat.le_of_lt hlt) hn0) ⟨hlen, out.toArray.toList, eF, rv, heF⟩
  obtain ⟨H2, I3, g, qt⟩ := L2.DX.takeT (P := fun c vs => ∃ (j : Nat) (b : En), as[j]? = some c ∧ bs[j]? = some b ∧ vs = [b.1.1, b.2.1]) I as _ I2 nd fun c hc => by
    obtain ⟨j, hj⟩ := List.mem_iff_getElem?.mp hc
    have hjb : j < bs.length := by
      have := (List.getElem?_eq_some_iff.mp hj).1
      omega
    have hb : bs[j]? = some bs[j] := List.getElem?_eq_getElem hjb
    obtain ⟨x, hxj, r1, r2, hg⟩ := pr j c _ hj hb
    have hbl : s.heap.objs.size ≤ c := Nat.le_of_lt (hG.above c hc)
    refine ⟨hbl, ?_, [bs[j].1.1, bs[j].2.1], ⟨j, _, hj, hb, rfl⟩, fun H3 => ⟨(by rw [sizeLine_eq]; show 2 ≤ 16777216; omega), [Value.ref x.2.1, x.2.2], .cons (by rw [r1]; rfl) (.cons r2 .nil), ⟨_, kF _ _ (ne0 _ _ hg) (ka _ _ hg), rfl, 0, rfl⟩⟩⟩
    rw [upd_ne (ne0 _ _ hg)]
    exact I.hok.fresh hbl
  have gr : ∀ b o, H b = some o → H2 b = some o := fun b o e => g b o (by rw [upd_ne (ne_of_none e hn0)]; exact e)
  refine ⟨.ref h'.objs.size, H2, I3, rfl, q H2 h'.objs.size zs gr hn0 (fun z hz => ?_) em2 (g _ _ upd_same) fun z hz => ?_⟩
  · obtain ⟨i, i1, _⟩ := idx z hz
    exact I.hok.fresh (Nat.le_of_lt (hG.above _ (List.mem_of_getElem? i1)))
  · obtain ⟨i, i1, i2⟩ := idx z hz
    obtain ⟨vs, ⟨j, b, j1, j2, ev⟩, hH⟩ := qt z.1 (List.mem_of_getElem? i1)
    have eij : i = j := (List.getElem?_inj (List.getElem?_eq_some_iff.mp i1).1 nd).mp (i1.trans j1.symm)
    subst eij
    have ee : b = z.2 := Option.some.inj (j2.symm.trans i2)
    rw [ev, ee] at hH
    exact hH
end
section
variable {K : PySem.W.Frag} {Z : Zt} {μ : Mu} {H H' : Hp}
theorem ent_of : ∀ {xs : NXs} {ws : List (NestedKey × V)} {ds : List (NestedKey × D)}, NR xs ws → RpAll K Z μ H (xs.map fun x => V.ref x.2.1) (ds.map fun e => nkD e.1) → RpAll K Z μ H (ws.map (·.2)) (ds.map (·.2)) →
    ∃ cs : List En, cs.map pD = itemsN ds ∧ Paired (fun (x : NestedKey × Addr × Value) (b : En) => b.1.1 = .ref x.2.1 ∧ RelV b.2.1 x.2.2) xs cs ∧ ∀ c ∈ cs, Rp K Z μ H c.1.1 c.1.2 ∧ Rp K Z μ H c.2.1 c.2.2
  | [], [], [], .nil, _, _ => ⟨[], rfl, .nil, fun c hc => by cases hc⟩
  | x :: xs, w :: ws, e :: ds, .cons h t, .cons k1 k2, .cons t1 t2 => by
    obtain ⟨cs, h1, h2, h3⟩ := ent_of t k2 t2
    refine ⟨((.ref x.2.1, nkD e.1), (w.2, e.2)) :: cs, ?_, .cons ⟨rfl, h.2⟩ h2, fun c hc => ?_⟩
    · rw [List.map_cons, h1]
      rfl
    · rcases List.mem_cons.mp hc with rfl | hc
      · exact ⟨k1, t1⟩
      · exact h3 c hc
  | [], [], _ :: _, .nil, k, _ => by cases k
  | _ :: _, _ :: _, [], .cons _ _, k, _ => by cases k
end
def dSortItems (te : DT) : DT := fun ρ μ Q => te ρ μ fun d μ1 => ∃ kvs, see μ1 d = .dt kvs ∧ fSortX [.lst (itemsN kvs)] μ1 Q
theorem shb_two {k : Nat} {a b : D} (h : ∃ n, Shb (k + 1) n (.tup [a, b])) : (∃ n, Shb k n a) ∧ ∃ n, Shb k n b := by
  obtain ⟨n, m, h, _⟩ := h
  exact ⟨⟨m, h a List.mem_cons_self⟩, ⟨m, h b (List.mem_cons_of_mem _ List.mem_cons_self)⟩⟩
theorem d_sortItems {X : Cx} {e : Expr} {te : DT} {p apos cpos pos : Pos} (hc : X.calm = true) (hu : X.A.units + 64 < cLine) (hg : Gl X "sorted") (hm : X.mg "sorted" = none) (he : DE X e te) (hbase : attributeBase e "items" X.env (eval e X.env) = eval e X.env := by rfl) (hline : (apos.endLine == cpos.line) = true := by rfl)
    (hs : starEach [.Call (.Attribute e "items" apos) [] [] cpos] X.env = (false, eval (.Call (.Attribute e "items" apos) [] [] cpos) X.env) :: starEach [] X.env := by rfl) (hpl : (backTo pos (starEach [] X.env)).any (·.1) = false := by rfl) :
    DE X (.Call (.Name "sorted" p) [.Call (.Attribute e "items" apos) [] [] cpos] [] pos) (dSortItems te) := by
  obtain ⟨t1, q1, h1⟩ := he.ex
  refine ⟨_, pe_callB (call_sortItN hc hu) hg hm rfl (pa_cons (pe_itemsN q1 hbase hline) pa_nil hs) (by decide) (by decide) hs hpl, fun Z σ ρ H μ Qd Q S R h q => h1 Z σ ρ H μ _ _ S R h fun v x H1 μ1 S1 s1 r1 q2 => ?_⟩
  obtain ⟨kvs, e, d0, ps, e0, e1, hsb, hal, hk, q2⟩ := q2
  cases e0
  rw [see_lst] at e1
  cases e1
  obtain ⟨a, xs, ws, rfl, hN, nr, kr, tr⟩ := see_dt_inv S1 r1 e
  refine ⟨a, xs, rfl, hN, fun p hp => ?_⟩
  obtain ⟨cs, c1, c2, c3⟩ := ent_of nr kr tr.2
  have ec : cs.map (fun b => toP (pD b)) = (itemsN kvs).map toP := by
    rw [← c1, List.map_map]
    rfl
  have sb : ∀ c ∈ cs, ∃ n, Shb 30 n (pD c) := fun c hc => hsb _ (by rw [← c1]; exact List.mem_map_of_mem hc)
  have up : ∀ b o, H1 b = some o → upd H1 p (L2.DX.itemsO p a) b = some o := fun b o e => by rw [upd_ne (ne_of_none e hp)]; exact e
  have s2 : Stp μ1 μ1 H1 (upd H1 p (L2.DX.itemsO p a)) := Stp.ext up
  refine ⟨p, a, xs, cs, rfl, upd_same, ?_, c2, fun c hc => ?_, by rw [ec]; exact hal, by rw [ec]; exact hk, fun c hc => ?_, fun H' l zs k1 k2 k3 k4 k5 k6 => ?_⟩
  · rcases hN with h | ⟨od, h⟩
    · exact .inl (up _ _ h)
    · exact .inr ⟨od, up _ _ h⟩
  · obtain ⟨⟨n1, u1⟩, n2, u2⟩ := shb_two (sb c hc)
    obtain ⟨r2, r3⟩ := c3 c hc
    exact ⟨u1.dp (r2.stp s2), u2.dp (r3.stp s2)⟩
  · obtain ⟨n, u⟩ := sb c hc
    exact Nat.le_trans u.shn.dp (by decide)
  · have up2 : ∀ b o, H1 b = some o → H' b = some o := fun b o e => k1 b o (up b o e)
    have s3 : Stp μ1 μ1 H1 H' := Stp.ext up2
    have cold : ∀ b, upd H1 p (L2.DX.itemsO p a) b = none → Cold μ1 Z b := fun b hb => S1.cold (by
      cases c : H1 b with
      | none => rfl
      | some o => rw [up b o c] at hb; cases hb)
    have hz : zs.map (fun z => pD z.2) = (itemsN kvs).mergeSort leD := by
      have e5 := List.map_mergeSort (r := PySem.W.dataLe false fun b : En => toP (pD b)) (s := leD) (f := pD) (l := cs) fun a _ b _ => rfl
      rw [c1] at e5
      rw [← e5, ← k4, List.map_map]
      rfl
    have rp : ∀ ys : List (Addr × En), (∀ z ∈ ys, z ∈ zs) → RpAll X.K Z μ1 H' (ys.map fun z => V.ref z.1) (ys.map fun z => pD z.2) := fun ys => by
      induction ys with
      | nil => exact fun _ => .nil
      | cons z ys ih =>
        intro hy
        have hz := hy z List.mem_cons_self
        have hzc : z.2 ∈ cs := by
          have : z.2 ∈ zs.map (·.2) := List.mem_map_of_mem hz
          rw [k4] at this
          exact List.mem_mergeSort.mp this
        obtain ⟨r2, r3⟩ := c3 _ hzc
        exact .cons (.tup ⟨k6 z hz, cold _ (k3 z hz)⟩ (.cons (r2.stp s3) (.cons (r3.stp s3) .nil))) (ih fun w hw => hy w (List.mem_cons_of_mem _ hw))
    have rl := rp zs fun _ h => h
    rw [hz] at rl
    exact q _ _ _ μ1 (S1.ext up2) (s1.trans s3) (.lst k5 (cold _ k2) rl) q2
/-! ### sorted(d), the keys tuples -/
def rSortKN (K : PySem.W.Frag) : List V → Hp → VK → Prop := fun vs H Q => ∃ (a : Addr) (xs : NXs) (bs : List (V × D)), vs = [.ref a] ∧ IsN H a xs ∧ bs.map (·.1) = xs.map (fun x => V.ref x.2.1) ∧ (∀ b ∈ bs, Dp K H b.1 (toP b.2)) ∧ PySem.W.AllAlike (bs.map fun b => toP b.2) ∧ (2 ≤ bs.length → PySem.W.Sortable (bs.map fun b => toP b.2)) ∧ (∀ b ∈ bs, (toP b.2).depth ≤ 40) ∧
  ∀ p, H p = none → Q (.ref p) (upd H p (.lst ((bs.mergeSort (PySem.W.dataLe false fun b => toP b.2)).map (·.1))))
theorem vals_refs (xs : NXs) : Vals (xs.map fun x => V.ref x.2.1) (xs.map fun x => Value.ref x.2.1) := vals_maps (fun x : NestedKey × Addr × Value => V.ref x.2.1) (fun x => Value.ref x.2.1) xs fun _ _ => rfl
section
variable {X : Cx}
theorem call_sortKN (hc : X.calm = true) (hu : X.A.units + 64 < cLine) : CallR X (.builtin "sorted") (rSortKN X.K) := by
  intro pins s σ H vs us Q I r h
  obtain ⟨a, xs, bs, rfl, ha, hbs, hdp, hal, hk, hdep, q⟩ := h
  obtain rfl := Vals.ref1 r
  obtain ⟨f1, f2, f3, f4, o, es, ep, w0, ho, hx, hdt, hes⟩ := isN_f I ha
  have hm : s.heap.DictRaw a es ep := ⟨o, ho, hx, hdt⟩
  have l2 : es.size = xs.length := by rw [← Array.length_toList, hes, List.length_map]
  refine Calls.call_function_entry PyProof.Rows.kind_sorted PyProof.Rows.plain_sorted PyProof.Rows.entry_sorted (PyProof.Rows.args_sorted1 _) ?_
  unfold Builtin.«sorted»
  refine wpAny_bind (m := checkCount "sorted" 1 1 _) (wpAny_pure ?_)
  refine wpAny_bind (PySem.W.kdu_collect (A := X.A.in1) (PySem.KdlSrc.rawDict f1) (I.ok.hd hc) hm (by omega) fun h' tk acc hk' hacc => ?_)
  have eacc : acc.toList = xs.map fun x => Value.ref x.2.1 := by
    refine List.ext_getElem? fun j => ?_
    cases c : acc.toList[j]? with
    | none =>
      have hj := List.getElem?_eq_none_iff.mp c
      rw [Array.length_toList, hacc.1] at hj
      rw [List.getElem?_eq_none (by rw [List.length_map]; omega)]
    | some v =>
      obtain ⟨hi, ev⟩ := hacc.2 j v (by rw [← Array.getElem?_toList]; exact c)
      have hjx : j < xs.length := by omega
      have e1 : es.toList[j]? = some es[j] := by rw [Array.getElem?_toList]; exact Array.getElem?_eq_getElem hi
      rw [hes, List.getElem?_map, List.getElem?_eq_getElem hjx] at e1
      have e2 : entN w0 xs[j] = es[j] := Option.some.inj e1
      rw [List.getElem?_map, List.getElem?_eq_getElem hjx, ev, ← e2]
      rfl
  rw [eacc]
  have hzl : (xs.map fun x : NestedKey × Addr × Value => Value.ref x.2.1).length ≤ sizeLine := by rw [List.length_map]; omega
  have I1 : Inv X pins σ H { s with heap := h', toks := tk } := I.kept hk'
  refine wpAny_bind (wpAny_newList ?_ hzl)
  generalize hvs : (xs.map fun x : NestedKey × Addr × Value => Value.ref x.2.1) = vs at hzl ⊢
  have hoL : (h'.push (seqObj "list" vs.toArray 0)).get? h'.objs.size = some (seqObj "list" vs.toArray 0) := Heap.get?_push_size _ rfl
  show wpAny _ _ _ _ _ { s with heap := h'.push (seqObj "list" vs.toArray 0), toks := tk }
  have kb : ∀ b o, s.heap.get? b = some o → (PySem.W.sortingHeap (h'.push (seqObj "list" vs.toArray 0)) h'.objs.size vs).get? b = some o := fun b o e => PySem.W.sortingHeap_old (Nat.ne_of_lt (Heap.lt_size (hk' b o e))) (Heap.get?_push_of_some _ (hk' b o e))
  have rv : Vals (bs.map (·.1)) vs := by
    rw [hbs, ← hvs]
    exact vals_refs xs
  have e := each_of_vals rv
  have er : PySem.W.EachIs (fun v b => ∃ rs, Reads (PySem.W.sortingHeap (h'.push (seqObj "list" vs.toArray 0)) h'.objs.size vs) v (toP b.2) rs) vs bs := (each_reads I hdp e).mono fun _ _ ⟨rs, r⟩ => ⟨rs, PyProof.Rows.Reads.keeps kb r⟩
  have lvb : vs.length = bs.length := by
    have := rv.length
    rw [List.length_map] at this
    omega
  have body : ∀ (R : PySem.Fin → Shared → Prop) (E : Value → Shared → Prop), (∀ out : List Value, PySem.W.EachIs (fun u (b : V × D) => RelV b.1 u) out (bs.mergeSort (PySem.W.dataLe false fun b => toP b.2)) → R (.done (.ret .none)) { s with heap := sortedHeap (h'.push (seqObj "list" vs.toArray 0)) h'.objs.size vs out.toArray, toks := tk }) →
      wpAny (model X.prog X.w) X.A.in1.in1 (Builtin.«list.sort» ⟨[.ref h'.objs.size], []⟩) R E { s with heap := h'.push (seqObj "list" vs.toArray 0), toks := tk } := fun R E hR => by
    by_cases c2 : 2 ≤ bs.length
    · have eo := PySem.W.sortVals_data (enc := fun b : V × D => toP b.2) false e er hal
      refine PySem.W.list_sort_vals (s := { s with heap := h'.push (seqObj "list" vs.toArray 0), toks := tk }) (κ := PySem.W.dataKind (PySem.W.sortingHeap (h'.push (seqObj "list" vs.toArray 0)) h'.objs.size vs) (bs.map fun b => toP b.2)) hoL
        (PySem.W.SortsAt.data (s := { s with heap := PySem.W.sortingHeap (h'.push (seqObj "list" vs.toArray 0)) h'.objs.size vs, toks := tk }) (PySem.W.each_map (R := fun v d => ∃ rs, Reads (PySem.W.sortingHeap (h'.push (seqObj "list" vs.toArray 0)) h'.objs.size vs) v d rs) (fun b : V × D => toP b.2) er) hal (hk c2) fun d hd => ?_) hzl (hR _ eo)
      obtain ⟨b, hb, rfl⟩ := List.mem_map.mp hd
      have := hdep b hb
      show X.A.units + 1 + 1 + _ < cLine
      omega
    · have O : SrtO.Swo (fun _ _ : Value => false) := ⟨fun _ _ h => (by cases h), fun _ _ _ _ _ => rfl⟩
      refine SrtO.list_sort_ord (s := { s with heap := h'.push (seqObj "list" vs.toArray 0), toks := tk }) O hoL hzl (fun h => absurd h (by omega)) fun out _ st => hR out ?_
      have pm := st.perm
      have e1 : out = vs := by
        match vs, lvb, pm with
        | [], _, pm => exact List.perm_nil.mp pm
        | [v], _, pm => exact List.perm_singleton.mp pm
        | _ :: _ :: _, lvb, _ => exact absurd lvb (by rw [List.length_cons, List.length_cons]; omega)
      have e2 : bs.mergeSort (PySem.W.dataLe false fun b => toP b.2) = bs := by
        have pb := List.mergeSort_perm bs (PySem.W.dataLe false fun b : V × D => toP b.2)
        match bs, c2, pb with
        | [], _, pm => exact List.perm_nil.mp pm
        | [v], _, pm => exact List.perm_singleton.mp pm
        | _ :: _ :: _, c2, _ => exact absurd (by rw [List.length_cons, List.length_cons]; omega) c2
      rw [e1, e2]
      exact e
  refine wpAny_bind (wpAny_holding (wpAny_call_entry PyProof.Rows.slot_list_sort ⟨_, hoL, rfl⟩ PyProof.Rows.entry_list_sort (body _ _ fun out eo => ⟨_, rfl, ?_⟩) (PyProof.Rows.args_list_sort _)))
  obtain ⟨e', he'⟩ := PyProof.Rows.sortedHeap_at (vs := vs) (out := out.toArray) hoL
  have hlen : ((bs.mergeSort (PySem.W.dataLe false fun b => toP b.2)).map (·.1)).length ≤ sizeLine := by
    rw [List.length_map, List.length_mergeSort]
    omega
  refine wpAny_pure ⟨_, rfl, .ref h'.objs.size, upd H h'.objs.size (.lst ((bs.mergeSort (PySem.W.dataLe false fun b => toP b.2)).map (·.1))), I1.laid (t' := tk) (fun b u e => ?_) (Nat.le_refl _) ⟨hlen, out, e', vals_of_each eo, he'⟩, rfl, q _ (I1.hok.fresh (Nat.le_refl _))⟩
  exact (PyProof.Rows.sortedHeap_old (Nat.ne_of_lt (Heap.lt_size e)) (Heap.lt_size (Heap.get?_push_of_some _ e))).trans (Heap.get?_push_of_some _ e)
end
def fSortK : List D → Mu → DQ → Prop := fun ds μ Q => ∃ (d : D) (kvs : List (NestedKey × D)), ds = [d] ∧ see μ d = .dt kvs ∧ (∀ x ∈ kvs.map (fun e => nkD e.1), ∃ n, Shb 30 n x) ∧ PySem.W.AllAlike ((kvs.map fun e => nkD e.1).map toP) ∧ (2 ≤ kvs.length → PySem.W.Sortable ((kvs.map fun e => nkD e.1).map toP)) ∧ Q (.lst ((kvs.map fun e => nkD e.1).mergeSort leD)) μ
theorem b_sortK {X : Cx} (hc : X.calm = true) (hu : X.A.units + 64 < cLine) : DCa X (.builtin "sorted") fSortK := by
  refine ⟨_, call_sortKN hc hu, fun Z H μ vs ds Qd Q S r h q => ?_⟩
  obtain ⟨d, kvs, rfl, e, hsb, hal, hk, h⟩ := h
  obtain ⟨v, rfl, r1⟩ := rp1 r
  obtain ⟨a, xs, ws, rfl, hN, nr, t, tr⟩ := see_dt_inv S r1 e
  have hkl : kvs.length = (kvs.map fun e => nkD e.1).length := (List.length_map _).symm
  rw [hkl] at hk
  clear hkl
  generalize kvs.map (fun e => nkD e.1) = ps at *
  generalize eus : xs.map (fun x : NestedKey × Addr × Value => V.ref x.2.1) = us at t
  obtain ⟨hlen, hm⟩ := rpAll_mem t
  have e1 : (us.zip ps).map (·.1) = us := List.map_fst_zip (by omega)
  have e2 : (us.zip ps).map (·.2) = ps := List.map_snd_zip (by omega)
  have e3 : ((us.zip ps).map fun b => toP b.2) = ps.map toP := by
    show (us.zip ps).map (toP ∘ Prod.snd) = _
    rw [← List.map_map, e2]
  refine ⟨a, xs, us.zip ps, rfl, hN, by rw [e1, eus], fun b hb => ?_, by rw [e3]; exact hal, fun h2 => by rw [e3]; exact hk (by rw [List.length_zip] at h2; omega), fun b hb => ?_, fun p hp => ?_⟩
  · obtain ⟨n, hs⟩ := hsb b.2 (List.of_mem_zip hb).2
    exact hs.dp (hm b hb)
  · obtain ⟨n, hs⟩ := hsb b.2 (List.of_mem_zip hb).2
    exact Nat.le_trans hs.shn.dp (by decide)
  · have e4 : ((us.zip ps).mergeSort (PySem.W.dataLe false fun b => toP b.2)).map (·.2) = ps.mergeSort leD := by
      have e5 := List.map_mergeSort (r := PySem.W.dataLe false fun b : V × D => toP b.2) (s := leD) (f := Prod.snd) (l := us.zip ps) fun a _ b _ => rfl
      rw [e2] at e5
      exact e5
    have t2 := rpAll_of (K := X.K) (Z := Z) (μ := μ) (H := H) (bs := (us.zip ps).mergeSort (PySem.W.dataLe false fun b => toP b.2)) fun b hb => hm b (List.mem_mergeSort.mp hb)
    rw [e4] at t2
    exact q.newL S hp t2 h
end DL

namespace DL
open PySem PySem.Spec PyProof.Rows L2

/-! ### a pot of draws -/
def potO (g s c : Int) : MO := .lst [.int g, .int s, .int c]
/-- a pot that was drawn from n times at the most -/
def IsPot (n : Nat) (μ : Mu) (a : Addr) : Prop := ∃ g s c : Int, μ a = some (potO g s c) ∧ 0 ≤ g ∧ (0 ≤ s ∧ s < 2 ^ 70) ∧ 0 ≤ c ∧ c ≤ n
/-- all that stood but a stands -/
def Keep (a : Addr) (μ μ' : Mu) : Prop := ∀ b m, b ≠ a → μ b = some m → μ' b = some m
theorem Keep.refl {a : Addr} {μ : Mu} : Keep a μ μ := fun _ _ _ h => h
theorem Keep.trans {a : Addr} {μ μ1 μ2 : Mu} (h : Keep a μ μ1) (k : Keep a μ1 μ2) : Keep a μ μ2 := fun b m hb e => k b m hb (h b m hb e)
theorem Keep.put {a : Addr} {μ μ' : Mu} {o : MO} (h : Keep a μ μ') : Keep a μ (mput μ' a o) := fun b m hb e => by
  rw [mput_ne hb]
  exact h b m hb e
/-- a new object -/
theorem Keep.new {a p : Addr} {μ μ' : Mu} {o : MO} (h : Keep a μ μ') (hp : μ p = none) : Keep a μ (mput μ' p o) := fun b m hb e => by
  have : b ≠ p := fun q => by rw [q, hp] at e; cases e
  rw [mput_ne this]
  exact h b m hb e
theorem IsPot.mono {n m : Nat} {μ : Mu} {a : Addr} (h : IsPot n μ a) (l : n ≤ m) : IsPot m μ a := by
  obtain ⟨g, s, c, e, h1, h2, h3, h4⟩ := h
  exact ⟨g, s, c, e, h1, h2, h3, by omega⟩
theorem IsPot.at_ {n : Nat} {μ μ' : Mu} {a : Addr} (h : IsPot n μ a) (e : μ' a = μ a) : IsPot n μ' a := by
  obtain ⟨g, s, c, e1, h1⟩ := h
  exact ⟨g, s, c, e.trans e1, h1⟩
theorem IsPot.ne {n : Nat} {μ : Mu} {a p : Addr} (h : IsPot n μ a) (hp : μ p = none) : a ≠ p := by
  obtain ⟨g, s, c, e, _⟩ := h
  intro q
  rw [q, hp] at e
  cases e
/-- a number drawn below a size -/
def cTake : DSp := fun ds μ Q => ∃ (a : Addr) (k : Int) (n : Nat), ds = [.ref a, .int k] ∧ 0 < k ∧ k < 2 ^ 200 ∧ IsPot n μ a ∧ n < 1000000000 ∧ ∀ (r : Int) (μ' : Mu), 0 ≤ r → r < k → Keep a μ μ' → IsPot (n + 1) μ' a → Q (.int r) μ'
/-- a pot made of a cell -/
def cPot : DSp := fun ds μ Q => ∃ (ns : List Int) (j : Nat), ds = [.fz (ns.map D.int), .int (j : Nat)] ∧ ns.length ≤ 63 ∧ j ≤ 63 ∧ ∀ (p : Addr) (μ' : Mu), μ p = none → Keep p μ μ' → IsPot 0 μ' p → Q (.ref p) μ'
/-! ### arithmetic for sizes -/
theorem mulOk_of {i j : Int} (hi : i.natAbs < 2 ^ 400000) (hj : j.natAbs < 2 ^ 400000) : MulOk i j := by
  have h := wide_mul hi hj (by decide) (by decide) (by decide)
  exact h
theorem lt400 {i : Int} (h1 : -(2 ^ 250) < i) (h2 : i < 2 ^ 250) : i.natAbs < 2 ^ 400000 := by
  have h : i.natAbs < 2 ^ 250 := by
    have e : ((2 ^ 250 : Nat) : Int) = 2 ^ 250 := by norm_cast
    omega
  exact Nat.lt_of_lt_of_le h (Nat.pow_le_pow_right (by decide) (by decide))
theorem mulOk {i j : Int} (h1 : -(2 ^ 250) < i) (h2 : i < 2 ^ 250) (h3 : -(2 ^ 250) < j) (h4 : j < 2 ^ 250) : MulOk i j := mulOk_of (lt400 h1 h2) (lt400 h3 h4)
theorem divOk {i j : Int} (h1 : 0 < j) (h2 : j < 2 ^ 250) : DivOk i j := by
  have e : ((2 ^ 250 : Nat) : Int) = 2 ^ 250 := by norm_cast
  exact wide_div (i := i) h1 (b := 250) (by omega) (by decide) (by decide)
end DL

namespace DL
open PySem PySem.Spec PyProof.Rows L2
def iabs (i : Int) : Int := if i < 0 then -i else i
theorem iabs_nonneg (i : Int) : 0 ≤ iabs i := by
  unfold iabs
  split <;> omega
section
variable {μ : Mu} {Q : DQ} {i j : Int} {xs ys : List D} {a : Addr} {d : D} {k : Int}
theorem z_I2 {C : Int → Int → Prop} {g : Int → Int → D} : dI2 C g (.int i) (.int j) μ Q = (C i j ∧ Q (g i j) μ) := propext (Iff.intro (fun ⟨_, _, e1, e2, h⟩ => by cases e1; cases e2; exact h) (fun h => ⟨_, _, rfl, rfl, h⟩))
theorem z_add_int : dAdd (.int i) (.int j) μ Q = Q (.int (i + j)) μ := propext (Iff.intro (fun h => by
  rcases h with ⟨_, _, e1, e2, h⟩ | ⟨_, _, e1, _⟩ | ⟨_, _, e1, _⟩ | ⟨_, _, e1, _⟩
  · cases e1; cases e2; exact h
  · cases e1
  · cases e1
  · cases e1) (fun h => .inl ⟨_, _, rfl, rfl, h⟩))
theorem z_add_tup : dAdd (.tup xs) (.tup ys) μ Q = (xs.length + ys.length ≤ sizeLine ∧ Q (.tup (xs ++ ys)) μ) := propext (Iff.intro (fun h => by
  rcases h with ⟨_, _, e1, e2, h⟩ | ⟨_, _, e1, _⟩ | ⟨_, _, e1, e2, h⟩ | ⟨_, _, e1, _⟩
  · cases e1
  · cases e1
  · cases e1; cases e2; exact h
  · cases e1) (fun h => .inr (.inr (.inl ⟨_, _, rfl, rfl, h⟩))))
theorem z_add_lst : dAdd (.lst xs) (.lst ys) μ Q = (xs.length + ys.length ≤ sizeLine ∧ Q (.lst (xs ++ ys)) μ) := propext (Iff.intro (fun h => by
  rcases h with ⟨_, _, e1, e2, h⟩ | ⟨_, _, e1, _⟩ | ⟨_, _, e1, e2, h⟩ | ⟨_, _, e1, e2, h⟩
  · cases e1
  · cases e1
  · cases e1
  · cases e1; cases e2; exact h) (fun h => .inr (.inr (.inr ⟨_, _, rfl, rfl, h⟩))))
theorem z_mul_int : dMul (.int i) (.int j) μ Q = (MulOk i j ∧ Q (.int (i * j)) μ) := propext (Iff.intro (fun h => by
  rcases h with ⟨_, _, e1, e2, h⟩ | ⟨_, _, e1, _⟩
  · cases e1; cases e2; exact h
  · cases e1) (fun h => .inl ⟨_, _, rfl, rfl, h⟩))
theorem z_mul_rep : dMul (.lst xs) (.int k) μ Q = (-(2 ^ 63) ≤ k ∧ k < 2 ^ 63 ∧ xs.length * k.toNat ≤ sizeLine ∧ Q (.lst (List.replicate k.toNat xs).flatten) μ) := propext (Iff.intro (fun h => by
  rcases h with ⟨_, _, e1, e2, h⟩ | ⟨_, _, e1, e2, h⟩
  · cases e1
  · cases e1; cases e2; exact h) (fun h => .inr ⟨_, _, rfl, rfl, h⟩))
theorem ix_of {x : D} (h : see μ x = .lst xs ∨ see μ x = .tup xs) : dIx x (.int i) μ Q = ∃ d, atD xs i = some d ∧ Q d μ := propext (Iff.intro (fun h' => by
  obtain ⟨_, _, d, e, e2, h1, h2⟩ := h'
  cases e2
  rcases h with h | h <;> rcases e with e | e <;> rw [h] at e <;> cases e <;> exact ⟨d, h1, h2⟩) (fun ⟨d, h1, h2⟩ => ⟨xs, i, d, h, rfl, h1, h2⟩))
theorem z_ix_tup : dIx (.tup xs) (.int i) μ Q = ∃ d, atD xs i = some d ∧ Q d μ := ix_of (.inr rfl)
theorem z_ix_lst : dIx (.lst xs) (.int i) μ Q = ∃ d, atD xs i = some d ∧ Q d μ := ix_of (.inl rfl)
theorem z_ix_fz : dIx (.fz xs) (.int i) μ Q = ∃ d, atD xs i = some d ∧ Q d μ := ix_of (.inl rfl)
theorem z_ix_ref (h : μ a = some (.lst xs)) : dIx (.ref a) (.int i) μ Q = ∃ d, atD xs i = some d ∧ Q d μ := ix_of (.inl (see_ref h))
theorem len_of {x : D} (h : see μ x = .lst xs ∨ see μ x = .tup xs) : fLen [x] μ Q = Q (.int (xs.length : Nat)) μ := propext (Iff.intro (fun h' => by
  obtain ⟨d, _, e1, e, h2⟩ := h'
  cases e1
  rcases h with h | h <;> rcases e with e | e <;> rw [h] at e <;> cases e <;> exact h2) (fun h2 => ⟨x, xs, rfl, h, h2⟩))
theorem z_len_tup : fLen [.tup xs] μ Q = Q (.int (xs.length : Nat)) μ := len_of (.inr rfl)
theorem z_len_lst : fLen [.lst xs] μ Q = Q (.int (xs.length : Nat)) μ := len_of (.inl rfl)
theorem z_len_fz : fLen [.fz xs] μ Q = Q (.int (xs.length : Nat)) μ := len_of (.inl rfl)
theorem z_len_ref (h : μ a = some (.lst xs)) : fLen [.ref a] μ Q = Q (.int (xs.length : Nat)) μ := len_of (.inl (see_ref h))
theorem z_abs : fAbs [.int i] μ Q = Q (.int (iabs i)) μ := propext (Iff.intro (fun ⟨_, e, h⟩ => by cases e; exact h) (fun h => ⟨_, rfl, h⟩))
theorem z_max2 : fMax2 [.int i, .int j] μ Q = Q (.int (if j > i then j else i)) μ := propext (Iff.intro (fun ⟨_, _, e, h⟩ => by cases e; exact h) (fun h => ⟨_, _, rfl, h⟩))
theorem z_min2 : fMin2 [.int i, .int j] μ Q = Q (.int (if j < i then j else i)) μ := propext (Iff.intro (fun ⟨_, _, e, h⟩ => by cases e; exact h) (fun h => ⟨_, _, rfl, h⟩))
theorem z_int_int : fInt [.int i] μ Q = Q (.int i) μ := propext (Iff.intro (fun h => by
  rcases h with ⟨_, e, h⟩ | ⟨_, e, h⟩
  · cases e; exact h
  · cases e) (fun h => .inl ⟨_, rfl, h⟩))
theorem z_int_bl {b : Bool} : fInt [.bl b] μ Q = Q (.int (if b then 1 else 0)) μ := propext (Iff.intro (fun h => by
  rcases h with ⟨_, e, h⟩ | ⟨_, e, h⟩
  · cases e
  · cases e; exact h) (fun h => .inr ⟨_, rfl, h⟩))
theorem z_is : dIs d .non μ Q = Q (.bl (isNone d)) μ := propext (Iff.intro (fun h => h.2) (fun h => ⟨rfl, h⟩))
theorem z_isN : dIsN d .non μ Q = Q (.bl (!isNone d)) μ := propext (Iff.intro (fun h => h.2) (fun h => ⟨rfl, h⟩))
theorem tuple_of {x : D} (h : see μ x = .lst xs ∨ see μ x = .tup xs) : fTuple [x] μ Q = Q (.tup xs) μ := propext (Iff.intro (fun h' => by
  obtain ⟨d, _, e1, e, h2⟩ := h'
  cases e1
  rcases h with h | h <;> rcases e with e | e <;> rw [h] at e <;> cases e <;> exact h2) (fun h2 => ⟨x, xs, rfl, h, h2⟩))
theorem z_tuple_tup : fTuple [.tup xs] μ Q = Q (.tup xs) μ := tuple_of (.inr rfl)
theorem z_tuple_lst : fTuple [.lst xs] μ Q = Q (.tup xs) μ := tuple_of (.inl rfl)
theorem z_tuple_ref (h : μ a = some (.lst xs)) : fTuple [.ref a] μ Q = Q (.tup xs) μ := tuple_of (.inl (see_ref h))
theorem list_of {x : D} (h : see μ x = .lst xs ∨ see μ x = .tup xs) : fList [x] μ Q = Q (.lst xs) μ := propext (Iff.intro (fun h' => by
  obtain ⟨d, _, e1, e, h2⟩ := h'
  cases e1
  rcases h with h | h <;> rcases e with e | e <;> rw [h] at e <;> cases e <;> exact h2) (fun h2 => ⟨x, xs, rfl, h, h2⟩))
theorem listM_of {x : D} (h : see μ x = .lst xs ∨ see μ x = .tup xs) : fListM [x] μ Q = ∀ p, μ p = none → Q (.ref p) (mput μ p (.lst xs)) := propext (Iff.intro (fun h' => by
  obtain ⟨d, _, e1, e, h2⟩ := h'
  cases e1
  rcases h with h | h <;> rcases e with e | e <;> rw [h] at e <;> cases e <;> exact h2) (fun h2 => ⟨x, xs, rfl, h, h2⟩))
theorem all_of {x : D} {bs : List Bool} (h : see μ x = .lst (bs.map D.bl)) (q : Q (.bl (bs.all id)) μ) : fAll [x] μ Q := ⟨x, bs, rfl, h, q⟩
theorem any_of {x : D} {bs : List Bool} (h : see μ x = .lst (bs.map D.bl)) (q : Q (.bl (bs.any id)) μ) : fAny [x] μ Q := ⟨x, bs, rfl, h, q⟩
theorem sum_of {x : D} {ns : List Int} (h : see μ x = .lst (ns.map D.int)) (q : Q (.int ns.sum) μ) : fSum [x] μ Q := ⟨x, ns, rfl, h, q⟩
theorem z_seb {G : Bool → Prop} {b : Bool} : (∃ c, D.bl b = D.bl c ∧ G c) = G b := propext (Iff.intro (fun ⟨_, e, h⟩ => by cases e; exact h) (fun h => ⟨_, rfl, h⟩))
theorem z_sei {G : Int → Prop} {b : Int} : (∃ c, D.int b = D.int c ∧ G c) = G b := propext (Iff.intro (fun ⟨_, e, h⟩ => by cases e; exact h) (fun h => ⟨_, rfl, h⟩))
/-- a store to a place of a list -/
theorem z_setix {ds : List D} {R : Mu → Prop} (h : μ a = some (.lst ds)) : stIx (.ref a) (.int i) d μ R = ∃ j, ixN ds.length i = some j ∧ R (mput μ a (.lst (ds.set j d))) := propext (Iff.intro
  (fun ⟨_, _, _, j, e1, e2, e3, h1, h2⟩ => by cases e1; cases e2; rw [h] at e3; cases e3; exact ⟨j, h1, h2⟩) (fun ⟨j, h1, h2⟩ => ⟨a, ds, i, j, rfl, rfl, h, h1, h2⟩))
/-- a method of a list -/
theorem z_isL {ds : List D} {R : Addr → Prop} (h : μ a = some (.lst ds)) : isL (.ref a) μ R = R a := propext (Iff.intro
  (fun ⟨_, _, e1, e2, h⟩ => by cases e1; exact h) (fun h' => ⟨a, ds, rfl, h, h'⟩))
theorem z_onL {op : Addr → List D → List D → Mu → DQ → Prop} {ds as : List D} (h : μ a = some (.lst ds)) : onL op a as μ Q = op a ds as μ Q := propext (Iff.intro
  (fun ⟨_, e, q⟩ => by rw [h] at e; cases e; exact q) (fun q => ⟨ds, h, q⟩))
theorem z_append {ds : List D} {x : D} : mAppend a ds [x] μ Q = (ds.length < sizeLine ∧ Q .non (mput μ a (.lst (ds ++ [x])))) := propext (Iff.intro
  (fun ⟨_, e, h⟩ => by cases e; exact h) (fun h => ⟨_, rfl, h⟩))
/-- pots -/
theorem pot_ix0 {g s c : Int} (h : μ a = some (potO g s c)) : dIx (.ref a) (.int 0) μ Q = Q (.int g) μ := by
  rw [z_ix_ref h]
  exact propext (Iff.intro (fun ⟨d, e, q⟩ => by cases e; exact q) (fun q => ⟨_, rfl, q⟩))
theorem pot_ix1 {g s c : Int} (h : μ a = some (potO g s c)) : dIx (.ref a) (.int 1) μ Q = Q (.int s) μ := by
  rw [z_ix_ref h]
  exact propext (Iff.intro (fun ⟨d, e, q⟩ => by cases e; exact q) (fun q => ⟨_, rfl, q⟩))
theorem pot_ix2 {g s c : Int} (h : μ a = some (potO g s c)) : dIx (.ref a) (.int 2) μ Q = Q (.int c) μ := by
  rw [z_ix_ref h]
  exact propext (Iff.intro (fun ⟨d, e, q⟩ => by cases e; exact q) (fun q => ⟨_, rfl, q⟩))
theorem pot_set0 {g s c g' : Int} {R : Mu → Prop} (h : μ a = some (potO g s c)) : stIx (.ref a) (.int 0) (.int g') μ R = R (mput μ a (potO g' s c)) := by
  rw [z_setix h]
  exact propext (Iff.intro (fun ⟨d, e, q⟩ => by cases e; exact q) (fun q => ⟨_, rfl, q⟩))
theorem pot_set2 {g s c g' : Int} {R : Mu → Prop} (h : μ a = some (potO g s c)) : stIx (.ref a) (.int 2) (.int g') μ R = R (mput μ a (potO g s g')) := by
  rw [z_setix h]
  exact propext (Iff.intro (fun ⟨d, e, q⟩ => by cases e; exact q) (fun q => ⟨_, rfl, q⟩))
end
/-- a cut behind a statement -/
theorem seq_cut {t u : DTS} {E : DEnds} {ρ : Rho} {μ : Mu} (h : ∀ N : Rho → Mu → Prop, (∀ ρ μ, u E ρ μ → N ρ μ) → t { E with nx := N } ρ μ) : dSeq t u E ρ μ := h _ fun _ _ q => q
theorem fin_of {Q : DQ} {d : D} {μ : Mu} (h : Q d μ) : fin Q d μ := ⟨μ, Sub.refl, h⟩
theorem fin_sub {Q : DQ} {d : D} {μ μ' : Mu} (s : Sub μ μ') (h : Q d μ) : fin Q d μ' := ⟨μ, s, h⟩
section
variable {ρ : Rho} {μ : Mu}
theorem z_tp {n : Nat} {gs : DGl} {ds : List D} {Q : Rho → Mu → Prop} : gTp n gs (.tup ds) ρ μ Q = (ds.length = n ∧ gs ds ρ μ Q) := propext (Iff.intro (fun ⟨_, e, h⟩ => by cases e; exact h) fun h => ⟨_, rfl, h⟩)
theorem z_gsc {g : DG} {gs : DGl} {d : D} {r : List D} {Q : Rho → Mu → Prop} : gsCons g gs (d :: r) ρ μ Q = g d ρ μ fun ρ1 μ1 => gs r ρ1 μ1 Q := propext (Iff.intro (fun ⟨_, _, e, h⟩ => by cases e; exact h) fun h => ⟨_, _, rfl, h⟩)
theorem z_gsn {Q : Rho → Mu → Prop} : gsNil [] ρ μ Q = Q ρ μ := propext (Iff.intro (fun h => h.2) fun h => ⟨rfl, h⟩)
theorem z_two {a b : D} {P : D → D → Prop} : (∃ d d', [a, b] = [d, d'] ∧ P d d') = P a b := propext (Iff.intro (fun ⟨_, _, e, h⟩ => by cases e; exact h) fun h => ⟨_, _, rfl, h⟩)
theorem z_three {a b c : D} {P : D → D → D → Prop} : (∃ d d' d'', [a, b, c] = [d, d', d''] ∧ P d d' d'') = P a b c := propext (Iff.intro (fun ⟨_, _, _, e, h⟩ => by cases e; exact h) fun h => ⟨_, _, _, rfl, h⟩)
theorem z_some {m : Int} {P : Int → Prop} : (∃ k, some (some (D.int m)) = some (some (D.int k)) ∧ P k) = P m := propext (Iff.intro (fun ⟨_, e, h⟩ => by cases e; exact h) fun h => ⟨_, rfl, h⟩)
end
end DL

local macro_rules | `(tactic| simp only [dSim] $(l)?) => `(tactic| simp only [DL.dSeq, DL.dIfS, DL.dT, DL.dTru, DL.dOp, DL.dChain, DL.dC, DL.dVar, DL.dAsg, DL.gN, DL.z_tp, DL.z_gsc, DL.z_gsn, DL.z_two, DL.z_three, DL.z_some, DL.gSb, DL.dRet, DL.dRetN, DL.dNext, DL.dBreak, DL.dCont, DL.dDrop, DL.dPar, DL.dPar3, DL.dAug, DL.dAugM, DL.dCons, DL.dNil, DL.dTup, DL.dLst, DL.dLstM, DL.dCB, DL.dCall, DL.dCallK, DL.dAnd, DL.dOr, DL.dNot, DL.dAndV, DL.dOrV, DL.dNotV, DL.dIf, DL.dNeg, DL.dSl, DL.dNoP, DL.dPt, DL.dMl, DL.z_I2, DL.z_add_int, DL.z_add_tup, DL.z_add_lst, DL.z_mul_int, DL.z_mul_rep, DL.z_ix_tup, DL.z_ix_lst, DL.z_ix_fz, DL.z_len_tup, DL.z_len_lst, DL.z_len_fz, DL.z_abs, DL.z_max2, DL.z_min2, DL.z_int_int, DL.z_int_bl, DL.z_is, DL.z_isN, DL.z_tuple_tup, DL.z_tuple_lst, DL.z_seb, DL.z_sei, DL.z_repr, DL.z_eqS, DL.z_neS, DL.z_ltT, DL.z_isB, DL.z_mulT, DL.z_str, DL.dNewD, DL.z_isNB, DL.dFrzD, DL.dGet2, DL.dLstRg, DL.dLstRgM, DL.dTupRg, DL.dRg1, DL.dRg2, DL.dstart, List.getElem?_cons_zero, List.getElem?_cons_succ, List.set_cons_zero, List.set_cons_succ, List.append_nil, List.nil_append, List.cons_append, true_and, and_true, List.map_cons, List.map_nil, List.length_cons, List.length_nil, List.replicate_succ, List.replicate_zero] $(l)?)
local macro_rules | `(tactic| simp only [dSim, $ts,*] $(l)?) => `(tactic| simp only [DL.dSeq, DL.dIfS, DL.dT, DL.dTru, DL.dOp, DL.dChain, DL.dC, DL.dVar, DL.dAsg, DL.gN, DL.z_tp, DL.z_gsc, DL.z_gsn, DL.z_two, DL.z_three, DL.z_some, DL.gSb, DL.dRet, DL.dRetN, DL.dNext, DL.dBreak, DL.dCont, DL.dDrop, DL.dPar, DL.dPar3, DL.dAug, DL.dAugM, DL.dCons, DL.dNil, DL.dTup, DL.dLst, DL.dLstM, DL.dCB, DL.dCall, DL.dCallK, DL.dAnd, DL.dOr, DL.dNot, DL.dAndV, DL.dOrV, DL.dNotV, DL.dIf, DL.dNeg, DL.dSl, DL.dNoP, DL.dPt, DL.dMl, DL.z_I2, DL.z_add_int, DL.z_add_tup, DL.z_add_lst, DL.z_mul_int, DL.z_mul_rep, DL.z_ix_tup, DL.z_ix_lst, DL.z_ix_fz, DL.z_len_tup, DL.z_len_lst, DL.z_len_fz, DL.z_abs, DL.z_max2, DL.z_min2, DL.z_int_int, DL.z_int_bl, DL.z_is, DL.z_isN, DL.z_tuple_tup, DL.z_tuple_lst, DL.z_seb, DL.z_sei, DL.z_repr, DL.z_eqS, DL.z_neS, DL.z_ltT, DL.z_isB, DL.z_mulT, DL.z_str, DL.dNewD, DL.z_isNB, DL.dFrzD, DL.dGet2, DL.dLstRg, DL.dLstRgM, DL.dTupRg, DL.dRg1, DL.dRg2, DL.dstart, List.getElem?_cons_zero, List.getElem?_cons_succ, List.set_cons_zero, List.set_cons_succ, List.append_nil, List.nil_append, List.cons_append, true_and, and_true, List.map_cons, List.map_nil, List.length_cons, List.length_nil, List.replicate_succ, List.replicate_zero, $ts,*] $(l)?)
namespace DL
open PySem PySem.Spec PyProof.Rows L2
def w_take1 : DTS :=
  (dSeq (dIfS (dT (dOp oGt (dOp dIx (dVar 0) (dC (.int 0))) (dC (.int 0)))) (dSeq (dAsg (dOp oMod (dOp dIx (dVar 0) (dC (.int 0))) (dVar 1)) (gN 2))
  (dSeq (dAsg (dOp oFdiv (dOp dIx (dVar 0) (dC (.int 0))) (dVar 1)) (gSb (dVar 0) (dC (.int 0))))
  (dRet (dVar 2)))) dNext)
  (dSeq (dAsg (dOp dAdd (dOp dIx (dVar 0) (dC (.int 2))) (dC (.int 1))) (gSb (dVar 0) (dC (.int 2))))
  (dSeq (dAsg (dOp dAdd (dOp dIx (dVar 0) (dC (.int 1))) (dOp dMul (dC (.int 15485863)) (dOp dIx (dVar 0) (dC (.int 2))))) (gN 3))
  (dSeq (dAsg (dOp dAdd (dOp dAdd (dOp oMod (dOp dIx (dVar 0) (dC (.int 1))) (dC (.int 7919))) (dOp dMul (dC (.int 32452867)) (dOp dIx (dVar 0) (dC (.int 2))))) (dC (.int 17))) (gN 4))
  (dSeq (dAsg (dOp oMod (dOp dMul (dVar 3) (dVar 4)) (dC (.int 2305843009213693951))) (gN 5))
  (dSeq (dAsg (dOp dAdd (dOp dAdd (dOp oMod (dVar 5) (dC (.int 1000003))) (dOp dMul (dC (.int 6700417)) (dOp dIx (dVar 0) (dC (.int 2))))) (dC (.int 3))) (gN 6))
  (dRet (dOp oMod (dOp oFdiv (dOp oMod (dOp dMul (dOp dAdd (dVar 5) (dC (.int 19))) (dVar 6)) (dC (.int 2305843009213693907))) (dC (.int 64))) (dVar 1)))))))))
theorem take1_ok (N : List Str) (hN : N.length = 7) : ∀ ds μ Q, cTake ds μ Q → w_take1 { nx := fun _ μ' => fin Q .non μ', rt := fin Q } (dstart N ds) μ := by
  intro ds μ Q h
  obtain ⟨a, k, n, rfl, hk, hk2, ⟨g, s, c, e, hg, hs, hc0, hc⟩, hn, q⟩ := h
  unfold w_take1
  simp only [dSim, hN, pot_ix0 e, pot_ix1 e, pot_ix2 e, pot_set0 e, pot_set2 e]
  split
  · refine ⟨hk, divOk hk (Int.lt_trans hk2 (by decide)), fin_of (q _ _ (Int.emod_nonneg _ (by omega)) (Int.emod_lt_of_pos _ hk) Keep.refl.put ⟨_, _, _, mput_same, ?_, hs, hc0, by omega⟩)⟩
    exact Int.ediv_nonneg hg (Int.le_of_lt hk)
  · have e2 : mput μ a (potO g s (c + 1)) a = some (potO g s (c + 1)) := mput_same
    simp only [dSim, pot_ix0 e2, pot_ix1 e2, pot_ix2 e2]
    refine ⟨mulOk (by omega) (by omega) (by omega) (by omega), by decide, mulOk (by omega) (by omega) (by omega) (by omega), mulOk (by omega) (by omega) (by omega) (by omega), by decide, by decide, mulOk (by omega) (by omega) (by omega) (by omega), mulOk (by omega) (by omega) (by omega) (by omega), by decide, divOk (by decide) (by decide), hk, ?_⟩
    exact fin_of (q _ _ (Int.emod_nonneg _ (by omega)) (Int.emod_lt_of_pos _ hk) Keep.refl.put ⟨_, _, _, mput_same, hg, hs, by omega, by omega⟩)
def w_pot1 : DTS :=
  (dSeq (dAsg (dIf (dT (dOp oLt (dVar 1) (dCB fLen (dCons (dVar 0) dNil)))) (dOp dIx (dVar 0) (dVar 1)) (dC (.int 0))) (gN 2))
  (dSeq (dAsg (dIf (dT (dOp oGe (dCB fAbs (dCons (dVar 2) dNil)) (dOp oPow (dC (.int 10)) (dC (.int 18))))) (dOp oMod (dCB fAbs (dCons (dVar 2) dNil)) (dOp oPow (dOp oPow (dC (.int 10)) (dC (.int 60))) (dC (.int 4)))) (dC (.int 0))) (gN 3))
  (dRet (dLstM (dCons (dVar 3) (dCons (dOp oMod (dOp dAdd (dOp dAdd (dOp dMul (dOp oMod (dVar 2) (dC (.int 2305843009213693951))) (dC (.int 1000003))) (dOp dMul (dOp dMul (dC (.int 7919)) (dVar 1)) (dVar 1))) (dC (.int 61))) (dC (.int 2305843009213693921))) (dCons (dC (.int 0)) dNil)))))))
theorem powOk {i j : Int} (h : Builtin.Int.intBits i ≤ 1000) (h0 : 0 ≤ j) (h1 : j ≤ 1000) : PowOk i j := by
  refine ⟨h0, ?_⟩
  have h2 : (Builtin.Int.intBits i : Int) ≤ 1000 := by omega
  have h3 : (Builtin.Int.intBits i : Int) * j ≤ 1000 * 1000 := Int.mul_le_mul h2 h1 h0 (by decide)
  exact Int.le_trans h3 (by decide)
theorem at_fz {ns : List Int} {j : Nat} (h : j < ns.length) : atD (ns.map D.int) (j : Nat) = some (.int ns[j]) := by
  have e : ixN (ns.map D.int).length (j : Nat) = some j := by
    unfold ixN
    rw [if_pos (by omega), if_pos (by rw [List.length_map]; omega)]
    rfl
  unfold atD
  rw [e]
  show (ns.map D.int)[j]? = _
  rw [List.getElem?_map, List.getElem?_eq_getElem h]
  rfl
theorem pot1_ok (N : List Str) (hN : N.length = 4) : ∀ ds μ Q, cPot ds μ Q → w_pot1 { nx := fun _ μ' => fin Q .non μ', rt := fin Q } (dstart N ds) μ := by
  intro ds μ Q h
  obtain ⟨ns, j, rfl, hl, hj, q⟩ := h
  have e0 : dstart N [.fz (ns.map D.int), .int (j : Nat)] = [some (.fz (ns.map D.int)), some (.int j), none, none] := by
    unfold dstart
    rw [hN]
    rfl
  rw [e0]
  unfold w_pot1
  refine seq_cut fun R hR => ?_
  have go : ∀ cell : Int, R [some (.fz (ns.map D.int)), some (.int j), some (.int cell), none] μ := fun cell => by
    refine hR _ _ (seq_cut fun R2 hR2 => ?_)
    have go2 : ∀ g : Int, 0 ≤ g → R2 [some (.fz (ns.map D.int)), some (.int j), some (.int cell), some (.int g)] μ := fun g hg => by
      refine hR2 _ _ ?_
      simp only [dSim]
      refine ⟨by decide, mulOk (by omega) (by omega) (by omega) (by omega), mulOk (by omega) (by omega) (by omega) (by omega), mulOk (by omega) (by omega) (by omega) (by omega), by decide, by decide, fun p hp => ?_⟩
      exact fin_of (q p _ hp Keep.refl.put ⟨_, _, _, mput_same, hg, ⟨Int.emod_nonneg _ (by decide), by omega⟩, by decide, by decide⟩)
    simp only [dSim]
    refine ⟨powOk (by decide) (by decide) (by decide), ?_⟩
    split
    · refine ⟨powOk (by decide) (by decide) (by decide), powOk (by decide +kernel) (by decide) (by decide), by decide +kernel, go2 _ (Int.emod_nonneg _ (by decide +kernel))⟩
    · exact go2 _ (by decide)
  simp only [dSim]
  split
  · rename_i h
    have h2 : j < ns.length := by
      have := of_decide_eq_true h
      rw [List.length_map] at this
      omega
    exact ⟨_, at_fz h2, go _⟩
  · exact go _
end DL

namespace DL
open PySem PySem.Spec PyProof.Rows L2
theorem rng_at {n i : Nat} {d : D} (h : (rng 0 n)[i]? = some d) : i < n ∧ d = .int (i : Nat) := by
  obtain ⟨h1, h2⟩ := rng_get.mp h
  refine ⟨h1, ?_⟩
  rw [h2]
  congr 1
  omega
/-- a comprehension over 0, 1, .. -/
theorem lc_rng {te : DT} {G : Mu → Prop} {ρ0 : Rho} {Q : List D → Mu → Prop} {n s : Nat} {μ : Mu} (f : Nat → D) (hG : G μ) (hn : n ≤ sizeLine)
    (hs : ∀ (i : Nat) (K : D → Mu → Prop), i < n → K (f i) μ → te (ρ0.set s (some (.int (i : Nat)))) μ K) (hd : Q ((List.range n).map f) μ) : lcGo (gN s) dYes te G ρ0 Q (rng 0 n) [] μ := by
  refine lc_inv (fun i acc μ' => μ' = μ ∧ acc = (List.range i).map f) ⟨rfl, rfl⟩ (fun i acc μ' _ h => by rw [h.1]; exact hG) (fun i d acc μ' N hi h hN => ?_) fun acc μ' h => ?_
  · obtain ⟨rfl, rfl⟩ := h
    obtain ⟨h1, rfl⟩ := rng_at hi
    show te (ρ0.set s _) μ' _
    refine hs i _ h1 ⟨by rw [List.length_map, List.length_range]; omega, hN _ _ ⟨rfl, ?_⟩⟩
    rw [List.range_succ, List.map_append]
    rfl
  · obtain ⟨rfl, rfl⟩ := h
    rw [rng_len]
    exact hd
/-- a comprehension over given items, without tests -/
theorem lc_map {te : DT} {G : Mu → Prop} {ρ0 : Rho} {Q : List D → Mu → Prop} {s : Nat} {μ : Mu} {items : List D} (f : D → D) (hG : G μ) (hn : items.length ≤ sizeLine)
    (hs : ∀ (d : D) (K : D → Mu → Prop), d ∈ items → K (f d) μ → te (ρ0.set s (some d)) μ K) (hd : Q (items.map f) μ) : lcGo (gN s) dYes te G ρ0 Q items [] μ := by
  refine lc_pure (fun _ => true) f hG hn (fun i d K1 K2 hi h1 _ => ?_) (by rw [List.filter_eq_self.mpr fun _ _ => rfl]; exact hd)
  exact hs d K1 (List.mem_of_getElem? hi) (h1 rfl)
/-- .. with one test -/
theorem lc_filter {tt : DB} {te : DT} {G : Mu → Prop} {ρ0 : Rho} {Q : List D → Mu → Prop} {s : Nat} {μ : Mu} {items : List D} (p : D → Bool) (f : D → D) (hG : G μ) (hn : items.length ≤ sizeLine)
    (ht : ∀ (d : D) (K : Bool → Mu → Prop), d ∈ items → K (p d) μ → tt (ρ0.set s (some d)) μ K)
    (hs : ∀ (d : D) (K : D → Mu → Prop), d ∈ items → p d = true → K (f d) μ → te (ρ0.set s (some d)) μ K) (hd : Q ((items.filter p).map f) μ) : lcGo (gN s) tt te G ρ0 Q items [] μ := by
  refine lc_pure p f hG hn (fun i d K1 K2 hi h1 h2 => ?_) hd
  refine ht d _ (List.mem_of_getElem? hi) ?_
  cases e : p d with
  | true => exact hs d K1 (List.mem_of_getElem? hi) e (h1 e)
  | false => exact h2 e
theorem ixN_nat {n j : Nat} (h : j < n) : ixN n (j : Nat) = some j := by
  unfold ixN
  rw [if_pos (by omega), if_pos (by omega)]
  rfl
theorem at_nat {xs : List D} {j : Nat} (h : j < xs.length) : atD xs (j : Nat) = some xs[j] := by
  unfold atD
  rw [ixN_nat h]
  exact List.getElem?_eq_getElem h
theorem at_nat' {xs : List D} {j : Nat} {d : D} (h : xs[j]? = some d) : atD xs (j : Nat) = some d := by
  obtain ⟨h1, h2⟩ := List.getElem?_eq_some_iff.mp h
  rw [at_nat h1, h2]
theorem at_last {xs : List D} {d : D} (h : xs[xs.length - 1]? = some d) : atD xs (-1) = some d := by
  obtain ⟨h1, h2⟩ := List.getElem?_eq_some_iff.mp h
  have e : ixN xs.length (-1) = some (xs.length - 1) := by
    unfold ixN
    rw [if_neg (by decide), if_pos (by omega)]
    congr 1
    omega
  unfold atD
  rw [e]
  exact h
/-! ### == of lists of ints -/
theorem pl_ints (ns : List Int) : ∀ n, plDs n (ns.map D.int) = true := fun n => by
  induction ns with
  | nil => simp [plDs]
  | cons x r ih => simp [plDs, plD, ih]
theorem Pl_int {i : Int} : Pl (.int i) := by simp [Pl, plD]
theorem Pl_bl {i : Bool} : Pl (.bl i) := by simp [Pl, plD]
theorem Pl_non : Pl .non := by simp [Pl, plD]
theorem Pl_lints {ns : List Int} : Pl (.lst (ns.map D.int)) := by
  unfold Pl
  rw [plD]
  exact pl_ints ns _
theorem Pl_tints {ns : List Int} : Pl (.tup (ns.map D.int)) := by
  unfold Pl
  rw [plD]
  exact pl_ints ns _
theorem eqvAll_ints : ∀ (ns ms : List Int), PyData.eqvAll (toPys (ns.map D.int)) (toPys (ms.map D.int)) = decide (ns = ms)
  | [], [] => by simp [toPys, PyData.eqvAll]
  | [], _ :: _ => by simp [toPys, PyData.eqvAll]
  | _ :: _, [] => by simp [toPys, PyData.eqvAll]
  | n :: ns, m :: ms => by
    rw [List.map_cons, List.map_cons, toPys, toPys, PyData.eqvAll, eqvAll_ints ns ms, toPy, toPy, PyData.eqv]
    by_cases h : n = m
    · subst h
      simp
    · simp [h]
theorem eqD_int {i j : Int} : eqD (.int i) (.int j) = decide (i = j) := by
  show PyData.eqv (toPy (.int i)) (toPy (.int j)) = _
  rw [toPy, toPy, PyData.eqv]
  rfl
theorem eqD_lints {ns ms : List Int} : eqD (.lst (ns.map D.int)) (.lst (ms.map D.int)) = decide (ns = ms) := by
  show PyData.eqv (toPy _) (toPy _) = _
  rw [toPy, toPy, PyData.eqv, eqvAll_ints]
theorem eqD_tints {ns ms : List Int} : eqD (.tup (ns.map D.int)) (.tup (ms.map D.int)) = decide (ns = ms) := by
  show PyData.eqv (toPy _) (toPy _) = _
  rw [toPy, toPy, PyData.eqv, eqvAll_ints]
theorem ne_ints {i j : Int} {μ : Mu} {Q : DQ} (h : Q (.bl (!decide (i = j))) μ) : dNe (.int i) (.int j) μ Q := ⟨Pl_int, Pl_int, by rw [see_int, see_int, eqD_int]; exact h⟩
theorem z_ne_int {i j : Int} {μ : Mu} {Q : DQ} : dNe (.int i) (.int j) μ Q = Q (.bl (!decide (i = j))) μ := propext (Iff.intro (fun h => by
  have := h.2.2
  rw [see_int, see_int, eqD_int] at this
  exact this) ne_ints)
theorem z_eq_int {i j : Int} {μ : Mu} {Q : DQ} : dEq (.int i) (.int j) μ Q = Q (.bl (decide (i = j))) μ := propext (Iff.intro (fun h => by
  have := h.2.2
  rw [see_int, see_int, eqD_int] at this
  exact this) (fun h => ⟨Pl_int, Pl_int, by rw [see_int, see_int, eqD_int]; exact h⟩))
theorem z_isi {d : D} {T : String} {b : Bool} {μ : Mu} {Q : DQ} (h1 : tyOk (see μ d) = true) (h2 : notFz d = true) (h3 : kitB (tyN (see μ d)) T = some b) : fIsi [d, .ty T] μ Q = Q (.bl b) μ := propext (Iff.intro
  (fun ⟨d', T', b', e, _, _, e3, q⟩ => by cases e; rw [h3] at e3; cases e3; exact q) (fun q => ⟨d, T, b, rfl, h1, h2, h3, q⟩))
theorem z_isi_int_bool {i : Int} {μ : Mu} {Q : DQ} : fIsi [.int i, .ty "bool"] μ Q = Q (.bl false) μ := z_isi rfl rfl (show kitB "int" "bool" = some false by decide +kernel)
theorem z_isi_int_int {i : Int} {μ : Mu} {Q : DQ} : fIsi [.int i, .ty "int"] μ Q = Q (.bl true) μ := z_isi rfl rfl (show kitB "int" "int" = some true by decide +kernel)
theorem z_isi_bl_bool {i : Bool} {μ : Mu} {Q : DQ} : fIsi [.bl i, .ty "bool"] μ Q = Q (.bl true) μ := z_isi rfl rfl (show kitB "bool" "bool" = some true by decide +kernel)
theorem z_isi_bl_int {i : Bool} {μ : Mu} {Q : DQ} : fIsi [.bl i, .ty "int"] μ Q = Q (.bl true) μ := z_isi rfl rfl (show kitB "bool" "int" = some true by decide +kernel)
/-- a comprehension over data made of xs -/
theorem lc_gen {α : Type} {tt : DB} {te : DT} {G : Mu → Prop} {ρ0 : Rho} {Q : List D → Mu → Prop} {s : Nat} {μ : Mu} (xs : List α) (g : α → D) (p : α → Bool) (f : α → D) (hG : G μ) (hn : xs.length ≤ sizeLine)
    (ht : ∀ (x : α) (K : Bool → Mu → Prop), x ∈ xs → K (p x) μ → tt (ρ0.set s (some (g x))) μ K)
    (hs : ∀ (x : α) (K : D → Mu → Prop), x ∈ xs → p x = true → K (f x) μ → te (ρ0.set s (some (g x))) μ K) (hd : Q ((xs.filter p).map f) μ) : lcGo (gN s) tt te G ρ0 Q (xs.map g) [] μ := by
  refine lc_inv (fun i acc μ' => μ' = μ ∧ acc = ((xs.take i).filter p).map f) ⟨rfl, rfl⟩ (fun i acc μ' _ h => by rw [h.1]; exact hG) (fun i d acc μ' N hi h hN => ?_) fun acc μ' h => ?_
  · obtain ⟨rfl, rfl⟩ := h
    rw [List.getElem?_map] at hi
    cases e : xs[i]? with
    | none => rw [e] at hi; cases hi
    | some x =>
      rw [e] at hi
      cases hi
      have hm := List.mem_of_getElem? e
      have et : (xs.take (i + 1)) = xs.take i ++ [x] := by
        rw [List.take_succ, e]
        rfl
      refine ht x _ hm ?_
      cases hp : p x with
      | true =>
        rw [if_pos rfl]
        refine hs x _ hm hp ⟨?_, hN _ _ ⟨rfl, ?_⟩⟩
        · rw [List.length_map]
          have h1 := List.length_filter_le p (xs.take i)
          have h2 := (List.getElem?_eq_some_iff.mp e).1
          rw [List.length_take] at h1
          omega
        · rw [et, List.filter_append, List.map_append, List.filter_cons, if_pos hp]
          rfl
      | false =>
        rw [if_neg (by decide)]
        refine hN _ _ ⟨rfl, ?_⟩
        rw [et, List.filter_append, List.filter_cons, if_neg (by rw [hp]; decide), List.filter_nil, List.append_nil]
  · obtain ⟨rfl, rfl⟩ := h
    rw [List.length_map, List.take_length]
    exact hd
/-- .. without tests -/
theorem lc_gen1 {α : Type} {te : DT} {G : Mu → Prop} {ρ0 : Rho} {Q : List D → Mu → Prop} {s : Nat} {μ : Mu} (xs : List α) (g : α → D) (f : α → D) (hG : G μ) (hn : xs.length ≤ sizeLine)
    (hs : ∀ (x : α) (K : D → Mu → Prop), x ∈ xs → K (f x) μ → te (ρ0.set s (some (g x))) μ K) (hd : Q (xs.map f) μ) : lcGo (gN s) dYes te G ρ0 Q (xs.map g) [] μ :=
  lc_gen xs g (fun _ => true) f hG hn (fun x K _ hK => hK) (fun x K hm _ hK => hs x K hm hK) (by rw [List.filter_eq_self.mpr fun _ _ => rfl]; exact hd)
/-- a comprehension whose parts change the store: what is made stands for ys, of which each is R -/
theorem lc_eff {α β : Type} {te : DT} {G : Mu → Prop} {ρ0 : Rho} {Q : List D → Mu → Prop} {s : Nat} {μ : Mu} (xs : List α) (g : α → D) (f : β → D) (R : α → β → Prop) (P : Nat → Mu → Prop) (h0 : P 0 μ) (hG : ∀ i μ, P i μ → G μ) (hn : xs.length ≤ sizeLine)
    (hs : ∀ (i : Nat) (x : α) (μ' : Mu) (K : D → Mu → Prop), xs[i]? = some x → P i μ' → (∀ y μ2, R x y → P (i + 1) μ2 → K (f y) μ2) → te (ρ0.set s (some (g x))) μ' K)
    (hd : ∀ (ys : List β) (μ' : Mu), ys.length = xs.length → (∀ (i : Nat) x y, xs[i]? = some x → ys[i]? = some y → R x y) → P xs.length μ' → Q (ys.map f) μ') : lcGo (gN s) dYes te G ρ0 Q (xs.map g) [] μ := by
  refine lc_inv (fun i acc μ' => ∃ ys : List β, acc = ys.map f ∧ ys.length = i ∧ (∀ (j : Nat) x y, xs[j]? = some x → ys[j]? = some y → R x y) ∧ P i μ') ⟨[], rfl, rfl, fun j x y _ e => by simp at e, h0⟩ (fun i acc μ' _ ⟨_, _, _, _, h⟩ => hG _ _ h) (fun i d acc μ' N hi h hN => ?_) fun acc μ' h => ?_
  · obtain ⟨ys, rfl, hl, hR, hP⟩ := h
    rw [List.getElem?_map] at hi
    cases e : xs[i]? with
    | none => rw [e] at hi; cases hi
    | some x =>
      rw [e] at hi
      cases hi
      have h2 := (List.getElem?_eq_some_iff.mp e).1
      show te (ρ0.set s (some (g x))) μ' _
      refine hs i x μ' _ e hP fun y μ2 hy hP2 => ⟨by rw [List.length_map]; omega, hN _ _ ⟨ys ++ [y], by simp, by simp [hl], fun j x' y' h3 h4 => ?_, hP2⟩⟩
      by_cases hj : j < i
      · rw [List.getElem?_append_left (by omega)] at h4
        exact hR j x' y' h3 h4
      · have hj2 : j = i := by
          have := (List.getElem?_eq_some_iff.mp h4).1
          rw [List.length_append, List.length_cons, List.length_nil] at this
          omega
        subst hj2
        rw [List.getElem?_append_right (by omega), hl, Nat.sub_self] at h4
        rw [e] at h3
        cases h3
        cases h4
        exact hy
  · obtain ⟨ys, rfl, hl, hR, hP⟩ := h
    rw [List.length_map] at hl hP
    exact hd ys μ' hl hR hP
theorem rng_map {m : Nat} : rng 0 m = (List.range m).map fun i : Nat => D.int (i : Nat) := by
  unfold rng
  refine List.map_congr_left fun i _ => ?_
  show D.int (0 + (i : Int)) = D.int (i : Nat)
  rw [Int.zero_add]
end DL

namespace DL
open PySem PySem.Spec PyProof.Rows L2
theorem powB {i j : Int} (h1 : -(2 ^ 250) < i) (h2 : i < 2 ^ 250) (h0 : 0 ≤ j) (h3 : j ≤ 1000) : PowOk i j := powOk (by
  unfold Builtin.Int.intBits
  split
  · decide
  · exact Nat.le_trans (Nat.succ_le_succ (Nat.le_of_lt (shb_int h1 h2))) (by decide)) h0 h3
theorem pow_lt {i : Int} {k n m : Nat} (h0 : 0 ≤ i) (h : i < 2 ^ k) (e : k * n ≤ m) : 0 ≤ i ^ n ∧ i ^ n < 2 ^ m + 1 := by
  refine ⟨Int.pow_nonneg h0, ?_⟩
  obtain ⟨j, rfl⟩ : ∃ j : Nat, i = j := ⟨i.toNat, by omega⟩
  have h' : j < 2 ^ k := by exact_mod_cast h
  have : j ^ n ≤ 2 ^ m := Nat.le_trans (Nat.pow_le_pow_left (Nat.le_of_lt h') n) (by rw [← Nat.pow_mul]; exact Nat.pow_le_pow_right (by decide) e)
  have : ((j ^ n : Nat) : Int) ≤ ((2 ^ m : Nat) : Int) := by exact_mod_cast this
  push_cast at this
  omega
def w_take2 : DTS :=
  (dSeq (dIfS (dT (dOp oGt (dOp dIx (dVar 0) (dC (.int 0))) (dC (.int 0)))) (dSeq (dAsg (dOp oMod (dOp dIx (dVar 0) (dC (.int 0))) (dVar 1)) (gN 2))
  (dSeq (dAsg (dOp oFdiv (dOp dIx (dVar 0) (dC (.int 0))) (dVar 1)) (gSb (dVar 0) (dC (.int 0))))
  (dRet (dVar 2)))) dNext)
  (dSeq (dAsg (dOp dAdd (dOp dIx (dVar 0) (dC (.int 2))) (dC (.int 1))) (gSb (dVar 0) (dC (.int 2))))
  (dSeq (dAsg (dOp dIx (dLst (dCons (dC (.int 2147483647)) (dCons (dC (.int 2147483629)) (dCons (dC (.int 2147483587)) (dCons (dC (.int 2147483579)) (dCons (dC (.int 2147483563)) dNil)))))) (dOp oMod (dOp dIx (dVar 0) (dC (.int 2))) (dC (.int 5)))) (gN 3))
  (dSeq (dAsg (dOp oMod (dOp oPow (dOp dAdd (dOp dAdd (dOp dIx (dVar 0) (dC (.int 1))) (dOp dMul (dOp dMul (dC (.int 65537)) (dOp dIx (dVar 0) (dC (.int 2)))) (dOp dIx (dVar 0) (dC (.int 2))))) (dC (.int 29))) (dC (.int 3))) (dVar 3)) (gN 4))
  (dRet (dOp oMod (dOp oFdiv (dOp oMod (dOp dMul (dVar 4) (dOp dAdd (dOp oMod (dVar 4) (dC (.int 10007))) (dOp dMul (dC (.int 97)) (dOp dIx (dVar 0) (dC (.int 2)))))) (dC (.int 2305843009213693907))) (dC (.int 97))) (dVar 1)))))))
theorem take2_ok (N : List Str) (hN : N.length = 5) : ∀ ds μ Q, cTake ds μ Q → w_take2 { nx := fun _ μ' => fin Q .non μ', rt := fin Q } (dstart N ds) μ := by
  intro ds μ Q h
  obtain ⟨a, k, n, rfl, hk, hk2, ⟨g, s, c, e, hg, hs, hc0, hc⟩, hn, q⟩ := h
  unfold w_take2
  simp only [dSim, hN, pot_ix0 e, pot_ix1 e, pot_ix2 e, pot_set0 e, pot_set2 e]
  split
  · refine ⟨hk, divOk hk (Int.lt_trans hk2 (by decide)), fin_of (q _ _ (Int.emod_nonneg _ (by omega)) (Int.emod_lt_of_pos _ hk) Keep.refl.put ⟨_, _, _, mput_same, ?_, hs, hc0, by omega⟩)⟩
    exact Int.ediv_nonneg hg (Int.le_of_lt hk)
  · have e2 : mput μ a (potO g s (c + 1)) a = some (potO g s (c + 1)) := mput_same
    simp only [dSim, pot_ix0 e2, pot_ix1 e2, pot_ix2 e2]
    have sz : (0 : Int) ≤ s + 65537 * (c + 1) * (c + 1) + 29 ∧ s + 65537 * (c + 1) * (c + 1) + 29 < 2 ^ 80 := by
      have h1 : (0 : Int) ≤ c + 1 := by omega
      have h2 : c + 1 ≤ 1000000001 := by omega
      have h3 : 0 ≤ (c + 1) * (c + 1) := Int.mul_nonneg h1 h1
      have h4 : (c + 1) * (c + 1) ≤ 1000000001 * 1000000001 := Int.mul_le_mul h2 h2 h1 (by decide)
      rw [Int.mul_assoc]
      omega
    have fin2 : ∀ p : Int, 0 < p → p < 2 ^ 32 → ∀ x : Int, MulOk (x % p) (x % p % 10007 + 97 * (c + 1)) := fun p h1 h2 x => by
      have := Int.emod_nonneg x (by omega : p ≠ 0)
      have := Int.emod_lt_of_pos x h1
      exact mulOk (by omega) (by omega) (by omega) (by omega)
    have hsq : (0 : Int) ≤ 65537 * (c + 1) ∧ 65537 * (c + 1) < 2 ^ 60 := by omega
    have pr : ∃ p : Int, 0 < p ∧ p < 2 ^ 32 ∧ atD [D.int 2147483647, .int 2147483629, .int 2147483587, .int 2147483579, .int 2147483563] ((c + 1) % 5) = some (.int p) := by
      rcases (by omega : (c + 1) % 5 = 0 ∨ (c + 1) % 5 = 1 ∨ (c + 1) % 5 = 2 ∨ (c + 1) % 5 = 3 ∨ (c + 1) % 5 = 4) with h | h | h | h | h <;> rw [h]
      · exact ⟨2147483647, by decide, by decide, rfl⟩
      · exact ⟨2147483629, by decide, by decide, rfl⟩
      · exact ⟨2147483587, by decide, by decide, rfl⟩
      · exact ⟨2147483579, by decide, by decide, rfl⟩
      · exact ⟨2147483563, by decide, by decide, rfl⟩
    obtain ⟨p, hp0, hp1, hp⟩ := pr
    refine ⟨by decide, by decide, .int p, hp, ?_⟩
    simp only [dSim, pot_ix0 e2, pot_ix1 e2, pot_ix2 e2]
    refine ⟨mulOk (by omega) (by omega) (by omega) (by omega), mulOk (by omega) (by omega) (by omega) (by omega), powB (by omega) (by omega) (by decide) (by decide), hp0, by decide, mulOk (by omega) (by omega) (by omega) (by omega), fin2 p hp0 hp1 _, by decide, divOk (by decide) (by decide), hk, ?_⟩
    exact fin_of (q _ _ (Int.emod_nonneg _ (by omega)) (Int.emod_lt_of_pos _ hk) Keep.refl.put ⟨_, _, _, mput_same, hg, hs, by omega, by omega⟩)
def w_pot2 : DTS :=
  (dSeq (dAsg (dOp dAdd (dOp dMul (dC (.int 11)) (dVar 1)) (dC (.int 5))) (gN 2))
  (dSeq (dIfS (dT (dOp oLt (dVar 1) (dCB fLen (dCons (dVar 0) dNil)))) (dAsg (dOp dIx (dVar 0) (dVar 1)) (gN 2)) dNext)
  (dSeq (dAsg (dOp dMul (dOp oMod (dCB fAbs (dCons (dVar 2) dNil)) (dOp oPow (dOp oPow (dC (.int 10)) (dC (.int 60))) (dC (.int 5)))) (dCB fInt (dCons (dOp oGe (dCB fAbs (dCons (dVar 2) dNil)) (dOp oPow (dC (.int 10)) (dC (.int 18)))) dNil))) (gN 3))
  (dRet (dLstM (dCons (dVar 3) (dCons (dOp oMod (dOp dAdd (dOp dAdd (dOp dMul (dOp oMod (dVar 2) (dC (.int 2305843009213693951))) (dC (.int 48271))) (dOp dMul (dOp dMul (dC (.int 7919)) (dVar 1)) (dVar 1))) (dC (.int 13))) (dC (.int 2305843009213693921))) (dCons (dC (.int 0)) dNil))))))))
theorem mul_b {x : Int} {b : Bool} (h : 0 ≤ x) : 0 ≤ x * (if b then 1 else 0) := by
  cases b
  · simp
  · simpa using h
theorem big_mul {i m : Int} (hm : 0 < m) (h : m.natAbs < 2 ^ 400000) {b : Bool} : MulOk (i % m) (if b then 1 else 0) := by
  have h1 := Int.emod_nonneg i (by omega : m ≠ 0)
  have h2 := Int.emod_lt_of_pos i hm
  refine mulOk_of (Nat.lt_trans (by omega : (i % m).natAbs < m.natAbs) h) ?_
  have h3 : ((if b then (1 : Int) else 0)).natAbs ≤ 1 := by cases b <;> decide
  exact Nat.lt_of_le_of_lt h3 (by
    have := Nat.pow_le_pow_right (n := 2) (by decide) (by decide : 1 ≤ 400000)
    omega)
theorem ten300 : ((10 : Int) ^ (60 : Int).toNat) ^ (5 : Int).toNat = 10 ^ 300 := by decide +kernel
theorem ten_lt : ((10 : Int) ^ 300).natAbs < 2 ^ 400000 := Nat.lt_of_lt_of_le (by decide +kernel : ((10 : Int) ^ 300).natAbs < 2 ^ 1000) (Nat.pow_le_pow_right (by decide) (by decide))
theorem pot2_ok (N : List Str) (hN : N.length = 4) : ∀ ds μ Q, cPot ds μ Q → w_pot2 { nx := fun _ μ' => fin Q .non μ', rt := fin Q } (dstart N ds) μ := by
  intro ds μ Q h
  obtain ⟨ns, j, rfl, hl, hj, q⟩ := h
  have e0 : dstart N [.fz (ns.map D.int), .int (j : Nat)] = [some (.fz (ns.map D.int)), some (.int j), none, none] := by
    unfold dstart
    rw [hN]
    rfl
  rw [e0]
  unfold w_pot2
  simp only [dSim]
  have go : ∀ cell : Int, (PowOk 10 60 ∧ PowOk (10 ^ (60 : Int).toNat) 5 ∧ 0 < (10 : Int) ^ 300 ∧ PowOk 10 18 ∧ MulOk (iabs cell % (10 : Int) ^ 300) (if decide ((10 : Int) ^ (18 : Int).toNat ≤ iabs cell) = true then 1 else 0) ∧ 0 < (2305843009213693951 : Int) ∧
      MulOk (cell % 2305843009213693951) 48271 ∧ MulOk 7919 (j : Int) ∧ MulOk (7919 * (j : Int)) j ∧ 0 < (2305843009213693921 : Int) ∧ 0 + 1 + 1 + 1 ≤ sizeLine) ∧ 0 ≤ iabs cell % (10 : Int) ^ 300 * (if decide ((10 : Int) ^ (18 : Int).toNat ≤ iabs cell) = true then 1 else 0) := fun cell =>
    ⟨⟨powOk (by decide) (by decide) (by decide), powOk (by decide +kernel) (by decide) (by decide), by decide +kernel, powOk (by decide) (by decide) (by decide), big_mul (by decide +kernel) ten_lt, by decide, mulOk (by omega) (by omega) (by omega) (by omega), mulOk (by omega) (by omega) (by omega) (by omega), mulOk (by omega) (by omega) (by omega) (by omega), by decide, by decide⟩,
      mul_b (Int.emod_nonneg _ (by decide +kernel))⟩
  refine ⟨mulOk (by omega) (by omega) (by omega) (by omega), ?_⟩
  simp only [ten300]
  split
  · rename_i h
    have h2 : j < ns.length := by
      have := of_decide_eq_true h
      rw [List.length_map] at this
      omega
    refine ⟨_, at_fz h2, ?_⟩
    simp only [dSim]
    obtain ⟨⟨a1, a2, a3, a4, a5, a6, a7, a8, a9, a10, a11⟩, b⟩ := go ns[j]
    refine ⟨a1, a2, a3, a4, a5, a6, a7, a8, a9, a10, a11, fun p hp => ?_⟩
    exact fin_of (q p _ hp Keep.refl.put ⟨_, _, _, mput_same, b, ⟨Int.emod_nonneg _ (by decide), by omega⟩, by decide, by decide⟩)
  · obtain ⟨⟨a1, a2, a3, a4, a5, a6, a7, a8, a9, a10, a11⟩, b⟩ := go (11 * (j : Int) + 5)
    refine ⟨a1, a2, a3, a4, a5, a6, a7, a8, a9, a10, a11, fun p hp => ?_⟩
    exact fin_of (q p _ hp Keep.refl.put ⟨_, _, _, mput_same, b, ⟨Int.emod_nonneg _ (by decide), by omega⟩, by decide, by decide⟩)
end DL

namespace DL
open PySem PySem.Spec PyProof.Rows L2
def w_of : DTS := (dRet (dOp dIx (dVar 1) (dCall cTake [] (dCons (dVar 0) (dCons (dCB fLen (dCons (dVar 1) dNil)) dNil)))))
/-- one of a row -/
def cOf : DSp := fun ds μ Q => ∃ (a : Addr) (n : Nat) (xs : List D) (l : D), ds = [.ref a, l] ∧ (l = .lst xs ∨ l = .tup xs) ∧ 0 < xs.length ∧ xs.length < 2 ^ 60 ∧ IsPot n μ a ∧ n < 1000000000 ∧ ∀ d ∈ xs, ∀ μ', Keep a μ μ' → IsPot (n + 1) μ' a → Q d μ'
theorem atD_mem {xs : List D} {r : Int} (h0 : 0 ≤ r) (h1 : r < xs.length) : ∃ d, atD xs r = some d ∧ d ∈ xs := by
  obtain ⟨i, rfl⟩ : ∃ i : Nat, r = i := ⟨r.toNat, by omega⟩
  have hi : i < xs.length := by omega
  refine ⟨xs[i], ?_, List.getElem_mem hi⟩
  unfold atD
  have e : ixN xs.length (i : Nat) = some i := by
    unfold ixN
    rw [if_pos (by omega), if_pos (by omega)]
    rfl
  rw [e]
  exact List.getElem?_eq_getElem hi
theorem of_ok (N : List Str) (hN : N.length = 2) : ∀ ds μ Q, cOf ds μ Q → w_of { nx := fun _ μ' => fin Q .non μ', rt := fin Q } (dstart N ds) μ := by
  intro ds μ Q h
  obtain ⟨a, n, xs, l, rfl, hl, h0, h1, hp, hn, q⟩ := h
  unfold w_of
  rcases hl with rfl | rfl <;>
  · simp only [dSim, hN]
    refine ⟨a, xs.length, n, rfl, by omega, by omega, hp, hn, fun r μ' r0 r1 hk hp' => ?_⟩
    simp only [dSim]
    obtain ⟨d, hd, hm⟩ := atD_mem r0 r1
    exact ⟨d, hd, fin_of (q d hm μ' hk hp')⟩
def w_take3 : DTS :=
  (dSeq (dIfS (dT (dOp oGt (dOp dIx (dVar 0) (dC (.int 0))) (dC (.int 0)))) (dSeq (dAsg (dOp oMod (dOp dIx (dVar 0) (dC (.int 0))) (dVar 1)) (gN 2))
  (dSeq (dAsg (dOp oFdiv (dOp dIx (dVar 0) (dC (.int 0))) (dVar 1)) (gSb (dVar 0) (dC (.int 0))))
  (dRet (dVar 2)))) dNext)
  (dSeq (dAsg (dOp dAdd (dOp dIx (dVar 0) (dC (.int 2))) (dC (.int 1))) (gSb (dVar 0) (dC (.int 2))))
  (dSeq (dAsg (dOp dIx (dLst (dCons (dC (.int 2305843009213693951)) (dCons (dC (.int 999999999989)) (dCons (dC (.int 1000000000039)) (dCons (dC (.int 67280421310721)) dNil))))) (dOp oMod (dOp dIx (dVar 0) (dC (.int 2))) (dC (.int 4)))) (gN 3))
  (dSeq (dAsg (dOp oMod (dOp dAdd (dOp dAdd (dOp dIx (dVar 0) (dC (.int 1))) (dOp dMul (dOp dMul (dC (.int 7919)) (dOp dIx (dVar 0) (dC (.int 2)))) (dOp dIx (dVar 0) (dC (.int 2))))) (dOp dMul (dC (.int 65537)) (dOp dIx (dVar 0) (dC (.int 2))))) (dVar 3)) (gN 4))
  (dSeq (dAsg (dOp oMod (dOp oPow (dVar 4) (dC (.int 5))) (dVar 3)) (gN 4))
  (dRet (dOp oMod (dOp dAdd (dOp oFdiv (dVar 4) (dC (.int 4099))) (dOp dMul (dOp oFdiv (dVar 4) (dC (.int 1000003))) (dC (.int 7)))) (dVar 1))))))))
theorem take3_ok (N : List Str) (hN : N.length = 5) : ∀ ds μ Q, cTake ds μ Q → w_take3 { nx := fun _ μ' => fin Q .non μ', rt := fin Q } (dstart N ds) μ := by
  intro ds μ Q h
  obtain ⟨a, k, n, rfl, hk, hk2, ⟨g, s, c, e, hg, hs, hc0, hc⟩, hn, q⟩ := h
  unfold w_take3
  simp only [dSim, hN, pot_ix0 e, pot_ix1 e, pot_ix2 e, pot_set0 e, pot_set2 e]
  split
  · refine ⟨hk, divOk hk (Int.lt_trans hk2 (by decide)), fin_of (q _ _ (Int.emod_nonneg _ (by omega)) (Int.emod_lt_of_pos _ hk) Keep.refl.put ⟨_, _, _, mput_same, ?_, hs, hc0, by omega⟩)⟩
    exact Int.ediv_nonneg hg (Int.le_of_lt hk)
  · have e2 : mput μ a (potO g s (c + 1)) a = some (potO g s (c + 1)) := mput_same
    simp only [dSim, pot_ix0 e2, pot_ix1 e2, pot_ix2 e2]
    have pr : ∃ p : Int, 0 < p ∧ p < 2 ^ 62 ∧ atD [D.int 2305843009213693951, .int 999999999989, .int 1000000000039, .int 67280421310721] ((c + 1) % 4) = some (.int p) := by
      rcases (by omega : (c + 1) % 4 = 0 ∨ (c + 1) % 4 = 1 ∨ (c + 1) % 4 = 2 ∨ (c + 1) % 4 = 3) with h | h | h | h <;> rw [h]
      · exact ⟨2305843009213693951, by decide, by decide, rfl⟩
      · exact ⟨999999999989, by decide, by decide, rfl⟩
      · exact ⟨1000000000039, by decide, by decide, rfl⟩
      · exact ⟨67280421310721, by decide, by decide, rfl⟩
    obtain ⟨p, hp0, hp1, hp⟩ := pr
    have fin1 : ∀ x : Int, PowOk (x % p) 5 := fun x => by
      have := Int.emod_nonneg x (by omega : p ≠ 0)
      have := Int.emod_lt_of_pos x hp0
      exact powB (by omega) (by omega) (by decide) (by decide)
    have fin2 : ∀ x : Int, MulOk (x % p / 1000003) 7 := fun x => by
      have := Int.emod_nonneg x (by omega : p ≠ 0)
      have := Int.emod_lt_of_pos x hp0
      exact mulOk (by omega) (by omega) (by omega) (by omega)
    have h7 : (0 : Int) ≤ 7919 * (c + 1) ∧ 7919 * (c + 1) < 2 ^ 60 := by omega
    refine ⟨by decide, by decide, .int p, hp, ?_⟩
    simp only [dSim, pot_ix0 e2, pot_ix1 e2, pot_ix2 e2]
    refine ⟨mulOk (by omega) (by omega) (by omega) (by omega), mulOk (by omega) (by omega) (by omega) (by omega), mulOk (by omega) (by omega) (by omega) (by omega), hp0, fin1 _, hp0, divOk (by decide) (by decide), divOk (by decide) (by decide), fin2 _, hk, ?_⟩
    exact fin_of (q _ _ (Int.emod_nonneg _ (by omega)) (Int.emod_lt_of_pos _ hk) Keep.refl.put ⟨_, _, _, mput_same, hg, hs, by omega, by omega⟩)
def w_pot3 : DTS :=
  (dSeq (dAsg (dIf (dT (dOp oLt (dVar 1) (dCB fLen (dCons (dVar 0) dNil)))) (dOp dIx (dVar 0) (dVar 1)) (dOp dAdd (dOp dMul (dC (.int 5)) (dVar 1)) (dC (.int 2)))) (gN 2))
  (dSeq (dAsg (dOp dMul (dOp oMod (dCB fAbs (dCons (dVar 2) dNil)) (dOp oPow (dOp oPow (dC (.int 10)) (dC (.int 60))) (dC (.int 5)))) (dCB fInt (dCons (dOp oGe (dCB fAbs (dCons (dVar 2) dNil)) (dOp oPow (dC (.int 10)) (dC (.int 18)))) dNil))) (gN 3))
  (dRet (dLstM (dCons (dVar 3) (dCons (dOp oMod (dOp dMul (dOp dAdd (dOp dAdd (dOp oMod (dVar 2) (dC (.int 2305843009213693951))) (dOp dMul (dOp dMul (dC (.int 7907)) (dVar 1)) (dVar 1))) (dC (.int 19))) (dC (.int 69621))) (dC (.int 2305843009213693921))) (dCons (dC (.int 0)) dNil)))))))
theorem pot3_ok (N : List Str) (hN : N.length = 4) : ∀ ds μ Q, cPot ds μ Q → w_pot3 { nx := fun _ μ' => fin Q .non μ', rt := fin Q } (dstart N ds) μ := by
  intro ds μ Q h
  obtain ⟨ns, j, rfl, hl, hj, q⟩ := h
  have e0 : dstart N [.fz (ns.map D.int), .int (j : Nat)] = [some (.fz (ns.map D.int)), some (.int j), none, none] := by
    unfold dstart
    rw [hN]
    rfl
  rw [e0]
  unfold w_pot3
  simp only [dSim]
  have go : ∀ cell : Int, (PowOk 10 60 ∧ PowOk (10 ^ (60 : Int).toNat) 5 ∧ 0 < (10 : Int) ^ 300 ∧ PowOk 10 18 ∧ MulOk (iabs cell % (10 : Int) ^ 300) (if decide ((10 : Int) ^ (18 : Int).toNat ≤ iabs cell) = true then 1 else 0) ∧ 0 < (2305843009213693951 : Int) ∧
      MulOk 7907 (j : Int) ∧ MulOk (7907 * (j : Int)) j ∧ MulOk (cell % 2305843009213693951 + 7907 * (j : Int) * j + 19) 69621 ∧ 0 < (2305843009213693921 : Int) ∧ 0 + 1 + 1 + 1 ≤ sizeLine) ∧ 0 ≤ iabs cell % (10 : Int) ^ 300 * (if decide ((10 : Int) ^ (18 : Int).toNat ≤ iabs cell) = true then 1 else 0) := fun cell => by
    have hj2 : (0 : Int) ≤ 7907 * (j : Int) * j ∧ 7907 * (j : Int) * j < 2 ^ 60 := by
      have h1 : (j : Int) * j ≤ 63 * 63 := Int.mul_le_mul (by omega) (by omega) (by omega) (by decide)
      have h2 : (0 : Int) ≤ (j : Int) * j := Int.mul_nonneg (by omega) (by omega)
      rw [Int.mul_assoc]
      omega
    exact ⟨⟨powOk (by decide) (by decide) (by decide), powOk (by decide +kernel) (by decide) (by decide), by decide +kernel, powOk (by decide) (by decide) (by decide), big_mul (by decide +kernel) ten_lt, by decide, mulOk (by omega) (by omega) (by omega) (by omega), mulOk (by omega) (by omega) (by omega) (by omega), mulOk (by omega) (by omega) (by omega) (by omega), by decide, by decide⟩,
      mul_b (Int.emod_nonneg _ (by decide +kernel))⟩
  simp only [ten300]
  split
  · rename_i h
    have h2 : j < ns.length := by
      have := of_decide_eq_true h
      rw [List.length_map] at this
      omega
    refine ⟨_, at_fz h2, ?_⟩
    simp only [dSim]
    obtain ⟨⟨a1, a2, a3, a4, a5, a6, a7, a8, a9, a10, a11⟩, b⟩ := go ns[j]
    refine ⟨a1, a2, a3, a4, a5, a6, a7, a8, a9, a10, a11, fun p hp => ?_⟩
    exact fin_of (q p _ hp Keep.refl.put ⟨_, _, _, mput_same, b, ⟨Int.emod_nonneg _ (by decide), by omega⟩, by decide, by decide⟩)
  · refine ⟨mulOk (by omega) (by omega) (by omega) (by omega), ?_⟩
    obtain ⟨⟨a1, a2, a3, a4, a5, a6, a7, a8, a9, a10, a11⟩, b⟩ := go (5 * (j : Int) + 2)
    refine ⟨a1, a2, a3, a4, a5, a6, a7, a8, a9, a10, a11, fun p hp => ?_⟩
    exact fin_of (q p _ hp Keep.refl.put ⟨_, _, _, mput_same, b, ⟨Int.emod_nonneg _ (by decide), by omega⟩, by decide, by decide⟩)
end DL

namespace DL
/-! ### how many lots of k hands n hands have -/
def bin : Nat → Nat → Nat
  | _, 0 => 1
  | 0, _ + 1 => 0
  | n + 1, k + 1 => bin n k + bin n (k + 1)
theorem bin_zero (n : Nat) : bin n 0 = 1 := by cases n <;> rfl
theorem bin_succ (n k : Nat) : bin (n + 1) (k + 1) = bin n k + bin n (k + 1) := rfl
theorem bin_gt : ∀ {n k : Nat}, n < k → bin n k = 0
  | 0, 0, h => absurd h (by decide)
  | 0, _ + 1, _ => rfl
  | _ + 1, 0, h => absurd h (by omega)
  | n + 1, k + 1, h => by rw [bin_succ, bin_gt (show n < k by omega), bin_gt (show n < k + 1 by omega)]
theorem bin_self : ∀ n, bin n n = 1
  | 0 => rfl
  | n + 1 => by rw [bin_succ, bin_self n, bin_gt (Nat.lt_succ_self n)]
theorem bin_step : ∀ n k, (k + 1) * bin n (k + 1) + k * bin n k = n * bin n k
  | 0, 0 => by simp [bin]
  | 0, k + 1 => by simp [bin]
  | n + 1, 0 => by
    have h := bin_step n 0
    simp only [bin_zero, bin_succ] at h ⊢
    omega
  | n + 1, k + 1 => by
    have h1 := bin_step n (k + 1)
    have h2 := bin_step n k
    simp only [bin_succ, Nat.mul_add, Nat.add_mul] at h1 h2 ⊢
    omega
theorem bin_symm : ∀ (n k : Nat), k ≤ n → bin n (n - k) = bin n k := by
  intro n
  induction n with
  | zero => intro k h; have : k = 0 := by omega
            subst this; rfl
  | succ n ih =>
    intro k h
    cases k with
    | zero => rw [Nat.sub_zero, bin_self, bin_zero]
    | succ k =>
      by_cases hk : k = n
      · subst hk
        rw [Nat.sub_self, bin_zero, bin_self]
      · have e : n + 1 - (k + 1) = (n - (k + 1)) + 1 := by omega
        rw [e, bin_succ, bin_succ]
        have h1 := ih (k + 1) (by omega)
        have h2 := ih k (by omega)
        have e2 : n - (k + 1) + 1 = n - k := by omega
        rw [e2, h1, h2]
        omega
/-- as a turn of the loop does it -/
theorem bin_turn {n k : Nat} (h : k ≤ n) : (bin n k * (n - k)) / (k + 1) = bin n (k + 1) := by
  have s := bin_step n k
  have e : bin n k * (n - k) = (k + 1) * bin n (k + 1) := by
    obtain ⟨m, rfl⟩ : ∃ m, n = k + m := ⟨n - k, by omega⟩
    rw [Nat.add_sub_cancel_left]
    rw [Nat.mul_comm (bin (k + m) k) m]
    simp only [Nat.add_mul] at s ⊢
    omega
  rw [e]
  exact Nat.mul_div_cancel_left _ (Nat.succ_pos k)
theorem bin_le : ∀ n k, bin n k ≤ 2 ^ n
  | 0, 0 => by decide
  | 0, _ + 1 => by simp [bin]
  | n + 1, 0 => by rw [bin_zero]; exact Nat.one_le_two_pow
  | n + 1, k + 1 => by
    rw [bin_succ]
    have h1 := bin_le n k
    have h2 := bin_le n (k + 1)
    rw [Nat.pow_succ]
    omega
end DL

namespace DL
open PySem PySem.Spec PyProof.Rows L2
def cChoose : DSp := fun ds μ Q => ∃ n k : Nat, ds = [.int (n : Nat), .int (k : Nat)] ∧ n ≤ 60 ∧ k ≤ 1000 ∧ Q (.int (bin n k : Nat)) μ
def w_choose1 : DTS :=
  (dSeq (dIfS (dT (dOp oGt (dVar 1) (dVar 0))) (dRet (dC (.int 0))) dNext)
  (dSeq (dAsg (dC (.int 1)) (gN 2))
  (dSeq (dFor (dIR1 (dCons (dCB fMin2 (dCons (dVar 1) (dCons (dOp oSub (dVar 0) (dVar 1)) dNil))) dNil)) (gN 3) (dAsg (dOp oFdiv (dOp dMul (dVar 2) (dOp oSub (dVar 0) (dVar 3))) (dOp dAdd (dVar 3) (dC (.int 1)))) (gN 2)))
  (dRet (dVar 2)))))
theorem choose1_ok (N : List Str) (hN : N.length = 4) : ∀ ds μ Q, cChoose ds μ Q → w_choose1 { nx := fun _ μ' => fin Q .non μ', rt := fin Q } (dstart N ds) μ := by
  intro ds μ Q h
  obtain ⟨n, k, rfl, hn, hk, q⟩ := h
  unfold w_choose1
  refine seq_cut fun R hR => ?_
  simp only [dSim, hN]
  split
  · rename_i h
    have h : (n : Int) < k := of_decide_eq_true h
    rw [bin_gt (by omega)] at q
    exact fin_of q
  · rename_i h
    have h : k ≤ n := by
      have : ¬ (n : Int) < k := fun z => h (decide_eq_true z)
      omega
    refine hR _ _ (seq_cut fun R1 hR1 => hR1 _ _ (seq_cut fun R2 hR2 => ?_))
    simp only [dSim, dFor, dIR1]
    have em : (if (n : Int) - k < k then (n : Int) - k else k) = ((min k (n - k) : Nat) : Int) := by
      split <;> omega
    rw [em]
    refine ⟨_, rfl, by omega, by omega, ?_⟩
    rw [Int.toNat_natCast]
    refine for_inv (fun i ρ μ' => μ' = μ ∧ i ≤ min k (n - k) ∧ ∃ y, ρ = [some (.int n), some (.int k), some (.int (bin n i : Nat)), y]) ⟨rfl, Nat.zero_le _, none, by rw [bin_zero]; rfl⟩ (fun _ _ _ _ _ => trivial) (fun i d ρ μ' N hi h hN => ?_) fun ρ μ' h => ?_
    · obtain ⟨rfl, h1, y, rfl⟩ := h
      obtain ⟨h2, rfl⟩ := rng_at hi
      simp only [dSim]
      have hb := bin_le n i
      have hb2 : (2 : Nat) ^ n ≤ 2 ^ 60 := Nat.pow_le_pow_right (by decide) hn
      refine ⟨mulOk (by omega) (by omega) (by omega) (by omega), divOk (by omega) (by omega), hN _ _ ⟨rfl, h2, some (.int (i : Nat)), ?_⟩⟩
      have e : ((bin n i : Nat) : Int) * ((n : Nat) - (i : Nat)) / ((i : Nat) + 1) = ((bin n (i + 1) : Nat) : Int) := by
        rw [← bin_turn (n := n) (k := i) (by omega)]
        have e2 : ((n : Nat) : Int) - (i : Nat) = ((n - i : Nat) : Int) := by omega
        rw [e2]
        push_cast
        rfl
      rw [e]
    · obtain ⟨rfl, _, y, rfl⟩ := h
      rw [rng_len]
      refine hR2 _ _ ?_
      simp only [dSim]
      have e : bin n (min k (n - k)) = bin n k := by
        by_cases h3 : k ≤ n - k
        · rw [Nat.min_eq_left h3]
        · rw [Nat.min_eq_right (by omega), bin_symm n k h]
      rw [e]
      exact fin_of q
end DL

namespace DL
open PySem PySem.Spec PyProof.Rows L2
/-- no divisor from 2 to the root -/
def IsP (n : Int) : Prop := 2 ≤ n ∧ ∀ d : Int, 2 ≤ d → d * d ≤ n → ¬ d ∣ n
theorem notP {n d : Int} (h2 : 2 ≤ d) (hd : d < n) (h : d ∣ n) : ¬ IsP n := by
  intro p
  obtain ⟨q, rfl⟩ := h
  have hq : 2 ≤ q := by
    rcases Int.lt_or_le q 2 with h | h
    · have : d * q ≤ d * 1 := Int.mul_le_mul_of_nonneg_left (by omega) (by omega)
      omega
    · exact h
  rcases Int.le_total d q with h | h
  · exact p.2 d h2 (Int.mul_le_mul_of_nonneg_left h (by omega)) ⟨q, rfl⟩
  · exact p.2 q hq (Int.mul_le_mul_of_nonneg_right h (by omega)) ⟨d, Int.mul_comm d q⟩
theorem sq_lt {a b : Int} (h0 : 0 ≤ a) (h1 : 0 ≤ b) (h : a * a < b * b) : a < b := by
  rcases Int.lt_or_le a b with h2 | h2
  · exact h2
  · have := Int.mul_le_mul h2 h2 h1 h0
    omega
theorem sq_le {a b : Int} (h0 : 0 ≤ a) (h : a ≤ b) : a * a ≤ b * b := Int.mul_le_mul h h h0 (by omega)
theorem lt_sq {a : Int} (h : 1 < a) : a < a * a := by
  have := Int.mul_lt_mul_of_pos_left h (by omega : 0 < a)
  omega
theorem root_b {b n : Int} (h0 : 0 ≤ b) (h : b * b ≤ n) (hn : n < 2 ^ 120) : b < 2 ^ 60 := sq_lt h0 (by decide) (by
  have e : ((2 : Int) ^ 60) * 2 ^ 60 = 2 ^ 120 := by decide
  omega)
def cPrime : DSp := fun ds μ Q => ∃ n : Int, ds = [.int n] ∧ n < 2 ^ 120 ∧ ∀ b : Bool, (b = true ↔ IsP n) → Q (.bl b) μ
def w_prime : DTS :=
  (dSeq (dIfS (dT (dOp oLt (dVar 0) (dC (.int 2)))) (dRet (dC (.bl false))) dNext)
  (dSeq (dAsg (dC (.int 2)) (gN 1))
  (dSeq (dWhile (dT (dOp oLe (dOp dMul (dVar 1) (dVar 1)) (dVar 0))) (dSeq (dIfS (dT (dOp dEq (dOp oMod (dVar 0) (dVar 1)) (dC (.int 0)))) (dRet (dC (.bl false))) dNext)
  (dAug 1 (dOp dAdd (dC (.int 1)) (dOp oMod (dVar 1) (dC (.int 2)))) (fun i j => i + j))))
  (dRet (dC (.bl true))))))
theorem dec_iff {p : Prop} [Decidable p] (h : ¬ decide p = true) : ¬ p := fun z => h (decide_eq_true z)
theorem prime_ok (N : List Str) (hN : N.length = 2) : ∀ ds μ Q, cPrime ds μ Q → w_prime { nx := fun _ μ' => fin Q .non μ', rt := fin Q } (dstart N ds) μ := by
  intro ds μ Q h
  obtain ⟨n, rfl, hn, q⟩ := h
  unfold w_prime
  refine seq_cut fun R hR => ?_
  simp only [dSim, hN]
  split
  · rename_i h
    have h : n < 2 := of_decide_eq_true h
    exact fin_of (q false ⟨fun z => Bool.noConfusion z, fun z => absurd z.1 (by omega)⟩)
  · rename_i h
    have h2 : 2 ≤ n := by have := dec_iff h; omega
    refine hR _ _ (seq_cut fun R1 hR1 => hR1 _ _ (seq_cut fun R2 hR2 => ?_))
    refine while_inv (fun m ρ μ' => μ' = μ ∧ ∃ b : Int, ρ = [some (.int n), some (.int b)] ∧ 2 ≤ b ∧ b < 2 ^ 61 ∧ m = (2 ^ 61 - b).toNat ∧ (b = 2 ∨ b % 2 = 1) ∧ ∀ d : Int, 2 ≤ d → d < b → d * d ≤ n → ¬ d ∣ n) _
      ⟨rfl, 2, rfl, by decide, by decide, rfl, .inl rfl, fun d h1 h2 => by omega⟩ fun m ρ μ' N h hN => ?_
    obtain ⟨rfl, b, rfl, hb2, hb, hm, hbo, hd⟩ := h
    simp only [dSim]
    refine ⟨mulOk (by omega) (by omega) (by omega) (by omega), ?_⟩
    split
    · rename_i hle
      have hle : b * b ≤ n := of_decide_eq_true hle
      have hr := root_b (by omega) hle hn
      simp only [dSim, dSeq, z_eq_int]
      refine ⟨by omega, ?_⟩
      split
      · rename_i he
        have he : n % b = 0 := of_decide_eq_true he
        have hlt : b < n := Int.lt_of_lt_of_le (lt_sq (by omega)) hle
        exact fin_of (q false ⟨fun z => Bool.noConfusion z, fun z => absurd z (notP hb2 hlt (Int.dvd_of_emod_eq_zero he))⟩)
      · rename_i he
        have he : ¬ n % b = 0 := dec_iff he
        have nb : ¬ b ∣ n := fun z => he (Int.emod_eq_zero_of_dvd z)
        refine ⟨by decide, hN ((2 ^ 61 - (b + (1 + b % 2))).toNat) _ _ (by omega) ⟨rfl, b + (1 + b % 2), rfl, by omega, by omega, rfl, by omega, fun d h1 h2 h3 => ?_⟩⟩
        rcases Int.lt_or_le d b with h4 | h4
        · exact hd d h1 h4 h3
        · rcases Int.lt_or_le b d with h5 | h5
          · rcases hbo with h6 | h6
            · omega
            · have e : d = b + 1 := by omega
              intro z
              have h7 : (2 : Int) ∣ d := Int.dvd_of_emod_eq_zero (by omega)
              refine hd 2 (by decide) (by omega) ?_ (Int.dvd_trans h7 z)
              have := sq_le (a := 2) (b := d) (by decide) h1
              omega
          · have e : d = b := by omega
            rw [e]
            exact nb
    · rename_i hle
      have hle : ¬ b * b ≤ n := dec_iff hle
      refine hR2 _ _ ?_
      simp only [dSim]
      refine fin_of (q true ⟨fun _ => ⟨h2, fun d h1 h3 => hd d h1 (sq_lt (by omega) (by omega) (by omega)) h3⟩, fun _ => rfl⟩)
def w_prime6 : DTS :=
  (dSeq (dIfS (dT (dOp oLt (dVar 0) (dC (.int 4)))) (dRet (dOp oGt (dVar 0) (dC (.int 1)))) dNext)
  (dSeq (dIfS (dOr (dT (dOp dEq (dOp oMod (dVar 0) (dC (.int 2))) (dC (.int 0)))) (dT (dOp dEq (dOp oMod (dVar 0) (dC (.int 3))) (dC (.int 0))))) (dRet (dC (.bl false))) dNext)
  (dSeq (dAsg (dC (.int 5)) (gN 1))
  (dSeq (dWhile (dT (dOp oLe (dOp dMul (dVar 1) (dVar 1)) (dVar 0))) (dSeq (dIfS (dOr (dT (dOp dEq (dOp oMod (dVar 0) (dVar 1)) (dC (.int 0)))) (dT (dOp dEq (dOp oMod (dVar 0) (dOp dAdd (dVar 1) (dC (.int 2)))) (dC (.int 0))))) (dRet (dC (.bl false))) dNext)
  (dAsg (dOp dAdd (dVar 1) (dC (.int 6))) (gN 1))))
  (dRet (dC (.bl true)))))))
theorem prime6_ok (N : List Str) (hN : N.length = 2) : ∀ ds μ Q, cPrime ds μ Q → w_prime6 { nx := fun _ μ' => fin Q .non μ', rt := fin Q } (dstart N ds) μ := by
  intro ds μ Q h
  obtain ⟨n, rfl, hn, q⟩ := h
  have no : ∀ d : Int, 2 ≤ d → d < n → n % d = 0 → Q (.bl false) μ := fun d h1 h2 h3 => q false ⟨fun z => Bool.noConfusion z, fun z => absurd z (notP h1 h2 (Int.dvd_of_emod_eq_zero h3))⟩
  unfold w_prime6
  refine seq_cut fun R hR => ?_
  simp only [dSim, hN]
  split
  · rename_i h
    have h : n < 4 := of_decide_eq_true h
    refine fin_of (q _ ⟨fun z => ?_, fun z => ?_⟩)
    · have z : 1 < n := of_decide_eq_true z
      refine ⟨by omega, fun d h1 h2 => ?_⟩
      have := sq_le (a := 2) (b := d) (by decide) h1
      omega
    · exact decide_eq_true (by have := z.1; omega)
  · rename_i h
    have h4 : 4 ≤ n := by have := dec_iff h; omega
    refine hR _ _ (seq_cut fun R1 hR1 => ?_)
    simp only [dSim, z_eq_int]
    refine ⟨by decide, ?_⟩
    split
    · rename_i he
      exact fin_of (no 2 (by decide) (by omega) (of_decide_eq_true he))
    · rename_i he2
      have he2 : ¬ n % 2 = 0 := dec_iff he2
      refine ⟨by decide, ?_⟩
      split
      · rename_i he
        exact fin_of (no 3 (by decide) (by omega) (of_decide_eq_true he))
      · rename_i he3
        have he3 : ¬ n % 3 = 0 := dec_iff he3
        refine hR1 _ _ (seq_cut fun R2 hR2 => hR2 _ _ (seq_cut fun R3 hR3 => ?_))
        refine while_inv (fun m ρ μ' => μ' = μ ∧ ∃ b : Int, ρ = [some (.int n), some (.int b)] ∧ 5 ≤ b ∧ b < 2 ^ 61 ∧ m = (2 ^ 61 - b).toNat ∧ b % 6 = 5 ∧ ∀ d : Int, 2 ≤ d → d < b → ¬ d ∣ n) _
          ⟨rfl, 5, rfl, by decide, by decide, rfl, by decide, fun d h1 h2 z => ?_⟩ fun m ρ μ' N h hN => ?_
        · have e : d = 2 ∨ d = 3 ∨ d = 4 := by omega
          rcases e with e | e | e <;> subst e <;> omega
        obtain ⟨rfl, b, rfl, hb2, hb, hm, hbo, hd⟩ := h
        simp only [dSim]
        refine ⟨mulOk (by omega) (by omega) (by omega) (by omega), ?_⟩
        split
        · rename_i hle
          have hle : b * b ≤ n := of_decide_eq_true hle
          have hr := root_b (by omega) hle hn
          have h5 := Int.mul_le_mul_of_nonneg_right hb2 (by omega : 0 ≤ b)
          simp only [dSim, dSeq, z_eq_int]
          refine ⟨by omega, ?_⟩
          split
          · rename_i he
            exact fin_of (no b (by omega) (by omega) (of_decide_eq_true he))
          · rename_i he
            have he : ¬ n % b = 0 := dec_iff he
            refine ⟨by omega, ?_⟩
            split
            · rename_i he
              exact fin_of (no (b + 2) (by omega) (by omega) (of_decide_eq_true he))
            · rename_i he'
              have he' : ¬ n % (b + 2) = 0 := dec_iff he'
              refine hN ((2 ^ 61 - (b + 6)).toNat) _ _ (by omega) ⟨rfl, b + 6, rfl, by omega, by omega, rfl, by omega, fun d h1 h2 => ?_⟩
              rcases Int.lt_or_le d b with h4 | h4
              · exact hd d h1 h4
              · have e : d = b ∨ d = b + 2 ∨ d % 2 = 0 ∨ d % 3 = 0 := by omega
                rcases e with e | e | e | e
                · rw [e]
                  exact fun z => he (Int.emod_eq_zero_of_dvd z)
                · rw [e]
                  exact fun z => he' (Int.emod_eq_zero_of_dvd z)
                · exact fun z => he2 (Int.emod_eq_zero_of_dvd (Int.dvd_trans (Int.dvd_of_emod_eq_zero e) z))
                · exact fun z => he3 (Int.emod_eq_zero_of_dvd (Int.dvd_trans (Int.dvd_of_emod_eq_zero e) z))
        · rename_i hle
          have hle : ¬ b * b ≤ n := dec_iff hle
          refine hR3 _ _ ?_
          simp only [dSim]
          refine fin_of (q true ⟨fun _ => ⟨by omega, fun d h1 h3 => hd d h1 (sq_lt (by omega) (by omega) (by omega))⟩, fun _ => rfl⟩)
end DL

/-! LotM: rows of numbers that rise, told by their place in the order of all. -/
namespace DL
/-- l rises, from a on, below n -/
def Lot (n : Nat) : Nat → List Nat → Prop
  | _, [] => True
  | a, h :: t => a ≤ h ∧ h < n ∧ Lot n (h + 1) t
def rk (n : Nat) : Nat → List Nat → Nat
  | _, [] => 0
  | a, h :: t => ((List.range (h - a)).map fun j => bin (n - (a + j) - 1) t.length).sum + rk n (h + 1) t
theorem Lot.weak {n : Nat} : ∀ {a b : Nat} {l : List Nat}, a ≤ b → Lot n b l → Lot n a l
  | _, _, [], _, _ => trivial
  | _, _, _ :: _, h, ⟨h1, h2⟩ => ⟨Nat.le_trans h h1, h2⟩
theorem Lot.mem {n : Nat} : ∀ {a : Nat} {l : List Nat}, Lot n a l → ∀ x ∈ l, a ≤ x ∧ x < n
  | _, [], _, x, h => nomatch h
  | a, y :: t, ⟨h1, h2, h3⟩, x, h => by
    rcases List.mem_cons.mp h with rfl | h
    · exact ⟨h1, h2⟩
    · have := Lot.mem h3 x h
      omega
theorem rk_nil {n a : Nat} : rk n a [] = 0 := rfl
theorem rk_here {n a : Nat} {t : List Nat} : rk n a (a :: t) = rk n (a + 1) t := by
  show ((List.range (a - a)).map _).sum + _ = _
  rw [Nat.sub_self]
  simp
theorem rk_skip {n a h : Nat} {t : List Nat} (k : a < h) : rk n a (h :: t) = bin (n - a - 1) t.length + rk n (a + 1) (h :: t) := by
  show ((List.range (h - a)).map _).sum + _ = _ + (((List.range (h - (a + 1))).map _).sum + _)
  have e : h - a = (h - (a + 1)) + 1 := by omega
  rw [e, List.range_succ_eq_map, List.map_cons, List.sum_cons, List.map_map, Nat.add_zero, ← Nat.add_assoc]
  congr 3
  refine List.map_congr_left fun j _ => ?_
  show bin (n - (a + (j + 1)) - 1) _ = bin (n - (a + 1 + j) - 1) _
  congr 1
  omega
/-- by the number of those that are left -/
theorem Lot.ind {n : Nat} {P : Nat → List Nat → Prop} (h0 : ∀ a, P a []) (h1 : ∀ a t, a < n → Lot n (a + 1) t → P (a + 1) t → P a (a :: t)) (h2 : ∀ a h t, a < n → a < h → Lot n (a + 1) (h :: t) → P (a + 1) (h :: t) → P a (h :: t)) : ∀ a l, Lot n a l → P a l := by
  have go : ∀ m a l, m + a = n → Lot n a l → P a l := by
    intro m
    induction m with
    | zero =>
      intro a l e L
      cases l with
      | nil => exact h0 a
      | cons h t =>
        obtain ⟨k1, k2, _⟩ := L
        omega
    | succ m ih =>
      intro a l e L
      cases l with
      | nil => exact h0 a
      | cons h t =>
        obtain ⟨k1, k2, k3⟩ := L
        rcases Nat.lt_or_eq_of_le k1 with k | k
        · have L' : Lot n (a + 1) (h :: t) := ⟨k, k2, k3⟩
          exact h2 a h t (by omega) k L' (ih _ _ (by omega) L')
        · subst k
          exact h1 a t k2 k3 (ih _ _ (by omega) k3)
  intro a l L
  cases l with
  | nil => exact h0 a
  | cons h t =>
    have := L.1
    have := L.2.1
    exact go (n - a) a _ (by omega) L
theorem Lot.length_le {n : Nat} : ∀ a l, Lot n a l → l.length ≤ n - a := by
  refine Lot.ind (fun a => Nat.zero_le _) (fun a t k _ ih => ?_) (fun a h t k _ _ ih => ?_)
  · rw [List.length_cons]
    omega
  · omega
theorem bin_pas {m k : Nat} (h : 0 < m) : bin m (k + 1) = bin (m - 1) k + bin (m - 1) (k + 1) := by
  obtain ⟨j, rfl⟩ : ∃ j, m = j + 1 := ⟨m - 1, by omega⟩
  exact bin_succ j k
theorem rk_lt {n : Nat} : ∀ a l, Lot n a l → rk n a l < bin (n - a) l.length := by
  refine Lot.ind (fun a => ?_) (fun a t k _ ih => ?_) (fun a h t k _ _ ih => ?_)
  · rw [rk_nil, List.length_nil, bin_zero]
    decide
  · rw [rk_here, List.length_cons, bin_pas (by omega)]
    have e : n - a - 1 = n - (a + 1) := by omega
    rw [e]
    omega
  · rw [rk_skip (by omega), List.length_cons, bin_pas (by omega)]
    have e : n - a - 1 = n - (a + 1) := by omega
    rw [e]
    rw [List.length_cons] at ih
    omega
/-! ### back from the number -/
def unr : Nat → Nat → Nat → Nat → List Nat
  | 0, _, _, _ => []
  | _ + 1, _, 0, _ => []
  | m + 1, a, k + 1, r => if r < bin m k then a :: unr m (a + 1) k r else unr m (a + 1) (k + 1) (r - bin m k)
theorem unr_ok : ∀ (m a k r : Nat), r < bin m k → Lot (a + m) a (unr m a k r) ∧ (unr m a k r).length = k ∧ rk (a + m) a (unr m a k r) = r
  | 0, a, 0, r, h => by
    have : r < 1 := h
    exact ⟨trivial, rfl, (by omega : r = 0).symm⟩
  | 0, a, k + 1, r, h => by
    rw [bin_gt (by omega)] at h
    omega
  | m + 1, a, 0, r, h => by
    rw [bin_zero] at h
    exact ⟨trivial, rfl, (by omega : r = 0).symm⟩
  | m + 1, a, k + 1, r, h => by
    have ea : a + 1 + m = a + (m + 1) := by omega
    unfold unr
    by_cases hr : r < bin m k
    · rw [if_pos hr]
      obtain ⟨h1, h2, h3⟩ := unr_ok m (a + 1) k r hr
      rw [ea] at h1 h3
      exact ⟨⟨Nat.le_refl _, by omega, h1⟩, by rw [List.length_cons, h2], by rw [rk_here, h3]⟩
    · rw [if_neg hr]
      rw [bin_succ] at h
      obtain ⟨h1, h2, h3⟩ := unr_ok m (a + 1) (k + 1) (r - bin m k) (by omega)
      rw [ea] at h1 h3
      refine ⟨h1.weak (Nat.le_succ a), h2, ?_⟩
      cases e : unr m (a + 1) (k + 1) (r - bin m k) with
      | nil =>
        rw [e] at h2
        cases h2
      | cons x t =>
        rw [e] at h1 h2 h3
        have hx := h1.1
        rw [rk_skip (by omega), h3]
        have e1 : t.length = k := by simpa using h2
        have e2 : a + (m + 1) - a - 1 = m := by omega
        rw [e1, e2]
        omega
theorem rk_inj {n : Nat} : ∀ a l, Lot n a l → ∀ l', Lot n a l' → l.length = l'.length → rk n a l = rk n a l' → l = l' := by
  refine Lot.ind (fun a l' L' hl h => ?_) (fun a t k L ih l' L' hl h => ?_) (fun a x t k kx L ih l' L' hl h => ?_)
  · cases l' with
    | nil => rfl
    | cons _ _ => cases hl
  · cases l' with
    | nil => cases hl
    | cons y t' =>
      obtain ⟨k1, k2, k3⟩ := L'
      rcases Nat.lt_or_eq_of_le k1 with k4 | k4
      · exfalso
        rw [rk_here, rk_skip k4] at h
        have h1 := rk_lt _ _ L
        have h2 : t.length = t'.length := by simpa using hl
        have e : n - a - 1 = n - (a + 1) := by omega
        rw [e, ← h2] at h
        omega
      · subst k4
        rw [rk_here, rk_here] at h
        rw [ih t' k3 (by simpa using hl) h]
  · cases l' with
    | nil => cases hl
    | cons y t' =>
      obtain ⟨k1, k2, k3⟩ := L'
      have h2 : t.length = t'.length := by simpa using hl
      rcases Nat.lt_or_eq_of_le k1 with k4 | k4
      · rw [rk_skip kx, rk_skip k4, h2] at h
        exact ih (y :: t') ⟨k4, k2, k3⟩ hl (by omega)
      · exfalso
        subst k4
        rw [rk_here, rk_skip kx] at h
        have h1 := rk_lt _ _ k3
        have e : n - a - 1 = n - (a + 1) := by omega
        rw [e, h2] at h
        omega
theorem unr_rk {n a : Nat} {l : List Nat} (ha : a ≤ n) (L : Lot n a l) : unr (n - a) a l.length (rk n a l) = l := by
  obtain ⟨h1, h2, h3⟩ := unr_ok (n - a) a l.length (rk n a l) (rk_lt a l L)
  have e : a + (n - a) = n := by omega
  rw [e] at h1 h3
  exact rk_inj a _ h1 l L h2 h3
/-! ### the others -/
def others (n a : Nat) (l : List Nat) : List Nat := (List.range' a (n - a)).filter fun x => !l.contains x
theorem range'_here {n a : Nat} (h : a < n) : List.range' a (n - a) = a :: List.range' (a + 1) (n - (a + 1)) := by
  have e : n - a = (n - (a + 1)) + 1 := by omega
  rw [e, List.range'_succ]
theorem others_none {n a : Nat} {l : List Nat} (h : n ≤ a) : others n a l = [] := by
  unfold others
  rw [Nat.sub_eq_zero_of_le h]
  rfl
theorem others_here {n a : Nat} {t : List Nat} (h : a < n) : others n a (a :: t) = others n (a + 1) t := by
  unfold others
  rw [range'_here h, List.filter_cons, if_neg (by simp)]
  refine List.filter_congr fun x hx => ?_
  have := (List.mem_range'_1.mp hx).1
  have e : (x == a) = false := by
    rw [beq_eq_false_iff_ne]
    omega
  rw [List.contains_cons, e, Bool.false_or]
theorem others_skip {n a : Nat} {l : List Nat} (h : a < n) (L : Lot n (a + 1) l) : others n a l = a :: others n (a + 1) l := by
  unfold others
  rw [range'_here h, List.filter_cons, if_pos]
  rw [Bool.not_eq_true', List.contains_eq_mem, decide_eq_false_iff_not]
  intro hm
  have := (L.mem a hm).1
  omega
theorem others_lot {n : Nat} : ∀ (m a : Nat) (l : List Nat), m + a = n → Lot n a l → Lot n a (others n a l) ∧ (others n a l).length + l.length = n - a := by
  intro m
  induction m with
  | zero =>
    intro a l e L
    rw [others_none (by omega)]
    have := Lot.length_le a l L
    exact ⟨trivial, by rw [List.length_nil]; omega⟩
  | succ m ih =>
    intro a l e L
    have skip : Lot n (a + 1) l → Lot n a (others n a l) ∧ (others n a l).length + l.length = n - a := fun L' => by
      obtain ⟨h1, h2⟩ := ih (a + 1) l (by omega) L'
      rw [others_skip (by omega) L']
      exact ⟨⟨Nat.le_refl _, by omega, h1⟩, by rw [List.length_cons]; omega⟩
    cases l with
    | nil => exact skip trivial
    | cons h t =>
      obtain ⟨k1, k2, k3⟩ := L
      rcases Nat.lt_or_eq_of_le k1 with k | k
      · exact skip ⟨k, k2, k3⟩
      · subst k
        obtain ⟨h1, h2⟩ := ih (a + 1) t (by omega) k3
        rw [others_here k2]
        exact ⟨h1.weak (Nat.le_succ a), by rw [List.length_cons]; omega⟩
theorem rk_others {n : Nat} : ∀ (m a : Nat) (l : List Nat), m + a = n → Lot n a l → rk n a l + rk n a (others n a l) + 1 = bin (n - a) l.length := by
  intro m
  induction m with
  | zero =>
    intro a l e L
    have hl := Lot.length_le a l L
    have e0 : l = [] := List.length_eq_zero_iff.mp (by omega)
    subst e0
    rw [others_none (by omega), List.length_nil, bin_zero]
    rfl
  | succ m ih =>
    intro a l e L
    have em : n - a - 1 = n - (a + 1) := by omega
    have skip : Lot n (a + 1) l → rk n a l + rk n a (others n a l) + 1 = bin (n - a) l.length := fun L' => by
      have h := ih (a + 1) l (by omega) L'
      rw [others_skip (by omega) L', rk_here]
      cases l with
      | nil =>
        rw [rk_nil, List.length_nil, bin_zero] at h ⊢
        omega
      | cons x t =>
        have := L'.1
        rw [rk_skip (by omega), List.length_cons, bin_pas (by omega), em]
        rw [List.length_cons] at h
        omega
    cases l with
    | nil => exact skip trivial
    | cons h t =>
      obtain ⟨k1, k2, k3⟩ := L
      rcases Nat.lt_or_eq_of_le k1 with k | k
      · exact skip ⟨k, k2, k3⟩
      · subst k
        have hi := ih (a + 1) t (by omega) k3
        obtain ⟨o1, o2⟩ := others_lot m (a + 1) t (by omega) k3
        rw [others_here k2, rk_here, List.length_cons, bin_pas (by omega), em]
        cases eo : others n (a + 1) t with
        | nil =>
          rw [eo] at hi o2
          rw [rk_nil] at hi ⊢
          rw [List.length_nil] at o2
          rw [bin_gt (n := n - (a + 1)) (k := t.length + 1) (by omega)]
          omega
        | cons x c =>
          rw [eo] at hi o1 o2
          have := o1.1
          rw [List.length_cons] at o2
          rw [rk_skip (by omega), em]
          have es : bin (n - (a + 1)) (t.length + 1) = bin (n - (a + 1)) c.length := by
            rw [← bin_symm (n - (a + 1)) (t.length + 1) (by omega)]
            congr 1
            omega
          rw [es]
          omega
/-! ### the order -/
def lexN : List Nat → List Nat → Bool
  | [], [] => false
  | [], _ :: _ => true
  | _ :: _, [] => false
  | x :: xs, y :: ys => if x = y then lexN xs ys else decide (x < y)
theorem lexN_cons {x y : Nat} {xs ys : List Nat} : lexN (x :: xs) (y :: ys) = if x = y then lexN xs ys else decide (x < y) := by rw [lexN]
theorem rk_lex {n : Nat} : ∀ a l, Lot n a l → ∀ l', Lot n a l' → l.length = l'.length → decide (rk n a l < rk n a l') = lexN l l' := by
  refine Lot.ind (fun a l' L' hl => ?_) (fun a t k L ih l' L' hl => ?_) (fun a x t k kx L ih l' L' hl => ?_)
  · cases l' with
    | nil => simp [rk_nil, lexN]
    | cons _ _ => cases hl
  · cases l' with
    | nil => cases hl
    | cons y t' =>
      obtain ⟨k1, k2, k3⟩ := L'
      have h2 : t.length = t'.length := by simpa using hl
      rcases Nat.lt_or_eq_of_le k1 with k4 | k4
      · have h1 := rk_lt _ _ L
        have e : n - a - 1 = n - (a + 1) := by omega
        rw [rk_here, rk_skip k4, e, ← h2]
        rw [lexN_cons, if_neg (by omega), decide_eq_true (by omega), decide_eq_true (by omega)]
      · subst k4
        rw [rk_here, rk_here, ih t' k3 h2]
        rw [lexN_cons, if_pos rfl]
  · cases l' with
    | nil => cases hl
    | cons y t' =>
      obtain ⟨k1, k2, k3⟩ := L'
      have h2 : t.length = t'.length := by simpa using hl
      rcases Nat.lt_or_eq_of_le k1 with k4 | k4
      · rw [rk_skip kx, rk_skip k4, h2, ← ih (y :: t') ⟨k4, k2, k3⟩ hl]
        rw [decide_eq_decide]
        omega
      · subst k4
        have h1 := rk_lt _ _ k3
        have e : n - a - 1 = n - (a + 1) := by omega
        rw [rk_here, rk_skip kx, e, h2]
        rw [lexN_cons, if_neg (by omega), decide_eq_false (by omega), decide_eq_false (by omega)]
end DL

/-! LotP: the defs is_whole, number_of, lot_at; drawn lots. -/
namespace DL
open PySem PySem.Spec PyProof.Rows L2
def iL (l : List Nat) : List Int := l.map fun x : Nat => (x : Int)
abbrev lotD (l : List Nat) : D := .tup ((iL l).map D.int)
abbrev lstD (l : List Nat) : D := .lst ((iL l).map D.int)
theorem iL_len {l : List Nat} : (iL l).length = l.length := by simp [iL]
theorem lotD_get {l : List Nat} {i : Nat} {d : D} (h : ((iL l).map D.int)[i]? = some d) : ∃ x, l[i]? = some x ∧ d = .int (x : Nat) := by
  unfold iL at h
  rw [List.getElem?_map, List.getElem?_map] at h
  cases e : l[i]? with
  | none => rw [e] at h; cases h
  | some x => rw [e] at h; cases h; exact ⟨x, rfl, rfl⟩
theorem lotD_at {l : List Nat} {i : Nat} {x : Nat} (h : l[i]? = some x) : ((iL l).map D.int)[i]? = some (.int (x : Nat)) := by
  unfold iL
  rw [List.getElem?_map, List.getElem?_map, h]
  rfl
theorem iL_inj {l l' : List Nat} (h : iL l = iL l') : l = l' := (List.map_inj_right (fun x y e => by exact_mod_cast e)).mp h
theorem drop_get {l : List Nat} {i x : Nat} (h : l[i]? = some x) : l.drop i = x :: l.drop (i + 1) := by
  obtain ⟨h1, h2⟩ := List.getElem?_eq_some_iff.mp h
  rw [List.drop_eq_getElem_cons h1, h2]

/-! ### is_whole -/
def isW : D → Bool
  | .int i => decide (0 ≤ i)
  | _ => false
def cWhole : DSp := fun ds μ Q => ∃ d, ds = [d] ∧ (∀ a, d ≠ .ref a) ∧ tyOk d = true ∧ notFz d = true ∧ Q (.bl (isW d)) μ
def w_whole : DTS :=
  (dRet (dAndV (dCB fIsi (dCons (dVar 0) (dCons (dC (.ty "int")) dNil))) (dAndV (dNotV (dCB fIsi (dCons (dVar 0) (dCons (dC (.ty "bool")) dNil)))) (dOp oGe (dVar 0) (dC (.int 0))))))
theorem whole_ok (N : List Str) (hN : N.length = 1) : ∀ ds μ Q, cWhole ds μ Q → w_whole { nx := fun _ μ' => fin Q .non μ', rt := fin Q } (dstart N ds) μ := by
  intro ds μ Q h
  obtain ⟨d, rfl, h0, h1, h2, q⟩ := h
  unfold w_whole
  have no : ∀ (T : String), see μ d = d → kitB (tyN d) "int" = some false → fIsi [d, .ty "int"] μ (fun d' μ1 => ∃ b, d' = .bl b ∧ if b = true then False else fin Q (.bl b) μ1) → True := fun _ _ _ _ => trivial
  cases d with
  | int i =>
    simp only [dSim, hN, z_isi_int_int, z_isi_int_bool, Bool.not_false, if_true]
    exact fin_of q
  | bl b =>
    simp only [dSim, hN, z_isi_bl_int, z_isi_bl_bool, Bool.not_true, if_true, Bool.false_eq_true, if_false]
    exact fin_of q
  | non =>
    simp only [dSim, hN, z_isi (d := .non) (T := "int") (b := false) rfl rfl (show kitB "NoneType" "int" = some false by decide +kernel), Bool.false_eq_true, if_false]
    exact fin_of q
  | str x =>
    simp only [dSim, hN, z_isi (d := .str x) (T := "int") (b := false) rfl rfl (show kitB "str" "int" = some false by decide +kernel), Bool.false_eq_true, if_false]
    exact fin_of q
  | tup x =>
    simp only [dSim, hN, z_isi (d := .tup x) (T := "int") (b := false) rfl rfl (show kitB "tuple" "int" = some false by decide +kernel), Bool.false_eq_true, if_false]
    exact fin_of q
  | lst x =>
    simp only [dSim, hN, z_isi (d := .lst x) (T := "int") (b := false) rfl rfl (show kitB "list" "int" = some false by decide +kernel), Bool.false_eq_true, if_false]
    exact fin_of q
  | dk x =>
    simp only [dSim, hN, z_isi (d := .dk x) (T := "int") (b := false) rfl rfl (show kitB "dict" "int" = some false by decide +kernel), Bool.false_eq_true, if_false]
    exact fin_of q
  | dt x => cases h1
  | ref a => exact absurd rfl (h0 a)
  | ty a => cases h1
  | fz a => cases h2

/-! ### number_of -/
def cNumberOf : DSp := fun ds μ Q => ∃ (n : Nat) (l : List Nat), ds = [.int n, lotD l] ∧ n ≤ 60 ∧ Lot n 0 l ∧ Q (.int (rk n 0 l : Nat)) μ
def w_numberOf : DTS :=
  (dSeq (dAsg (dTup (dCons (dC (.int 0)) (dCons (dC (.int 0)) dNil))) (gTp 2 (gsCons (gN 2) (gsCons (gN 3) gsNil))))
  (dSeq (dFor (dIEnum (dCons (dVar 1) dNil)) (gTp 2 (gsCons (gN 4) (gsCons (gN 5) gsNil))) (dSeq (dFor (dIR2 (dCons (dVar 3) (dCons (dVar 5) dNil))) (gN 6) (dAug 2 (dCall cChoose [] (dCons (dOp oSub (dOp oSub (dVar 0) (dVar 6)) (dC (.int 1))) (dCons (dOp oSub (dOp oSub (dCB fLen (dCons (dVar 1) dNil)) (dVar 4)) (dC (.int 1))) dNil))) (fun i j => i + j)))
  (dAsg (dOp dAdd (dVar 5) (dC (.int 1))) (gN 3))))
  (dRet (dVar 2))))
theorem Lot.drop_ok {n a : Nat} : ∀ {l : List Nat}, Lot n a l → l.length ≤ n
  | l, L => Nat.le_trans (Lot.length_le a l L) (Nat.sub_le _ _)
theorem numberOf_ok (N : List Str) (hN : N.length = 7) : ∀ ds μ Q, cNumberOf ds μ Q → w_numberOf { nx := fun _ μ' => fin Q .non μ', rt := fin Q } (dstart N ds) μ := by
  intro ds μ Q h
  obtain ⟨n, l, rfl, hn, L, q⟩ := h
  have hlen := L.drop_ok
  unfold w_numberOf
  refine seq_cut fun R hR => ?_
  simp only [dSim, hN]
  refine ⟨by decide, hR _ _ (seq_cut fun R1 hR1 => ?_)⟩
  simp only [dSim, dFor, dIEnum]
  refine ⟨_, _, rfl, .inr rfl, ?_⟩
  refine for_inv (fun i ρ μ' => μ' = μ ∧ i ≤ l.length ∧ ∃ (a s : Nat) (x y z : Option D), ρ = [some (.int n), some (lotD l), some (.int s), some (.int a), x, y, z] ∧ Lot n a (l.drop i) ∧ s + rk n a (l.drop i) = rk n 0 l)
    ⟨rfl, Nat.zero_le _, 0, 0, _, _, _, rfl, L, by rw [List.drop_zero]; omega⟩ (fun i ρ μ' _ h => by rw [h.1]) (fun i d ρ μ' N1 hi h hN1 => ?_) fun ρ μ' h => ?_
  · obtain ⟨rfl, _, a, s, x, y, z, rfl, La, hs⟩ := h
    obtain ⟨e, he, rfl⟩ := enumD_get.mp hi
    obtain ⟨x0, hx0, rfl⟩ := lotD_get he
    have hi0 : i < l.length := (List.getElem?_eq_some_iff.mp hx0).1
    rw [drop_get hx0] at La hs
    obtain ⟨La1, La2, La3⟩ := La
    simp only [z_tp, z_gsc, z_gsn, gN, List.set_cons_zero, List.set_cons_succ, List.length_cons, List.length_nil, true_and]
    refine seq_cut fun R2 hR2 => ?_
    simp only [dSim, dFor, dIR2]
    refine ⟨_, _, rfl, by omega, ?_⟩
    have en : ((x0 : Int) - (a : Int)).toNat = x0 - a := by omega
    rw [en]
    refine for_inv (fun j ρ μ2 => μ2 = μ' ∧ ∃ (z : Option D), ρ = [some (.int n), some (lotD l), some (.int ((s + ((List.range j).map fun j => bin (n - (a + j) - 1) (l.drop (i + 1)).length).sum : Nat) : Int)), some (.int a), some (.int i), some (.int x0), z])
      ⟨rfl, z, by simp⟩ (fun _ _ _ _ _ => trivial) (fun j d ρ μ2 N2 hj h hN2 => ?_) fun ρ μ2 h => ?_
    · obtain ⟨rfl, z, rfl⟩ := h
      obtain ⟨hj1, rfl⟩ := rng_get.mp hj
      simp only [dSim, cChoose, List.length_map, iL_len]
      refine ⟨n - (a + j) - 1, (l.drop (i + 1)).length, ?_, by omega, by rw [List.length_drop]; omega, ?_⟩
      · have e1 : (n : Int) - ((a : Int) + (j : Nat)) - 1 = ((n - (a + j) - 1 : Nat) : Int) := by omega
        have e2 : (l.length : Int) - (i : Nat) - 1 = ((l.length - (i + 1) : Nat) : Int) := by omega
        rw [List.length_drop, e1, e2]
      · refine hN2 _ _ ⟨rfl, some (.int ((a : Int) + (j : Nat))), ?_⟩
        rw [List.range_succ, List.map_append, List.sum_append]
        simp only [List.map_cons, List.map_nil, List.sum_cons, List.sum_nil, Nat.add_zero]
        have e : ∀ u v w : Nat, ((u + v : Nat) : Int) + (w : Nat) = ((u + (v + w) : Nat) : Int) := fun u v w => by push_cast; omega
        rw [← e]
    · obtain ⟨rfl, z, rfl⟩ := h
      rw [rng_len]
      refine hR2 _ _ ?_
      simp only [dSim]
      refine hN1 _ _ ⟨rfl, hi0, x0 + 1, _, _, _, _, rfl, La3, ?_⟩
      have e : rk n a (x0 :: l.drop (i + 1)) = ((List.range (x0 - a)).map fun j => bin (n - (a + j) - 1) (l.drop (i + 1)).length).sum + rk n (x0 + 1) (l.drop (i + 1)) := rfl
      rw [e] at hs
      omega
  · obtain ⟨rfl, _, a, s, x, y, z, rfl, La, hs⟩ := h
    rw [enumD_len, List.length_map, iL_len, List.drop_length, rk_nil] at hs
    refine hR1 _ _ ?_
    simp only [dSim]
    have e : s = rk n 0 l := by omega
    rw [e]
    exact fin_of q

/-! ### lot_at -/
def cLotAt : DSp := fun ds μ Q => ∃ (n : Nat) (l : List Nat), ds = [.int n, .int (l.length : Nat), .int (rk n 0 l : Nat)] ∧ n ≤ 60 ∧ Lot n 0 l ∧ Q (lotD l) μ
def w_lotAt : DTS :=
  (dSeq (dIfS (dOr (dNot (dT (dCall cWhole [] (dCons (dVar 2) dNil)))) (dT (dOp oGe (dVar 2) (dCall cChoose [] (dCons (dVar 0) (dCons (dVar 1) dNil)))))) dNever dNext)
  (dSeq (dPar3 3 4 5 (dCons (dLstM dNil) (dCons (dC (.int 0)) (dCons (dVar 2) dNil))))
  (dSeq (dWhile (dT (dOp oLt (dCB fLen (dCons (dVar 3) dNil)) (dVar 1))) (dSeq (dAsg (dCall cChoose [] (dCons (dOp oSub (dOp oSub (dVar 0) (dVar 4)) (dC (.int 1))) (dCons (dOp oSub (dOp oSub (dVar 1) (dCB fLen (dCons (dVar 3) dNil))) (dC (.int 1))) dNil))) (gN 6))
  (dSeq (dIfS (dT (dOp oLt (dVar 5) (dVar 6))) (dDrop (dMl mAppend (dVar 3) (dCons (dVar 4) dNil))) (dAug 5 (dVar 6) (fun i j => i - j)))
  (dAug 4 (dC (.int 1)) (fun i j => i + j)))))
  (dRet (dCB fTuple (dCons (dVar 3) dNil))))))
theorem take_succ {l : List Nat} {i x : Nat} (h : l[i]? = some x) : (iL (l.take (i + 1))).map D.int = (iL (l.take i)).map D.int ++ [D.int (x : Nat)] := by
  rw [List.take_succ, h]
  simp [iL]
theorem lotAt_ok (N : List Str) (hN : N.length = 7) : ∀ ds μ Q, cLotAt ds μ Q → w_lotAt { nx := fun _ μ' => fin Q .non μ', rt := fin Q } (dstart N ds) μ := by
  intro ds μ Q h
  obtain ⟨n, l, rfl, hn, L, q⟩ := h
  have hlen := L.drop_ok
  have hlt := rk_lt 0 l L
  rw [Nat.sub_zero] at hlt
  unfold w_lotAt
  refine seq_cut fun R hR => ?_
  simp only [dSim, hN, cWhole, cChoose]
  refine ⟨_, rfl, fun a e => (by cases e), rfl, rfl, ?_⟩
  have ew : isW (.int ((rk n 0 l : Nat) : Int)) = true := by
    show decide (0 ≤ ((rk n 0 l : Nat) : Int)) = true
    exact decide_eq_true (by omega)
  rw [ew]
  simp only [z_seb, Bool.not_true, Bool.false_eq_true, if_false]
  refine ⟨n, l.length, rfl, hn, by omega, ?_⟩
  rw [if_neg (by rw [decide_eq_true_eq]; omega)]
  refine hR _ _ (seq_cut fun R1 hR1 => ?_)
  simp only [dSim]
  refine ⟨by decide, fun p hp => hR1 _ _ (seq_cut fun R2 hR2 => ?_)⟩
  refine while_inv (fun m ρ μ' => ∃ (i a : Nat) (y : Option D), i ≤ l.length ∧ μ' = mput μ p (.lst ((iL (l.take i)).map D.int)) ∧ m = n - a ∧ ρ = [some (.int n), some (.int (l.length : Nat)), some (.int (rk n 0 l : Nat)), some (.ref p), some (.int a), some (.int (rk n a (l.drop i) : Nat)), y] ∧ Lot n a (l.drop i)) n
    ⟨0, 0, none, Nat.zero_le _, rfl, rfl, rfl, L⟩ fun m ρ μ' N1 h hN1 => ?_
  obtain ⟨i, a, y, hi, rfl, hm, rfl, La⟩ := h
  have ep : mput μ p (.lst ((iL (l.take i)).map D.int)) p = some (.lst ((iL (l.take i)).map D.int)) := mput_same
  have elen : ((iL (l.take i)).map D.int).length = i := by rw [List.length_map, iL_len, List.length_take]; omega
  simp only [dSim, z_len_ref ep, elen]
  split
  · rename_i hlt
    have hlt : i < l.length := by
      have : (i : Int) < (l.length : Nat) := of_decide_eq_true hlt
      omega
    have hg : l[i]? = some l[i] := List.getElem?_eq_getElem hlt
    rw [drop_get hg] at La ⊢
    obtain ⟨La1, La2, La3⟩ := La
    have hz := sizeLine_eq
    simp only [cChoose]
    refine ⟨n - a - 1, (l.drop (i + 1)).length, ?_, by omega, by rw [List.length_drop]; omega, ?_⟩
    · have e1 : (n : Int) - (a : Nat) - 1 = ((n - a - 1 : Nat) : Int) := by omega
      have e2 : (l.length : Int) - (i : Nat) - 1 = ((l.length - (i + 1) : Nat) : Int) := by omega
      rw [List.length_drop, e1, e2]
    · have next : ∀ (i' : Nat) (v : Option D), i' ≤ l.length → Lot n (a + 1) (l.drop i') → N1 [some (.int n), some (.int (l.length : Nat)), some (.int (rk n 0 l : Nat)), some (.ref p), some (.int ((a : Int) + 1)), some (.int (rk n (a + 1) (l.drop i') : Nat)), v] (mput μ p (.lst ((iL (l.take i')).map D.int))) := fun i' v hi' L' =>
        hN1 (n - (a + 1)) _ _ (by omega) ⟨i', a + 1, _, hi', rfl, rfl, rfl, L'⟩
      simp only [dSim]
      rcases Nat.lt_or_eq_of_le La1 with k | k
      · have e1 := rk_skip (n := n) (t := l.drop (i + 1)) k
        rw [if_neg (by rw [decide_eq_true_eq, e1]; omega)]
        have e2 : ((rk n a (l[i] :: l.drop (i + 1)) : Nat) : Int) - ((bin (n - a - 1) (l.drop (i + 1)).length : Nat) : Int) = ((rk n (a + 1) (l.drop i) : Nat) : Int) := by
          rw [e1, drop_get hg]
          omega
        rw [e2]
        exact next i _ hi (by rw [drop_get hg]; exact ⟨k, La2, La3⟩)
      · have e1 : rk n a (l[i] :: l.drop (i + 1)) = rk n (a + 1) (l.drop (i + 1)) := by
          conv => lhs; rw [← k]
          rw [rk_here]
        have L' : Lot n (a + 1) (l.drop (i + 1)) := by rw [k]; exact La3
        have e2 := rk_lt _ _ L'
        have e3 : n - a - 1 = n - (a + 1) := by omega
        rw [e1, if_pos (by rw [decide_eq_true_eq, e3]; omega)]
        simp only [z_isL ep, z_onL ep, z_append, elen]
        refine ⟨by omega, ?_⟩
        rw [mput_mput]
        have e4 := take_succ hg
        rw [← k] at e4
        rw [← e4]
        exact next (i + 1) _ hlt L'
  · rename_i hge
    have hge : i = l.length := by
      have : ¬ (i : Int) < (l.length : Nat) := fun z => hge (decide_eq_true z)
      omega
    refine hR2 _ _ ?_
    simp only [dSim, z_tuple_ref ep]
    rw [hge, List.take_length]
    exact fin_sub (Sub.put hp Sub.refl) q
end DL

/-! LotQ: drawn lots. -/
namespace DL
open PySem PySem.Spec PyProof.Rows L2
theorem lot_of_pw {n : Nat} : ∀ {a : Nat} {l : List Nat}, l.Pairwise (· < ·) → (∀ x ∈ l, a ≤ x ∧ x < n) → Lot n a l
  | _, [], _, _ => trivial
  | a, x :: t, h, hm => by
    obtain ⟨h1, h2⟩ := List.pairwise_cons.mp h
    refine ⟨(hm x List.mem_cons_self).1, (hm x List.mem_cons_self).2, lot_of_pw h2 fun y hy => ⟨h1 y hy, (hm y (List.mem_cons_of_mem _ hy)).2⟩⟩
theorem Lot.pw {n : Nat} : ∀ {a : Nat} {l : List Nat}, Lot n a l → l.Pairwise (· < ·)
  | _, [], _ => .nil
  | a, x :: t, ⟨_, _, h3⟩ => List.pairwise_cons.mpr ⟨fun y hy => (h3.mem y hy).1, h3.pw⟩
theorem Lot.nodup {n a : Nat} {l : List Nat} (h : Lot n a l) : l.Nodup := h.pw.imp fun h => Nat.ne_of_lt h
theorem iL_toNat (l : List Nat) : (iL l).map Int.toNat = l := by
  unfold iL
  rw [List.map_map]
  exact (List.map_congr_left fun x _ => Int.toNat_natCast x).trans (List.map_id _)
/-- what sorted gives of different numbers -/
theorem sort_lot {m : Nat} {fs : List Nat} {ms : List Int} (hp : ms.Perm (iL fs)) (hs : ms.Pairwise (· ≤ ·)) (nd : fs.Nodup) (hm : ∀ x ∈ fs, x < m) : ∃ l, ms = iL l ∧ Lot m 0 l ∧ l.Perm fs := by
  have h0 : ∀ x ∈ ms, ∃ y : Nat, x = y := fun x hx => by
    have := hp.mem_iff.mp hx
    unfold iL at this
    obtain ⟨y, _, e⟩ := List.mem_map.mp this
    exact ⟨y, e.symm⟩
  have pl : (ms.map Int.toNat).Perm fs := by
    have := hp.map Int.toNat
    rw [iL_toNat] at this
    exact this
  have e : ms = iL (ms.map Int.toNat) := by
    unfold iL
    rw [List.map_map]
    refine (List.map_id ms).symm.trans (List.map_congr_left fun x hx => ?_)
    obtain ⟨y, rfl⟩ := h0 x hx
    simp
  refine ⟨ms.map Int.toNat, e, lot_of_pw ?_ fun x hx => ⟨Nat.zero_le _, hm x (pl.mem_iff.mp hx)⟩, pl⟩
  have nd2 : (ms.map Int.toNat).Nodup := pl.nodup_iff.mpr nd
  have le : (ms.map Int.toNat).Pairwise (· ≤ ·) := List.pairwise_map.mpr (hs.imp fun {x y} h => by omega)
  exact (le.and nd2).imp fun ⟨h1, h2⟩ => Nat.lt_of_le_of_ne h1 h2

theorem eraseIdx_map' {α β : Type} (f : α → β) : ∀ (l : List α) (i : Nat), (l.map f).eraseIdx i = (l.eraseIdx i).map f
  | [], _ => rfl
  | _ :: _, 0 => rfl
  | x :: l, i + 1 => congrArg (f x :: ·) (eraseIdx_map' f l i)
theorem erase_perm {α : Type} : ∀ (l : List α) (i : Nat) (h : i < l.length), (l[i] :: l.eraseIdx i).Perm l
  | [], _, h => absurd h (Nat.not_lt_zero _)
  | _ :: _, 0, _ => .refl _
  | x :: l, i + 1, h => (List.Perm.swap _ _ _).trans ((erase_perm l i (Nat.lt_of_succ_lt_succ h)).cons x)
/-! ### some lot -/
def cSomeLot : DSp := fun ds μ Q => ∃ (a : Addr) (m k n : Nat), ds = [.ref a, .int m, .int k] ∧ k ≤ m ∧ m ≤ 1000 ∧ IsPot n μ a ∧ n < 100000000 ∧ ∀ (l : List Nat) (μ' : Mu), Lot m 0 l → l.length = k → Keep a μ μ' → IsPot (n + k) μ' a → Q (lotD l) μ'
def w_someLot : DTS :=
  (dSeq (dPar 3 4 (dCons (dLstRgM (dRg1 (dVar 1))) (dCons (dLstM dNil) dNil)))
  (dSeq (dFor (dIR1 (dCons (dVar 2) dNil)) (gN 5) (dDrop (dMl mAppend (dVar 4) (dCons (dMl mPopAt (dVar 3) (dCons (dCall cTake [] (dCons (dVar 0) (dCons (dCB fLen (dCons (dVar 3) dNil)) dNil))) dNil)) dNil))))
  (dRet (dCB fTuple (dCons (dCB fSort (dCons (dVar 4) dNil)) dNil)))))
theorem rng_iL (m : Nat) : rng 0 m = (iL (List.range m)).map D.int := by
  unfold rng iL
  rw [List.map_map]
  refine List.map_congr_left fun i _ => ?_
  show D.int (0 + (i : Int)) = D.int (i : Nat)
  rw [Int.zero_add]
theorem seqIndex_nat {n r : Nat} (h : r < n) : seqIndex? (r : Nat) n = some r := by
  unfold seqIndex?
  have e : (if (r : Int) < 0 then (r : Int) + (n : Int) else (r : Int)) = (r : Int) := if_neg (by omega)
  rw [e]
  simp [h]
theorem someLot_ok (N : List Str) (hN : N.length = 6) : ∀ ds μ Q, cSomeLot ds μ Q → w_someLot { nx := fun _ μ' => fin Q .non μ', rt := fin Q } (dstart N ds) μ := by
  intro ds μ Q h
  obtain ⟨a, m, k, n, rfl, hk, hm, hp, hn, q⟩ := h
  unfold w_someLot
  refine seq_cut fun R hR => ?_
  simp only [dSim, hN]
  refine ⟨by omega, by omega, fun p1 hp1 => ?_⟩
  refine ⟨by decide, fun p2 hp2 => hR _ _ (seq_cut fun R1 hR1 => ?_)⟩
  have e0 : ((m : Int) - 0).toNat = m := by omega
  rw [e0]
  rw [e0] at hp2
  have a1 : a ≠ p1 := hp.ne hp1
  have p21 : p2 ≠ p1 := fun e => by
    rw [e, mput_same] at hp2
    cases hp2
  have hp2' : μ p2 = none := by rw [mput_ne p21] at hp2; exact hp2
  have a2 : a ≠ p2 := hp.ne hp2'
  simp only [dSim, dFor, dIR1]
  refine ⟨_, rfl, by omega, by omega, ?_⟩
  rw [Int.toNat_natCast]
  refine for_inv (fun i ρ μ' => i ≤ k ∧ Keep a μ μ' ∧ IsPot (n + i) μ' a ∧ ∃ (ls fs : List Nat) (z : Option D), μ' p1 = some (.lst ((iL ls).map D.int)) ∧ μ' p2 = some (.lst ((iL fs).map D.int)) ∧ (fs ++ ls).Perm (List.range m) ∧ fs.length = i ∧
      ρ = [some (.ref a), some (.int m), some (.int k), some (.ref p1), some (.ref p2), z])
    ⟨Nat.zero_le _, ?_, ?_, List.range m, [], _, ?_, mput_same, by simp, rfl, rfl⟩ (fun _ _ _ _ _ => trivial) (fun i d ρ μ' N1 hi h hN1 => ?_) fun ρ μ' h => ?_
  · exact (Keep.refl.new hp1).new hp2'
  · exact (hp.at_ (mput_ne a1)).at_ (mput_ne a2)
  · rw [mput_ne (Ne.symm p21), mput_same, rng_iL]
  · obtain ⟨_, hkp, hpt, ls, fs, z, m1, m2, pm, hl, rfl⟩ := h
    obtain ⟨h1, rfl⟩ := rng_at hi
    have hlen : fs.length + ls.length = m := by
      have := pm.length_eq
      rw [List.length_append, List.length_range] at this
      exact this
    simp only [dSim, z_isL m2, z_isL m1, z_len_ref m1, cTake]
    refine ⟨a, _, n + i, rfl, by rw [List.length_map, iL_len]; omega, by rw [List.length_map, iL_len]; omega, hpt, by omega, fun r μ2 r0 r1 hk2 hpt2 => ?_⟩
    rw [List.length_map, iL_len] at r1
    obtain ⟨r, rfl⟩ : ∃ j : Nat, r = j := ⟨r.toNat, by omega⟩
    have hr : r < ls.length := by omega
    have m1' := hk2 p1 _ (Ne.symm a1) m1
    have m2' := hk2 p2 _ (Ne.symm a2) m2
    have hg : ls[r]? = some ls[r] := List.getElem?_eq_getElem hr
    rw [z_onL m1']
    refine ⟨r, r, _, rfl, by omega, by omega, by rw [List.length_map, iL_len]; exact seqIndex_nat hr, lotD_at hg, ?_⟩
    have m2'' : mput μ2 p1 (.lst (((iL ls).map D.int).eraseIdx r)) p2 = some (.lst ((iL fs).map D.int)) := by rw [mput_ne p21]; exact m2'
    simp only [z_onL m2'', z_append]
    have hz := sizeLine_eq
    refine ⟨by rw [List.length_map, iL_len]; omega, hN1 _ _ ⟨h1, ?_, ?_, ls.eraseIdx r, fs ++ [ls[r]], _, ?_, ?_, ?_, by simp [hl], rfl⟩⟩
    · exact ((hkp.trans hk2).new hp1).new hp2'
    · exact (hpt2.at_ (mput_ne a1)).at_ (mput_ne a2)
    · rw [mput_ne (Ne.symm p21), mput_same]
      unfold iL
      rw [eraseIdx_map', eraseIdx_map']
    · rw [mput_same]
      simp [iL]
    · refine List.Perm.trans ?_ pm
      rw [List.append_assoc]
      refine List.Perm.append_left _ ?_
      exact erase_perm ls r hr
  · obtain ⟨_, hkp, hpt, ls, fs, z, m1, m2, pm, hl, rfl⟩ := h
    rw [rng_len] at hl hpt
    refine hR1 _ _ ?_
    simp only [dSim]
    refine sort_of (.inl (see_ref m2)) fun ms h1 h2 => ?_
    obtain ⟨l, rfl, L, pl⟩ := sort_lot (m := m) h1 h2 ((List.nodup_append.mp (pm.nodup_iff.mpr List.nodup_range)).1) fun x hx => by
      have := pm.mem_iff.mp (List.mem_append_left _ hx)
      exact List.mem_range.mp this
    simp only [dSim]
    exact fin_of (q l μ' L (pl.length_eq.trans hl) hkp hpt)
/-! ### membership, ==, comprehensions over numbers -/
section
variable {μ : Mu} {Q : DQ}
theorem flat_ints : ∀ ns : List Int, (ns.map D.int).all flatD = true
  | [] => rfl
  | _ :: ns => flat_ints ns
theorem inD_nat {x : Nat} : ∀ l : List Nat, inD (.int (x : Nat)) ((iL l).map D.int) = decide (x ∈ l)
  | [] => by simp [inD, iL]
  | y :: l => by
    have h := inD_nat (x := x) l
    unfold inD at h ⊢
    show (eqD (.int (y : Nat)) (.int (x : Nat)) || ((iL l).map D.int).any _) = _
    rw [h, eqD_int]
    by_cases e : y = x
    · subst e
      simp
    · have e1 : ¬ (y : Int) = (x : Int) := by omega
      have e2 : ¬ x = y := fun z => e z.symm
      simp [e1, e2]
theorem z_inT {x : Nat} {l : List Nat} {b : Bool} : dIn b (.int (x : Nat)) (lotD l) μ Q = Q (.bl (if b then !decide (x ∈ l) else decide (x ∈ l))) μ := propext (Iff.intro (fun ⟨_, ys, e, _, h⟩ => by
  rcases e with e | e
  · cases e
  · cases e
    rw [inD_nat] at h
    exact h) fun h => ⟨rfl, _, .inr rfl, flat_ints _, by rw [inD_nat]; exact h⟩)
theorem z_inL {x : Nat} {l : List Nat} {b : Bool} : dIn b (.int (x : Nat)) (lstD l) μ Q = Q (.bl (if b then !decide (x ∈ l) else decide (x ∈ l))) μ := propext (Iff.intro (fun ⟨_, ys, e, _, h⟩ => by
  rcases e with e | e
  · cases e
    rw [inD_nat] at h
    exact h
  · cases e) fun h => ⟨rfl, _, .inl rfl, flat_ints _, by rw [inD_nat]; exact h⟩)
theorem iL_eq {l l' : List Nat} : decide (iL l = iL l') = decide (l = l') := by
  rw [decide_eq_decide]
  exact ⟨iL_inj, fun h => by rw [h]⟩
theorem z_eqLot {l l' : List Nat} : dEq (lotD l) (lotD l') μ Q = Q (.bl (decide (l = l'))) μ := propext (Iff.intro (fun h => by
  have := h.2.2
  rw [see_tup, see_tup, eqD_tints, iL_eq] at this
  exact this) fun h => ⟨Pl_tints, Pl_tints, by rw [see_tup, see_tup, eqD_tints, iL_eq]; exact h⟩)
theorem z_neLot {l l' : List Nat} : dNe (lotD l) (lotD l') μ Q = Q (.bl (!decide (l = l'))) μ := propext (Iff.intro (fun h => by
  have := h.2.2
  rw [see_tup, see_tup, eqD_tints, iL_eq] at this
  exact this) fun h => ⟨Pl_tints, Pl_tints, by rw [see_tup, see_tup, eqD_tints, iL_eq]; exact h⟩)
theorem z_eqLst {l l' : List Nat} : dEq (lstD l) (lstD l') μ Q = Q (.bl (decide (l = l'))) μ := propext (Iff.intro (fun h => by
  have := h.2.2
  rw [see_lst, see_lst, eqD_lints, iL_eq] at this
  exact this) fun h => ⟨Pl_lints, Pl_lints, by rw [see_lst, see_lst, eqD_lints, iL_eq]; exact h⟩)
theorem z_neLst {l l' : List Nat} : dNe (lstD l) (lstD l') μ Q = Q (.bl (!decide (l = l'))) μ := propext (Iff.intro (fun h => by
  have := h.2.2
  rw [see_lst, see_lst, eqD_lints, iL_eq] at this
  exact this) fun h => ⟨Pl_lints, Pl_lints, by rw [see_lst, see_lst, eqD_lints, iL_eq]; exact h⟩)
theorem z_nat {i j : Nat} : decide ((i : Int) = (j : Int)) = decide (i = j) := by
  rw [decide_eq_decide]
  omega
theorem lex_iL : ∀ l l' : List Nat, HT.lexLt (iL l) (iL l') = lexN l l'
  | [], [] => by simp [iL, HT.lexLt, lexN]
  | [], _ :: _ => by simp [iL, HT.lexLt, lexN]
  | _ :: _, [] => by simp [iL, HT.lexLt, lexN]
  | x :: l, y :: l' => by
    have h := lex_iL l l'
    show HT.lexLt ((x : Int) :: iL l) ((y : Int) :: iL l') = _
    rw [HT.lexLt_cons, lexN_cons, h]
    by_cases e : x = y
    · rw [if_pos e, if_pos (by omega)]
    · rw [if_neg e, if_neg (by omega), decide_eq_decide]
      omega
end
/-- a comprehension over numbers, with a test -/
theorem lc_nat {tt : DB} {te : DT} {G : Mu → Prop} {ρ0 : Rho} {Q : List D → Mu → Prop} {s : Nat} {μ : Mu} {items : List Nat} (p : Nat → Bool) (f : Nat → D) (hG : G μ) (hn : items.length ≤ sizeLine)
    (ht : ∀ (x : Nat) (K : Bool → Mu → Prop), x ∈ items → K (p x) μ → tt (ρ0.set s (some (.int (x : Nat)))) μ K)
    (hs : ∀ (x : Nat) (K : D → Mu → Prop), x ∈ items → p x = true → K (f x) μ → te (ρ0.set s (some (.int (x : Nat)))) μ K) (hd : Q ((items.filter p).map f) μ) : lcGo (gN s) tt te G ρ0 Q ((iL items).map D.int) [] μ := by
  let un : D → Nat := fun d => match d with | .int i => i.toNat | _ => 0
  have e : ∀ x : Nat, un (.int (x : Nat)) = x := fun x => Int.toNat_natCast x
  have mem : ∀ d ∈ (iL items).map D.int, ∃ x ∈ items, d = .int (x : Nat) := fun d hd => by
    obtain ⟨i, hi, rfl⟩ := List.mem_map.mp hd
    obtain ⟨x, hx, rfl⟩ := List.mem_map.mp hi
    exact ⟨x, hx, rfl⟩
  refine lc_filter (fun d => p (un d)) (fun d => f (un d)) hG (by rw [List.length_map, iL_len]; exact hn) (fun d K hd hK => ?_) (fun d K hd hp hK => ?_) ?_
  · obtain ⟨x, hx, rfl⟩ := mem d hd
    rw [e] at hK
    exact ht x K hx hK
  · obtain ⟨x, hx, rfl⟩ := mem d hd
    rw [e] at hK hp
    exact hs x K hx hp hK
  · have e2 : (((iL items).map D.int).filter fun d => p (un d)).map (fun d => f (un d)) = (items.filter p).map f := by
      unfold iL
      rw [List.map_map, List.filter_map, List.map_map]
      have e3 : ((fun d => p (un d)) ∘ D.int ∘ fun x : Nat => (x : Int)) = p := by
        funext x
        show p (un (.int (x : Nat))) = p x
        rw [e]
      rw [e3]
      refine List.map_congr_left fun x _ => ?_
      show f (un (.int (x : Nat))) = f x
      rw [e]
    rw [e2]
    exact hd
theorem map_int (l : List Nat) : (l.map fun x : Nat => D.int (x : Nat)) = (iL l).map D.int := by
  unfold iL
  rw [List.map_map]
  rfl
theorem others_zero {m : Nat} {l : List Nat} : others m 0 l = (List.range m).filter fun x => !decide (x ∈ l) := by
  unfold others
  rw [Nat.sub_zero, List.range_eq_range']
  refine List.filter_congr fun x _ => ?_
  rw [List.contains_eq_mem]
theorem mem_others {m x : Nat} {l : List Nat} : x ∈ others m 0 l ↔ x < m ∧ x ∉ l := by
  rw [others_zero, List.mem_filter, List.mem_range]
  simp

/-! ### one other hand -/
def cNear : DSp := fun ds μ Q => ∃ (a : Addr) (m n : Nat) (l : List Nat), ds = [.ref a, .int m, lotD l] ∧ Lot m 0 l ∧ m ≤ 1000 ∧ IsPot n μ a ∧ n < 100000000 ∧ ∀ (l' : List Nat) (μ' : Mu), Lot m 0 l' → l'.length = l.length → Keep a μ μ' → IsPot (n + 2) μ' a → Q (lotD l') μ'
def w_near : DTS :=
  (dSeq (dAsg (dLc (dIR1 (dCons (dVar 1) dNil)) (gN 4) (dT (dOp (dIn true) (dVar 4) (dVar 2))) (dVar 4) [4]) (gN 3))
  (dSeq (dIfS (dOr (dT (dOp dEq (dVar 3) (dLst dNil))) (dT (dOp dEq (dVar 2) (dTup dNil)))) (dRet (dVar 2)) dNext)
  (dSeq (dAsg (dTup (dCons (dCall cOf [] (dCons (dVar 0) (dCons (dCB fList (dCons (dVar 2) dNil)) dNil))) (dCons (dCall cOf [] (dCons (dVar 0) (dCons (dVar 3) dNil))) dNil))) (gTp 2 (gsCons (gN 5) (gsCons (gN 6) gsNil))))
  (dRet (dCB fTuple (dCons (dCB fSort (dCons (dOp dAdd (dLc (dISeq (dVar 2)) (gN 4) (dT (dOp dNe (dVar 4) (dVar 5))) (dVar 4) [4]) (dLst (dCons (dVar 6) dNil))) dNil)) dNil))))))
theorem near_ok (N : List Str) (hN : N.length = 7) : ∀ ds μ Q, cNear ds μ Q → w_near { nx := fun _ μ' => fin Q .non μ', rt := fin Q } (dstart N ds) μ := by
  intro ds μ Q h
  obtain ⟨a, m, n, l, rfl, L, hm, hp, hn, q⟩ := h
  have hlen := L.drop_ok
  have hz := sizeLine_eq
  unfold w_near
  refine seq_cut fun R hR => ?_
  simp only [dSim, hN, dLc, dIR1]
  refine ⟨_, rfl, by omega, by omega, ?_⟩
  rw [Int.toNat_natCast, rng_iL]
  refine lc_nat (fun x => !decide (x ∈ l)) (fun x => .int (x : Nat)) trivial (by rw [List.length_range]; omega) (fun x K _ hK => ?_) (fun x K _ _ hK => ?_) ?_
  · simp only [dSim, dwipe, z_inT, if_true]
    exact hK
  · simp only [dSim, dwipe]
    exact hK
  rw [← others_zero, map_int]
  obtain ⟨o1, o2⟩ := others_lot m 0 l (by omega) L
  refine hR _ _ (seq_cut fun R1 hR1 => ?_)
  have e1 : D.lst [] = lstD [] := rfl
  have e2 : D.tup [] = lotD [] := rfl
  simp only [dSim]
  rw [e1, e2]
  simp only [dSim, z_eqLst, z_eqLot]
  have here : ∀ {μ' : Mu}, Keep a μ μ' → IsPot n μ' a → fin Q (lotD l) μ' := fun hk hp => fin_of (q l _ L rfl hk (hp.mono (by omega)))
  refine ⟨by decide, ?_⟩
  split
  · exact here Keep.refl hp
  · rename_i h1
    have h1 := dec_iff h1
    refine ⟨by decide, ?_⟩
    split
    · exact here Keep.refl hp
    · rename_i h2
      have h2 := dec_iff h2
      refine hR1 _ _ (seq_cut fun R2 hR2 => ?_)
      have pos : ∀ {k : List Nat}, ¬ k = [] → 0 < k.length := fun {k} h => List.length_pos_iff.mpr h
      simp only [dSim, cOf, list_of (show see μ (lotD l) = .lst ((iL l).map D.int) ∨ see μ (lotD l) = .tup ((iL l).map D.int) from .inr rfl)]
      refine ⟨a, n, _, _, rfl, .inl rfl, by rw [List.length_map, iL_len]; exact pos h2, by rw [List.length_map, iL_len]; omega, hp, by omega, fun d hd μ1 k1 p1 => ?_⟩
      obtain ⟨i, hi, rfl⟩ := List.mem_map.mp hd
      obtain ⟨x, hx, rfl⟩ := List.mem_map.mp hi
      refine ⟨a, n + 1, _, _, rfl, .inl rfl, by rw [List.length_map, iL_len]; exact pos h1, by rw [List.length_map, iL_len]; omega, p1, by omega, fun d hd μ2 k2 p2 => ?_⟩
      obtain ⟨i, hi, rfl⟩ := List.mem_map.mp hd
      obtain ⟨y, hy, rfl⟩ := List.mem_map.mp hi
      obtain ⟨hy1, hy2⟩ := mem_others.mp hy
      refine ⟨by decide, hR2 _ _ ?_⟩
      simp only [dSim, dLc, dISeq]
      refine ⟨_, .inr rfl, ?_⟩
      refine lc_nat (fun z => !decide (z = x)) (fun z => .int (z : Nat)) rfl (by omega) (fun z K _ hK => ?_) (fun z K _ _ hK => ?_) ?_
      · simp only [dSim, dwipe, z_ne_int, z_nat]
        exact hK
      · simp only [dSim, dwipe]
        exact hK
      rw [map_int]
      have e3 : ((iL (l.filter fun z => !decide (z = x))).map D.int) ++ [D.int (y : Nat)] = (iL ((l.filter fun z => !decide (z = x)) ++ [y])).map D.int := by simp [iL]
      refine ⟨by decide, by rw [List.length_map, iL_len]; exact Nat.le_trans (Nat.add_le_add_right (List.length_filter_le _ _) _) (by omega), ?_⟩
      rw [e3]
      refine sort_of (.inl rfl) fun ms h3 h4 => ?_
      have nd : ((l.filter fun z => !decide (z = x)) ++ [y]).Nodup := by
        refine List.nodup_append.mpr ⟨L.nodup.filter _, by simp, fun u hu v hv => ?_⟩
        rw [List.mem_singleton] at hv
        subst hv
        intro e
        subst e
        exact hy2 (List.mem_filter.mp hu).1
      obtain ⟨l', rfl, L', pl⟩ := sort_lot (m := m) h3 h4 nd fun u hu => by
        rcases List.mem_append.mp hu with hu | hu
        · exact (L.mem u (List.mem_filter.mp hu).1).2
        · rw [List.mem_singleton.mp hu]
          exact hy1
      simp only [dSim]
      refine fin_of (q l' μ2 L' ?_ (k1.trans k2) p2)
      rw [pl.length_eq, List.length_append]
      have e4 : (l.filter fun z => !decide (z = x)) = l.erase x := by
        rw [L.nodup.erase_eq_filter]
        refine List.filter_congr fun z _ => ?_
        by_cases e : z = x <;> simp [e]
      rw [e4, List.length_erase_of_mem hx]
      have := pos h2
      simp only [List.length_cons, List.length_nil]
      omega
end DL

/-! WishP: wishes: None or a number each; the defs wished, first_wishers, leaders. -/
namespace DL
open PySem PySem.Spec PyProof.Rows L2
def oD : Option Int → D
  | none => .non
  | some i => .int i
abbrev wishD (ws : List (Option Int)) : D := .tup (ws.map oD)
/-- the place of the first that wishes v -/
def fi : List (Option Int) → Int → Nat
  | [], _ => 0
  | w :: ws, v => if w = some v then 0 else fi ws v + 1
theorem fi_mem : ∀ {ws : List (Option Int)} {v : Int}, some v ∈ ws → ws[fi ws v]? = some (some v) ∧ some v ∉ ws.take (fi ws v)
  | w :: ws, v, h => by
    unfold fi
    by_cases e : w = some v
    · rw [if_pos e]
      exact ⟨by simp [e], by simp⟩
    · rw [if_neg e]
      have hm : some v ∈ ws := by
        rcases List.mem_cons.mp h with h | h
        · exact absurd h.symm e
        · exact h
      obtain ⟨h1, h2⟩ := fi_mem hm
      refine ⟨by simpa using h1, ?_⟩
      rw [List.take_succ_cons]
      intro h3
      rcases List.mem_cons.mp h3 with h3 | h3
      · exact e h3.symm
      · exact h2 h3
theorem fi_at : ∀ {ws : List (Option Int)} {v : Int} {i : Nat}, ws[i]? = some (some v) → some v ∉ ws.take i → fi ws v = i
  | w :: ws, v, 0, h, _ => by
    have e : w = some v := by simpa using h
    unfold fi
    rw [if_pos e]
  | w :: ws, v, i + 1, h, hn => by
    rw [List.take_succ_cons, List.mem_cons] at hn
    unfold fi
    rw [if_neg fun e => hn (.inl e.symm), fi_at (ws := ws) (i := i) (by simpa using h) fun e => hn (.inr e)]
theorem fi_lt {ws : List (Option Int)} {v : Int} (h : some v ∈ ws) : fi ws v < ws.length := (List.getElem?_eq_some_iff.mp (fi_mem h).1).1
theorem fi_inj {ws : List (Option Int)} {v u : Int} (h : some v ∈ ws) (h' : some u ∈ ws) (e : fi ws v = fi ws u) : v = u := by
  have h1 := (fi_mem h).1
  rw [e, (fi_mem h').1] at h1
  cases h1
  rfl
/-- what is wished, once each, in order -/
def Wd (ws : List (Option Int)) (ms : List Int) : Prop := ms.Pairwise (· < ·) ∧ ∀ v, v ∈ ms ↔ some v ∈ ws
/-- those who wish first -/
def Ld (ws : List (Option Int)) (l : List Nat) : Prop := Lot ws.length 0 l ∧ ∀ h, h ∈ l ↔ ∃ v, ws[h]? = some (some v) ∧ fi ws v = h
theorem pw_ext {α : Type} {r : α → α → Prop} (ir : ∀ a, ¬ r a a) (tr : ∀ a b c, r a b → r b c → r a c) : ∀ {l l' : List α}, l.Pairwise r → l'.Pairwise r → (∀ x, x ∈ l ↔ x ∈ l') → l = l'
  | [], [], _, _, _ => rfl
  | [], y :: l', _, _, h => absurd ((h y).mpr List.mem_cons_self) List.not_mem_nil
  | x :: l, [], _, _, h => absurd ((h x).mp List.mem_cons_self) List.not_mem_nil
  | x :: l, y :: l', p, q, h => by
    obtain ⟨p1, p2⟩ := List.pairwise_cons.mp p
    obtain ⟨q1, q2⟩ := List.pairwise_cons.mp q
    have e : x = y := by
      rcases List.mem_cons.mp ((h x).mp List.mem_cons_self) with e | m1
      · exact e
      · rcases List.mem_cons.mp ((h y).mpr List.mem_cons_self) with e | m2
        · exact e.symm
        · exact absurd (tr _ _ _ (p1 y m2) (q1 x m1)) (ir _)
    subst e
    rw [pw_ext ir tr p2 q2 fun z => ?_]
    have hz := h z
    rw [List.mem_cons, List.mem_cons] at hz
    constructor
    · intro m
      rcases hz.mp (.inr m) with e | m'
      · subst e
        exact absurd (p1 _ m) (ir _)
      · exact m'
    · intro m
      rcases hz.mpr (.inr m) with e | m'
      · subst e
        exact absurd (q1 _ m) (ir _)
      · exact m'
theorem Wd.eq {ws : List (Option Int)} {ms ms' : List Int} (h : Wd ws ms) (h' : Wd ws ms') : ms = ms' := pw_ext (fun a => Int.lt_irrefl a) (fun _ _ _ => Int.lt_trans) h.1 h'.1 fun v => (h.2 v).trans (h'.2 v).symm
theorem Lot.ext {n m : Nat} {l l' : List Nat} (h : Lot n 0 l) (h' : Lot m 0 l') (e : ∀ x, x ∈ l ↔ x ∈ l') : l = l' := pw_ext (fun a => Nat.lt_irrefl a) (fun _ _ _ => Nat.lt_trans) h.pw h'.pw e
theorem Ld.eq {ws : List (Option Int)} {l l' : List Nat} (h : Ld ws l) (h' : Ld ws l') : l = l' := h.1.ext h'.1 fun x => (h.2 x).trans (h'.2 x).symm
/-! ### wished -/
def cWished : DSp := fun ds μ Q => ∃ ws : List (Option Int), ds = [wishD ws] ∧ ws.length ≤ 60 ∧ ∀ ms, Wd ws ms → Q (.tup (ms.map D.int)) μ
def w_wished' : DTS :=
  (dRet (dCB fTuple (dCons (dSortSc (dISeq (dVar 0)) (gN 1) (dT (dOp dIsN (dVar 1) (dC .non))) (dVar 1) [1]) dNil)))
theorem wished_ok (N : List Str) (hN : N.length = 2) : ∀ ds μ Q, cWished ds μ Q → w_wished' { nx := fun _ μ' => fin Q .non μ', rt := fin Q } (dstart N ds) μ := by
  intro ds μ Q h
  obtain ⟨ws, rfl, hl, q⟩ := h
  unfold w_wished'
  simp only [dSim, hN, dSortSc, dISeq]
  refine ⟨_, .inr rfl, ?_⟩
  refine sc_gen ws oD (fun o => o.isSome) (fun o => o.getD 0) rfl (by omega) (fun o K1 K2 _ h1 h2 => ?_) ?_
  · cases o with
    | none =>
      simp only [dSim, dwipe, oD]
      exact h2 rfl
    | some i =>
      simp only [dSim, dwipe, oD]
      exact h1 rfl
  · intro ms h1 h2
    refine fin_of (q ms ⟨h1, fun v => ?_⟩)
    rw [h2, List.mem_map]
    constructor
    · rintro ⟨o, ho, e⟩
      obtain ⟨ho1, ho2⟩ := List.mem_filter.mp ho
      cases o with
      | none => cases ho2
      | some i =>
        have e : i = v := e
        rw [← e]
        exact ho1
    · intro hv
      exact ⟨some v, List.mem_filter.mpr ⟨hv, rfl⟩, rfl⟩
/-! ### first_wishers -/
def cFirst : DSp := fun ds μ Q => ∃ ws : List (Option Int), ds = [wishD ws] ∧ ws.length ≤ 60 ∧ ∀ ms, Wd ws ms → Q (lotD (ms.map (fi ws))) μ
def w_firstW : DTS :=
  (dSeq (dAsg dNewK (gN 1))
  (dSeq (dFor (dIEnum (dCons (dVar 0) dNil)) (gTp 2 (gsCons (gN 2) (gsCons (gN 3) gsNil))) (dIfS (dT (dOp dIsN (dVar 3) (dC .non))) (dDrop (dSetd (dVar 1) (dVar 3) (dVar 2))) dNext))
  (dRet (dCB fTuple (dCons (dLc (dISeq (dCB fSortD (dCons (dVar 1) dNil))) (gN 3) dYes (dGetD (dVar 1) (dVar 3)) [3]) dNil)))))
theorem getT_append {κ : Type} [DecidableEq κ] {kvs : List (κ × D)} {k j : κ} {d : D} (h : getT kvs k = none) : getT (kvs ++ [(k, d)]) j = if j = k then some d else getT kvs j := by
  unfold getT at h ⊢
  rw [List.find?_append]
  by_cases e : j = k
  · subst e
    rw [if_pos rfl]
    have h' : kvs.find? (fun kv => decide (kv.1 = j)) = none := by simpa using h
    rw [h']
    simp
  · rw [if_neg e]
    have e' : ¬ k = j := fun z => e z.symm
    cases h2 : kvs.find? fun kv => decide (kv.1 = j) <;> simp [h2, e']
theorem putT_new {κ : Type} [DecidableEq κ] {kvs : List (κ × D)} {k : κ} {d : D} (h : getT kvs k = none) : putT kvs k d = kvs ++ [(k, d)] := by
  unfold putT
  rw [if_neg]
  intro ha
  obtain ⟨p, hp, e⟩ := List.any_eq_true.mp ha
  unfold getT at h
  have h' : kvs.find? (fun kv => decide (kv.1 = k)) = none := by simpa using h
  have := List.find?_eq_none.mp h' p hp
  exact this e
theorem firstW_ok (N : List Str) (hN : N.length = 4) : ∀ ds μ Q, cFirst ds μ Q → w_firstW { nx := fun _ μ' => fin Q .non μ', rt := fin Q } (dstart N ds) μ := by
  intro ds μ Q h
  obtain ⟨ws, rfl, hl, q⟩ := h
  have hz := sizeLine_eq
  unfold w_firstW
  refine seq_cut fun R hR => ?_
  simp only [dSim, hN, dNewK]
  refine fun p hp => hR _ _ (seq_cut fun R1 hR1 => ?_)
  simp only [dSim, dFor, dIEnum]
  refine ⟨_, _, rfl, .inr rfl, ?_⟩
  refine for_inv (fun i ρ μ' => ∃ (kvs : List (Key × D)) (ks : List Int) (x y : Option D), μ' = mput μ p (.dk kvs) ∧ kvs.map (·.1) = ks.map Sum.inl ∧ ks.Nodup ∧ ks.length ≤ i ∧ (∀ v, v ∈ ks ↔ some v ∈ ws.take i) ∧
      (∀ v, getT kvs (.inl v) = if some v ∈ ws.take i then some (.int (fi ws v : Nat)) else none) ∧ ρ = [some (wishD ws), some (.ref p), x, y])
    ⟨[], [], _, _, rfl, rfl, .nil, Nat.le_refl _, fun v => by simp, fun v => by simp [getT], rfl⟩ (fun i ρ μ' _ h => by obtain ⟨_, _, _, _, rfl, _⟩ := h; rfl) (fun i d ρ μ' N1 hi h hN1 => ?_) fun ρ μ' h => ?_
  · obtain ⟨kvs, ks, x, y, rfl, k1, k2, k3, k4, k5, rfl⟩ := h
    obtain ⟨e, he, rfl⟩ := enumD_get.mp hi
    rw [List.getElem?_map] at he
    cases hw : ws[i]? with
    | none => rw [hw] at he; cases he
    | some o =>
      rw [hw] at he
      cases he
      have hi2 := (List.getElem?_eq_some_iff.mp hw).1
      have et : ws.take (i + 1) = ws.take i ++ [o] := by
        rw [List.take_succ, hw]
        rfl
      have ep : mput μ p (.dk kvs) p = some (.dk kvs) := mput_same
      simp only [z_tp, z_gsc, z_gsn, gN, List.set_cons_zero, List.set_cons_succ, List.length_cons, List.length_nil, true_and]
      cases o with
      | none =>
        simp only [dSim, oD, isNone, Bool.not_true, Bool.false_eq_true, if_false]
        refine hN1 _ _ ⟨kvs, ks, _, _, rfl, k1, k2, by omega, fun v => ?_, fun v => ?_, rfl⟩
        · rw [k4, et]
          simp
        · rw [k5, et]
          simp
      | some v =>
        simp only [dSim, oD, isNone, Bool.not_false, if_true, dSetd]
        have hlen : kvs.length = ks.length := by
          have := congrArg List.length k1
          rw [List.length_map, List.length_map] at this
          exact this
        refine ⟨p, rfl, ⟨kvs, ep⟩, kvs, .inl v, ep, rfl, by omega, fun d hd => ?_, fun hn => ?_⟩
        · have hv : some v ∈ ws.take i := by
            rw [k5] at hd
            by_cases c : some v ∈ ws.take i
            · exact c
            · rw [if_neg c] at hd
              cases hd
          have hm : ∀ u : Int, some u ∈ ws.take (i + 1) ↔ some u ∈ ws.take i := fun u => by
            rw [et, List.mem_append, List.mem_singleton]
            exact ⟨fun h => h.elim id fun e => by rw [e]; exact hv, .inl⟩
          refine hN1 _ _ ⟨kvs, ks, _, _, rfl, k1, k2, by omega, fun u => by rw [k4, hm], fun u => ?_, rfl⟩
          rw [k5]
          by_cases c : some u ∈ ws.take i
          · rw [if_pos c, if_pos ((hm u).mpr c)]
          · rw [if_neg c, if_neg fun z => c ((hm u).mp z)]
        · have hv : some v ∉ ws.take i := fun c => by
            rw [k5, if_pos c] at hn
            cases hn
          have hf := fi_at hw hv
          rw [mput_mput, putT_new hn]
          refine hN1 _ _ ⟨_, ks ++ [v], _, _, rfl, ?_, ?_, ?_, fun u => ?_, fun u => ?_, rfl⟩
          · rw [List.map_append, List.map_append, k1]
            rfl
          · refine List.nodup_append.mpr ⟨k2, by simp, fun a ha b hb => ?_⟩
            rw [List.mem_singleton] at hb
            subst hb
            intro e
            subst e
            exact hv ((k4 _).mp ha)
          · rw [List.length_append, List.length_cons, List.length_nil]
            omega
          · rw [List.mem_append, k4, et, List.mem_append, List.mem_singleton, List.mem_singleton]
            simp
          · rw [getT_append hn, k5, et]
            by_cases c : u = v
            · subst c
              rw [if_pos rfl, if_pos (by simp), hf]
            · rw [if_neg fun z => c (Sum.inl.inj z)]
              by_cases c2 : some u ∈ ws.take i
              · rw [if_pos c2, if_pos (List.mem_append_left _ c2)]
              · rw [if_neg c2, if_neg]
                rw [List.mem_append, List.mem_singleton]
                rintro (z | z)
                · exact c2 z
                · cases z
                  exact c rfl
  · obtain ⟨kvs, ks, x, y, rfl, k1, k2, k3, k4, k5, rfl⟩ := h
    rw [enumD_len, List.length_map] at k3 k4 k5
    rw [List.take_length] at k4 k5
    have ep : mput μ p (.dk kvs) p = some (.dk kvs) := mput_same
    refine hR1 _ _ ?_
    simp only [dSim, dLc, dISeq, fSortD]
    refine ⟨_, kvs, ks, rfl, see_refk ep, k1, by omega, fun ms h1 h2 => ⟨_, .inl rfl, ?_⟩⟩
    have hw : Wd ws ms := ⟨?_, fun v => by rw [h1.mem_iff, k4]⟩
    · refine lc_gen1 ms D.int (fun v => .int (fi ws v : Nat)) rfl (by rw [h1.length_eq]; omega) (fun v K hm hK => ?_) ?_
      · simp only [dSim, dwipe, dGetD]
        refine ⟨_, .inl ⟨kvs, .inl v, see_refk ep, rfl, ?_⟩, hK⟩
        rw [k5, if_pos ((hw.2 v).mp hm)]
      · have e : (ms.map fun v => D.int (fi ws v : Nat)) = (iL (ms.map (fi ws))).map D.int := by
          unfold iL
          rw [List.map_map, List.map_map]
          rfl
        rw [e]
        exact fin_sub (Sub.put hp Sub.refl) (q ms hw)
    · have nd : ms.Nodup := h1.nodup_iff.mpr k2
      exact (h2.and nd).imp fun ⟨a, b⟩ => by omega
/-! ### leaders -/
def cLeaders : DSp := fun ds μ Q => ∃ ws : List (Option Int), ds = [wishD ws] ∧ ws.length ≤ 60 ∧ ∀ l, Ld ws l → Q (lotD l) μ
def w_leaders' : DTS :=
  (dRet (dCB fTuple (dCons (dCB fSort (dCons (dCall cFirst [] (dCons (dVar 0) dNil)) dNil)) dNil)))
theorem leaders_ok (N : List Str) (hN : N.length = 1) : ∀ ds μ Q, cLeaders ds μ Q → w_leaders' { nx := fun _ μ' => fin Q .non μ', rt := fin Q } (dstart N ds) μ := by
  intro ds μ Q h
  obtain ⟨ws, rfl, hl, q⟩ := h
  unfold w_leaders'
  simp only [dSim, hN, cFirst]
  refine ⟨ws, rfl, hl, fun ms hm => ?_⟩
  refine sort_of (.inr rfl) fun zs h1 h2 => ?_
  obtain ⟨l, rfl, L, pl⟩ := sort_lot (m := ws.length) h1 h2 (by
    refine List.pairwise_map.mpr ((hm.1.and (List.Pairwise.and_mem.mp hm.1)).imp fun {a b} h => ?_)
    intro e
    have := fi_inj ((hm.2 _).mp h.2.1) ((hm.2 _).mp h.2.2.1) e
    have := h.1
    omega) fun x hx => by
    obtain ⟨v, hv, rfl⟩ := List.mem_map.mp hx
    exact fi_lt ((hm.2 v).mp hv)
  simp only [dSim]
  refine fin_of (q l ⟨L, fun h => ?_⟩)
  rw [pl.mem_iff, List.mem_map]
  constructor
  · rintro ⟨v, hv, rfl⟩
    exact ⟨v, (fi_mem ((hm.2 v).mp hv)).1, rfl⟩
  · rintro ⟨v, h1, h2⟩
    exact ⟨v, (hm.2 v).mpr (List.mem_of_getElem? h1), h2⟩
end DL

/-! WishQ: wishers, the first, drawn wishes. -/
namespace DL
open PySem PySem.Spec PyProof.Rows L2
theorem cut_to {xs : List D} {k : Int} (h : 0 ≤ k) : cutD xs none (some k) = xs.take k.toNat := by
  have e1 : HT.sIx xs.length 0 none = 0 := rfl
  have e2 : HT.sIx xs.length xs.length (some k) = min k.toNat xs.length := by
    unfold HT.sIx
    simp only
    split <;> omega
  unfold cutD
  rw [e1, e2, List.drop_zero, Nat.sub_zero]
  by_cases c : k.toNat ≤ xs.length
  · rw [Nat.min_eq_left c]
  · rw [Nat.min_eq_right (by omega), List.take_length, List.take_of_length_le (by omega)]
theorem lc_enum {tt : DB} {te : DT} {G : Mu → Prop} {ρ0 : Rho} {Q : List D → Mu → Prop} {s1 s2 : Nat} {μ : Mu} {items : List D} (P : Nat → Bool) (F : Nat → D) (hG : G μ) (hn : items.length ≤ sizeLine)
    (hs : ∀ (i : Nat) d (K1 : D → Mu → Prop) (K2 : Mu → Prop), items[i]? = some d → (P i = true → K1 (F i) μ) → (P i = false → K2 μ) → tt ((ρ0.set s1 (some (.int (i : Nat)))).set s2 (some d)) μ fun b μ3 => if b = true then te ((ρ0.set s1 (some (.int (i : Nat)))).set s2 (some d)) μ3 K1 else K2 μ3)
    (hd : Q (((List.range items.length).filter P).map F) μ) : lcGo (gTp 2 (gsCons (gN s1) (gsCons (gN s2) gsNil))) tt te G ρ0 Q (enumD items) [] μ := by
  refine lc_inv (fun i acc μ' => μ' = μ ∧ acc = ((List.range i).filter P).map F) ⟨rfl, rfl⟩ (fun i acc μ' _ h => by rw [h.1]; exact hG) (fun i d acc μ' N hi h hN => ?_) fun acc μ' h => ?_
  · obtain ⟨rfl, rfl⟩ := h
    obtain ⟨e, he, rfl⟩ := enumD_get.mp hi
    have hlt := (List.getElem?_eq_some_iff.mp he).1
    simp only [z_tp, z_gsc, z_gsn, gN]
    refine ⟨rfl, hs i e _ _ he (fun hp => ⟨?_, hN _ _ ⟨rfl, ?_⟩⟩) fun hp => hN _ _ ⟨rfl, ?_⟩⟩
    · rw [List.length_map]
      have := List.length_filter_le P (List.range i)
      rw [List.length_range] at this
      omega
    · rw [List.range_succ, List.filter_append, List.filter_cons, if_pos hp, List.map_append]
      rfl
    · rw [List.range_succ, List.filter_append, List.filter_cons, if_neg (by rw [hp]; decide), List.filter_nil, List.append_nil]
  · obtain ⟨rfl, rfl⟩ := h
    rw [enumD_len]
    exact hd
theorem wish_get {ws : List (Option Int)} {i : Nat} {d : D} (h : (ws.map oD)[i]? = some d) : ∃ o, ws[i]? = some o ∧ d = oD o := by
  rw [List.getElem?_map] at h
  cases e : ws[i]? with
  | none => rw [e] at h; cases h
  | some o => rw [e] at h; cases h; exact ⟨o, rfl, rfl⟩
theorem eqD_o {o : Option Int} {v : Int} : eqD (oD o) (.int v) = decide (o = some v) := by
  cases o with
  | none =>
    show PyData.eqv (toPy .non) (toPy (.int v)) = _
    rw [toPy, toPy, PyData.eqv]
    simp
  | some i =>
    show eqD (.int i) (.int v) = _
    rw [eqD_int]
    simp
theorem pl_o {o : Option Int} : Pl (oD o) := by cases o <;> first | exact Pl_non | exact Pl_int
section
variable {μ : Mu} {Q : DQ}
theorem see_o {o : Option Int} : see μ (oD o) = oD o := by cases o <;> rfl
theorem z_eqO {o : Option Int} {v : Int} : dEq (oD o) (.int v) μ Q = Q (.bl (decide (o = some v))) μ := propext (Iff.intro (fun h => by
  have := h.2.2
  rw [see_o, see_int, eqD_o] at this
  exact this) fun h => ⟨by rw [see_o]; exact pl_o, Pl_int, by rw [see_o, see_int, eqD_o]; exact h⟩)
theorem flat_os : ∀ ws : List (Option Int), (ws.map oD).all flatD = true
  | [] => rfl
  | w :: ws => by
    rw [List.map_cons, List.all_cons, flat_os ws]
    cases w <;> rfl
theorem inD_o {v : Int} : ∀ ws : List (Option Int), inD (.int v) (ws.map oD) = decide (some v ∈ ws)
  | [] => by simp [inD]
  | w :: ws => by
    have h := inD_o (v := v) ws
    unfold inD at h ⊢
    rw [List.map_cons, List.any_cons, h, eqD_o]
    by_cases e : w = some v
    · simp [e]
    · have e2 : ¬ some v = w := fun z => e z.symm
      simp [e, e2]
theorem z_inO {v : Int} {ws : List (Option Int)} {b : Bool} : dIn b (.int v) (wishD ws) μ Q = Q (.bl (if b then !decide (some v ∈ ws) else decide (some v ∈ ws))) μ := propext (Iff.intro (fun ⟨_, ys, e, _, h⟩ => by
  rcases e with e | e
  · cases e
  · cases e
    rw [inD_o] at h
    exact h) fun h => ⟨rfl, _, .inr rfl, flat_os _, by rw [inD_o]; exact h⟩)
end
/-! ### wishers -/
def wsh (ws : List (Option Int)) (v : Int) : List Nat := (List.range ws.length).filter fun i => decide (ws[i]? = some (some v))
def cWishers : DSp := fun ds μ Q => ∃ (ws : List (Option Int)) (v : Int), ds = [wishD ws, .int v] ∧ ws.length ≤ 60 ∧ Q (lotD (wsh ws v)) μ
def w_wishers' : DTS :=
  (dRet (dCB fTuple (dCons (dLc (dIEnum (dCons (dVar 0) dNil)) (gTp 2 (gsCons (gN 2) (gsCons (gN 3) gsNil))) (dT (dOp dEq (dVar 3) (dVar 1))) (dVar 2) [2, 3]) dNil)))
theorem wishers_ok (N : List Str) (hN : N.length = 4) : ∀ ds μ Q, cWishers ds μ Q → w_wishers' { nx := fun _ μ' => fin Q .non μ', rt := fin Q } (dstart N ds) μ := by
  intro ds μ Q h
  obtain ⟨ws, v, rfl, hl, q⟩ := h
  have hz := sizeLine_eq
  unfold w_wishers'
  simp only [dSim, hN, dLc, dIEnum]
  refine ⟨_, _, rfl, .inr rfl, ?_⟩
  refine lc_enum (fun i => decide (ws[i]? = some (some v))) (fun i => .int (i : Nat)) rfl (by rw [List.length_map]; omega) (fun i d K1 K2 hi h1 h2 => ?_) ?_
  · obtain ⟨o, ho, rfl⟩ := wish_get hi
    simp only [dSim, dwipe, z_eqO]
    by_cases e : o = some v
    · rw [decide_eq_true e, if_pos rfl]
      exact h1 (decide_eq_true (by rw [ho, e]))
    · rw [decide_eq_false e, if_neg (by decide)]
      refine h2 (decide_eq_false fun z => e ?_)
      rw [ho] at z
      exact Option.some.inj z
  · rw [List.length_map, map_int]
    exact fin_of q
/-! ### the first of each -/
def isF (ws : List (Option Int)) (i : Nat) : Bool := match ws[i]? with
  | some (some v) => !decide (some v ∈ ws.take i)
  | _ => false
theorem ld_first {ws : List (Option Int)} : Ld ws ((List.range ws.length).filter (isF ws)) := by
  refine ⟨lot_of_pw (List.Pairwise.filter _ List.pairwise_lt_range) fun x hx => ⟨Nat.zero_le _, List.mem_range.mp (List.mem_filter.mp hx).1⟩, fun h => ?_⟩
  rw [List.mem_filter, List.mem_range]
  constructor
  · rintro ⟨h1, h2⟩
    unfold isF at h2
    split at h2
    · rename_i v hv
      exact ⟨v, hv, fi_at hv (by simpa using h2)⟩
    · cases h2
  · rintro ⟨v, hv, e⟩
    have hm := List.mem_of_getElem? hv
    refine ⟨(List.getElem?_eq_some_iff.mp hv).1, ?_⟩
    unfold isF
    rw [hv]
    have := (fi_mem hm).2
    rw [e] at this
    simpa using this
def cLawFirst : DSp := fun ds μ Q => ∃ ws : List (Option Int), ds = [wishD ws] ∧ ws.length ≤ 60 ∧ ∀ l, Ld ws l → Q (lstD l) μ
def w_lawFirst : DTS :=
  (dRet (dLc (dIEnum (dCons (dVar 0) dNil)) (gTp 2 (gsCons (gN 1) (gsCons (gN 2) gsNil))) (dAnd (dT (dOp dIsN (dVar 2) (dC .non))) (dT (dOp (dIn true) (dVar 2) (dSl (dVar 0) dNoP (dPt (dVar 1)))))) (dVar 1) [1, 2]))
theorem lawFirst_ok (N : List Str) (hN : N.length = 3) : ∀ ds μ Q, cLawFirst ds μ Q → w_lawFirst { nx := fun _ μ' => fin Q .non μ', rt := fin Q } (dstart N ds) μ := by
  intro ds μ Q h
  obtain ⟨ws, rfl, hl, q⟩ := h
  have hz := sizeLine_eq
  unfold w_lawFirst
  simp only [dSim, hN, dLc, dIEnum]
  refine ⟨_, _, rfl, .inr rfl, ?_⟩
  refine lc_enum (isF ws) (fun i => .int (i : Nat)) rfl (by rw [List.length_map]; omega) (fun i d K1 K2 hi h1 h2 => ?_) ?_
  · obtain ⟨o, ho, rfl⟩ := wish_get hi
    cases o with
    | none =>
      simp only [dSim, dwipe, oD, isNone, Bool.not_true, Bool.false_eq_true, if_false]
      exact h2 (by unfold isF; rw [ho])
    | some v =>
      simp only [dSim, dwipe, oD, isNone, Bool.not_false, if_true]
      refine .inr ⟨_, rfl, ?_⟩
      rw [cut_to (by omega), Int.toNat_natCast, ← List.map_take]
      simp only [z_inO, z_seb, if_true]
      have e : isF ws i = !decide (some v ∈ ws.take i) := by unfold isF; rw [ho]
      rw [e] at h1 h2
      cases c : !decide (some v ∈ ws.take i) with
      | true => exact h1 c
      | false => exact h2 c
  · rw [List.length_map, map_int]
    exact fin_of (q _ ld_first)
/-! ### drawn wishes -/
def Wr (ws : List (Option Int)) : Prop := ∀ v, some v ∈ ws → 0 ≤ v ∧ v < 1000000
def cWants : DSp := fun ds μ Q => ∃ (a : Addr) (m n : Nat), ds = [.ref a, .int m] ∧ 1 ≤ m ∧ m ≤ 60 ∧ IsPot n μ a ∧ n < 100000000 ∧ ∀ (ws : List (Option Int)) (μ' : Mu), ws.length = m → Wr ws → Keep a μ μ' → IsPot (n + 100) μ' a → Q (wishD ws) μ'
def w_wants : DTS :=
  (dSeq (dAsg (dTup (dCons (dCall cTake [] (dCons (dVar 0) (dCons (dC (.int 6)) dNil))) (dCons (dLc (dIR1 (dCons (dC (.int 3)) dNil)) (gN 4) dYes (dCall cOf [] (dCons (dVar 0) (dCons (dLst (dCons (dC (.int 0)) (dCons (dC (.int 1)) (dCons (dC (.int 5)) (dCons (dC (.int 999999)) (dCons (dCall cTake [] (dCons (dVar 0) (dCons (dOp oPow (dC (.int 10)) (dC (.int 6))) dNil))) dNil)))))) dNil))) [4]) dNil))) (gTp 2 (gsCons (gN 2) (gsCons (gN 3) gsNil))))
  (dSeq (dIfS (dT (dOp dEq (dVar 2) (dC (.int 0)))) (dRet (dOp dMulT (dTup (dCons (dC .non) dNil)) (dVar 1))) dNext)
  (dSeq (dIfS (dT (dOp dEq (dVar 2) (dC (.int 1)))) (dRet (dOp dMulT (dTup (dCons (dOp dIx (dVar 3) (dC (.int 0))) dNil)) (dVar 1))) dNext)
  (dSeq (dIfS (dT (dOp dEq (dVar 2) (dC (.int 2)))) (dRet (dCB fTuple (dCons (dLc (dIR1 (dCons (dVar 1) dNil)) (gN 5) dYes (dOp oMod (dOp dAdd (dOp dIx (dVar 3) (dC (.int 0))) (dOp dMul (dC (.int 7)) (dVar 5))) (dOp oPow (dC (.int 10)) (dC (.int 6)))) [5]) dNil))) dNext)
  (dSeq (dIfS (dT (dOp dEq (dVar 2) (dC (.int 3)))) (dSeq (dAsg (dCall cTake [] (dCons (dVar 0) (dCons (dVar 1) dNil))) (gN 6))
  (dRet (dCB fTuple (dCons (dLc (dIR1 (dCons (dVar 1) dNil)) (gN 5) dYes (dIf (dT (dOp dEq (dVar 5) (dVar 6))) (dOp dIx (dVar 3) (dC (.int 0))) (dC .non)) [5]) dNil)))) dNext)
  (dSeq (dAsg (dOp dAdd (dSl (dVar 3) dNoP (dPt (dOp oSub (dVar 2) (dC (.int 2))))) (dOp dMul (dLst (dCons (dC .non) dNil)) (dCall cTake [] (dCons (dVar 0) (dCons (dC (.int 3)) dNil))))) (gN 7))
  (dRet (dCB fTuple (dCons (dLc (dIR1 (dCons (dVar 1) dNil)) (gN 5) dYes (dCall cOf [] (dCons (dVar 0) (dCons (dVar 7) dNil))) [5]) dNil)))))))))
theorem rep_flat {α : Type} (x : α) : ∀ m : Nat, (List.replicate m [x]).flatten = List.replicate m x
  | 0 => rfl
  | m + 1 => by rw [List.replicate_succ, List.flatten_cons, rep_flat x m, List.replicate_succ]; rfl
theorem wants_ok (N : List Str) (hN : N.length = 8) : ∀ ds μ Q, cWants ds μ Q → w_wants { nx := fun _ μ' => fin Q .non μ', rt := fin Q } (dstart N ds) μ := by
  intro ds μ Q h
  obtain ⟨a, m, n, rfl, hm1, hm2, hp, hn, q⟩ := h
  have hz := sizeLine_eq
  have six : PowOk 10 6 := powOk (by decide) (by decide) (by decide)
  unfold w_wants
  refine seq_cut fun R hR => ?_
  simp only [dSim, hN, cTake, dLc, dIR1]
  refine ⟨a, 6, n, rfl, by decide, by decide, hp, by omega, fun w μ1 w0 w1 k1 p1 => ?_⟩
  refine ⟨3, rfl, by decide, by decide, ?_⟩
  rw [rng_map]
  refine lc_eff (List.range (Int.toNat 3)) _ D.int (fun _ v => 0 ≤ v ∧ v < 1000000) (fun i μ' => Keep a μ μ' ∧ IsPot (n + 1 + 2 * i) μ' a) ⟨k1, p1⟩ (fun _ _ _ => trivial) (by decide) (fun i x μ' K hx hP hK => ?_) fun fs μ2 hl hfs hP => ?_
  · have hi3 : i < 3 := (List.getElem?_eq_some_iff.mp hx).1
    obtain ⟨k2, p2⟩ := hP
    simp only [dSim, dwipe, cTake, cOf]
    refine ⟨six, a, _, _, rfl, by decide, by decide, p2, by omega, fun r μ3 r0 r1 k3 p3 => ?_⟩
    have r1 : r < 1000000 := r1
    refine ⟨by decide, a, _, _, _, rfl, .inl rfl, by simp, by simp, p3, by omega, fun d hd μ4 k4 p4 => ?_⟩
    simp only [List.mem_cons, List.not_mem_nil, or_false] at hd
    have fin1 : ∀ v : Int, 0 ≤ v → v < 1000000 → K (.int v) μ4 := fun v h0 h1 => hK v μ4 ⟨h0, h1⟩ ⟨(k2.trans k3).trans k4, p4.mono (by omega)⟩
    rcases hd with rfl | rfl | rfl | rfl | rfl
    · exact fin1 _ (by decide) (by decide)
    · exact fin1 _ (by decide) (by decide)
    · exact fin1 _ (by decide) (by decide)
    · exact fin1 _ (by decide) (by decide)
    · exact fin1 _ r0 r1
  have hl : fs.length = 3 := hl
  obtain ⟨k2, p2⟩ := hP
  have p2 : IsPot (n + 7) μ2 a := p2
  have hfs : ∀ v ∈ fs, 0 ≤ v ∧ v < 1000000 := fun v hv => by
    obtain ⟨i, hi, rfl⟩ := List.mem_iff_getElem.mp hv
    exact hfs i i _ (by rw [List.getElem?_range (by show i < 3; omega)]) (List.getElem?_eq_getElem hi)
  match fs, hl, hfs with
  | [f0, f1, f2], _, hfs =>
  have b0 := hfs f0 (by simp)
  have b1 := hfs f1 (by simp)
  have b2 := hfs f2 (by simp)
  have here : ∀ (ws : List (Option Int)) (μ' : Mu), ws.length = m → Wr ws → Keep a μ μ' → IsPot (n + 100) μ' a → fin Q (wishD ws) μ' := fun ws μ' h1 h2 h3 h4 => fin_of (q ws μ' h1 h2 h3 h4)
  have at0 : atD [D.int f0, .int f1, .int f2] 0 = some (.int f0) := rfl
  refine ⟨by decide, hR _ _ (seq_cut fun R1 hR1 => ?_)⟩
  simp only [dSim, z_eq_int]
  split
  · refine ⟨by decide, by simp, by omega, by omega, by decide, ?_⟩
    rw [Int.toNat_natCast, rep_flat]
    have e : List.replicate m D.non = (List.replicate m (none : Option Int)).map oD := by rw [List.map_replicate]; rfl
    rw [e]
    exact here _ _ (by simp) (fun v hv => by simp at hv) k2 (p2.mono (by omega))
  rename_i c0
  have c0 := dec_iff c0
  refine hR1 _ _ (seq_cut fun R2 hR2 => ?_)
  simp only [dSim, z_eq_int]
  split
  · refine ⟨_, at0, by decide, by simp, by omega, by omega, by decide, ?_⟩
    rw [Int.toNat_natCast, rep_flat]
    have e : List.replicate m (D.int f0) = (List.replicate m (some f0)).map oD := by rw [List.map_replicate]; rfl
    rw [e]
    exact here _ _ (by simp) (fun v hv => by
      have := (List.mem_replicate.mp hv).2
      cases this
      exact b0) k2 (p2.mono (by omega))
  rename_i c1
  have c1 := dec_iff c1
  refine hR2 _ _ (seq_cut fun R3 hR3 => ?_)
  simp only [dSim, z_eq_int, dLc, dIR1]
  split
  · refine ⟨m, rfl, by omega, by omega, ?_⟩
    rw [Int.toNat_natCast, rng_map]
    refine lc_gen1 (List.range m) _ (fun i => oD (some ((f0 + 7 * (i : Nat)) % 1000000))) trivial (by rw [List.length_range]; omega) (fun i K hi hK => ?_) ?_
    · have := List.mem_range.mp hi
      simp only [dSim, dwipe]
      refine ⟨_, at0, ?_⟩
      simp only [dSim]
      exact ⟨mulOk (by omega) (by omega) (by omega) (by omega), six, by decide, hK⟩
    · have e : (List.range m).map (fun i => oD (some ((f0 + 7 * ((i : Nat) : Int)) % 1000000))) = ((List.range m).map fun i => some ((f0 + 7 * ((i : Nat) : Int)) % 1000000)).map oD := by
        rw [List.map_map]
        rfl
      rw [e]
      exact here _ _ (by simp) (fun v hv => by
        obtain ⟨i, _, e⟩ := List.mem_map.mp hv
        cases e
        omega) k2 (p2.mono (by omega))
  rename_i c2
  have c2 := dec_iff c2
  refine hR3 _ _ (seq_cut fun R4 hR4 => ?_)
  simp only [dSim, z_eq_int, dLc, dIR1, cTake]
  split
  · refine ⟨a, m, _, rfl, by omega, by omega, p2, by omega, fun o μ3 o0 o1 k3 p3 => ?_⟩
    refine ⟨m, rfl, by omega, by omega, ?_⟩
    rw [Int.toNat_natCast, rng_map]
    refine lc_gen1 (List.range m) _ (fun i => oD (if ((i : Nat) : Int) = o then some f0 else none)) trivial (by rw [List.length_range]; omega) (fun i K hi hK => ?_) ?_
    · simp only [dSim, dwipe, z_eq_int]
      by_cases e : ((i : Nat) : Int) = o
      · rw [if_pos (decide_eq_true e)]
        rw [if_pos e] at hK
        exact ⟨_, at0, hK⟩
      · rw [if_neg (by rw [decide_eq_false e]; decide)]
        rw [if_neg e] at hK
        exact hK
    · have e : (List.range m).map (fun i => oD (if ((i : Nat) : Int) = o then some f0 else none)) = ((List.range m).map fun i => (if ((i : Nat) : Int) = o then some f0 else none)).map oD := by
        rw [List.map_map]
        rfl
      rw [e]
      exact here _ _ (by simp) (fun v hv => by
        obtain ⟨i, _, e⟩ := List.mem_map.mp hv
        by_cases c : ((i : Nat) : Int) = o
        · rw [if_pos c] at e
          cases e
          exact b0
        · rw [if_neg c] at e
          cases e) (k2.trans k3) (p3.mono (by omega))
  rename_i c3
  have c3 := dec_iff c3
  refine hR4 _ _ (seq_cut fun R5 hR5 => ?_)
  simp only [dSim, cTake]
  refine .inl ⟨_, rfl, by decide, a, 3, _, rfl, by decide, by decide, p2, by omega, fun r μ3 r0 r1 k3 p3 => ?_⟩
  rw [cut_to (by omega)]
  obtain ⟨mo, hmo, hmo2, hmo4, hmo3⟩ : ∃ mo : List (Option Int), [D.int f0, .int f1, .int f2].take (w - 2).toNat ++ (List.replicate r.toNat [D.non]).flatten = mo.map oD ∧ 0 < mo.length ∧ mo.length ≤ 10 ∧ ∀ o ∈ mo, ∀ v, o = some v → 0 ≤ v ∧ v < 1000000 := by
    refine ⟨[some f0, some f1, some f2].take (w - 2).toNat ++ List.replicate r.toNat none, ?_, ?_, ?_, fun o ho v e => ?_⟩
    · rw [List.map_append, List.map_take, rep_flat, List.map_replicate]
      rfl
    · rw [List.length_append, List.length_take]
      simp only [List.length_cons, List.length_nil]
      omega
    · rw [List.length_append, List.length_take, List.length_replicate]
      simp only [List.length_cons, List.length_nil]
      omega
    · subst e
      rcases List.mem_append.mp ho with h | h
      · have := List.mem_of_mem_take h
        simp only [List.mem_cons, List.not_mem_nil, or_false, Option.some.injEq] at this
        rcases this with rfl | rfl | rfl
        · exact b0
        · exact b1
        · exact b2
      · have := (List.mem_replicate.mp h).2
        cases this
  have hlen : ([D.int f0, .int f1, .int f2].take (w - 2).toNat).length + (List.replicate r.toNat [D.non]).flatten.length ≤ sizeLine := by
    have := congrArg List.length hmo
    rw [List.length_append, List.length_map] at this
    omega
  refine ⟨by omega, by omega, by omega, hlen, ?_⟩
  rw [hmo]
  refine hR5 _ _ ?_
  simp only [dSim, dLc, dIR1]
  refine ⟨m, rfl, by omega, by omega, ?_⟩
  rw [Int.toNat_natCast, rng_map]
  refine lc_eff (List.range m) _ oD (fun _ o => ∀ v, o = some v → 0 ≤ v ∧ v < 1000000) (fun i μ' => Keep a μ μ' ∧ IsPot (n + 8 + i) μ' a) ⟨k2.trans k3, p3⟩ (fun _ _ _ => trivial) (by rw [List.length_range]; omega) (fun i x μ' K hx hP hK => ?_) fun ws μ4 hl4 hws hP => ?_
  · have him := (List.getElem?_eq_some_iff.mp hx).1
    rw [List.length_range] at him
    obtain ⟨k5, p5⟩ := hP
    simp only [dSim, dwipe, cOf]
    refine ⟨a, _, _, _, rfl, .inl rfl, by rw [List.length_map]; exact hmo2, by rw [List.length_map]; omega, p5, by omega, fun d hd μ6 k6 p6 => ?_⟩
    obtain ⟨o, ho, rfl⟩ := List.mem_map.mp hd
    exact hK o μ6 (hmo3 o ho) ⟨k5.trans k6, p6⟩
  · rw [List.length_range] at hl4 hP
    refine here ws μ4 hl4 (fun v hv => ?_) hP.1 (hP.2.mono (by omega))
    obtain ⟨i, hi, e⟩ := List.mem_iff_getElem.mp hv
    exact hws i i _ (by rw [List.getElem?_range (by omega)]) (List.getElem?_eq_getElem hi) v e
end DL

/-! MadeP: plain_hands, made. -/
namespace DL
open PySem PySem.Spec PyProof.Rows L2
def cPlain : DSp := fun ds μ Q => ∃ ws : List (Option Int), ds = [wishD ws] ∧ ws.length ≤ 60 ∧ ∀ l, Ld ws l → Q (lstD (others ws.length 0 l)) μ
def w_plain : DTS :=
  (dSeq (dAsg (dCall cLeaders [] (dCons (dVar 0) dNil)) (gN 1))
  (dRet (dLc (dIR1 (dCons (dCB fLen (dCons (dVar 0) dNil)) dNil)) (gN 2) (dT (dOp (dIn true) (dVar 2) (dVar 1))) (dVar 2) [2])))
theorem plain_ok (N : List Str) (hN : N.length = 3) : ∀ ds μ Q, cPlain ds μ Q → w_plain { nx := fun _ μ' => fin Q .non μ', rt := fin Q } (dstart N ds) μ := by
  intro ds μ Q h
  obtain ⟨ws, rfl, hl, q⟩ := h
  have hz := sizeLine_eq
  unfold w_plain
  simp only [dSim, hN, cLeaders, dLc, dIR1]
  refine ⟨ws, rfl, hl, fun l L => ?_⟩
  refine ⟨_, rfl, by rw [List.length_map]; omega, by rw [List.length_map]; omega, ?_⟩
  rw [List.length_map, Int.toNat_natCast, rng_map]
  refine lc_gen (List.range ws.length) _ (fun x => !decide (x ∈ l)) (fun x => .int (x : Nat)) trivial (by rw [List.length_range]; omega) (fun x K _ hK => ?_) (fun x K _ _ hK => ?_) ?_
  · simp only [dSim, dwipe, z_inT, if_true]
    exact hK
  · simp only [dSim, dwipe]
    exact hK
  rw [← others_zero, map_int]
  exact fin_of (q l L)
theorem Ld.len {ws : List (Option Int)} {l : List Nat} (h : Ld ws l) : (others ws.length 0 l).length = ws.length - l.length := by
  obtain ⟨_, o2⟩ := others_lot ws.length 0 l (by omega) h.1
  omega
/-- how many there are -/
def mk (t : Nat) (n k : Nat) : Int := ((bin n (t + 1) : Nat) : Int) - ((bin (n - k) (t + 1) : Nat) : Int)
def cMade : DSp := fun ds μ Q => ∃ (t : Nat) (ws : List (Option Int)), ds = [.int t, wishD ws] ∧ t ≤ 100 ∧ ws.length ≤ 60 ∧ ∀ l, Ld ws l → Q (.int (mk t ws.length l.length)) μ
def w_made' : DTS :=
  (dRet (dOp oSub (dCall cChoose [] (dCons (dCB fLen (dCons (dVar 1) dNil)) (dCons (dOp dAdd (dVar 0) (dC (.int 1))) dNil))) (dCall cChoose [] (dCons (dCB fLen (dCons (dCall cPlain [] (dCons (dVar 1) dNil)) dNil)) (dCons (dOp dAdd (dVar 0) (dC (.int 1))) dNil)))))
theorem made_ok (N : List Str) (hN : N.length = 2) : ∀ ds μ Q, cMade ds μ Q → w_made' { nx := fun _ μ' => fin Q .non μ', rt := fin Q } (dstart N ds) μ := by
  intro ds μ Q h
  obtain ⟨t, ws, rfl, ht, hl, q⟩ := h
  unfold w_made'
  simp only [dSim, hN, cChoose, cPlain]
  refine ⟨ws.length, t + 1, by rw [List.length_map]; rfl, hl, by omega, ws, rfl, hl, fun l L => ?_⟩
  refine ⟨ws.length - l.length, t + 1, by rw [List.length_map, iL_len, L.len]; rfl, by omega, by omega, ?_⟩
  exact fin_of (q l L)
/-- the row of columns -/
theorem hockey (g : Nat) : ∀ (m k : Nat), k ≤ m → ((List.range k).map fun s => bin (m - s - 1) g).sum + bin (m - k) (g + 1) = bin m (g + 1)
  | m, 0, _ => by simp
  | m, k + 1, h => by
    have ih := hockey g m k (by omega)
    rw [List.range_succ, List.map_append, List.sum_append]
    have e := bin_pas (m := m - k) (k := g) (by omega)
    have e2 : m - (k + 1) = m - k - 1 := by omega
    rw [e2]
    simp only [List.map_cons, List.map_nil, List.sum_cons, List.sum_nil]
    omega
end DL

/-! LeftP: wishers_among, left_many. -/
namespace DL
open PySem PySem.Spec PyProof.Rows L2
/-- those who wish v and lead or are in the lot -/
def amg (ws : List (Option Int)) (l lot : List Nat) (v : Int) : List Nat := (wsh ws v).filter fun h => decide (h ∈ l) || decide (h ∈ lot)
def cAmong : DSp := fun ds μ Q => ∃ (ws : List (Option Int)) (lot : List Nat), ds = [wishD ws, lotD lot] ∧ ws.length ≤ 60 ∧ ∀ ms l, Wd ws ms → Ld ws l → Q (.lst (ms.map fun v => lstD (amg ws l lot v))) μ
def w_among : DTS :=
  (dSeq (dAsg (dTup (dCons (dCall cLeaders [] (dCons (dVar 0) dNil)) (dCons (dLstM dNil) dNil))) (gTp 2 (gsCons (gN 2) (gsCons (gN 3) gsNil))))
  (dSeq (dFor (dISeq (dCall cWished [] (dCons (dVar 0) dNil))) (gN 4) (dDrop (dMl mAppend (dVar 3) (dCons (dLc (dISeq (dCall cWishers [] (dCons (dVar 0) (dCons (dVar 4) dNil)))) (gN 5) (dOr (dT (dOp (dIn false) (dVar 5) (dVar 2))) (dT (dOp (dIn false) (dVar 5) (dVar 1)))) (dVar 5) [5]) dNil))))
  (dRet (dFrz 3))))
theorem wsh_len {ws : List (Option Int)} {v : Int} : (wsh ws v).length ≤ ws.length := by
  unfold wsh
  have := List.length_filter_le (fun i => decide (ws[i]? = some (some v))) (List.range ws.length)
  rw [List.length_range] at this
  exact this
theorem nodup_len {α : Type} [DecidableEq α] : ∀ {l m : List α}, l.Nodup → (∀ x ∈ l, x ∈ m) → l.length ≤ m.length
  | [], _, _, _ => Nat.zero_le _
  | x :: l, m, nd, h => by
    have hx := h x List.mem_cons_self
    have nd' := List.nodup_cons.mp nd
    have k := nodup_len (m := m.erase x) nd'.2 fun y hy => by
      have hne : y ≠ x := fun e => nd'.1 (by rw [← e]; exact hy)
      exact (List.mem_erase_of_ne hne).mpr (h y (List.mem_cons_of_mem _ hy))
    rw [List.length_erase_of_mem hx] at k
    have := List.length_pos_of_mem hx
    rw [List.length_cons]
    omega
theorem Wd.len {ws : List (Option Int)} {ms : List Int} (h : Wd ws ms) : ms.length ≤ ws.length := by
  have nd : (ms.map (fi ws)).Nodup := by
    refine List.pairwise_map.mpr ((h.1.and (List.Pairwise.and_mem.mp h.1)).imp fun {a b} k => ?_)
    intro e
    have := fi_inj ((h.2 _).mp k.2.1) ((h.2 _).mp k.2.2.1) e
    have := k.1
    omega
  have sub : ∀ x ∈ ms.map (fi ws), x ∈ List.range ws.length := fun x hx => by
    obtain ⟨v, hv, rfl⟩ := List.mem_map.mp hx
    exact List.mem_range.mpr (fi_lt ((h.2 v).mp hv))
  have := nodup_len nd sub
  rw [List.length_map, List.length_range] at this
  exact this
theorem among_ok (N : List Str) (hN : N.length = 6) : ∀ ds μ Q, cAmong ds μ Q → w_among { nx := fun _ μ' => fin Q .non μ', rt := fin Q } (dstart N ds) μ := by
  intro ds μ Q h
  obtain ⟨ws, lot, rfl, hl, q⟩ := h
  have hz := sizeLine_eq
  unfold w_among
  refine seq_cut fun R hR => ?_
  simp only [dSim, hN, cLeaders]
  refine ⟨ws, rfl, hl, fun l L => ⟨by decide, fun p hp => ⟨by decide, hR _ _ (seq_cut fun R1 hR1 => ?_)⟩⟩⟩
  simp only [dSim, dFor, dISeq, dLc, cWished]
  refine ⟨ws, rfl, hl, fun ms hms => ⟨_, .inr rfl, ?_⟩⟩
  have hml := hms.len
  refine for_inv (fun i ρ μ' => ∃ (x y : Option D), μ' = mput μ p (.lst ((ms.take i).map fun v => lstD (amg ws l lot v))) ∧ ρ = [some (wishD ws), some (lotD lot), some (lotD l), some (.ref p), x, y])
    ⟨_, _, rfl, rfl⟩ (fun _ _ _ _ _ => rfl) (fun i d ρ μ' N1 hi h hN1 => ?_) fun ρ μ' h => ?_
  · obtain ⟨x, y, rfl, rfl⟩ := h
    rw [List.getElem?_map] at hi
    cases ev : ms[i]? with
    | none => rw [ev] at hi; cases hi
    | some v =>
      rw [ev] at hi
      cases hi
      have ep : mput μ p (.lst ((ms.take i).map fun v => lstD (amg ws l lot v))) p = some (.lst ((ms.take i).map fun v => lstD (amg ws l lot v))) := mput_same
      simp only [dSim, z_isL ep, cWishers]
      refine ⟨ws, v, rfl, hl, _, .inr rfl, ?_⟩
      refine lc_nat (fun h => decide (h ∈ l) || decide (h ∈ lot)) (fun h => .int (h : Nat)) rfl (by have := wsh_len (ws := ws) (v := v); omega) (fun h K _ hK => ?_) (fun h K _ _ hK => ?_) ?_
      · simp only [dSim, dwipe, z_inT, Bool.false_eq_true, if_false]
        cases c : decide (h ∈ l) with
        | true =>
          rw [c] at hK
          exact hK
        | false =>
          rw [c] at hK
          exact hK
      · simp only [dSim, dwipe]
        exact hK
      · rw [map_int]
        simp only [z_onL ep, z_append]
        refine ⟨by rw [List.length_map, List.length_take]; omega, ?_⟩
        rw [mput_mput]
        refine hN1 _ _ ⟨_, _, ?_, rfl⟩
        rw [List.take_succ, ev]
        simp [amg]
  · obtain ⟨x, y, rfl, rfl⟩ := h
    rw [List.length_map, List.take_length]
    refine hR1 _ _ ?_
    simp only [dRet, dFrz, List.getElem?_cons_zero, List.getElem?_cons_succ]
    refine ⟨_, mput_same, ?_⟩
    rw [mdel_mput hp]
    exact fin_of (q ms l hms L)
/-- how many ways -/
def ways (ws : List (Option Int)) (l lot : List Nat) (ms : List Int) : Nat := (ms.map fun v => (amg ws l lot v).length).prod
theorem prod_le (f : Int → Nat) : ∀ ms : List Int, (∀ v ∈ ms, f v ≤ 60) → (ms.map f).prod ≤ 2 ^ (6 * ms.length)
  | [], _ => by simp
  | v :: ms, h => by
    have h1 := prod_le f ms fun u hu => h u (List.mem_cons_of_mem _ hu)
    have h2 := h v List.mem_cons_self
    rw [List.map_cons, List.prod_cons, List.length_cons, Nat.mul_succ, Nat.pow_add, Nat.mul_comm]
    exact Nat.mul_le_mul h1 (by omega)
def cLeftMany : DSp := fun ds μ Q => ∃ (ws : List (Option Int)) (lot : List Nat), ds = [wishD ws, lotD lot] ∧ ws.length ≤ 60 ∧ ∀ ms l, Wd ws ms → Ld ws l → Q (.int ((ways ws l lot ms : Nat) - 1)) μ
def w_leftMany : DTS :=
  (dSeq (dAsg (dC (.int 1)) (gN 2))
  (dSeq (dFor (dISeq (dCall cAmong [] (dCons (dVar 0) (dCons (dVar 1) dNil)))) (gN 3) (dAugM 2 (dCB fLen (dCons (dVar 3) dNil))))
  (dRet (dOp oSub (dVar 2) (dC (.int 1))))))
theorem leftMany_ok (N : List Str) (hN : N.length = 4) : ∀ ds μ Q, cLeftMany ds μ Q → w_leftMany { nx := fun _ μ' => fin Q .non μ', rt := fin Q } (dstart N ds) μ := by
  intro ds μ Q h
  obtain ⟨ws, lot, rfl, hl, q⟩ := h
  unfold w_leftMany
  refine seq_cut fun R hR => ?_
  simp only [dSim, hN]
  refine hR _ _ (seq_cut fun R1 hR1 => ?_)
  simp only [dSim, dFor, dISeq, cAmong]
  refine ⟨ws, lot, rfl, hl, fun ms l hms L => ⟨_, .inl rfl, ?_⟩⟩
  have hml := hms.len
  have ha : ∀ v, (amg ws l lot v).length ≤ 60 := fun v => Nat.le_trans (List.length_filter_le _ _) (Nat.le_trans wsh_len hl)
  refine for_inv (fun i ρ μ' => μ' = μ ∧ ∃ (x : Option D), ρ = [some (wishD ws), some (lotD lot), some (.int ((ways ws l lot (ms.take i) : Nat) : Int)), x])
    ⟨rfl, _, rfl⟩ (fun _ _ _ _ _ => rfl) (fun i d ρ μ' N1 hi h hN1 => ?_) fun ρ μ' h => ?_
  · obtain ⟨rfl, x, rfl⟩ := h
    rw [List.getElem?_map] at hi
    cases ev : ms[i]? with
    | none => rw [ev] at hi; cases hi
    | some v =>
      rw [ev] at hi
      cases hi
      have hp := prod_le (fun v => (amg ws l lot v).length) (ms.take i) fun u _ => ha u
      have hp2 : (2 : Nat) ^ (6 * (ms.take i).length) ≤ 2 ^ 360 := Nat.pow_le_pow_right (by decide) (by rw [List.length_take]; omega)
      simp only [dSim, List.length_map, iL_len]
      refine ⟨mulOk_of ?_ ?_, hN1 _ _ ⟨rfl, some (lstD (amg ws l lot v)), ?_⟩⟩
      · have : ways ws l lot (ms.take i) < 2 ^ 400000 := Nat.lt_of_le_of_lt (Nat.le_trans hp hp2) (Nat.pow_lt_pow_right (by decide) (by decide))
        exact this
      · have h1 := ha v
        have : (amg ws l lot v).length < 2 ^ 400000 := Nat.lt_of_lt_of_le (by omega : (amg ws l lot v).length < 2 ^ 6) (Nat.pow_le_pow_right (by decide) (by decide))
        exact this
      · have e : ways ws l lot (ms.take (i + 1)) = ways ws l lot (ms.take i) * (amg ws l lot v).length := by
          unfold ways
          rw [List.take_succ, ev]
          simp
        rw [e]
        push_cast
        rfl
  · obtain ⟨rfl, x, rfl⟩ := h
    rw [List.length_map, List.take_length]
    refine hR1 _ _ ?_
    simp only [dSim]
    exact fin_of (q ms l hms L)
end DL

/-! BunP: all the rows of numbers that rise, in their order; the laws' _law_bunches. -/
namespace DL
open PySem PySem.Spec PyProof.Rows L2
def lots : Nat → Nat → Nat → List (List Nat)
  | _, _, 0 => [[]]
  | 0, _, _ + 1 => []
  | m + 1, a, k + 1 => (lots m (a + 1) k).map (a :: ·) ++ lots m (a + 1) (k + 1)
theorem lots_zero {m a : Nat} : lots m a 0 = [[]] := by cases m <;> rfl
theorem lots_unr : ∀ (m a k : Nat), lots m a k = (List.range (bin m k)).map (unr m a k)
  | m, a, 0 => by
    rw [lots_zero, bin_zero]
    cases m <;> rfl
  | 0, a, k + 1 => by
    rw [bin_gt (by omega)]
    rfl
  | m + 1, a, k + 1 => by
    show (lots m (a + 1) k).map (a :: ·) ++ lots m (a + 1) (k + 1) = _
    rw [lots_unr m (a + 1) k, lots_unr m (a + 1) (k + 1), bin_succ, List.range_add, List.map_append, List.map_map, List.map_map]
    congr 1
    · refine List.map_congr_left fun r hr => ?_
      have := List.mem_range.mp hr
      show a :: unr m (a + 1) k r = unr (m + 1) a (k + 1) r
      rw [unr, if_pos this]
    · refine List.map_congr_left fun r _ => ?_
      show _ = unr (m + 1) a (k + 1) (bin m k + r)
      rw [unr, if_neg (by omega), Nat.add_sub_cancel_left]
theorem lots_len (m a k : Nat) : (lots m a k).length = bin m k := by rw [lots_unr, List.length_map, List.length_range]
theorem lots_get {n k i : Nat} {l : List Nat} (h : (lots n 0 k)[i]? = some l) : Lot n 0 l ∧ l.length = k ∧ rk n 0 l = i ∧ i < bin n k := by
  rw [lots_unr, List.getElem?_map] at h
  cases e : (List.range (bin n k))[i]? with
  | none => rw [e] at h; cases h
  | some j =>
    rw [e] at h
    cases h
    obtain ⟨h1, h2⟩ := List.getElem?_eq_some_iff.mp e
    rw [List.length_range] at h1
    rw [List.getElem_range] at h2
    subst h2
    obtain ⟨h3, h4, h5⟩ := unr_ok n 0 k i h1
    rw [Nat.zero_add] at h3 h5
    exact ⟨h3, h4, h5, h1⟩
theorem lots_at {n k i : Nat} (h : i < bin n k) : ∃ l, (lots n 0 k)[i]? = some l := ⟨_, List.getElem?_eq_getElem (by rw [lots_len]; exact h)⟩
/-- the row whose place is i -/
theorem lots_rk {n : Nat} {l : List Nat} (L : Lot n 0 l) : (lots n 0 l.length)[rk n 0 l]? = some l := by
  have h := rk_lt 0 l L
  rw [Nat.sub_zero] at h
  obtain ⟨l', h'⟩ := lots_at h
  obtain ⟨h1, h2, h3, _⟩ := lots_get h'
  rw [h', rk_inj 0 l' h1 l L h2 h3]
theorem lots_mem {n k : Nat} {l : List Nat} : l ∈ lots n 0 k ↔ Lot n 0 l ∧ l.length = k := by
  constructor
  · intro h
    obtain ⟨i, h⟩ := List.mem_iff_getElem?.mp h
    obtain ⟨h1, h2, _⟩ := lots_get h
    exact ⟨h1, h2⟩
  · rintro ⟨h1, h2⟩
    subst h2
    exact List.mem_iff_getElem?.mpr ⟨_, lots_rk h1⟩
/-! ### one longer -/
def bgn (a : Nat) : List Nat → Nat
  | [] => a
  | x :: l => bgn (x + 1) l
def grow (n a : Nat) (l : List Nat) : List (List Nat) := (List.range' (bgn a l) (n - bgn a l)).map fun h => l ++ [h]
theorem grow_cons {n a x : Nat} {l : List Nat} : grow n a (x :: l) = (grow n (x + 1) l).map (x :: ·) := by
  unfold grow
  rw [List.map_map]
  rfl
theorem grow_any {n a b x : Nat} {l : List Nat} : grow n a (x :: l) = grow n b (x :: l) := by rw [grow_cons, grow_cons]
theorem lots_one : ∀ (m a : Nat), lots m a 1 = (List.range' a m).map fun h => [h]
  | 0, a => rfl
  | m + 1, a => by
    show (lots m (a + 1) 0).map (a :: ·) ++ lots m (a + 1) 1 = _
    rw [lots_zero, lots_one m (a + 1), List.range'_succ]
    rfl
theorem lots_grow : ∀ (m a k : Nat), (lots m a k).flatMap (grow (a + m) a) = lots m a (k + 1)
  | m, a, 0 => by
    rw [lots_zero, lots_one]
    show grow (a + m) a [] ++ [] = _
    rw [List.append_nil]
    unfold grow bgn
    rw [Nat.add_sub_cancel_left]
    rfl
  | 0, a, k + 1 => rfl
  | m + 1, a, k + 1 => by
    have e : a + (m + 1) = a + 1 + m := by omega
    show ((lots m (a + 1) k).map (a :: ·) ++ lots m (a + 1) (k + 1)).flatMap (grow (a + (m + 1)) a) = (lots m (a + 1) (k + 1)).map (a :: ·) ++ lots m (a + 1) (k + 1 + 1)
    rw [e, List.flatMap_append]
    congr 1
    · rw [← lots_grow m (a + 1) k, List.flatMap_map, List.map_flatMap]
      congr 1
      funext l
      exact grow_cons
    · have ne : ∀ l ∈ lots m (a + 1) (k + 1), grow (a + 1 + m) a l = grow (a + 1 + m) (a + 1) l := fun l hl => by
        cases l with
        | nil =>
          exfalso
          rw [lots_unr] at hl
          obtain ⟨r, hr, e⟩ := List.mem_map.mp hl
          have := (unr_ok m (a + 1) (k + 1) r (List.mem_range.mp hr)).2.1
          rw [e] at this
          cases this
        | cons x l => exact grow_any
      exact (flatMap_congr' ne).trans (lots_grow m (a + 1) (k + 1))
where flatMap_congr' {α β : Type} {f g : α → List β} : ∀ {xs : List α}, (∀ x ∈ xs, f x = g x) → xs.flatMap f = xs.flatMap g
  | [], _ => rfl
  | x :: xs, h => by
    rw [List.flatMap_cons, List.flatMap_cons, h x List.mem_cons_self, flatMap_congr' fun y hy => h y (List.mem_cons_of_mem _ hy)]
theorem bgn_last {a : Nat} : ∀ {l : List Nat}, l ≠ [] → ∃ x, l.getLast? = some x ∧ bgn a l = x + 1
  | [], h => absurd rfl h
  | [x], _ => ⟨x, rfl, rfl⟩
  | x :: y :: l, _ => by
    obtain ⟨z, h1, h2⟩ := bgn_last (a := x + 1) (l := y :: l) (by simp)
    exact ⟨z, by rw [List.getLast?_cons_cons]; exact h1, h2⟩
theorem bin_le_two : ∀ n k : Nat, bin n k ≤ 2 ^ n
  | 0, 0 => by decide
  | 0, k + 1 => by rw [bin_gt (by omega)]; exact Nat.zero_le _
  | n + 1, 0 => by rw [bin_zero]; exact Nat.one_le_two_pow
  | n + 1, k + 1 => by
    have h1 := bin_le_two n k
    have h2 := bin_le_two n (k + 1)
    rw [bin_succ, Nat.pow_succ]
    omega
def cBunches : DSp := fun ds μ Q => ∃ (n k : Nat), ds = [.int n, .int k] ∧ n ≤ 1000 ∧ k ≤ 1000 ∧ (∀ j ≤ k, bin n j ≤ 100000) ∧ Q (.lst ((lots n 0 k).map lotD)) μ
def w_bunches : DTS :=
  (dSeq (dAsg (dLst (dCons (dTup dNil) dNil)) (gN 2))
  (dSeq (dFor (dIR1 (dCons (dVar 1) dNil)) (gN 3) (dSeq (dAsg (dLstM dNil) (gN 4))
  (dSeq (dFor (dISeq (dVar 2)) (gN 5) (dSeq (dAsg (dIf (dT (dOp dNe (dVar 5) (dTup dNil))) (dOp dAdd (dOp dIx (dVar 5) (dNeg (dC (.int 1)))) (dC (.int 1))) (dC (.int 0))) (gN 6))
  (dDrop (dMl mExtend (dVar 4) (dCons (dLc (dIR2 (dCons (dVar 6) (dCons (dVar 0) dNil))) (gN 7) dYes (dOp dAdd (dVar 5) (dTup (dCons (dVar 7) dNil))) [7]) dNil)))))
  (dAsg (dFrz 4) (gN 2)))))
  (dRet (dVar 2))))
theorem bunches_ok (N : List Str) (hN : N.length = 8) : ∀ ds μ Q, cBunches ds μ Q → w_bunches { nx := fun _ μ' => fin Q .non μ', rt := fin Q } (dstart N ds) μ := by
  intro ds μ Q h
  obtain ⟨n, k, rfl, hn, hk, hb, q⟩ := h
  have hz := sizeLine_eq
  unfold w_bunches
  refine seq_cut fun R hR => ?_
  simp only [dSim, hN]
  refine ⟨by decide, by decide, hR _ _ (seq_cut fun R1 hR1 => ?_)⟩
  simp only [dSim, dFor, dIR1]
  refine ⟨_, rfl, by omega, by omega, ?_⟩
  rw [Int.toNat_natCast]
  refine for_inv (fun i ρ μ' => i ≤ k ∧ μ' = μ ∧ ∃ x y z u w, ρ = [some (.int n), some (.int k), some (.lst ((lots n 0 i).map lotD)), x, y, z, u, w]) ⟨Nat.zero_le _, rfl, none, none, none, none, none, by rw [lots_zero]; rfl⟩
    (fun _ _ _ _ _ => trivial) (fun i d ρ μ' N1 hi h hN1 => ?_) fun ρ μ' h => ?_
  · obtain ⟨_, rfl, x, y, z, u, w, rfl⟩ := h
    obtain ⟨h1, rfl⟩ := rng_at hi
    simp only [z_tp, z_gsc, z_gsn, gN, List.set_cons_zero, List.set_cons_succ, List.length_cons, List.length_nil, true_and]
    refine seq_cut fun R2 hR2 => ?_
    simp only [dSim]
    refine ⟨by decide, fun p hp => hR2 _ _ (seq_cut fun R3 hR3 => ?_)⟩
    simp only [dSim, dFor, dISeq]
    refine ⟨_, .inl rfl, ?_⟩
    have hlen : (lots n 0 (i + 1)).length ≤ 100000 := by rw [lots_len]; exact hb _ h1
    refine for_inv (fun j ρ μ2 => ∃ z u w, ρ = [some (.int n), some (.int k), some (.lst ((lots n 0 i).map lotD)), some (.int i), some (.ref p), z, u, w] ∧ μ2 = mput μ' p (.lst ((((lots n 0 i).take j).flatMap (grow n 0)).map lotD)))
      ⟨_, _, _, rfl, rfl⟩ (fun _ _ _ _ _ => rfl) (fun j d ρ μ2 N2 hj h hN2 => ?_) fun ρ μ2 h => ?_
    · obtain ⟨z, u, w, rfl, rfl⟩ := h
      rw [List.getElem?_map] at hj
      cases el : (lots n 0 i)[j]? with
      | none => rw [el] at hj; cases hj
      | some l =>
        rw [el] at hj
        cases hj
        obtain ⟨L, Ll, _, _⟩ := lots_get el
        have ep : mput μ' p (.lst ((((lots n 0 i).take j).flatMap (grow n 0)).map lotD)) p = some (.lst ((((lots n 0 i).take j).flatMap (grow n 0)).map lotD)) := mput_same
        simp only [z_tp, z_gsc, z_gsn, gN, List.set_cons_zero, List.set_cons_succ, List.length_cons, List.length_nil, true_and]
        refine seq_cut fun R4 hR4 => ?_
        have e0 : D.tup [] = lotD [] := rfl
        have go : R4 [some (.int n), some (.int k), some (.lst ((lots n 0 i).map lotD)), some (.int i), some (.ref p), some (lotD l), some (.int (bgn 0 l : Nat)), w] (mput μ' p (.lst ((((lots n 0 i).take j).flatMap (grow n 0)).map lotD))) := by
          refine hR4 _ _ ?_
          have hbg : bgn 0 l ≤ n := by
            by_cases c : l = []
            · subst c
              exact Nat.zero_le _
            · obtain ⟨x, h2, h3⟩ := bgn_last (a := 0) c
              have := (L.mem x (List.mem_of_getLast? h2)).2
              omega
          simp only [dSim, dLc, dIR2, z_isL ep, z_onL ep]
          refine ⟨_, _, rfl, by omega, ?_⟩
          have en : ((n : Int) - ((bgn 0 l : Nat) : Int)).toNat = n - bgn 0 l := by omega
          rw [en]
          unfold rng
          refine lc_gen1 (List.range (n - bgn 0 l)) _ (fun t => lotD (l ++ [bgn 0 l + t])) trivial (by rw [List.length_range]; omega) (fun t K ht hK => ?_) ?_
          · simp only [dSim, dwipe]
            have hll := L.drop_ok
            refine ⟨by decide, ?_⟩
            try refine ⟨by rw [List.length_map, iL_len]; omega, ?_⟩
            have e1 : (iL l).map D.int ++ [D.int ((bgn 0 l : Nat) + (t : Int))] = (iL (l ++ [bgn 0 l + t])).map D.int := by simp [iL]
            rw [e1]
            exact hK
          · have eg : (List.range (n - bgn 0 l)).map (fun t => lotD (l ++ [bgn 0 l + t])) = (grow n 0 l).map lotD := by
              unfold grow
              rw [List.map_map, List.range'_eq_map_range, List.map_map]
              rfl
            rw [eg]
            have et : (lots n 0 i).take (j + 1) = (lots n 0 i).take j ++ [l] := by
              rw [List.take_succ, el]
              rfl
            have ef : ((lots n 0 i).take (j + 1)).flatMap (grow n 0) = ((lots n 0 i).take j).flatMap (grow n 0) ++ grow n 0 l := by
              rw [et, List.flatMap_append]
              simp
            have eall : (lots n 0 i).flatMap (grow n 0) = lots n 0 (i + 1) := by
              have := lots_grow n 0 i
              rw [Nat.zero_add] at this
              exact this
            have hle : (((lots n 0 i).take (j + 1)).flatMap (grow n 0)).length ≤ 100000 := by
              refine Nat.le_trans ?_ hlen
              rw [← eall]
              have e2 : (lots n 0 i).flatMap (grow n 0) = ((lots n 0 i).take (j + 1)).flatMap (grow n 0) ++ ((lots n 0 i).drop (j + 1)).flatMap (grow n 0) := by
                rw [← List.flatMap_append, List.take_append_drop]
              rw [e2, List.length_append]
              omega
            rw [ef, List.length_append] at hle
            rw [z_onL ep]
            refine ⟨_, _, rfl, rfl, by rw [List.length_map, List.length_map]; omega, hN2 _ _ ⟨_, _, _, rfl, ?_⟩⟩
            rw [mput_mput, ef, List.map_append]
        simp only [dSim]
        rw [e0]
        simp only [z_neLot]
        refine ⟨by decide, ?_⟩
        by_cases c : l = []
        · subst c
          simp only [z_seb, decide_true, Bool.not_true, Bool.false_eq_true, if_false]
          exact go
        · simp only [z_seb, decide_eq_false c, Bool.not_false, if_true]
          obtain ⟨x, h2, h3⟩ := bgn_last (a := 0) c
          have hat : atD ((iL l).map D.int) (-1) = some (.int (x : Nat)) := at_last (by
            rw [List.length_map, iL_len]
            refine lotD_at ?_
            rw [← List.getLast?_eq_getElem?]
            exact h2)
          refine ⟨_, hat, ?_⟩
          simp only [z_add_int]
          rw [h3] at go
          exact go
    · obtain ⟨z, u, w, rfl, rfl⟩ := h
      refine hR3 _ _ ?_
      simp only [dSim, dAsg, dFrz]
      refine ⟨_, mput_same, ?_⟩
      rw [mdel_mput hp]
      have := lots_grow n 0 i
      rw [Nat.zero_add] at this
      rw [List.length_map, List.take_length, this]
      exact hN1 _ _ ⟨h1, rfl, _, _, _, _, _, rfl⟩
  · obtain ⟨_, rfl, x, y, z, u, w, rfl⟩ := h
    rw [rng_len]
    refine hR1 _ _ ?_
    simp only [dSim]
    exact fin_of q
end DL

/-! OutP: is_lot, is_part, is_outer (for any data), spread. -/
namespace DL
open PySem PySem.Spec PyProof.Rows L2
/-- a comprehension with any target -/
theorem lc_any {α : Type} {tg : DG} {tt : DB} {te : DT} {G : Mu → Prop} {ρ0 : Rho} {Q : List D → Mu → Prop} {μ : Mu} (xs : List α) (g : α → D) (p : α → Bool) (f : α → D) (hG : G μ) (hn : xs.length ≤ sizeLine)
    (hs : ∀ (x : α) (K1 : D → Mu → Prop) (K2 : Mu → Prop), x ∈ xs → (p x = true → K1 (f x) μ) → (p x = false → K2 μ) → tg (g x) ρ0 μ fun ρ2 μ2 => tt ρ2 μ2 fun b μ3 => if b = true then te ρ2 μ3 K1 else K2 μ3)
    (hd : Q ((xs.filter p).map f) μ) : lcGo tg tt te G ρ0 Q (xs.map g) [] μ := by
  refine lc_inv (fun i acc μ' => μ' = μ ∧ acc = ((xs.take i).filter p).map f) ⟨rfl, rfl⟩ (fun i acc μ' _ h => by rw [h.1]; exact hG) (fun i d acc μ' N hi h hN => ?_) fun acc μ' h => ?_
  · obtain ⟨rfl, rfl⟩ := h
    rw [List.getElem?_map] at hi
    cases e : xs[i]? with
    | none => rw [e] at hi; cases hi
    | some x =>
      rw [e] at hi
      cases hi
      have hm := List.mem_of_getElem? e
      have et : (xs.take (i + 1)) = xs.take i ++ [x] := by
        rw [List.take_succ, e]
        rfl
      refine hs x _ _ hm (fun hp => ⟨?_, hN _ _ ⟨rfl, ?_⟩⟩) fun hp => hN _ _ ⟨rfl, ?_⟩
      · rw [List.length_map]
        have h1 := List.length_filter_le p (xs.take i)
        have h2 := (List.getElem?_eq_some_iff.mp e).1
        rw [List.length_take] at h1
        omega
      · rw [et, List.filter_append, List.map_append, List.filter_cons, if_pos hp]
        rfl
      · rw [et, List.filter_append, List.filter_cons, if_neg (by rw [hp]; decide), List.filter_nil, List.append_nil]
  · obtain ⟨rfl, rfl⟩ := h
    rw [List.length_map, List.take_length]
    exact hd
theorem lc_any1 {α : Type} {tg : DG} {te : DT} {G : Mu → Prop} {ρ0 : Rho} {Q : List D → Mu → Prop} {μ : Mu} (xs : List α) (g : α → D) (f : α → D) (hG : G μ) (hn : xs.length ≤ sizeLine)
    (hs : ∀ (x : α) (K1 : D → Mu → Prop), x ∈ xs → K1 (f x) μ → tg (g x) ρ0 μ fun ρ2 μ2 => te ρ2 μ2 K1)
    (hd : Q (xs.map f) μ) : lcGo tg dYes te G ρ0 Q (xs.map g) [] μ :=
  lc_any xs g (fun _ => true) f hG hn (fun x K1 K2 hm h1 _ => hs x K1 hm (h1 rfl)) (by rw [List.filter_eq_self.mpr fun _ _ => rfl]; exact hd)
theorem zipD_zip {xs ys : List D} : zipD xs ys = (xs.zip ys).map fun p => D.tup [p.1, p.2] := by
  unfold zipD
  rw [List.zip, List.map_zipWith]
theorem cut_from {xs : List D} {k : Int} (h : 0 ≤ k) : cutD xs (some k) none = xs.drop k.toNat := by
  have e1 : HT.sIx xs.length xs.length none = xs.length := rfl
  have e2 : HT.sIx xs.length 0 (some k) = min k.toNat xs.length := by
    unfold HT.sIx
    simp only
    split <;> omega
  unfold cutD
  rw [e1, e2]
  by_cases c : k.toNat ≤ xs.length
  · rw [Nat.min_eq_left c, List.take_of_length_le (by rw [List.length_drop]; omega)]
  · rw [Nat.min_eq_right (by omega), Nat.sub_self, List.take_zero, List.drop_eq_nil_of_le (by omega)]
/-! ### data of any kind -/
def isTupD : D → Bool
  | .tup _ => true
  | _ => false
def Okd (d : D) : Prop := (∀ a, d ≠ .ref a) ∧ tyOk d = true ∧ notFz d = true
theorem z_isi_tup {d : D} {μ : Mu} {Q : DQ} (h : Okd d) : fIsi [d, .ty "tuple"] μ Q = Q (.bl (isTupD d)) μ := by
  obtain ⟨h0, h1, h2⟩ := h
  cases d with
  | int i => exact z_isi (T := "tuple") (b := false) rfl rfl (show kitB "int" "tuple" = some false by decide +kernel)
  | bl b => exact z_isi (T := "tuple") (b := false) rfl rfl (show kitB "bool" "tuple" = some false by decide +kernel)
  | non => exact z_isi (T := "tuple") (b := false) rfl rfl (show kitB "NoneType" "tuple" = some false by decide +kernel)
  | str x => exact z_isi (T := "tuple") (b := false) rfl rfl (show kitB "str" "tuple" = some false by decide +kernel)
  | tup x => exact z_isi (T := "tuple") (b := true) rfl rfl (show kitB "tuple" "tuple" = some true by decide +kernel)
  | lst x => exact z_isi (T := "tuple") (b := false) rfl rfl (show kitB "list" "tuple" = some false by decide +kernel)
  | dk x => exact z_isi (T := "tuple") (b := false) rfl rfl (show kitB "dict" "tuple" = some false by decide +kernel)
  | dt x => cases h1
  | ref a => exact absurd rfl (h0 a)
  | ty a => cases h1
  | fz a => cases h2
def dval : D → Int
  | .int i => i
  | _ => 0
theorem isW_val {d : D} (h : isW d = true) : ∃ k : Nat, d = .int k ∧ dval d = k := by
  cases d with
  | int i =>
    have h0 : 0 ≤ i := of_decide_eq_true h
    exact ⟨i.toNat, by rw [Int.toNat_of_nonneg h0], by rw [Int.toNat_of_nonneg h0]; rfl⟩
  | _ => cases h
def isHand (n : Int) (d : D) : Bool := isW d && decide (dval d < n)
def rises : List Int → Bool
  | x :: y :: t => decide (x < y) && rises (y :: t)
  | _ => true
theorem rises_zip : ∀ l : List Int, ((l.zip (l.drop 1)).map fun p => decide (p.1 < p.2)).all id = rises l
  | [] => rfl
  | [x] => rfl
  | x :: y :: t => by
    have := rises_zip (y :: t)
    rw [List.drop_succ_cons, List.drop_zero] at this ⊢
    rw [List.zip_cons_cons, List.map_cons, List.all_cons]
    show (decide (x < y) && _) = (decide (x < y) && rises (y :: t))
    rw [← this]
def isLot (n k : Int) : D → Bool
  | .tup xs => decide ((xs.length : Int) = k) && (xs.all (isHand n) && rises (xs.map dval))
  | _ => false
theorem isLot_lot {n : Nat} {l : List Nat} (L : Lot n 0 l) : isLot n l.length (lotD l) = true := by
  unfold isLot lotD
  simp only
  rw [List.length_map, iL_len, decide_eq_true rfl, Bool.true_and]
  have h1 : ((iL l).map D.int).all (isHand n) = true := by
    rw [List.all_eq_true]
    intro d hd
    obtain ⟨i, hi, rfl⟩ := List.mem_map.mp hd
    obtain ⟨x, hx, rfl⟩ := List.mem_map.mp hi
    unfold isHand isW dval
    have := (L.mem x hx).2
    simp
    omega
  rw [h1, Bool.true_and]
  have e : ((iL l).map D.int).map dval = iL l := by
    rw [List.map_map]
    exact List.map_id _
  rw [e]
  have pw := L.pw
  clear h1 e L
  induction l with
  | nil => rfl
  | cons x l ih =>
    cases l with
    | nil => rfl
    | cons y t =>
      obtain ⟨p1, p2⟩ := List.pairwise_cons.mp pw
      show (decide ((x : Int) < (y : Int)) && rises (iL (y :: t))) = true
      rw [ih p2, decide_eq_true (by have := p1 y List.mem_cons_self; omega)]
      rfl
theorem rises_pw : ∀ {l : List Nat}, rises (iL l) = true → l.Pairwise (· < ·)
  | [], _ => .nil
  | [x], _ => List.pairwise_singleton _ _
  | x :: y :: t, h => by
    have h : (decide ((x : Int) < (y : Int)) && rises (iL (y :: t))) = true := h
    rw [Bool.and_eq_true] at h
    have h1 : (x : Int) < (y : Int) := of_decide_eq_true h.1
    have h2 := rises_pw h.2
    refine List.pairwise_cons.mpr ⟨fun z hz => ?_, h2⟩
    rcases List.mem_cons.mp hz with rfl | hz
    · omega
    · have := (List.pairwise_cons.mp h2).1 z hz
      omega
/-- what is_lot says of any data -/
theorem isLot_iff {n : Nat} {k : Int} {d : D} : isLot n k d = true ↔ ∃ l : List Nat, d = lotD l ∧ (l.length : Int) = k ∧ Lot n 0 l := by
  constructor
  · intro h
    cases d with
    | tup xs =>
      unfold isLot at h
      simp only [Bool.and_eq_true] at h
      obtain ⟨h1, h2, h3⟩ := h
      have h1 := of_decide_eq_true h1
      have e : ∀ {ys : List D}, ys.all (isHand n) = true → ∃ l : List Nat, ys = (iL l).map D.int ∧ ∀ x ∈ l, x < n := fun {ys} => by
        induction ys with
        | nil => exact fun _ => ⟨[], rfl, fun x hx => nomatch hx⟩
        | cons y ys ih =>
          intro h
          rw [List.all_cons, Bool.and_eq_true] at h
          obtain ⟨l, rfl, hl⟩ := ih h.2
          have hy := h.1
          unfold isHand at hy
          rw [Bool.and_eq_true] at hy
          obtain ⟨k, rfl, e2⟩ := isW_val hy.1
          have h4 := of_decide_eq_true hy.2
          rw [e2] at h4
          refine ⟨k :: l, rfl, fun x hx => ?_⟩
          rcases List.mem_cons.mp hx with rfl | hx
          · omega
          · exact hl x hx
      obtain ⟨l, rfl, hl⟩ := e h2
      have e2 : ((iL l).map D.int).map dval = iL l := by
        rw [List.map_map]
        exact List.map_id _
      rw [e2] at h3
      rw [List.length_map, iL_len] at h1
      exact ⟨l, rfl, h1, lot_of_pw (rises_pw h3) fun x hx => ⟨Nat.zero_le _, hl x hx⟩⟩
    | _ => cases h
  · rintro ⟨l, rfl, rfl, L⟩
    exact isLot_lot L
/-- items that can be asked -/
def OkT (d : D) : Prop := Okd d ∧ ∀ xs, d = .tup xs → xs.length ≤ 100000 ∧ ∀ x ∈ xs, Okd x
theorem okd_int {i : Int} : Okd (.int i) := ⟨fun _ h => D.noConfusion h, rfl, rfl⟩
theorem okd_tup {xs : List D} : Okd (.tup xs) := ⟨fun _ h => D.noConfusion h, rfl, rfl⟩
theorem okT_lot {l : List Nat} (h : l.length ≤ 100000) : OkT (lotD l) := ⟨okd_tup, fun xs e => by
  cases e
  refine ⟨by rw [List.length_map, iL_len]; exact h, fun x hx => ?_⟩
  obtain ⟨i, _, rfl⟩ := List.mem_map.mp hx
  exact okd_int⟩
def cIsLot : DSp := fun ds μ Q => ∃ (n k : Int) (d : D), ds = [.int n, .int k, d] ∧ OkT d ∧ Q (.bl (isLot n k d)) μ
def w_isLot : DTS :=
  (dSeq (dIfS (dOr (dNot (dT (dCB fIsi (dCons (dVar 2) (dCons (dC (.ty "tuple")) dNil))))) (dT (dOp dNe (dCB fLen (dCons (dVar 2) dNil)) (dVar 1)))) (dRet (dC (.bl false))) dNext)
  (dSeq (dIfS (dNot (dT (dCB fAll (dCons (dLc (dISeq (dVar 2)) (gN 3) dYes (dAndV (dCall cWhole [] (dCons (dVar 3) dNil)) (dOp oLt (dVar 3) (dVar 0))) [3]) dNil)))) (dRet (dC (.bl false))) dNext)
  (dRet (dCB fAll (dCons (dLc (dIZip (dCons (dVar 2) (dCons (dSl (dVar 2) (dPt (dC (.int 1))) dNoP) dNil))) (gTp 2 (gsCons (gN 4) (gsCons (gN 5) gsNil))) dYes (dOp oLt (dVar 4) (dVar 5)) [4, 5]) dNil)))))
theorem isLot_ok (N : List Str) (hN : N.length = 6) : ∀ ds μ Q, cIsLot ds μ Q → w_isLot { nx := fun _ μ' => fin Q .non μ', rt := fin Q } (dstart N ds) μ := by
  intro ds μ Q h
  obtain ⟨n, k, d, rfl, ⟨okd, okx⟩, q⟩ := h
  have hz := sizeLine_eq
  unfold w_isLot
  refine seq_cut fun R hR => ?_
  simp only [dSim, hN, z_isi_tup okd]
  cases d with
  | tup xs =>
    obtain ⟨hl, hx⟩ := okx xs rfl
    simp only [dSim, isTupD]
    by_cases c1 : (xs.length : Int) = k
    · simp only [z_ne_int, z_seb, decide_eq_true c1, Bool.not_true, Bool.false_eq_true, if_false]
      refine hR _ _ (seq_cut fun R1 hR1 => ?_)
      simp only [dSim, dLc, dISeq, cWhole]
      refine ⟨_, .inr rfl, ?_⟩
      have em : xs.map id = xs := List.map_id _
      rw [← em]
      refine lc_gen1 xs id (fun d => .bl (isHand n d)) rfl (by omega) (fun d K hd hK => ?_) ?_
      · simp only [dSim, dwipe, id]
        have hok := hx d hd
        refine ⟨d, rfl, hok.1, hok.2.1, hok.2.2, ?_⟩
        by_cases c2 : isW d = true
        · obtain ⟨j, rfl, _⟩ := isW_val c2
          simp only [dSim, z_seb, c2, if_true]
          unfold isHand at hK
          rw [c2, Bool.true_and] at hK
          exact hK
        · rw [Bool.not_eq_true] at c2
          simp only [z_seb, c2, Bool.false_eq_true, if_false]
          unfold isHand at hK
          rw [c2, Bool.false_and] at hK
          exact hK
      refine all_of (bs := xs.map (isHand n)) (by rw [see_lst, List.map_map]; rfl) ?_
      have ea : (xs.map (isHand n)).all id = xs.all (isHand n) := by rw [List.all_map]; rfl
      rw [ea]
      by_cases c3 : xs.all (isHand n) = true
      · simp only [z_seb, c3, Bool.not_true, Bool.false_eq_true, if_false]
        refine hR1 _ _ ?_
        simp only [dSim, dLc, dIZip, List.map_id]
        refine .inr ⟨_, rfl, ?_⟩
        refine ⟨_, _, _, _, rfl, .inr (.inl ⟨rfl, rfl⟩), ?_⟩
        rw [cut_from (by decide), zipD_zip]
        show lcGo _ _ _ _ _ _ ((xs.zip (xs.drop 1)).map _) [] μ
        have hzl : (xs.zip (xs.drop 1)).length ≤ 100000 := by
          rw [List.length_zip]
          omega
        refine lc_any1 (xs.zip (xs.drop 1)) (fun p => D.tup [p.1, p.2]) (fun p => .bl (decide (dval p.1 < dval p.2))) ⟨rfl, rfl⟩ (by omega) (fun p K hp hK => ?_) ?_
        · have h1 : p.1 ∈ xs := (List.of_mem_zip (a := p.1) (b := p.2) hp).1
          have h2 : p.2 ∈ xs := List.mem_of_mem_drop (List.of_mem_zip (a := p.1) (b := p.2) hp).2
          have w : ∀ x ∈ xs, isW x = true := fun x hx => by
            have := List.all_eq_true.mp c3 x hx
            unfold isHand at this
            rw [Bool.and_eq_true] at this
            exact this.1
          obtain ⟨p1, p2⟩ := p
          obtain ⟨i, e1, e2⟩ := isW_val (w _ h1)
          obtain ⟨j, e3, e4⟩ := isW_val (w _ h2)
          dsimp only at e1 e2 e3 e4 hK ⊢
          subst e1
          subst e3
          simp only [dSim, dwipe]
          exact hK
        · refine all_of (bs := (xs.zip (xs.drop 1)).map fun p => decide (dval p.1 < dval p.2)) (by rw [see_lst, List.map_map]; rfl) (fin_of ?_)
          have e1 : (xs.map dval).drop 1 = (xs.drop 1).map dval := List.map_drop.symm
          have e2 : ((xs.zip (xs.drop 1)).map fun p => decide (dval p.1 < dval p.2)).all id = rises (xs.map dval) := by
            rw [← rises_zip, e1, List.zip_map, List.map_map]
            rfl
          rw [e2]
          unfold isLot at q
          simp only [decide_eq_true c1, c3, Bool.true_and] at q
          exact q
      · rw [Bool.not_eq_true] at c3
        simp only [z_seb, c3, Bool.not_false, if_true]
        refine fin_of ?_
        unfold isLot at q
        simp only [c3, Bool.false_and, Bool.and_false] at q
        exact q
    · simp only [z_ne_int, z_seb, decide_eq_false c1, Bool.not_false, Bool.not_true, Bool.false_eq_true, if_false, if_true]
      refine fin_of ?_
      unfold isLot at q
      simp only [decide_eq_false c1, Bool.false_and] at q
      exact q
  | ref a => exact absurd rfl (okd.1 a)
  | _ =>
    simp only [isTupD, z_seb, Bool.not_false, if_true]
    exact fin_of q
/-! ### parts and sums -/
def isPart (p n k : Int) : D → Bool
  | .tup [a, b] => isLot n k a && (isW b && (decide (0 < dval b) && decide (dval b < p)))
  | _ => false
def OkP (d : D) : Prop := Okd d ∧ ∀ xs, d = .tup xs → xs.length ≤ 100000 ∧ ∀ x ∈ xs, OkT x
def cIsPart : DSp := fun ds μ Q => ∃ (p n k : Int) (d : D), ds = [.int p, .int n, .int k, d] ∧ OkP d ∧ Q (.bl (isPart p n k d)) μ
def w_isPart : DTS :=
  (dSeq (dIfS (dOr (dNot (dT (dCB fIsi (dCons (dVar 3) (dCons (dC (.ty "tuple")) dNil))))) (dOr (dT (dOp dNe (dCB fLen (dCons (dVar 3) dNil)) (dC (.int 2)))) (dNot (dT (dCall cIsLot [] (dCons (dVar 1) (dCons (dVar 2) (dCons (dOp dIx (dVar 3) (dC (.int 0))) dNil)))))))) (dRet (dC (.bl false))) dNext)
  (dRet (dAndV (dCall cWhole [] (dCons (dOp dIx (dVar 3) (dC (.int 1))) dNil)) (dChain oLt oLt (dC (.int 0)) (dOp dIx (dVar 3) (dC (.int 1))) (dVar 0)))))
theorem isPart_two {p n k : Int} {a b : D} : isPart p n k (.tup [a, b]) = (isLot n k a && (isW b && (decide (0 < dval b) && decide (dval b < p)))) := rfl
theorem isPart_no {p n k : Int} {xs : List D} (h : ¬ xs.length = 2) : isPart p n k (.tup xs) = false := by
  rcases xs with _ | ⟨a, _ | ⟨b, _ | ⟨c, xs⟩⟩⟩
  · rfl
  · rfl
  · exact absurd rfl h
  · rfl
theorem isPart_ok (N : List Str) (hN : N.length = 4) : ∀ ds μ Q, cIsPart ds μ Q → w_isPart { nx := fun _ μ' => fin Q .non μ', rt := fin Q } (dstart N ds) μ := by
  intro ds μ Q h
  obtain ⟨p, n, k, d, rfl, ⟨okd, okx⟩, q⟩ := h
  unfold w_isPart
  refine seq_cut fun R hR => ?_
  simp only [dSim, hN, z_isi_tup okd]
  cases d with
  | tup xs =>
    obtain ⟨hl, hx⟩ := okx xs rfl
    simp only [dSim, isTupD]
    by_cases c1 : xs.length = 2
    · obtain ⟨a, b, rfl⟩ : ∃ a b, xs = [a, b] := by
        rcases xs with _ | ⟨a, _ | ⟨b, _ | ⟨c, xs⟩⟩⟩ <;> simp at c1
        exact ⟨a, b, rfl⟩
      have hb := (hx b (by simp)).1
      simp only [z_ne_int, z_seb, Bool.not_true, Bool.false_eq_true, if_false, List.length_cons, List.length_nil]
      refine ⟨a, rfl, ?_⟩
      simp only [cIsLot]
      refine ⟨n, k, a, rfl, hx a (by simp), ?_⟩
      simp only [z_seb]
      by_cases c2 : isLot n k a = true
      · simp only [c2, Bool.not_true, Bool.false_eq_true, if_false]
        refine hR _ _ ?_
        simp only [dSim, cWhole]
        refine ⟨b, rfl, b, rfl, hb.1, hb.2.1, hb.2.2, ?_⟩
        by_cases c3 : isW b = true
        · obtain ⟨j, rfl, e3⟩ := isW_val c3
          simp only [dSim, z_seb, c3, if_true]
          refine ⟨_, rfl, ?_⟩
          simp only [dSim]
          rw [isPart_two] at q
          rw [c2, c3, e3, Bool.true_and, Bool.true_and] at q
          by_cases c4 : (0 : Int) < (j : Int)
          · rw [decide_eq_true c4, if_pos rfl]
            rw [decide_eq_true c4, Bool.true_and] at q
            exact fin_of q
          · rw [decide_eq_false c4, if_neg (by decide)]
            rw [decide_eq_false c4, Bool.false_and] at q
            exact fin_of q
        · rw [Bool.not_eq_true] at c3
          simp only [z_seb, c3, Bool.false_eq_true, if_false]
          rw [isPart_two] at q
          rw [c2, c3, Bool.true_and, Bool.false_and] at q
          exact fin_of q
      · rw [Bool.not_eq_true] at c2
        simp only [c2, Bool.not_false, if_true]
        rw [isPart_two] at q
        rw [c2, Bool.false_and] at q
        exact fin_of q
    · have c2 : ¬ ((xs.length : Nat) : Int) = 2 := by omega
      simp only [z_ne_int, z_seb, decide_eq_false c2, Bool.not_false, Bool.not_true, Bool.false_eq_true, if_false, if_true]
      rw [isPart_no c1] at q
      exact fin_of q
  | ref a => exact absurd rfl (okd.1 a)
  | _ =>
    simp only [isTupD, z_seb, Bool.not_false, if_true]
    exact fin_of q
/-- the first of a pair -/
def fstD : D → D
  | .tup (a :: _) => a
  | d => d
def lnums : D → List Int
  | .tup xs => xs.map dval
  | _ => []
def risesT : List (List Int) → Bool
  | x :: y :: t => HT.lexLt x y && risesT (y :: t)
  | _ => true
theorem risesT_zip : ∀ l : List (List Int), ((l.zip (l.drop 1)).map fun p => HT.lexLt p.1 p.2).all id = risesT l
  | [] => rfl
  | [x] => rfl
  | x :: y :: t => by
    have := risesT_zip (y :: t)
    rw [List.drop_succ_cons, List.drop_zero] at this ⊢
    rw [List.zip_cons_cons, List.map_cons, List.all_cons]
    show (HT.lexLt x y && _) = (HT.lexLt x y && risesT (y :: t))
    rw [← this]
def isOuter (p n k : Int) : D → Bool
  | .tup xs => xs.all (isPart p n k) && risesT (xs.map fun d => lnums (fstD d))
  | _ => false
def OkO (d : D) : Prop := Okd d ∧ ∀ xs, d = .tup xs → xs.length ≤ 100000 ∧ ∀ x ∈ xs, OkP x
def cIsOuter : DSp := fun ds μ Q => ∃ (p n k : Int) (d : D), ds = [.int p, .int n, .int k, d] ∧ OkO d ∧ Q (.bl (isOuter p n k d)) μ
def w_isOuter : DTS :=
  (dSeq (dIfS (dOr (dNot (dT (dCB fIsi (dCons (dVar 3) (dCons (dC (.ty "tuple")) dNil))))) (dNot (dT (dCB fAll (dCons (dLc (dISeq (dVar 3)) (gN 4) dYes (dCall cIsPart [] (dCons (dVar 0) (dCons (dVar 1) (dCons (dVar 2) (dCons (dVar 4) dNil))))) [4]) dNil))))) (dRet (dC (.bl false))) dNext)
  (dRet (dCB fAll (dCons (dLc (dIZip (dCons (dVar 3) (dCons (dSl (dVar 3) (dPt (dC (.int 1))) dNoP) dNil))) (gTp 2 (gsCons (gN 4) (gsCons (gN 5) gsNil))) dYes (dOp dLtT (dOp dIx (dVar 4) (dC (.int 0))) (dOp dIx (dVar 5) (dC (.int 0)))) [4, 5]) dNil))))
theorem isPart_inv {p n k : Int} {d : D} (h : isPart p n k d = true) : ∃ (ns : List Int) (b : D), d = .tup [.tup (ns.map D.int), b] ∧ lnums (fstD d) = ns := by
  unfold isPart at h
  split at h
  · rename_i a b
    rw [Bool.and_eq_true] at h
    have h := h.1
    cases a with
    | tup xs =>
      unfold isLot at h
      simp only [Bool.and_eq_true] at h
      have e : ∀ {ys : List D}, ys.all (isHand n) = true → ys = (ys.map dval).map D.int := fun {ys} => by
        induction ys with
        | nil => exact fun _ => rfl
        | cons y ys ih =>
          intro h
          rw [List.all_cons, Bool.and_eq_true] at h
          have hy := h.1
          unfold isHand at hy
          rw [Bool.and_eq_true] at hy
          obtain ⟨k, rfl, e2⟩ := isW_val hy.1
          rw [List.map_cons, List.map_cons, ← ih h.2, e2]
      exact ⟨xs.map dval, b, by rw [← e h.2.1], rfl⟩
    | _ => cases h
  · cases h
theorem isOuter_ok (N : List Str) (hN : N.length = 6) : ∀ ds μ Q, cIsOuter ds μ Q → w_isOuter { nx := fun _ μ' => fin Q .non μ', rt := fin Q } (dstart N ds) μ := by
  intro ds μ Q h
  obtain ⟨p, n, k, d, rfl, ⟨okd, okx⟩, q⟩ := h
  have hz := sizeLine_eq
  unfold w_isOuter
  refine seq_cut fun R hR => ?_
  simp only [dSim, hN, z_isi_tup okd]
  cases d with
  | tup xs =>
    obtain ⟨hl, hx⟩ := okx xs rfl
    simp only [dSim, isTupD, z_seb, Bool.not_true, Bool.false_eq_true, if_false, dLc, dISeq]
    refine ⟨_, .inr rfl, ?_⟩
    have em : xs.map id = xs := List.map_id _
    rw [← em]
    refine lc_gen1 xs id (fun d => .bl (isPart p n k d)) rfl (by omega) (fun d K hd hK => ?_) ?_
    · simp only [dSim, dwipe, id, cIsPart]
      exact ⟨p, n, k, d, rfl, hx d hd, hK⟩
    refine all_of (bs := xs.map (isPart p n k)) (by rw [see_lst, List.map_map]; rfl) ?_
    have ea : (xs.map (isPart p n k)).all id = xs.all (isPart p n k) := by rw [List.all_map]; rfl
    rw [ea]
    unfold isOuter at q
    simp only at q
    by_cases c3 : xs.all (isPart p n k) = true
    · simp only [z_seb, c3, Bool.not_true, Bool.false_eq_true, if_false]
      rw [c3, Bool.true_and] at q
      refine hR _ _ ?_
      simp only [dSim, dLc, dIZip, List.map_id]
      refine .inr ⟨_, rfl, ?_⟩
      refine ⟨_, _, _, _, rfl, .inr (.inl ⟨rfl, rfl⟩), ?_⟩
      rw [cut_from (by decide), zipD_zip]
      show lcGo _ _ _ _ _ _ ((xs.zip (xs.drop 1)).map _) [] μ
      have hzl : (xs.zip (xs.drop 1)).length ≤ 100000 := by
        rw [List.length_zip]
        omega
      refine lc_any1 (xs.zip (xs.drop 1)) (fun p => D.tup [p.1, p.2]) (fun p => .bl (HT.lexLt (lnums (fstD p.1)) (lnums (fstD p.2)))) ⟨rfl, rfl⟩ (by omega) (fun pr K hp hK => ?_) ?_
      · have h1 : pr.1 ∈ xs := (List.of_mem_zip (a := pr.1) (b := pr.2) hp).1
        have h2 : pr.2 ∈ xs := List.mem_of_mem_drop (List.of_mem_zip (a := pr.1) (b := pr.2) hp).2
        obtain ⟨p1, p2⟩ := pr
        obtain ⟨i, b1, e1, e2⟩ := isPart_inv (List.all_eq_true.mp c3 _ h1)
        obtain ⟨j, b2, e3, e4⟩ := isPart_inv (List.all_eq_true.mp c3 _ h2)
        dsimp only at e1 e2 e3 e4 hK ⊢
        rw [e2, e4] at hK
        subst e1
        subst e3
        simp only [dSim, dwipe]
        refine ⟨_, rfl, _, rfl, ?_⟩
        rw [z_ltT]
        exact hK
      · refine all_of (bs := (xs.zip (xs.drop 1)).map fun p => HT.lexLt (lnums (fstD p.1)) (lnums (fstD p.2))) (by rw [see_lst, List.map_map]; rfl) (fin_of ?_)
        have e1 : (xs.map fun d => lnums (fstD d)).drop 1 = (xs.drop 1).map fun d => lnums (fstD d) := List.map_drop.symm
        have e2 : ((xs.zip (xs.drop 1)).map fun p => HT.lexLt (lnums (fstD p.1)) (lnums (fstD p.2))).all id = risesT (xs.map fun d => lnums (fstD d)) := by
          rw [← risesT_zip, e1, List.zip_map, List.map_map]
          rfl
        rw [e2]
        exact q
    · rw [Bool.not_eq_true] at c3
      simp only [z_seb, c3, Bool.not_false, if_true]
      refine fin_of ?_
      rw [c3, Bool.false_and] at q
      exact q
  | ref a => exact absurd rfl (okd.1 a)
  | _ =>
    simp only [isTupD, z_seb, Bool.not_false, if_true]
    exact fin_of q
/-! ### spread -/
/-- a part -/
abbrev prtD (x : List Nat × Nat) : D := .tup [lotD x.1, .int (x.2 : Nat)]
abbrev sumD (xs : List (List Nat × Nat)) : D := .tup (xs.map prtD)
/-- a file's parts: lots beside numbers, the noughts left out -/
def sprd (n t : Nat) (fl : List Nat) : List (List Nat × Nat) := ((lots n 0 t).zip fl).filter fun x => decide (0 < x.2)
def cSpread : DSp := fun ds μ Q => ∃ (p n t : Nat) (fl : List Nat), ds = [.int p, .int n, .int t, lotD fl] ∧ n ≤ 60 ∧ t ≤ n ∧ fl.length = bin n t ∧ fl.length ≤ 100000 ∧ (∀ x ∈ fl, x < p) ∧ Q (sumD (sprd n t fl)) μ
def w_spread' : DTS :=
  (dSeq (dAsg (dLc (dIEnum (dCons (dVar 3) dNil)) (gTp 2 (gsCons (gN 5) (gsCons (gN 6) gsNil))) (dT (dOp oGt (dOp oMod (dVar 6) (dVar 0)) (dC (.int 0)))) (dTup (dCons (dCall cLotAt [] (dCons (dVar 1) (dCons (dVar 2) (dCons (dVar 5) dNil)))) (dCons (dOp oMod (dVar 6) (dVar 0)) dNil))) [5, 6]) (gN 4))
  (dRet (dCB fTuple (dCons (dVar 4) dNil))))
theorem enumD_zip (n t : Nat) (fl : List Nat) (h : fl.length = bin n t) : enumD ((iL fl).map D.int) = ((lots n 0 t).zip fl).map fun x => D.tup [.int (rk n 0 x.1 : Nat), .int (x.2 : Nat)] := by
  refine List.ext_getElem? fun i => ?_
  by_cases c : i < fl.length
  · obtain ⟨l, hl⟩ := lots_at (n := n) (k := t) (i := i) (by omega)
    have h1 : ((iL fl).map D.int)[i]? = some (.int (fl[i] : Nat)) := lotD_at (List.getElem?_eq_getElem c)
    have h2 : (enumD ((iL fl).map D.int))[i]? = some (.tup [.int (i : Nat), .int (fl[i] : Nat)]) := enumD_get.mpr ⟨_, h1, rfl⟩
    have h3 : ((lots n 0 t).zip fl)[i]? = some (l, fl[i]) := by
      rw [List.getElem?_zip_eq_some]
      exact ⟨hl, List.getElem?_eq_getElem c⟩
    rw [h2, List.getElem?_map, h3]
    show _ = some (D.tup [.int (rk n 0 l : Nat), .int (fl[i] : Nat)])
    rw [(lots_get hl).2.2.1]
  · rw [List.getElem?_eq_none (by rw [enumD_len, List.length_map, iL_len]; omega), List.getElem?_eq_none (by rw [List.length_map, List.length_zip]; omega)]
theorem spread_ok (N : List Str) (hN : N.length = 7) : ∀ ds μ Q, cSpread ds μ Q → w_spread' { nx := fun _ μ' => fin Q .non μ', rt := fin Q } (dstart N ds) μ := by
  intro ds μ Q h
  obtain ⟨p, n, t, fl, rfl, hn, ht, hl, hl2, hp, q⟩ := h
  have hz := sizeLine_eq
  unfold w_spread'
  refine seq_cut fun R hR => ?_
  simp only [dSim, hN, dLc, dIEnum]
  refine ⟨_, _, rfl, .inr rfl, ?_⟩
  rw [enumD_zip n t fl hl]
  refine lc_any ((lots n 0 t).zip fl) (fun x => D.tup [.int (rk n 0 x.1 : Nat), .int (x.2 : Nat)]) (fun x => decide (0 < x.2)) prtD rfl (by rw [List.length_zip]; omega) (fun x K1 K2 hx h1 h2 => ?_) ?_
  · have hm := List.of_mem_zip (a := x.1) (b := x.2) hx
    obtain ⟨L, hk⟩ := lots_mem.mp hm.1
    have hxp := hp _ hm.2
    simp only [dSim, dwipe, cLotAt]
    refine ⟨by omega, ?_⟩
    have em : (x.2 : Int) % (p : Int) = (x.2 : Nat) := by
      rw [Int.emod_eq_of_lt (by omega) (by omega)]
    rw [em]
    by_cases c : 0 < x.2
    · rw [decide_eq_true (by omega : (0 : Int) < (x.2 : Nat)), if_pos rfl]
      refine ⟨n, x.1, by rw [hk], hn, L, ?_⟩
      exact ⟨by omega, by omega, h1 (decide_eq_true c)⟩
    · rw [decide_eq_false (by omega : ¬ (0 : Int) < (x.2 : Nat)), if_neg (by decide)]
      exact h2 (decide_eq_false c)
  · refine hR _ _ ?_
    simp only [dSim]
    exact fin_of q
end DL

/-! SheetP: the laws' drawn primes, numbers of a prime, sheets (files). -/
namespace DL
open PySem PySem.Spec PyProof.Rows L2
def primes7 : List Nat := [2, 3, 5, 7, 11, 97, 999999937]
theorem primes7_le {p : Nat} (h : p ∈ primes7) : 2 ≤ p ∧ p ≤ 999999937 := by
  unfold primes7 at h
  simp only [List.mem_cons, List.not_mem_nil, or_false] at h
  omega
def cPrime7 : DSp := fun ds μ Q => ∃ (a : Addr) (n : Nat), ds = [.ref a] ∧ IsPot n μ a ∧ n < 1000000000 ∧ ∀ p ∈ primes7, ∀ μ', Keep a μ μ' → IsPot (n + 1) μ' a → Q (.int (p : Nat)) μ'
def w_prime7 : DTS :=
  (dRet (dCall cOf [] (dCons (dVar 0) (dCons (dLst (dCons (dC (.int 2)) (dCons (dC (.int 3)) (dCons (dC (.int 5)) (dCons (dC (.int 7)) (dCons (dC (.int 11)) (dCons (dC (.int 97)) (dCons (dC (.int 999999937)) dNil)))))))) dNil))))
theorem prime7_ok (N : List Str) (hN : N.length = 1) : ∀ ds μ Q, cPrime7 ds μ Q → w_prime7 { nx := fun _ μ' => fin Q .non μ', rt := fin Q } (dstart N ds) μ := by
  intro ds μ Q h
  obtain ⟨a, n, rfl, hp, hn, q⟩ := h
  unfold w_prime7
  simp only [dSim, hN, cOf]
  refine ⟨by decide, a, n, _, _, rfl, .inl rfl, by simp, by simp, hp, hn, fun d hd μ1 k1 p1 => fin_of ?_⟩
  simp only [List.mem_cons, List.not_mem_nil, or_false] at hd
  rcases hd with rfl | rfl | rfl | rfl | rfl | rfl | rfl
  · exact q 2 (by decide) _ k1 p1
  · exact q 3 (by decide) _ k1 p1
  · exact q 5 (by decide) _ k1 p1
  · exact q 7 (by decide) _ k1 p1
  · exact q 11 (by decide) _ k1 p1
  · exact q 97 (by decide) _ k1 p1
  · exact q 999999937 (by decide) _ k1 p1
def cNum : DSp := fun ds μ Q => ∃ (a : Addr) (p n : Nat), ds = [.ref a, .int p] ∧ 2 ≤ p ∧ p ≤ 10 ^ 9 ∧ IsPot n μ a ∧ n < 900000000 ∧ ∀ (k : Nat) (μ' : Mu), k < p → Keep a μ μ' → IsPot (n + 3) μ' a → Q (.int (k : Nat)) μ'
def w_num : DTS :=
  (dRet (dCall cOf [] (dCons (dVar 0) (dCons (dLst (dCons (dC (.int 0)) (dCons (dC (.int 1)) (dCons (dOp oSub (dVar 1) (dC (.int 1))) (dCons (dCall cTake [] (dCons (dVar 0) (dCons (dVar 1) dNil))) (dCons (dCall cTake [] (dCons (dVar 0) (dCons (dVar 1) dNil))) dNil)))))) dNil))))
theorem num_ok (N : List Str) (hN : N.length = 2) : ∀ ds μ Q, cNum ds μ Q → w_num { nx := fun _ μ' => fin Q .non μ', rt := fin Q } (dstart N ds) μ := by
  intro ds μ Q h
  obtain ⟨a, p, n, rfl, h1, h2, hp, hn, q⟩ := h
  unfold w_num
  simp only [dSim, hN, cTake, cOf]
  refine ⟨a, p, n, rfl, by omega, by omega, hp, by omega, fun r1 μ1 r10 r11 k1 p1 => ⟨a, p, _, rfl, by omega, by omega, p1, by omega, fun r2 μ2 r20 r21 k2 p2 => ?_⟩⟩
  refine ⟨by decide, a, _, _, _, rfl, .inl rfl, by simp, by simp, p2, by omega, fun d hd μ3 k3 p3 => fin_of ?_⟩
  obtain ⟨k, rfl, hk⟩ : ∃ k : Nat, d = .int k ∧ k < p := by
    simp only [List.mem_cons, List.not_mem_nil, or_false] at hd
    rcases hd with rfl | rfl | rfl | rfl | rfl
    · exact ⟨0, rfl, by omega⟩
    · exact ⟨1, rfl, by omega⟩
    · exact ⟨p - 1, by congr 1; omega, by omega⟩
    · exact ⟨r1.toNat, by rw [Int.toNat_of_nonneg r10], by omega⟩
    · exact ⟨r2.toNat, by rw [Int.toNat_of_nonneg r20], by omega⟩
  exact q k _ hk ((k1.trans k2).trans k3) p3
def cSheet : DSp := fun ds μ Q => ∃ (a : Addr) (p c n : Nat), ds = [.ref a, .int p, .int c] ∧ 2 ≤ p ∧ p ≤ 10 ^ 9 ∧ 0 < c ∧ c ≤ 100000 ∧ IsPot n μ a ∧ n < 800000000 ∧ ∀ (fl : List Nat) (μ' : Mu), fl.length = c → (∀ x ∈ fl, x < p) → Keep a μ μ' → IsPot (n + 2 + 3 * c) μ' a → Q (lotD fl) μ'
def w_sheet : DTS :=
  (dSeq (dAsg (dTup (dCons (dCall cTake [] (dCons (dVar 0) (dCons (dC (.int 6)) dNil))) (dCons (dCall cTake [] (dCons (dVar 0) (dCons (dVar 2) dNil))) dNil))) (gTp 2 (gsCons (gN 3) (gsCons (gN 4) gsNil))))
  (dSeq (dIfS (dT (dOp dEq (dVar 3) (dC (.int 0)))) (dRet (dOp dMulT (dTup (dCons (dC (.int 0)) dNil)) (dVar 2))) dNext)
  (dSeq (dIfS (dT (dOp dEq (dVar 3) (dC (.int 1)))) (dRet (dOp dMulT (dTup (dCons (dOp oSub (dVar 1) (dC (.int 1))) dNil)) (dVar 2))) dNext)
  (dSeq (dIfS (dT (dOp dEq (dVar 3) (dC (.int 2)))) (dRet (dCB fTuple (dCons (dLc (dIR1 (dCons (dVar 2) dNil)) (gN 5) dYes (dCB fInt (dCons (dOp dEq (dVar 5) (dVar 4)) dNil)) [5]) dNil))) dNext)
  (dRet (dCB fTuple (dCons (dLc (dIR1 (dCons (dVar 2) dNil)) (gN 5) dYes (dCall cNum [] (dCons (dVar 0) (dCons (dVar 1) dNil))) [5]) dNil)))))))
theorem rep_lot {c x : Nat} : (List.replicate c [D.int (x : Nat)]).flatten = (iL (List.replicate c x)).map D.int := by
  induction c with
  | zero => rfl
  | succ c ih => rw [List.replicate_succ, List.flatten_cons, ih, List.replicate_succ]; rfl
theorem sheet_ok (N : List Str) (hN : N.length = 6) : ∀ ds μ Q, cSheet ds μ Q → w_sheet { nx := fun _ μ' => fin Q .non μ', rt := fin Q } (dstart N ds) μ := by
  intro ds μ Q h
  obtain ⟨a, p, c, n, rfl, hp1, hp2, hc0, hc1, hp, hn, q⟩ := h
  have hz := sizeLine_eq
  unfold w_sheet
  refine seq_cut fun R hR => ?_
  simp only [dSim, hN, cTake]
  refine ⟨a, 6, n, rfl, by decide, by decide, hp, by omega, fun r1 μ1 r10 r11 k1 p1 => ⟨a, c, _, rfl, by omega, by omega, p1, by omega, fun r2 μ2 r20 r21 k2 p2 => ?_⟩⟩
  obtain ⟨s, rfl⟩ : ∃ s : Nat, r2 = s := ⟨r2.toNat, by omega⟩
  refine ⟨by decide, hR _ _ (seq_cut fun R1 hR1 => ?_)⟩
  have rep : ∀ x : Nat, x < p → fin Q (.tup (List.replicate c [D.int (x : Nat)]).flatten) μ2 := fun x hx => by
    rw [rep_lot]
    exact fin_of (q _ _ List.length_replicate (fun y hy => by rw [(List.mem_replicate.mp hy).2]; exact hx) (k1.trans k2) (p2.mono (by omega)))
  simp only [dSim, z_eq_int]
  by_cases c1 : r1 = 0
  · rw [decide_eq_true c1, if_pos rfl]
    refine ⟨by decide, by simp, by omega, by omega, by simp, ?_⟩
    rw [Int.toNat_natCast]
    exact rep 0 (by omega)
  rw [decide_eq_false c1, if_neg (by decide)]
  refine hR1 _ _ (seq_cut fun R2 hR2 => ?_)
  simp only [dSim, z_eq_int]
  by_cases c2 : r1 = 1
  · rw [decide_eq_true c2, if_pos rfl]
    refine ⟨by decide, by simp, by omega, by omega, by simp, ?_⟩
    rw [Int.toNat_natCast]
    have e : (p : Int) - 1 = ((p - 1 : Nat) : Int) := by omega
    rw [e]
    exact rep (p - 1) (by omega)
  rw [decide_eq_false c2, if_neg (by decide)]
  refine hR2 _ _ (seq_cut fun R3 hR3 => ?_)
  simp only [dSim, z_eq_int]
  by_cases c3 : r1 = 2
  · rw [decide_eq_true c3, if_pos rfl]
    simp only [dSim, dLc, dIR1]
    refine ⟨_, rfl, by omega, by omega, ?_⟩
    rw [Int.toNat_natCast, rng_map]
    refine lc_gen1 (List.range c) _ (fun i => .int ((if i = s then 1 else 0 : Nat) : Nat)) trivial (by rw [List.length_range]; omega) (fun i K _ hK => ?_) ?_
    · simp only [dSim, dwipe, z_eq_int]
      by_cases c4 : i = s
      · rw [if_pos c4] at hK
        rw [decide_eq_true (by omega : (i : Int) = (s : Int)), if_pos rfl]
        exact hK
      · rw [if_neg c4] at hK
        rw [decide_eq_false (by omega : ¬ (i : Int) = (s : Int)), if_neg (by decide)]
        exact hK
    · have e : ((List.range c).map fun i => D.int ((if i = s then 1 else 0 : Nat) : Nat)) = (iL ((List.range c).map fun i => if i = s then 1 else 0)).map D.int := by
        unfold iL
        rw [List.map_map, List.map_map]
        rfl
      rw [e]
      refine fin_of (q _ _ (by rw [List.length_map, List.length_range]) (fun y hy => ?_) (k1.trans k2) (p2.mono (by omega)))
      obtain ⟨i, _, rfl⟩ := List.mem_map.mp hy
      split <;> omega
  rw [decide_eq_false c3, if_neg (by decide)]
  refine hR3 _ _ ?_
  simp only [dSim, dLc, dIR1]
  refine ⟨_, rfl, by omega, by omega, ?_⟩
  rw [Int.toNat_natCast, rng_map]
  refine lc_eff (List.range c) _ (fun k : Nat => D.int (k : Nat)) (fun _ k => k < p) (fun i μ' => i ≤ c ∧ Keep a μ μ' ∧ IsPot (n + 2 + 3 * i) μ' a) ⟨Nat.zero_le _, k1.trans k2, p2⟩ (fun _ _ _ => trivial) (by rw [List.length_range]; omega) (fun i x μ' K hi h hK => ?_) fun ks μ' h1 h2 h3 => ?_
  · have hi := (List.getElem?_eq_some_iff.mp hi).1
    rw [List.length_range] at hi
    obtain ⟨h0, k3, p3⟩ := h
    simp only [dSim, dwipe, cNum]
    exact ⟨a, p, _, rfl, hp1, hp2, p3, by omega, fun k μ3 hk k4 p4 => hK k μ3 hk ⟨by omega, k3.trans k4, p4⟩⟩
  · rw [List.length_range] at h1 h3
    have e : (ks.map fun k : Nat => D.int (k : Nat)) = (iL ks).map D.int := map_int ks
    rw [e]
    refine fin_of (q ks μ' h1 (fun x hx => ?_) h3.2.1 h3.2.2)
    obtain ⟨i, hi⟩ := List.mem_iff_getElem?.mp hx
    have := (List.getElem?_eq_some_iff.mp hi).1
    exact h2 i _ x (List.getElem?_eq_getElem (by rw [List.length_range]; omega)) hi
end DL

/-! OutQ: outer sums as rows of (lot, number). -/
namespace DL
open PySem PySem.Spec PyProof.Rows L2
structure Osum (p n k : Nat) (xs : List (List Nat × Nat)) : Prop where
  ok : ∀ x ∈ xs, Lot n 0 x.1 ∧ x.1.length = k ∧ 0 < x.2 ∧ x.2 < p
  pw : xs.Pairwise fun x y => lexN x.1 y.1 = true
theorem lots_pw (n k : Nat) : (lots n 0 k).Pairwise fun x y => lexN x y = true := by
  rw [List.pairwise_iff_getElem]
  intro i j hi hj hij
  obtain ⟨L1, l1, r1, b1⟩ := lots_get (List.getElem?_eq_getElem hi)
  obtain ⟨L2, l2, r2, b2⟩ := lots_get (List.getElem?_eq_getElem hj)
  rw [← rk_lex 0 _ L1 _ L2 (by rw [l1, l2]), r1, r2]
  exact decide_eq_true hij
theorem zip_pw {α β : Type} {R : α → α → Prop} : ∀ {xs : List α} {ys : List β}, xs.Pairwise R → (xs.zip ys).Pairwise fun x y => R x.1 y.1
  | [], _, _ => by simp
  | _ :: _, [], _ => by simp
  | x :: xs, y :: ys, h => by
    obtain ⟨h1, h2⟩ := List.pairwise_cons.mp h
    rw [List.zip_cons_cons]
    exact List.pairwise_cons.mpr ⟨fun z hz => h1 _ (List.of_mem_zip (a := z.1) (b := z.2) hz).1, zip_pw h2⟩
theorem sprd_osum {p n t : Nat} {fl : List Nat} (hp : ∀ x ∈ fl, x < p) : Osum p n t (sprd n t fl) := by
  refine ⟨fun x hx => ?_, (zip_pw (lots_pw n t)).sublist (List.filter_sublist)⟩
  obtain ⟨h1, h2⟩ := List.mem_filter.mp hx
  have hm := List.of_mem_zip (a := x.1) (b := x.2) h1
  obtain ⟨L, hk⟩ := lots_mem.mp hm.1
  exact ⟨L, hk, of_decide_eq_true h2, hp _ hm.2⟩
theorem lnums_prt {x : List Nat × Nat} : lnums (fstD (prtD x)) = iL x.1 := by
  show ((iL x.1).map D.int).map dval = iL x.1
  rw [List.map_map]
  exact List.map_id _
theorem risesT_pw : ∀ {l : List (List Nat)}, (l.Pairwise fun x y => lexN x y = true) → risesT (l.map iL) = true
  | [], _ => rfl
  | [x], _ => rfl
  | x :: y :: t, h => by
    obtain ⟨h1, h2⟩ := List.pairwise_cons.mp h
    show (HT.lexLt (iL x) (iL y) && risesT ((y :: t).map iL)) = true
    rw [risesT_pw h2, lex_iL, h1 y List.mem_cons_self]
    rfl
theorem isPart_prt {p n k : Nat} {x : List Nat × Nat} (h : Lot n 0 x.1 ∧ x.1.length = k ∧ 0 < x.2 ∧ x.2 < p) : isPart p n k (prtD x) = true := by
  obtain ⟨h1, h2, h3, h4⟩ := h
  show (isLot n k (lotD x.1) && (isW (.int (x.2 : Nat)) && (decide (0 < ((x.2 : Nat) : Int)) && decide (((x.2 : Nat) : Int) < (p : Int))))) = true
  have e : isW (.int (x.2 : Nat)) = true := decide_eq_true (p := (0 : Int) ≤ (x.2 : Nat)) (Int.natCast_nonneg _)
  rw [← h2, isLot_lot h1, e, decide_eq_true (by omega : 0 < ((x.2 : Nat) : Int)), decide_eq_true (by omega : ((x.2 : Nat) : Int) < (p : Int))]
  rfl
theorem osum_outer {p n k : Nat} {xs : List (List Nat × Nat)} (h : Osum p n k xs) : isOuter p n k (sumD xs) = true := by
  show ((xs.map prtD).all (isPart p n k) && risesT ((xs.map prtD).map fun d => lnums (fstD d))) = true
  have e1 : (xs.map prtD).all (isPart p n k) = true := by
    rw [List.all_eq_true]
    intro d hd
    obtain ⟨x, hx, rfl⟩ := List.mem_map.mp hd
    exact isPart_prt (h.ok x hx)
  have e2 : (xs.map prtD).map (fun d => lnums (fstD d)) = (xs.map (·.1)).map iL := by
    rw [List.map_map, List.map_map]
    exact List.map_congr_left fun x _ => lnums_prt
  rw [e1, e2, risesT_pw (List.pairwise_map.mpr h.pw)]
  rfl
theorem okT_int {i : Int} : OkT (.int i) := ⟨okd_int, fun xs e => nomatch e⟩
theorem okO_sum {xs : List (List Nat × Nat)} (h : xs.length ≤ 100000) (h2 : ∀ x ∈ xs, x.1.length ≤ 100000) : OkO (sumD xs) := ⟨okd_tup, fun ys e => by
  cases e
  refine ⟨by rw [List.length_map]; exact h, fun d hd => ?_⟩
  obtain ⟨x, hx, rfl⟩ := List.mem_map.mp hd
  refine ⟨okd_tup, fun zs e => ?_⟩
  cases e
  refine ⟨by simp, fun y hy => ?_⟩
  rcases List.mem_cons.mp hy with rfl | hy
  · exact okT_lot (h2 x hx)
  · rw [List.mem_singleton.mp hy]
    exact okT_int⟩
/-! ### how long the prints are -/
theorem shb_nat {k m x : Nat} (h : x < 2 ^ 250) (hm : 252 ≤ m) : Shb k m (.int (x : Nat)) := by
  have h2 : Shb k m (.int (x : Nat)) = (-(2 ^ 250) < ((x : Nat) : Int) ∧ ((x : Nat) : Int) < 2 ^ 250 ∧ 252 ≤ m) := by cases k <;> rfl
  rw [h2]
  refine ⟨?_, ?_, hm⟩
  · have : (0 : Int) ≤ (x : Nat) := Int.natCast_nonneg _
    omega
  · exact_mod_cast h
theorem shb_lot {k m : Nat} {l : List Nat} (h : ∀ x ∈ l, x < 2 ^ 250) (hm : l.length * 254 + 3 ≤ m) : Shb (k + 1) m (lotD l) := ⟨252, fun d hd => by
  obtain ⟨i, hi, rfl⟩ := List.mem_map.mp hd
  obtain ⟨x, hx, rfl⟩ := List.mem_map.mp hi
  exact shb_nat (h x hx) (Nat.le_refl _), by rw [List.length_map, iL_len]; exact hm⟩
theorem shb_sum {k m B : Nat} {xs : List (List Nat × Nat)} (h : ∀ x ∈ xs, x.1.length ≤ B ∧ (∀ y ∈ x.1, y < 2 ^ 250) ∧ x.2 < 2 ^ 250) (hm : xs.length * (B * 508 + 515) + 3 ≤ m) : Shb (k + 3) m (sumD xs) := by
  refine ⟨B * 508 + 513, fun d hd => ?_, by rw [List.length_map]; omega⟩
  obtain ⟨x, hx, rfl⟩ := List.mem_map.mp hd
  obtain ⟨h1, h2, h3⟩ := h x hx
  refine ⟨B * 254 + 253, fun y hy => ?_, by simp; omega⟩
  rcases List.mem_cons.mp hy with rfl | hy
  · exact shb_lot h2 (by omega)
  · rw [List.mem_singleton.mp hy]
    exact shb_nat h3 (by omega)
theorem lot_small {n : Nat} {l : List Nat} (h : Lot n 0 l) (hn : n ≤ 100000) : ∀ x ∈ l, x < 2 ^ 250 := fun x hx => by
  have := (h.mem x hx).2
  exact Nat.lt_of_lt_of_le (by omega : x < 100000) (by decide)
theorem shb_sprd {p n t : Nat} {fl : List Nat} (hn : n ≤ 60) (ht : t ≤ n) (hp : ∀ x ∈ fl, x < p) (hp2 : p ≤ 10 ^ 9) (hb : fl.length * (t * 508 + 515) + 3 ≤ sizeLine) : ∃ m, Shb 40 m (sumD (sprd n t fl)) ∧ m ≤ sizeLine := by
  have O := sprd_osum (n := n) (t := t) hp
  refine ⟨_, shb_sum (k := 37) (B := t) (fun x hx => ?_) (Nat.le_refl _), Nat.le_trans ?_ hb⟩
  · obtain ⟨L, hk, _, h2⟩ := O.ok x hx
    exact ⟨by omega, lot_small L (by omega), Nat.lt_of_lt_of_le (by omega : x.2 < 10 ^ 9) (by decide)⟩
  · have : (sprd n t fl).length ≤ fl.length := by
      unfold sprd
      refine Nat.le_trans (List.length_filter_le _ _) ?_
      rw [List.length_zip]
      omega
    exact Nat.add_le_add_right (Nat.mul_le_mul_right _ this) _
theorem shb_file {p : Nat} {fl : List Nat} (hp : ∀ x ∈ fl, x < p) (hp2 : p ≤ 10 ^ 9) (hb : fl.length * 254 + 3 ≤ sizeLine) : ∃ m, Shb 40 m (lotD fl) ∧ m ≤ sizeLine :=
  ⟨_, shb_lot (k := 39) (fun x hx => Nat.lt_of_lt_of_le (by have := hp x hx; omega : x < 10 ^ 9) (by decide)) (Nat.le_refl _), hb⟩
end DL

/-! MisP: small things that many laws want. -/
namespace DL
open PySem PySem.Spec PyProof.Rows L2
/-- max(1, min(3, len(script))) -/
theorem cells3 (ns : List Int) : ∃ m : Nat, m ≤ 3 ∧ (if (if (ns.length : Int) < 3 then (ns.length : Int) else 3) > 1 then (if (ns.length : Int) < 3 then (ns.length : Int) else 3) else 1) = (m : Int) := by
  refine ⟨(if (if (ns.length : Int) < 3 then (ns.length : Int) else 3) > 1 then (if (ns.length : Int) < 3 then (ns.length : Int) else 3) else 1).toNat, ?_, ?_⟩ <;> split <;> split <;> omega
theorem cells2 (ns : List Int) : ∃ m : Nat, m ≤ 2 ∧ (if (if (ns.length : Int) < 2 then (ns.length : Int) else 2) > 1 then (if (ns.length : Int) < 2 then (ns.length : Int) else 2) else 1) = (m : Int) := by
  refine ⟨(if (if (ns.length : Int) < 2 then (ns.length : Int) else 2) > 1 then (if (ns.length : Int) < 2 then (ns.length : Int) else 2) else 1).toNat, ?_, ?_⟩ <;> split <;> split <;> omega
theorem bin_pos : ∀ {n k : Nat}, k ≤ n → 0 < bin n k
  | n, 0, _ => by rw [bin_zero]; decide
  | 0, k + 1, h => absurd h (by omega)
  | n + 1, k + 1, h => by
    rw [bin_succ]
    have := bin_pos (n := n) (k := k) (by omega)
    omega
end DL

/-! TriP: the laws' triangle of numbers; texts of ints, an empty dict among data. -/
namespace DL
open PySem PySem.Spec PyProof.Rows L2
def tI (i : Nat) : List Int := (List.range 62).map fun j => ((bin i j : Nat) : Int)
def tD (i : Nat) : D := .lst ((tI i).map D.int)
def tsD (n : Nat) : List D := (List.range n).map tD
def cTriangle : DSp := fun ds μ Q => ∃ n : Nat, ds = [.int n] ∧ n ≤ 60 ∧ Q (.lst (tsD (n + 1))) μ
def w_triangle : DTS :=
  (dSeq (dAsg (dLstM (dCons (dOp dAdd (dLst (dCons (dC (.int 1)) dNil)) (dOp dMul (dLst (dCons (dC (.int 0)) dNil)) (dC (.int 61)))) dNil)) (gN 1))
  (dSeq (dFor (dIR1 (dCons (dVar 0) dNil)) (gN 2) (dSeq (dAsg (dOp dIx (dVar 1) (dNeg (dC (.int 1)))) (gN 3))
  (dDrop (dMl mAppend (dVar 1) (dCons (dOp dAdd (dLst (dCons (dC (.int 1)) dNil)) (dLc (dIR2 (dCons (dC (.int 1)) (dCons (dC (.int 62)) dNil))) (gN 4) dYes (dOp dAdd (dOp dIx (dVar 3) (dVar 4)) (dOp dIx (dVar 3) (dOp oSub (dVar 4) (dC (.int 1))))) [4])) dNil)))))
  (dRet (dFrz 1))))
theorem tI_get {i j : Nat} (h : j < 62) : (tI i)[j]? = some ((bin i j : Nat) : Int) := by
  unfold tI
  rw [List.getElem?_map, List.getElem?_range h]
  rfl
theorem tsD_len (n : Nat) : (tsD n).length = n := by simp [tsD]
theorem tsD_get {n i : Nat} (h : i < n) : (tsD n)[i]? = some (tD i) := by
  unfold tsD
  rw [List.getElem?_map, List.getElem?_range h]
  rfl
theorem tsD_succ (n : Nat) : tsD (n + 1) = tsD n ++ [tD n] := by
  unfold tsD
  rw [List.range_succ, List.map_append]
  rfl
theorem tI_succ (i : Nat) : tI (i + 1) = 1 :: (List.range 61).map fun j => ((bin i (j + 1) + bin i j : Nat) : Int) := by
  unfold tI
  rw [show (62 : Nat) = 61 + 1 from rfl, List.range_succ_eq_map, List.map_cons, List.map_map]
  have e1 : ((bin (i + 1) 0 : Nat) : Int) = 1 := by rw [bin_zero]; rfl
  rw [e1]
  congr 1
  refine List.map_congr_left fun j _ => ?_
  show ((bin (i + 1) (j + 1) : Nat) : Int) = _
  rw [bin_succ, Nat.add_comm]
theorem triangle_ok (N : List Str) (hN : N.length = 5) : ∀ ds μ Q, cTriangle ds μ Q → w_triangle { nx := fun _ μ' => fin Q .non μ', rt := fin Q } (dstart N ds) μ := by
  intro ds μ Q h
  obtain ⟨n, rfl, hn, q⟩ := h
  have hz := sizeLine_eq
  unfold w_triangle
  refine seq_cut fun R hR => ?_
  simp only [dSim, hN]
  refine ⟨by decide, by decide, by decide, by decide, by decide, by decide, by decide, fun p hp => hR _ _ (seq_cut fun R1 hR1 => ?_)⟩
  have e0 : [D.int 1] ++ (List.replicate (Int.toNat 61) [D.int 0]).flatten = (tI 0).map D.int := rfl
  simp only [dSim, dFor, dIR1]
  refine ⟨_, rfl, by omega, by omega, ?_⟩
  rw [Int.toNat_natCast]
  refine for_inv (fun i ρ μ' => ∃ x y z, μ' = mput μ p (.lst (tsD (i + 1))) ∧ ρ = [some (.int n), some (.ref p), x, y, z]) ⟨_, _, _, rfl, rfl⟩ (fun _ _ _ _ _ => trivial) (fun i d ρ μ' N1 hi h hN1 => ?_) fun ρ μ' h => ?_
  · obtain ⟨x, y, z, rfl, rfl⟩ := h
    obtain ⟨h1, rfl⟩ := rng_at hi
    have h1 : i < n := h1
    have ep : mput μ p (.lst (tsD (i + 1))) p = some (.lst (tsD (i + 1))) := mput_same
    refine seq_cut fun R2 hR2 => ?_
    simp only [dSim, z_ix_ref ep]
    refine ⟨_, at_last (by rw [tsD_len]; exact tsD_get (Nat.lt_succ_self i)), hR2 _ _ ?_⟩
    simp only [dSim, z_isL ep, dLc, dIR2]
    have e1 : i + 1 - 1 = i := by omega
    rw [e1]
    refine ⟨by decide, 1, 62, rfl, by decide, ?_⟩
    have er : rng 1 (Int.toNat (62 - 1)) = (List.range 61).map fun j : Nat => D.int (1 + (j : Int)) := rfl
    rw [er]
    refine lc_gen1 (List.range 61) _ (fun j => .int ((bin i (j + 1) + bin i j : Nat) : Int)) trivial (by decide) (fun j K hj hK => ?_) ?_
    · have hj := List.mem_range.mp hj
      simp only [dSim, dwipe, tD]
      have ea : (1 : Int) + (j : Int) = ((j + 1 : Nat) : Int) := by omega
      rw [ea]
      refine ⟨_, at_nat' (by rw [List.getElem?_map, tI_get (by omega)]; rfl), ?_⟩
      have eb : ((j + 1 : Nat) : Int) - 1 = (j : Nat) := by omega
      rw [eb]
      refine ⟨_, at_nat' (by rw [List.getElem?_map, tI_get (by omega)]; rfl), ?_⟩
      simp only [dSim]
      have ec : ((bin i (j + 1) : Nat) : Int) + ((bin i j : Nat) : Int) = ((bin i (j + 1) + bin i j : Nat) : Int) := by push_cast; rfl
      rw [ec]
      exact hK
    · refine ⟨by rw [List.length_map, List.length_range]; decide, ?_⟩
      simp only [z_onL ep, z_append, tsD_len]
      refine ⟨by omega, ?_⟩
      rw [mput_mput]
      have ed : D.lst (D.int 1 :: (List.range 61).map fun j => D.int ((bin i (j + 1) + bin i j : Nat) : Int)) = tD (i + 1) := by
        unfold tD
        rw [tI_succ, List.map_cons, List.map_map]
        rfl
      rw [ed, ← tsD_succ]
      exact hN1 _ _ ⟨_, _, _, rfl, rfl⟩
  · obtain ⟨x, y, z, rfl, rfl⟩ := h
    rw [rng_len]
    have ep : mput μ p (.lst (tsD (n + 1))) p = some (.lst (tsD (n + 1))) := mput_same
    refine hR1 _ _ ?_
    simp only [dRet, dFrz, List.getElem?_cons_zero, List.getElem?_cons_succ]
    refine ⟨_, ep, ?_⟩
    rw [mdel_mput hp]
    exact fin_of q
end DL

/-! FileP: is_file of any data, piece. -/
namespace DL
open PySem PySem.Spec PyProof.Rows L2
def isFile (p c : Int) : D → Bool
  | .tup xs => decide ((xs.length : Int) = c) && xs.all (isHand p)
  | _ => false
def cIsFile : DSp := fun ds μ Q => ∃ (p : Int) (n t : Nat) (d : D), ds = [.int p, .int n, .int t, d] ∧ n ≤ 60 ∧ t ≤ 1000 ∧ OkT d ∧ Q (.bl (isFile p (bin n t : Nat) d)) μ
def w_isFile : DTS :=
  (dSeq (dIfS (dOr (dNot (dT (dCB fIsi (dCons (dVar 3) (dCons (dC (.ty "tuple")) dNil))))) (dT (dOp dNe (dCB fLen (dCons (dVar 3) dNil)) (dCall cChoose [] (dCons (dVar 1) (dCons (dVar 2) dNil)))))) (dRet (dC (.bl false))) dNext)
  (dRet (dCB fAll (dCons (dLc (dISeq (dVar 3)) (gN 4) dYes (dAndV (dCall cWhole [] (dCons (dVar 4) dNil)) (dOp oLt (dVar 4) (dVar 0))) [4]) dNil))))
theorem isFile_ok (N : List Str) (hN : N.length = 5) : ∀ ds μ Q, cIsFile ds μ Q → w_isFile { nx := fun _ μ' => fin Q .non μ', rt := fin Q } (dstart N ds) μ := by
  intro ds μ Q h
  obtain ⟨p, n, t, d, rfl, hn, ht, ⟨okd, okx⟩, q⟩ := h
  have hz := sizeLine_eq
  unfold w_isFile
  refine seq_cut fun R hR => ?_
  simp only [dSim, hN, z_isi_tup okd]
  cases d with
  | tup xs =>
    obtain ⟨hl, hx⟩ := okx xs rfl
    simp only [dSim, isTupD, Bool.not_true, Bool.false_eq_true, if_false, cChoose]
    refine ⟨n, t, rfl, hn, ht, ?_⟩
    have ef : isFile p (bin n t : Nat) (.tup xs) = (decide ((xs.length : Int) = (bin n t : Nat)) && xs.all (isHand p)) := rfl
    rw [ef] at q
    rw [z_ne_int]
    simp only [z_seb]
    by_cases c1 : (xs.length : Int) = (bin n t : Nat)
    · rw [decide_eq_true c1, Bool.not_true, if_neg (by decide)]
      rw [decide_eq_true c1, Bool.true_and] at q
      refine hR _ _ ?_
      simp only [dSim, dLc, dISeq, cWhole]
      refine ⟨_, .inr rfl, ?_⟩
      have em : xs.map id = xs := List.map_id _
      rw [← em]
      refine lc_gen1 xs id (fun d => .bl (isHand p d)) rfl (by omega) (fun d K hd hK => ?_) ?_
      · simp only [dSim, dwipe, id]
        have hok := hx d hd
        refine ⟨d, rfl, hok.1, hok.2.1, hok.2.2, ?_⟩
        by_cases c2 : isW d = true
        · obtain ⟨j, rfl, _⟩ := isW_val c2
          simp only [dSim, z_seb, c2, if_true]
          unfold isHand at hK
          rw [c2, Bool.true_and] at hK
          exact hK
        · rw [Bool.not_eq_true] at c2
          simp only [z_seb, c2, Bool.false_eq_true, if_false]
          unfold isHand at hK
          rw [c2, Bool.false_and] at hK
          exact hK
      refine all_of (bs := xs.map (isHand p)) (by rw [see_lst, List.map_map]; rfl) ?_
      have ea : (xs.map (isHand p)).all id = xs.all (isHand p) := by rw [List.all_map]; rfl
      rw [ea]
      exact fin_of q
    · rw [decide_eq_false c1, Bool.not_false, if_pos rfl]
      rw [decide_eq_false c1, Bool.false_and] at q
      exact fin_of q
  | ref a => exact absurd rfl (okd.1 a)
  | _ =>
    simp only [isTupD, z_seb, Bool.not_false, if_true]
    exact fin_of q
def cPiece : DSp := fun ds μ Q => ∃ (n : Nat) (d : D) (xs : List D) (l : List Nat), ds = [.int n, .tup xs, lotD l] ∧ n ≤ 60 ∧ Lot n 0 l ∧ xs[rk n 0 l]? = some d ∧ Q d μ
def w_piece : DTS :=
  (dRet (dOp dIx (dVar 1) (dCall cNumberOf [] (dCons (dVar 0) (dCons (dVar 2) dNil)))))
theorem piece_ok (N : List Str) (hN : N.length = 3) : ∀ ds μ Q, cPiece ds μ Q → w_piece { nx := fun _ μ' => fin Q .non μ', rt := fin Q } (dstart N ds) μ := by
  intro ds μ Q h
  obtain ⟨n, d, xs, l, rfl, hn, L, hg, q⟩ := h
  unfold w_piece
  simp only [dSim, hN, cNumberOf]
  exact ⟨n, l, rfl, hn, L, _, at_nat' hg, fin_of q⟩
/-- the file's own piece is there -/
theorem piece_at {n t : Nat} {fl l : List Nat} (L : Lot n 0 l) (hl : l.length = t) (h : fl.length = bin n t) : ∃ x, fl[rk n 0 l]? = some x ∧ x ∈ fl := by
  have h1 := rk_lt 0 l L
  rw [Nat.sub_zero, hl, ← h] at h1
  exact ⟨_, List.getElem?_eq_getElem h1, List.getElem_mem h1⟩
theorem z_list_tup {xs : List D} {μ : Mu} {Q : DQ} : fList [.tup xs] μ Q = Q (.lst xs) μ := list_of (.inr rfl)
theorem z_list_lst {xs : List D} {μ : Mu} {Q : DQ} : fList [.lst xs] μ Q = Q (.lst xs) μ := list_of (.inl rfl)
theorem okd_bl {b : Bool} : Okd (.bl b) := ⟨fun _ h => D.noConfusion h, rfl, rfl⟩
theorem okd_non : Okd .non := ⟨fun _ h => D.noConfusion h, rfl, rfl⟩
theorem okd_str {x : Str} : Okd (.str x) := ⟨fun _ h => D.noConfusion h, rfl, rfl⟩
theorem okd_lst {x : List D} : Okd (.lst x) := ⟨fun _ h => D.noConfusion h, rfl, rfl⟩
theorem cut_len {xs : List D} {lo hi : Option Int} : (cutD xs lo hi).length ≤ xs.length := by
  unfold cutD
  rw [List.length_take, List.length_drop]
  omega
theorem cut_mem {xs : List D} {lo hi : Option Int} : ∀ x ∈ cutD xs lo hi, x ∈ xs := fun x hx => List.mem_of_mem_drop (List.mem_of_mem_take hx)
def isI : D → Bool
  | .int _ => true
  | _ => false
theorem z_isi2 {d : D} {μ : Mu} {Q : DQ} (h : Okd d) : dAndV (fun _ μ Q => fIsi [d, .ty "int"] μ Q) (dNotV (fun _ μ Q => fIsi [d, .ty "bool"] μ Q)) [] μ Q = Q (.bl (isI d)) μ := by
  obtain ⟨h0, h1, h2⟩ := h
  simp only [dAndV, dNotV]
  cases d with
  | int i => rw [z_isi_int_int]; simp only [z_seb, if_true, z_isi_int_bool]; rfl
  | bl b => rw [z_isi_bl_int]; simp only [z_seb, if_true, z_isi_bl_bool]; rfl
  | non => rw [z_isi (d := .non) (T := "int") (b := false) rfl rfl (show kitB "NoneType" "int" = some false by decide +kernel)]; simp only [z_seb, Bool.false_eq_true, if_false]; rfl
  | str x => rw [z_isi (d := .str x) (T := "int") (b := false) rfl rfl (show kitB "str" "int" = some false by decide +kernel)]; simp only [z_seb, Bool.false_eq_true, if_false]; rfl
  | tup x => rw [z_isi (d := .tup x) (T := "int") (b := false) rfl rfl (show kitB "tuple" "int" = some false by decide +kernel)]; simp only [z_seb, Bool.false_eq_true, if_false]; rfl
  | lst x => rw [z_isi (d := .lst x) (T := "int") (b := false) rfl rfl (show kitB "list" "int" = some false by decide +kernel)]; simp only [z_seb, Bool.false_eq_true, if_false]; rfl
  | dk x => rw [z_isi (d := .dk x) (T := "int") (b := false) rfl rfl (show kitB "dict" "int" = some false by decide +kernel)]; simp only [z_seb, Bool.false_eq_true, if_false]; rfl
  | dt x => cases h1
  | ref a => exact absurd rfl (h0 a)
  | ty a => cases h1
  | fz a => cases h2
theorem tI_at {i j : Nat} (h : j < 62) : ((tI i).map D.int)[j]? = some (.int ((bin i j : Nat) : Int)) := by
  rw [List.getElem?_map, tI_get h]
  rfl
theorem okT_flat {d : D} (h : Okd d) (h2 : ∀ xs, d ≠ .tup xs) : OkT d := ⟨h, fun xs e => absurd e (h2 xs)⟩
theorem okT_two {d : D} (h : ∀ xs, d = .tup xs → ∀ x ∈ xs, Okd x) (hd : Okd d) (hl : ∀ xs, d = .tup xs → xs.length ≤ 100000) : OkT d := ⟨hd, fun xs e => ⟨hl xs e, h xs e⟩⟩
end DL

/-! MadeQ: numbers of the lots that have a leader (plain Lean). m hands are left, a is the first of them; led: a leader stands ahead. -/
namespace DL
def pl (l : List Nat) (x : Nat) : Bool := !decide (x ∈ l)
/-- plain hands from a on -/
def np (l : List Nat) (m a : Nat) : Nat := ((List.range' a m).filter (pl l)).length
theorem np_zero {l : List Nat} {a : Nat} : np l 0 a = 0 := rfl
theorem np_succ {l : List Nat} {m a : Nat} : np l (m + 1) a = (if pl l a then 1 else 0) + np l m (a + 1) := by
  unfold np
  rw [List.range'_succ, List.filter_cons]
  split
  · rw [List.length_cons]; omega
  · omega
theorem np_le {l : List Nat} : ∀ {m a : Nat}, np l m a ≤ m := fun {m a} => by
  unfold np
  exact Nat.le_trans (List.length_filter_le _ _) (Nat.le_of_eq List.length_range')
theorem bin_mono {a b : Nat} (h : a ≤ b) (k : Nat) : bin a k ≤ bin b k := by
  induction b generalizing a k with
  | zero =>
    rw [Nat.le_zero.mp h]
    exact Nat.le_refl _
  | succ b ih =>
    rcases Nat.lt_or_eq_of_le h with h1 | h1
    · cases k with
      | zero => rw [bin_zero, bin_zero]; exact Nat.le_refl _
      | succ k =>
        rw [bin_succ]
        have := ih (by omega : a ≤ b) (k + 1)
        omega
    · rw [h1]
      exact Nat.le_refl _
/-- how many lots of k more hands have a leader -/
def Mk (l : List Nat) (m a : Nat) (led : Bool) (k : Nat) : Nat := bin m k - if led then 0 else bin (np l m a) k
theorem Mk_led {l : List Nat} {m a k : Nat} : Mk l m a true k = bin m k := by
  unfold Mk
  rw [if_pos rfl]
  rfl
theorem Mk_not {l : List Nat} {m a k : Nat} : Mk l m a false k + bin (np l m a) k = bin m k := by
  unfold Mk
  rw [if_neg (by decide)]
  have := bin_mono (np_le (l := l) (m := m) (a := a)) k
  omega
theorem Mk_zero {l : List Nat} {m a : Nat} {led : Bool} : Mk l m a led 0 = if led then 1 else 0 := by
  unfold Mk
  rw [bin_zero, bin_zero]
  cases led <;> rfl
def ld (l : List Nat) (led : Bool) (a : Nat) : Bool := led || decide (a ∈ l)
theorem Mk_succ {l : List Nat} {m a k : Nat} {led : Bool} : Mk l (m + 1) a led (k + 1) = Mk l m (a + 1) (ld l led a) k + Mk l m (a + 1) led (k + 1) := by
  cases led with
  | true =>
    have : ld l true a = true := rfl
    rw [this, Mk_led, Mk_led, Mk_led, bin_succ]
  | false =>
    have h1 := Mk_not (l := l) (m := m + 1) (a := a) (k := k + 1)
    have h2 := Mk_not (l := l) (m := m) (a := a + 1) (k := k + 1)
    rw [np_succ] at h1
    rw [bin_succ] at h1
    by_cases c : a ∈ l
    · have e : ld l false a = true := by unfold ld; rw [decide_eq_true c]; rfl
      have e2 : pl l a = false := by unfold pl; rw [decide_eq_true c]; rfl
      rw [e, Mk_led]
      rw [e2, if_neg (by decide), Nat.zero_add] at h1
      omega
    · have e : ld l false a = false := by unfold ld; rw [decide_eq_false c]; rfl
      have e2 : pl l a = true := by unfold pl; rw [decide_eq_false c]; rfl
      have h3 := Mk_not (l := l) (m := m) (a := a + 1) (k := k)
      rw [e]
      rw [e2, if_pos rfl, Nat.add_comm 1, bin_succ] at h1
      omega
theorem Mk_none {l : List Nat} {a k : Nat} {led : Bool} : Mk l 0 a led (k + 1) = 0 := by
  unfold Mk
  rw [bin_gt (by omega : 0 < k + 1)]
  omega
/-- a lot's number -/
def mr (l : List Nat) : Nat → Nat → Bool → List Nat → Nat
  | m + 1, a, led, h :: t => if h = a then mr l m (a + 1) (ld l led a) t else Mk l m (a + 1) (ld l led a) t.length + mr l m (a + 1) led (h :: t)
  | _, _, _, _ => 0
/-- the lot of a number -/
def um (l : List Nat) : Nat → Nat → Bool → Nat → Nat → List Nat
  | m + 1, a, led, k + 1, r => if r < Mk l m (a + 1) (ld l led a) k then a :: um l m (a + 1) (ld l led a) k r else um l m (a + 1) led (k + 1) (r - Mk l m (a + 1) (ld l led a) k)
  | _, _, _, _, _ => []
/-- it has a leader -/
def has (l : List Nat) (led : Bool) (lot : List Nat) : Bool := led || lot.any fun x => decide (x ∈ l)
theorem has_cons {l lot : List Nat} {led : Bool} {a : Nat} : has l led (a :: lot) = has l (ld l led a) lot := by
  unfold has ld
  rw [List.any_cons, Bool.or_assoc]
theorem um_ok {l : List Nat} : ∀ (m a : Nat) (led : Bool) (k r : Nat), r < Mk l m a led k → Lot (a + m) a (um l m a led k r) ∧ (um l m a led k r).length = k ∧ has l led (um l m a led k r) = true ∧ mr l m a led (um l m a led k r) = r
  | m, a, led, 0, r, h => by
    rw [Mk_zero] at h
    cases led with
    | false => rw [if_neg (by decide)] at h; omega
    | true =>
      rw [if_pos rfl] at h
      have e : um l m a true 0 r = [] := by cases m <;> rfl
      rw [e]
      refine ⟨trivial, rfl, rfl, ?_⟩
      cases m <;> (show 0 = r; omega)
  | 0, a, led, k + 1, r, h => by
    rw [Mk_none] at h
    omega
  | m + 1, a, led, k + 1, r, h => by
    rw [Mk_succ] at h
    have e1 : a + (m + 1) = a + 1 + m := by omega
    by_cases c : r < Mk l m (a + 1) (ld l led a) k
    · have e : um l (m + 1) a led (k + 1) r = a :: um l m (a + 1) (ld l led a) k r := by rw [um, if_pos c]
      obtain ⟨h1, h2, h3, h4⟩ := um_ok (l := l) m (a + 1) (ld l led a) k r c
      rw [e, e1]
      refine ⟨⟨Nat.le_refl _, by omega, h1⟩, by rw [List.length_cons, h2], by rw [has_cons]; exact h3, ?_⟩
      rw [mr, if_pos rfl]
      exact h4
    · have e : um l (m + 1) a led (k + 1) r = um l m (a + 1) led (k + 1) (r - Mk l m (a + 1) (ld l led a) k) := by rw [um, if_neg c]
      obtain ⟨h1, h2, h3, h4⟩ := um_ok (l := l) m (a + 1) led (k + 1) (r - Mk l m (a + 1) (ld l led a) k) (by omega)
      rw [e, e1]
      refine ⟨h1.weak (by omega), h2, h3, ?_⟩
      cases eu : um l m (a + 1) led (k + 1) (r - Mk l m (a + 1) (ld l led a) k) with
      | nil => rw [eu] at h2; cases h2
      | cons x t =>
        rw [eu] at h1 h2 h4
        have hx := h1.1
        have ht : t.length = k := by simpa using h2
        rw [mr, if_neg (by omega), h4, ht]
        omega
theorem mr_lt {l : List Nat} : ∀ (m a : Nat) (led : Bool) (lot : List Nat), Lot (a + m) a lot → has l led lot = true → mr l m a led lot < Mk l m a led lot.length
  | m, a, led, [], L, h => by
    have : led = true := by
      unfold has at h
      simpa using h
    subst this
    rw [List.length_nil, Mk_zero, if_pos rfl]
    cases m <;> (show 0 < 1; decide)
  | 0, a, led, x :: t, L, h => by
    have h1 := L.1
    have h2 := L.2.1
    omega
  | m + 1, a, led, x :: t, L, h => by
    have e1 : a + (m + 1) = a + 1 + m := by omega
    rw [e1] at L
    obtain ⟨h1, h2, h3⟩ := L
    rw [List.length_cons, Mk_succ]
    rcases Nat.lt_or_eq_of_le h1 with h4 | h4
    · rw [mr, if_neg (by omega)]
      have := mr_lt m (a + 1) led (x :: t) ⟨h4, h2, h3⟩ h
      rw [List.length_cons] at this
      omega
    · subst h4
      rw [mr, if_pos rfl]
      rw [has_cons] at h
      have := mr_lt m (a + 1) (ld l led a) t h3 h
      omega
theorem mr_lex {l : List Nat} : ∀ (m a : Nat) (led : Bool) (s t : List Nat), Lot (a + m) a s → Lot (a + m) a t → s.length = t.length → has l led s = true → has l led t = true → decide (mr l m a led s < mr l m a led t) = lexN s t
  | m, a, led, [], t, _, _, e, _, _ => by
    cases t with
    | nil =>
      have h : lexN [] [] = false := by simp [lexN]
      rw [h]
      exact decide_eq_false (Nat.lt_irrefl _)
    | cons _ _ => cases e
  | m, a, led, _ :: _, [], _, _, e, _, _ => by cases e
  | 0, a, led, x :: s, y :: t, L, _, _, _, _ => by
    have h1 := L.1
    have h2 := L.2.1
    omega
  | m + 1, a, led, x :: s, y :: t, L, L', e, hs, ht => by
    have e1 : a + (m + 1) = a + 1 + m := by omega
    rw [e1] at L L'
    obtain ⟨h1, h2, h3⟩ := L
    obtain ⟨k1, k2, k3⟩ := L'
    have el : s.length = t.length := by simpa using e
    rcases Nat.lt_or_eq_of_le h1 with h4 | h4
    · rcases Nat.lt_or_eq_of_le k1 with k4 | k4
      · have := mr_lex m (a + 1) led (x :: s) (y :: t) ⟨h4, h2, h3⟩ ⟨k4, k2, k3⟩ e hs ht
        rw [mr, mr, if_neg (by omega), if_neg (by omega), el, ← this, decide_eq_decide]
        omega
      · subst k4
        rw [has_cons] at ht
        have := mr_lt m (a + 1) (ld l led a) t k3 ht
        rw [mr, mr, if_neg (by omega), if_pos rfl, lexN_cons, if_neg (by omega), el, decide_eq_decide]
        omega
    · subst h4
      rcases Nat.lt_or_eq_of_le k1 with k4 | k4
      · rw [has_cons] at hs
        have := mr_lt m (a + 1) (ld l led a) s h3 hs
        rw [mr, mr, if_pos rfl, if_neg (by omega), lexN_cons, if_neg (by omega), ← el, decide_eq_decide]
        omega
      · subst k4
        rw [has_cons] at hs ht
        rw [mr, mr, if_pos rfl, if_pos rfl, lexN_cons, if_pos rfl]
        exact mr_lex m (a + 1) (ld l led a) s t h3 k3 el hs ht
theorem lexN_irrefl : ∀ s : List Nat, lexN s s = false
  | [] => by simp [lexN]
  | x :: s => by rw [lexN_cons, if_pos rfl]; exact lexN_irrefl s
theorem lexN_tot : ∀ {s t : List Nat}, s.length = t.length → lexN s t = false → lexN t s = false → s = t
  | [], [], _, _, _ => rfl
  | [], _ :: _, e, _, _ => by cases e
  | _ :: _, [], e, _, _ => by cases e
  | x :: s, y :: t, e, h1, h2 => by
    rw [lexN_cons] at h1 h2
    by_cases c : x = y
    · subst c
      rw [if_pos rfl] at h1 h2
      rw [lexN_tot (by simpa using e) h1 h2]
    · rw [if_neg c] at h1
      rw [if_neg (fun h => c h.symm)] at h2
      have h1 := of_decide_eq_false h1
      have h2 := of_decide_eq_false h2
      omega
theorem mr_inj {l : List Nat} {m a : Nat} {led : Bool} {s t : List Nat} (L : Lot (a + m) a s) (L' : Lot (a + m) a t) (e : s.length = t.length) (hs : has l led s = true) (ht : has l led t = true) (h : mr l m a led s = mr l m a led t) : s = t := by
  have h1 := mr_lex m a led s t L L' e hs ht
  have h2 := mr_lex m a led t s L' L e.symm ht hs
  rw [h, decide_eq_false (Nat.lt_irrefl _)] at h1 h2
  exact lexN_tot e h1.symm h2.symm
theorem um_mr {l : List Nat} {m a : Nat} {led : Bool} {s : List Nat} (L : Lot (a + m) a s) (hs : has l led s = true) : um l m a led s.length (mr l m a led s) = s := by
  obtain ⟨h1, h2, h3, h4⟩ := um_ok (l := l) m a led s.length _ (mr_lt m a led s L hs)
  exact mr_inj h1 L h2 h3 hs h4
/-! ### against the lots' numbers -/
/-- lots of plain hands that begin with one of some -/
def sb (l : List Nat) (n lo hi r : Nat) : Nat := (((List.range' lo (hi - lo)).filter (pl l)).map fun o => bin (np l (n - (o + 1)) (o + 1)) r).sum
theorem sb_same {l : List Nat} {n a r : Nat} : sb l n a a r = 0 := by
  unfold sb
  rw [Nat.sub_self]
  rfl
theorem sb_step {l : List Nat} {n a h r : Nat} (k : a < h) : sb l n a h r = (if pl l a then bin (np l (n - (a + 1)) (a + 1)) r else 0) + sb l n (a + 1) h r := by
  unfold sb
  have e : h - a = (h - (a + 1)) + 1 := by omega
  rw [e, List.range'_succ, List.filter_cons]
  split
  · rw [List.map_cons, List.sum_cons]
  · omega
/-- .. that are less than a lot -/
def pb (l : List Nat) (n : Nat) : Nat → List Nat → Nat
  | _, [] => 0
  | lo, h :: t => sb l n lo h t.length + if pl l h then pb l n (h + 1) t else 0
theorem ld_pl {l : List Nat} {a : Nat} : ld l false a = !pl l a := by
  unfold ld pl
  rw [Bool.not_not]
  rfl
theorem pl_true {l : List Nat} {a : Nat} (h : pl l a = false) (led : Bool) : ld l led a = true := by
  unfold pl at h
  unfold ld
  cases led with
  | true => rfl
  | false => simpa using h
theorem mr_rk_led {l : List Nat} : ∀ (m a : Nat) (lot : List Nat), Lot (a + m) a lot → mr l m a true lot = rk (a + m) a lot
  | m, a, [], _ => by rw [rk_nil]; cases m <;> rfl
  | 0, a, x :: t, L => by
    have h1 := L.1
    have h2 := L.2.1
    omega
  | m + 1, a, x :: t, L => by
    have e1 : a + (m + 1) = a + 1 + m := by omega
    rw [e1] at L ⊢
    obtain ⟨h1, h2, h3⟩ := L
    have el : ld l true a = true := rfl
    rcases Nat.lt_or_eq_of_le h1 with h4 | h4
    · rw [mr, if_neg (by omega), el, mr_rk_led m (a + 1) (x :: t) ⟨h4, h2, h3⟩, rk_skip h4, Mk_led]
      have : a + 1 + m - a - 1 = m := by omega
      rw [this]
    · subst h4
      rw [mr, if_pos rfl, el, mr_rk_led m (a + 1) t h3, rk_here]
theorem mr_rk {l : List Nat} : ∀ (m a : Nat) (lot : List Nat), Lot (a + m) a lot → mr l m a false lot + pb l (a + m) a lot = rk (a + m) a lot
  | m, a, [], _ => by rw [rk_nil]; cases m <;> rfl
  | 0, a, x :: t, L => by
    have h1 := L.1
    have h2 := L.2.1
    omega
  | m + 1, a, x :: t, L => by
    have e1 : a + (m + 1) = a + 1 + m := by omega
    rw [e1] at L ⊢
    obtain ⟨h1, h2, h3⟩ := L
    rcases Nat.lt_or_eq_of_le h1 with h4 | h4
    · have ih := mr_rk (l := l) m (a + 1) (x :: t) ⟨h4, h2, h3⟩
      rw [pb] at ih ⊢
      rw [mr, if_neg (by omega), rk_skip h4, sb_step h4, ← ih]
      have e2 : a + 1 + m - a - 1 = m := by omega
      have e3 : a + 1 + m - (a + 1) = m := by omega
      rw [e2, e3]
      cases c : pl l a with
      | true =>
        have el : ld l false a = false := by rw [ld_pl, c]; rfl
        rw [el, if_pos rfl, ← Mk_not (l := l) (m := m) (a := a + 1) (k := t.length)]
        omega
      | false =>
        rw [pl_true c, if_neg (by decide), Mk_led]
        omega
    · subst h4
      rw [mr, if_pos rfl, rk_here, pb, sb_same, Nat.zero_add]
      cases c : pl l a with
      | true =>
        have el : ld l false a = false := by rw [ld_pl, c]; rfl
        rw [el, if_pos rfl]
        exact mr_rk m (a + 1) t h3
      | false =>
        rw [pl_true c, if_neg (by decide), Nat.add_zero]
        exact mr_rk_led m (a + 1) t h3
/-! ### hand by hand -/
/-- the next hand, and the number that is left -/
def nh (l : List Nat) : Nat → Nat → Bool → Nat → Nat → Nat × Nat
  | m + 1, a, led, k, r => if r < Mk l m (a + 1) (ld l led a) k then (a, r) else nh l m (a + 1) led k (r - Mk l m (a + 1) (ld l led a) k)
  | _, a, _, _, r => (a, r)
theorem nh_um {l : List Nat} : ∀ (m a : Nat) (led : Bool) (k r : Nat), r < Mk l m a led (k + 1) → ∃ h r', nh l m a led k r = (h, r') ∧ a ≤ h ∧ h < a + m ∧ r' < Mk l (a + m - (h + 1)) (h + 1) (ld l led h) k ∧
    um l m a led (k + 1) r = h :: um l (a + m - (h + 1)) (h + 1) (ld l led h) k r'
  | 0, a, led, k, r, h => by
    rw [Mk_none] at h
    omega
  | m + 1, a, led, k, r, h => by
    rw [Mk_succ] at h
    have e1 : a + (m + 1) - (a + 1) = m := by omega
    by_cases c : r < Mk l m (a + 1) (ld l led a) k
    · refine ⟨a, r, by rw [nh, if_pos c], Nat.le_refl _, by omega, by rw [e1]; exact c, ?_⟩
      rw [um, if_pos c, e1]
    · obtain ⟨x, r', h1, h2, h3, h4, h5⟩ := nh_um (l := l) m (a + 1) led k (r - Mk l m (a + 1) (ld l led a) k) (by omega)
      have e2 : a + (m + 1) = a + 1 + m := by omega
      refine ⟨x, r', by rw [nh, if_neg c]; exact h1, by omega, by omega, by rw [e2]; exact h4, ?_⟩
      rw [um, if_neg c, e2]
      exact h5
end DL

/-! MadeR: is_made, plain_below, made_number, made_with, next_hand, made_at, with_hand, comes_by. -/
namespace DL
open PySem PySem.Spec PyProof.Rows L2
theorem nat_pw {l l' : List Nat} (h : l.Pairwise (· < ·)) (h' : l'.Pairwise (· < ·)) (e : ∀ x, x ∈ l ↔ x ∈ l') : l = l' := pw_ext (fun a => Nat.lt_irrefl a) (fun _ _ _ => Nat.lt_trans) h h' e
theorem pl_iff {l : List Nat} {x : Nat} : pl l x = true ↔ x ∉ l := by
  unfold pl
  simp
theorem pw_filter {p : Nat → Bool} {a m : Nat} : ((List.range' a m).filter p).Pairwise (· < ·) := List.Pairwise.filter _ List.pairwise_lt_range'
theorem mem_rf {p : Nat → Bool} {a m x : Nat} : x ∈ (List.range' a m).filter p ↔ (a ≤ x ∧ x < a + m) ∧ p x = true := by
  rw [List.mem_filter, List.mem_range'_1]
theorem others_pl {n : Nat} {l : List Nat} : others n 0 l = (List.range' 0 n).filter (pl l) := by
  rw [others_zero, List.range_eq_range']
  rfl
/-- what stands behind a plain hand -/
theorem rf_drop {p : Nat → Bool} : ∀ (m a j o : Nat), ((List.range' a m).filter p)[j]? = some o → ((List.range' a m).filter p).length = j + 1 + ((List.range' (o + 1) (a + m - (o + 1))).filter p).length
  | 0, a, j, o, h => by simp at h
  | m + 1, a, j, o, h => by
    rw [List.range'_succ, List.filter_cons] at h ⊢
    have e : a + 1 + m = a + (m + 1) := by omega
    by_cases c : p a = true
    · rw [if_pos c] at h ⊢
      cases j with
      | zero =>
        rw [List.getElem?_cons_zero] at h
        cases h
        have e2 : a + (m + 1) - (a + 1) = m := by omega
        rw [e2, List.length_cons]
        omega
      | succ j =>
        rw [List.getElem?_cons_succ] at h
        have ih := rf_drop m (a + 1) j o h
        rw [e] at ih
        rw [List.length_cons]
        omega
    · rw [if_neg c] at h ⊢
      have ih := rf_drop m (a + 1) j o h
      rw [e] at ih
      exact ih
/-- any of the one among the other, and the other way about -/
theorem any_swap {l lot : List Nat} : (l.any fun h => decide (h ∈ lot)) = has l false lot := by
  unfold has
  rw [Bool.false_or, Bool.eq_iff_iff, List.any_eq_true, List.any_eq_true]
  constructor
  · rintro ⟨x, h1, h2⟩
    exact ⟨x, of_decide_eq_true h2, decide_eq_true h1⟩
  · rintro ⟨x, h1, h2⟩
    exact ⟨x, of_decide_eq_true h2, decide_eq_true h1⟩
def cIsMade : DSp := fun ds μ Q => ∃ (ws : List (Option Int)) (lot : List Nat), ds = [wishD ws, lotD lot] ∧ ws.length ≤ 60 ∧ ∀ l, Ld ws l → Q (.bl (has l false lot)) μ
def w_isMade : DTS :=
  (dRet (dCB fAny (dCons (dLc (dISeq (dCall cLeaders [] (dCons (dVar 0) dNil))) (gN 2) dYes (dOp (dIn false) (dVar 2) (dVar 1)) [2]) dNil)))
theorem any_in {l : List Nat} {lot : List Nat} {μ : Mu} {Q : DQ} (h : Q (.bl (has l false lot)) μ) : fAny [.lst (l.map fun x => D.bl (decide (x ∈ lot)))] μ Q := by
  refine any_of (bs := l.map fun x => decide (x ∈ lot)) (by rw [see_lst, List.map_map]; rfl) ?_
  have e : (l.map fun x => decide (x ∈ lot)).any id = has l false lot := by
    rw [List.any_map, ← any_swap]
    rfl
  rw [e]
  exact h
theorem isMade_ok (N : List Str) (hN : N.length = 3) : ∀ ds μ Q, cIsMade ds μ Q → w_isMade { nx := fun _ μ' => fin Q .non μ', rt := fin Q } (dstart N ds) μ := by
  intro ds μ Q h
  obtain ⟨ws, lot, rfl, hl, q⟩ := h
  have hz := sizeLine_eq
  unfold w_isMade
  simp only [dSim, hN, dLc, dISeq, cLeaders]
  refine ⟨ws, rfl, hl, fun l L => ⟨_, .inr rfl, ?_⟩⟩
  have hll := L.1.drop_ok
  refine lc_nat (fun _ => true) (fun x => .bl (decide (x ∈ lot))) rfl (by omega) (fun x K _ hK => ?_) (fun x K _ _ hK => ?_) ?_
  · exact hK
  · simp only [dSim, dwipe, z_inT, Bool.false_eq_true, if_false]
    exact hK
  rw [List.filter_eq_self.mpr fun _ _ => rfl]
  exact any_in (fin_of (q l L))
def cPlainBelow : DSp := fun ds μ Q => ∃ (n : Nat) (l lot : List Nat), ds = [lstD (others n 0 l), lotD lot] ∧ n ≤ 60 ∧ Lot n 0 l ∧ Lot n 0 lot ∧ Q (.int (pb l n 0 lot : Nat)) μ
def w_plainBelow : DTS :=
  (dSeq (dAsg (dTup (dCons (dC (.int 0)) (dCons (dNeg (dC (.int 1))) dNil))) (gTp 2 (gsCons (gN 2) (gsCons (gN 3) gsNil))))
  (dSeq (dFor (dIEnum (dCons (dVar 1) dNil)) (gTp 2 (gsCons (gN 4) (gsCons (gN 5) gsNil))) (dSeq (dAsg (dOp oSub (dOp oSub (dCB fLen (dCons (dVar 1) dNil)) (dVar 4)) (dC (.int 1))) (gN 6))
  (dSeq (dFor (dIEnum (dCons (dVar 0) dNil)) (gTp 2 (gsCons (gN 7) (gsCons (gN 8) gsNil))) (dIfS (dT (dChain oLt oLt (dVar 3) (dVar 8) (dVar 5))) (dAug 2 (dCall cChoose [] (dCons (dOp oSub (dOp oSub (dCB fLen (dCons (dVar 0) dNil)) (dVar 7)) (dC (.int 1))) (dCons (dVar 6) dNil))) (fun i j => i + j)) dNext))
  (dSeq (dIfS (dT (dOp (dIn true) (dVar 5) (dVar 0))) (dRet (dVar 2)) dNext)
  (dAsg (dVar 5) (gN 3))))))
  (dRet (dVar 2))))
theorem sum_filter_take {P : List Nat} {p : Nat → Bool} {g : Nat → Nat} {j o : Nat} (h : P[j]? = some o) : (((P.take (j + 1)).filter p).map g).sum = (((P.take j).filter p).map g).sum + if p o then g o else 0 := by
  rw [List.take_succ, h, List.filter_append, List.map_append, List.sum_append]
  congr 1
  show (([o].filter p).map g).sum = _
  rw [List.filter_cons, List.filter_nil]
  split
  · rw [List.map_cons, List.map_nil, List.sum_cons, List.sum_nil, Nat.add_zero]
  · rfl
theorem plainBelow_ok (N : List Str) (hN : N.length = 9) : ∀ ds μ Q, cPlainBelow ds μ Q → w_plainBelow { nx := fun _ μ' => fin Q .non μ', rt := fin Q } (dstart N ds) μ := by
  intro ds μ Q h
  obtain ⟨n, l, lot, rfl, hn, Ll, Lt, q⟩ := h
  have hz := sizeLine_eq
  have hlt := Lt.drop_ok
  have eP := others_pl (n := n) (l := l)
  have hP : (others n 0 l).length ≤ n := by
    rw [eP]
    exact Nat.le_trans (List.length_filter_le _ _) (Nat.le_of_eq List.length_range')
  unfold w_plainBelow
  refine seq_cut fun R hR => ?_
  simp only [dSim, hN]
  refine ⟨by decide, hR _ _ (seq_cut fun R1 hR1 => ?_)⟩
  simp only [dSim, dFor, dIEnum]
  refine ⟨_, _, rfl, .inr rfl, ?_⟩
  refine for_inv (fun i ρ μ' => μ' = μ ∧ ∃ (f b : Nat) (x1 x2 x3 x4 x5 : Option D), f + pb l n b (lot.drop i) = pb l n 0 lot ∧ Lot n b (lot.drop i) ∧ ρ = [some (lstD (others n 0 l)), some (lotD lot), some (.int f), some (.int ((b : Int) - 1)), x1, x2, x3, x4, x5])
    ⟨rfl, 0, 0, none, none, none, none, none, by rw [List.drop_zero, Nat.zero_add], Lt, rfl⟩ (fun i ρ μ' _ h => by rw [h.1]) (fun i d ρ μ' N1 hi h hN1 => ?_) fun ρ μ' h => ?_
  · obtain ⟨rfl, f, b, x1, x2, x3, x4, x5, hs, Lb, rfl⟩ := h
    obtain ⟨d', hd', rfl⟩ := enumD_get.mp hi
    obtain ⟨x, hx, rfl⟩ := lotD_get hd'
    have hil : i < lot.length := (List.getElem?_eq_some_iff.mp hx).1
    rw [drop_get hx] at hs Lb
    obtain ⟨hb1, hb2, hb3⟩ := Lb
    rw [pb] at hs
    simp only [z_tp, z_gsc, z_gsn, gN, List.set_cons_zero, List.set_cons_succ, List.length_cons, List.length_nil, true_and]
    refine seq_cut fun R2 hR2 => ?_
    simp only [dSim, List.length_map, iL_len]
    have er : ((lot.length : Int) - (i : Int)) - 1 = ((lot.drop (i + 1)).length : Nat) := by
      rw [List.length_drop]
      omega
    rw [er]
    generalize hrr : (lot.drop (i + 1)).length = r at *
    have hr : r ≤ 60 := by rw [← hrr, List.length_drop]; omega
    refine hR2 _ _ (seq_cut fun R3 hR3 => ?_)
    simp only [dSim, dFor, dIEnum]
    refine ⟨_, _, rfl, .inl rfl, ?_⟩
    refine for_inv (fun j ρ μ2 => μ2 = μ' ∧ ∃ (x4 x5 : Option D), ρ = [some (lstD (others n 0 l)), some (lotD lot), some (.int ((f + ((((others n 0 l).take j).filter fun o => decide (b ≤ o) && decide (o < x)).map fun o => bin (np l (n - (o + 1)) (o + 1)) r).sum : Nat) : Int)), some (.int ((b : Int) - 1)), some (.int (i : Nat)), some (.int (x : Nat)), some (.int (r : Nat)), x4, x5])
      ⟨rfl, x4, x5, rfl⟩ (fun j ρ μ2 _ h => by rw [h.1]) (fun j d ρ μ2 N2 hj h hN2 => ?_) fun ρ μ2 h => ?_
    · obtain ⟨rfl, x4, x5, rfl⟩ := h
      obtain ⟨d', hd', rfl⟩ := enumD_get.mp hj
      obtain ⟨o, ho, rfl⟩ := lotD_get hd'
      have hjl : j < (others n 0 l).length := (List.getElem?_eq_some_iff.mp ho).1
      have hlast := rf_drop n 0 j o (by rw [← eP]; exact ho)
      rw [← eP, Nat.zero_add] at hlast
      have est := sum_filter_take (p := fun o => decide (b ≤ o) && decide (o < x)) (g := fun o => bin (np l (n - (o + 1)) (o + 1)) r) ho
      have hN3 := fun k (e : k = f + ((((others n 0 l).take (j + 1)).filter fun o => decide (b ≤ o) && decide (o < x)).map fun o => bin (np l (n - (o + 1)) (o + 1)) r).sum) => hN2 [some (lstD (others n 0 l)), some (lotD lot), some (.int (k : Nat)), some (.int ((b : Int) - 1)), some (.int (i : Nat)), some (.int (x : Nat)), some (.int (r : Nat)), some (.int (j : Nat)), some (.int (o : Nat))] μ2 ⟨rfl, some (.int (j : Nat)), some (.int (o : Nat)), by rw [e]⟩
      simp only [dSim]
      by_cases c1 : (b : Int) - 1 < (o : Int)
      · rw [decide_eq_true c1, if_pos rfl]
        by_cases c2 : (o : Int) < (x : Int)
        · rw [decide_eq_true c2, if_pos rfl]
          simp only [List.length_map, iL_len, cChoose]
          have el : (((others n 0 l).length : Nat) : Int) - (j : Int) - 1 = (np l (n - (o + 1)) (o + 1) : Nat) := by
            unfold np
            omega
          rw [el]
          refine ⟨_, r, rfl, Nat.le_trans np_le (by omega), by omega, ?_⟩
          have e := hN3 (f + ((((others n 0 l).take j).filter fun o => decide (b ≤ o) && decide (o < x)).map fun o => bin (np l (n - (o + 1)) (o + 1)) r).sum + bin (np l (n - (o + 1)) (o + 1)) r) (by
            rw [est, if_pos (by rw [decide_eq_true (by omega : b ≤ o), decide_eq_true (by omega : o < x)]; rfl)]
            omega)
          rw [Int.natCast_add] at e
          exact ⟨_, rfl, e⟩
        · rw [decide_eq_false c2, if_neg (by decide)]
          exact hN3 _ (by rw [est, if_neg (by rw [decide_eq_false (by omega : ¬ o < x), Bool.and_false]; decide)]; omega)
      · rw [decide_eq_false c1, if_neg (by decide)]
        exact hN3 _ (by rw [est, if_neg (by rw [decide_eq_false (by omega : ¬ b ≤ o), Bool.false_and]; decide)]; omega)
    · obtain ⟨rfl, x4, x5, rfl⟩ := h
      have esb : ((((others n 0 l).take (enumD ((iL (others n 0 l)).map D.int)).length).filter fun o => decide (b ≤ o) && decide (o < x)).map fun o => bin (np l (n - (o + 1)) (o + 1)) r).sum = sb l n b x r := by
        rw [enumD_len, List.length_map, iL_len, List.take_length]
        unfold sb
        congr 2
        refine nat_pw (List.Pairwise.filter _ ((others_lot n 0 l (by omega) Ll).1.pw)) pw_filter fun y => ?_
        rw [List.mem_filter, mem_rf, mem_others, pl_iff]
        simp only [Bool.and_eq_true, decide_eq_true_eq]
        constructor
        · rintro ⟨⟨h1, h2⟩, h3, h4⟩
          exact ⟨by omega, h2⟩
        · rintro ⟨h1, h2⟩
          exact ⟨⟨by omega, h2⟩, by omega, by omega⟩
      rw [esb]
      refine hR3 _ _ (seq_cut fun R4 hR4 => ?_)
      simp only [dSim, z_inL]
      by_cases c : pl l x = true
      · have hm : x ∈ others n 0 l := mem_others.mpr ⟨hb2, pl_iff.mp c⟩
        rw [decide_eq_true hm]
        simp only [if_true, Bool.not_true, Bool.false_eq_true, if_false]
        refine hR4 _ _ ?_
        simp only [dSim]
        refine hN1 _ _ ⟨rfl, f + sb l n b x r, x + 1, some (.int (i : Nat)), some (.int (x : Nat)), some (.int (r : Nat)), x4, x5, ?_, hb3, ?_⟩
        · rw [if_pos c] at hs
          omega
        · have e : ((x + 1 : Nat) : Int) - 1 = (x : Nat) := by omega
          rw [e]
      · have hm : x ∉ others n 0 l := fun h => c (pl_iff.mpr (mem_others.mp h).2)
        rw [decide_eq_false hm]
        simp only [if_true, Bool.not_false]
        rw [if_neg c, Nat.add_zero] at hs
        rw [hs]
        exact fin_of q
  · obtain ⟨rfl, f, b, x1, x2, x3, x4, x5, hs, _, rfl⟩ := h
    refine hR1 _ _ ?_
    simp only [dSim]
    rw [enumD_len, List.length_map, iL_len, List.drop_length, pb, Nat.add_zero] at hs
    rw [hs]
    exact fin_of q
def mnD (l : List Nat) (n : Nat) (lot : List Nat) : D := if has l false lot then .int (mr l n 0 false lot : Nat) else .non
def cMadeNumber : DSp := fun ds μ Q => ∃ (ws : List (Option Int)) (lot : List Nat), ds = [wishD ws, lotD lot] ∧ ws.length ≤ 60 ∧ Lot ws.length 0 lot ∧ ∀ l, Ld ws l → Q (mnD l ws.length lot) μ
def w_madeNumber : DTS :=
  (dSeq (dIfS (dNot (dT (dCall cIsMade [] (dCons (dVar 0) (dCons (dVar 1) dNil))))) (dRet (dC .non)) dNext)
  (dRet (dOp oSub (dCall cNumberOf [] (dCons (dCB fLen (dCons (dVar 0) dNil)) (dCons (dVar 1) dNil))) (dCall cPlainBelow [] (dCons (dCall cPlain [] (dCons (dVar 0) dNil)) (dCons (dVar 1) dNil))))))
theorem mr_sub {l : List Nat} {n : Nat} {lot : List Nat} (L : Lot n 0 lot) : ((rk n 0 lot : Nat) : Int) - ((pb l n 0 lot : Nat) : Int) = (mr l n 0 false lot : Nat) := by
  have h := mr_rk (l := l) n 0 lot (by rw [Nat.zero_add]; exact L)
  rw [Nat.zero_add] at h
  omega
theorem madeNumber_ok (N : List Str) (hN : N.length = 2) : ∀ ds μ Q, cMadeNumber ds μ Q → w_madeNumber { nx := fun _ μ' => fin Q .non μ', rt := fin Q } (dstart N ds) μ := by
  intro ds μ Q h
  obtain ⟨ws, lot, rfl, hl, Lt, q⟩ := h
  unfold w_madeNumber
  refine seq_cut fun R hR => ?_
  simp only [dSim, hN, cIsMade]
  refine ⟨ws, lot, rfl, hl, fun l L => ?_⟩
  have q := q l L
  unfold mnD at q
  by_cases c : has l false lot = true
  · rw [if_pos c] at q
    rw [c, Bool.not_true, if_neg (by decide)]
    refine hR _ _ ?_
    simp only [dSim, List.length_map, cNumberOf, cPlain, cPlainBelow]
    refine ⟨ws.length, lot, rfl, hl, Lt, ws, rfl, hl, fun l2 L2 => ?_⟩
    have e := L2.eq L
    subst e
    refine ⟨ws.length, l2, lot, rfl, hl, L2.1, Lt, ?_⟩
    rw [mr_sub Lt]
    exact fin_of q
  · rw [if_neg c] at q
    rw [Bool.not_eq_true] at c
    rw [c, Bool.not_false, if_pos rfl]
    exact fin_of q
def cMadeWith : DSp := fun ds μ Q => ∃ (ws : List (Option Int)) (l pre : List Nat) (h r : Nat), ds = [wishD ws, lstD (others ws.length 0 l), lotD pre, .int h, .int r] ∧ ws.length ≤ 60 ∧ Lot ws.length 0 l ∧ (∀ x ∈ pre, x < ws.length) ∧ pre.length ≤ 100 ∧ h < ws.length ∧ r ≤ 1000 ∧
  Q (.int (Mk l (ws.length - (h + 1)) (h + 1) (ld l (has l false pre) h) r : Nat)) μ
def w_madeWith : DTS :=
  (dSeq (dAsg (dCall cChoose [] (dCons (dOp oSub (dOp oSub (dCB fLen (dCons (dVar 0) dNil)) (dVar 3)) (dC (.int 1))) (dCons (dVar 4) dNil))) (gN 5))
  (dSeq (dIfS (dNot (dT (dCB fAll (dCons (dLc (dISeq (dOp dAdd (dVar 2) (dTup (dCons (dVar 3) dNil)))) (gN 6) dYes (dOp (dIn false) (dVar 6) (dVar 1)) [6]) dNil)))) (dRet (dVar 5)) dNext)
  (dRet (dOp oSub (dVar 5) (dCall cChoose [] (dCons (dCB fLen (dCons (dLc (dISeq (dVar 1)) (gN 6) (dT (dOp oGt (dVar 6) (dVar 3))) (dVar 6) [6]) dNil)) (dCons (dVar 4) dNil)))))))
theorem all_plain {n : Nat} {l pre : List Nat} {h : Nat} (hp : ∀ x ∈ pre, x < n) (hh : h < n) : ((pre ++ [h]).map fun x => decide (x ∈ others n 0 l)).all id = !ld l (has l false pre) h := by
  rw [List.all_map, Bool.eq_iff_iff, List.all_eq_true]
  unfold ld has
  rw [Bool.false_or, Bool.not_eq_true', Bool.or_eq_false_iff]
  constructor
  · intro hx
    refine ⟨?_, ?_⟩
    · rw [List.any_eq_false]
      intro x hm
      have := of_decide_eq_true (hx x (List.mem_append_left _ hm))
      have := (mem_others.mp this).2
      simpa using this
    · have := of_decide_eq_true (hx h (List.mem_append_right _ List.mem_cons_self))
      exact decide_eq_false (mem_others.mp this).2
  · rintro ⟨h1, h2⟩ x hx
    refine decide_eq_true (mem_others.mpr ?_)
    rcases List.mem_append.mp hx with hm | hm
    · have := List.any_eq_false.mp h1 x hm
      exact ⟨hp x hm, by simpa using this⟩
    · rw [List.mem_singleton.mp hm]
      exact ⟨hh, of_decide_eq_false h2⟩
theorem np_gt {n h : Nat} {l : List Nat} (L : Lot n 0 l) : ((others n 0 l).filter fun x => decide (h < x)).length = np l (n - (h + 1)) (h + 1) := by
  unfold np
  congr 1
  refine nat_pw (List.Pairwise.filter _ ((others_lot n 0 l (by omega) L).1.pw)) pw_filter fun y => ?_
  rw [List.mem_filter, mem_rf, mem_others, pl_iff]
  simp only [decide_eq_true_eq]
  constructor
  · rintro ⟨⟨h1, h2⟩, h3⟩
    exact ⟨by omega, h2⟩
  · rintro ⟨h1, h2⟩
    exact ⟨⟨by omega, h2⟩, by omega⟩
theorem madeWith_ok (N : List Str) (hN : N.length = 7) : ∀ ds μ Q, cMadeWith ds μ Q → w_madeWith { nx := fun _ μ' => fin Q .non μ', rt := fin Q } (dstart N ds) μ := by
  intro ds μ Q h
  obtain ⟨ws, l, pre, h, r, rfl, hl, L, hp, hpl, hh, hr, q⟩ := h
  have hz := sizeLine_eq
  unfold w_madeWith
  refine seq_cut fun R hR => ?_
  simp only [dSim, hN, List.length_map, cChoose]
  have e1 : ((ws.length : Int) - (h : Int)) - 1 = (ws.length - (h + 1) : Nat) := by omega
  rw [e1]
  refine ⟨_, r, rfl, by omega, hr, hR _ _ (seq_cut fun R1 hR1 => ?_)⟩
  simp only [dSim, dLc, dISeq, List.length_map, iL_len]
  refine ⟨by decide, by omega, _, .inr rfl, ?_⟩
  have e2 : (iL pre).map D.int ++ [D.int (h : Nat)] = (iL (pre ++ [h])).map D.int := by simp [iL]
  rw [e2]
  refine lc_nat (fun _ => true) (fun x => .bl (decide (x ∈ others ws.length 0 l))) rfl (by rw [List.length_append, List.length_cons, List.length_nil]; omega) (fun x K _ hK => hK) (fun x K _ _ hK => ?_) ?_
  · simp only [dSim, dwipe, z_inL, Bool.false_eq_true, if_false]
    exact hK
  rw [List.filter_eq_self.mpr fun _ _ => rfl]
  refine all_of (bs := (pre ++ [h]).map fun x => decide (x ∈ others ws.length 0 l)) (by rw [see_lst, List.map_map]; rfl) ?_
  rw [all_plain hp hh]
  simp only [z_seb, Bool.not_not]
  by_cases c : ld l (has l false pre) h = true
  · rw [c, if_pos rfl]
    rw [c, Mk_led] at q
    exact fin_of q
  · rw [Bool.not_eq_true] at c
    rw [c, if_neg (by decide)]
    rw [c] at q
    refine hR1 _ _ ?_
    simp only [dSim, dLc, dISeq, cChoose]
    refine ⟨_, .inl rfl, ?_⟩
    have hP : (others ws.length 0 l).length ≤ 60 := by
      have := (others_lot ws.length 0 l (by omega) L).2
      omega
    refine lc_nat (fun x => decide (h < x)) (fun x => .int (x : Nat)) rfl (by omega) (fun x K _ hK => ?_) (fun x K _ _ hK => ?_) ?_
    · simp only [dSim, dwipe]
      have e : decide ((h : Int) < (x : Int)) = decide (h < x) := by rw [decide_eq_decide]; omega
      rw [e]
      exact hK
    · simp only [dSim, dwipe]
      exact hK
    simp only [dSim, List.length_map]
    rw [np_gt L]
    refine ⟨_, r, rfl, Nat.le_trans np_le (by omega), hr, ?_⟩
    have e3 := Mk_not (l := l) (m := ws.length - (h + 1)) (a := h + 1) (k := r)
    have e4 : ((bin (ws.length - (h + 1)) r : Nat) : Int) - ((bin (np l (ws.length - (h + 1)) (h + 1)) r : Nat) : Int) = (Mk l (ws.length - (h + 1)) (h + 1) false r : Nat) := by omega
    rw [e4]
    exact fin_of q
def cNextHand : DSp := fun ds μ Q => ∃ (ws : List (Option Int)) (l pre : List Nat) (r k : Nat), ds = [wishD ws, lstD (others ws.length 0 l), lotD pre, .int r, .int k] ∧ ws.length ≤ 60 ∧ Lot ws.length 0 l ∧ Lot ws.length 0 pre ∧ k ≤ 1000 ∧
  r < Mk l (ws.length - bgn 0 pre) (bgn 0 pre) (has l false pre) (k + 1) ∧ ∀ h r', nh l (ws.length - bgn 0 pre) (bgn 0 pre) (has l false pre) k r = (h, r') → Q (.tup [.int h, .int r']) μ
def w_nextHand : DTS :=
  (dSeq (dAsg (dIf (dT (dOp dNe (dVar 2) (dTup dNil))) (dOp dAdd (dOp dIx (dVar 2) (dNeg (dC (.int 1)))) (dC (.int 1))) (dC (.int 0))) (gN 5))
  (dSeq (dAsg (dCall cMadeWith [] (dCons (dVar 0) (dCons (dVar 1) (dCons (dVar 2) (dCons (dVar 5) (dCons (dVar 4) dNil)))))) (gN 6))
  (dSeq (dWhile (dT (dOp oGe (dVar 3) (dVar 6))) (dSeq (dAug 3 (dVar 6) (fun i j => i - j))
  (dSeq (dAug 5 (dC (.int 1)) (fun i j => i + j))
  (dAsg (dCall cMadeWith [] (dCons (dVar 0) (dCons (dVar 1) (dCons (dVar 2) (dCons (dVar 5) (dCons (dVar 4) dNil)))))) (gN 6)))))
  (dRet (dTup (dCons (dVar 5) (dCons (dVar 3) dNil)))))))
theorem Mk_pos {l : List Nat} {m a k r : Nat} {led : Bool} (h : r < Mk l m a led (k + 1)) : 0 < m := by
  cases m with
  | zero => rw [Mk_none] at h; omega
  | succ m => omega
theorem nextHand_ok (N : List Str) (hN : N.length = 7) : ∀ ds μ Q, cNextHand ds μ Q → w_nextHand { nx := fun _ μ' => fin Q .non μ', rt := fin Q } (dstart N ds) μ := by
  intro ds μ Q h
  obtain ⟨ws, l, pre, r, k, rfl, hl, L, Lp, hk, hr, q⟩ := h
  have hz := sizeLine_eq
  have hpl := Lp.drop_ok
  have hpm : ∀ x ∈ pre, x < ws.length := fun x hx => (Lp.mem x hx).2
  unfold w_nextHand
  refine seq_cut fun R hR => ?_
  simp only [dSim, hN]
  have e0 : D.tup [] = lotD [] := rfl
  rw [e0]
  simp only [z_neLot]
  have go : R [some (wishD ws), some (lstD (others ws.length 0 l)), some (lotD pre), some (.int r), some (.int k), some (.int (bgn 0 pre : Nat)), none] μ := by
    refine hR _ _ (seq_cut fun R1 hR1 => ?_)
    simp only [dSim, cMadeWith]
    have hb := Mk_pos hr
    refine ⟨ws, l, pre, _, k, rfl, hl, L, hpm, by omega, by omega, hk, hR1 _ _ (seq_cut fun R2 hR2 => ?_)⟩
    refine while_inv (fun m ρ μ' => μ' = μ ∧ ∃ a x : Nat, m = ws.length - a ∧ a < ws.length ∧ x < Mk l (ws.length - a) a (has l false pre) (k + 1) ∧ nh l (ws.length - a) a (has l false pre) k x = nh l (ws.length - bgn 0 pre) (bgn 0 pre) (has l false pre) k r ∧
        ρ = [some (wishD ws), some (lstD (others ws.length 0 l)), some (lotD pre), some (.int x), some (.int k), some (.int a), some (.int (Mk l (ws.length - (a + 1)) (a + 1) (ld l (has l false pre) a) k : Nat))]) (ws.length - bgn 0 pre)
      ⟨rfl, bgn 0 pre, r, rfl, by omega, hr, rfl, rfl⟩ fun m ρ μ' N1 h hN1 => ?_
    obtain ⟨rfl, a, x, rfl, ha, hx, he, rfl⟩ := h
    obtain ⟨j, hj⟩ : ∃ j, ws.length - a = j + 1 := ⟨ws.length - a - 1, by omega⟩
    have ej : ws.length - (a + 1) = j := by omega
    rw [hj] at hx he
    rw [Mk_succ] at hx
    rw [nh] at he
    simp only [dSim]
    rw [ej]
    by_cases c : x < Mk l j (a + 1) (ld l (has l false pre) a) k
    · rw [decide_eq_false (by omega : ¬ ((Mk l j (a + 1) (ld l (has l false pre) a) k : Nat) : Int) ≤ (x : Int)), if_neg (by decide)]
      rw [if_pos c] at he
      refine hR2 _ _ ?_
      simp only [dSim]
      exact ⟨by decide, fin_of (q a x he.symm)⟩
    · rw [decide_eq_true (by omega : ((Mk l j (a + 1) (ld l (has l false pre) a) k : Nat) : Int) ≤ (x : Int)), if_pos rfl]
      rw [if_neg c] at he
      have hx2 : x - Mk l j (a + 1) (ld l (has l false pre) a) k < Mk l j (a + 1) (has l false pre) (k + 1) := by omega
      have hj0 := Mk_pos hx2
      have e1 : (a : Int) + 1 = ((a + 1 : Nat) : Int) := rfl
      have e2 : (x : Int) - ((Mk l j (a + 1) (ld l (has l false pre) a) k : Nat) : Int) = ((x - Mk l j (a + 1) (ld l (has l false pre) a) k : Nat) : Int) := by omega
      rw [e1, e2]
      simp only [cMadeWith]
      refine ⟨ws, l, pre, a + 1, k, rfl, hl, L, hpm, by omega, by omega, hk, ?_⟩
      refine hN1 (ws.length - (a + 1)) _ _ (by omega) ⟨rfl, a + 1, _, rfl, by omega, by rw [ej]; exact hx2, by rw [ej]; exact he, rfl⟩
  by_cases c : pre = []
  · refine ⟨by decide, ?_⟩
    simp only [z_seb]
    rw [decide_eq_true c, Bool.not_true, if_neg (by decide)]
    subst c
    exact go
  · refine ⟨by decide, ?_⟩
    simp only [z_seb]
    rw [decide_eq_false c, Bool.not_false, if_pos rfl]
    obtain ⟨x, h1, h2⟩ := bgn_last (a := 0) c
    have hlast : pre[pre.length - 1]? = some x := by
      rw [← List.getLast?_eq_getElem?]
      exact h1
    refine ⟨_, at_last (by rw [List.length_map, iL_len]; exact lotD_at hlast), ?_⟩
    rw [h2] at go
    simp only [dSim]
    exact go
def cMadeAt : DSp := fun ds μ Q => ∃ (ws : List (Option Int)) (l lot : List Nat) (t : Nat), ds = [.int t, wishD ws, .int (mr l ws.length 0 false lot : Nat)] ∧ ws.length ≤ 60 ∧ Ld ws l ∧ lot.length = t + 1 ∧ Lot ws.length 0 lot ∧ has l false lot = true ∧ Q (lotD lot) μ
def w_madeAt : DTS :=
  (dSeq (dIfS (dOr (dNot (dT (dCall cWhole [] (dCons (dVar 2) dNil)))) (dT (dOp oGe (dVar 2) (dCall cMade [] (dCons (dVar 0) (dCons (dVar 1) dNil)))))) dNever dNext)
  (dSeq (dPar 3 4 (dCons (dTup dNil) (dCons (dCall cPlain [] (dCons (dVar 1) dNil)) dNil)))
  (dSeq (dFor (dIR3 (dCons (dVar 0) (dCons (dNeg (dC (.int 1))) (dCons (dNeg (dC (.int 1))) dNil)))) (gN 5) (dSeq (dAsg (dCall cNextHand [] (dCons (dVar 1) (dCons (dVar 4) (dCons (dVar 3) (dCons (dVar 2) (dCons (dVar 5) dNil)))))) (gTp 2 (gsCons (gN 6) (gsCons (gN 2) gsNil))))
  (dAsg (dOp dAdd (dVar 3) (dTup (dCons (dVar 6) dNil))) (gN 3))))
  (dRet (dVar 3)))))
theorem mk_Mk {ws : List (Option Int)} {l : List Nat} (L : Ld ws l) (k : Nat) : ((bin ws.length k : Nat) : Int) - ((bin (ws.length - l.length) k : Nat) : Int) = (Mk l ws.length 0 false k : Nat) := by
  have h1 := Mk_not (l := l) (m := ws.length) (a := 0) (k := k)
  have h2 := L.len
  rw [others_pl] at h2
  have h3 : np l ws.length 0 = ws.length - l.length := h2
  rw [h3] at h1
  omega
theorem bgn_snoc {n : Nat} {pre : List Nat} {x : Nat} : bgn 0 (pre ++ [x]) = x + 1 := by
  obtain ⟨y, h1, h2⟩ := bgn_last (a := 0) (l := pre ++ [x]) (by simp)
  rw [List.getLast?_concat] at h1
  cases h1
  exact h2
theorem lot_snoc {n : Nat} : ∀ {a : Nat} {pre : List Nat} {x : Nat}, Lot n a pre → bgn a pre ≤ x → x < n → Lot n a (pre ++ [x])
  | a, [], x, _, h1, h2 => ⟨h1, h2, trivial⟩
  | a, y :: pre, x, ⟨k1, k2, k3⟩, h1, h2 => ⟨k1, k2, lot_snoc k3 h1 h2⟩
theorem has_snoc {l pre : List Nat} {x : Nat} : has l false (pre ++ [x]) = ld l (has l false pre) x := by
  unfold has ld
  rw [List.any_append, Bool.false_or, Bool.false_or, List.any_cons, List.any_nil, Bool.or_false]
theorem madeAt_ok (N : List Str) (hN : N.length = 7) : ∀ ds μ Q, cMadeAt ds μ Q → w_madeAt { nx := fun _ μ' => fin Q .non μ', rt := fin Q } (dstart N ds) μ := by
  intro ds μ Q h
  obtain ⟨ws, l, lot, t, rfl, hl, L, ht, Lt, hh, q⟩ := h
  have hz := sizeLine_eq
  have hlt := Lt.drop_ok
  have L0 : Lot (0 + ws.length) 0 lot := by rw [Nat.zero_add]; exact Lt
  have hlt2 := mr_lt ws.length 0 false lot L0 hh
  have hum := um_mr L0 hh
  rw [ht] at hlt2 hum
  generalize mr l ws.length 0 false lot = r0 at *
  unfold w_madeAt
  refine seq_cut fun R hR => ?_
  simp only [dSim, hN, cWhole, cMade, mk]
  refine ⟨_, rfl, fun _ h => D.noConfusion h, rfl, rfl, ?_⟩
  have e1 : isW (.int (r0 : Nat)) = true := decide_eq_true (p := (0 : Int) ≤ (r0 : Nat)) (Int.natCast_nonneg _)
  rw [e1]
  simp only [z_seb, Bool.not_true, Bool.false_eq_true, if_false]
  refine ⟨t, ws, rfl, by omega, hl, fun l2 L2 => ?_⟩
  have e := L2.eq L
  subst e
  rw [mk_Mk L2, decide_eq_false (by omega), if_neg (by decide)]
  refine hR _ _ (seq_cut fun R1 hR1 => ?_)
  simp only [dSim, cPlain]
  refine ⟨by decide, ws, rfl, hl, fun l3 L3 => ?_⟩
  have e := L3.eq L2
  subst e
  refine hR1 _ _ (seq_cut fun R2 hR2 => ?_)
  simp only [dSim, dFor, dIR3]
  refine ⟨_, _, _, t + 1, rfl, ?_, ?_⟩
  · have h := RgC.neg (i := (t : Int)) (j := -1) (by omega) (by omega) (by decide) (by decide)
    have e : ((t : Int) - -1).toNat = t + 1 := by omega
    rw [e] at h
    exact h
  refine for_inv (fun i ρ μ' => i ≤ t + 1 ∧ ∃ (pre : List Nat) (r : Nat) (x y : Option D), Lot ws.length 0 pre ∧ pre.length = i ∧ r < Mk l3 (ws.length - bgn 0 pre) (bgn 0 pre) (has l3 false pre) (t + 1 - i) ∧
      pre ++ um l3 (ws.length - bgn 0 pre) (bgn 0 pre) (has l3 false pre) (t + 1 - i) r = lot ∧ μ' = μ ∧ ρ = [some (.int t), some (wishD ws), some (.int r), some (lotD pre), some (lstD (others ws.length 0 l3)), x, y])
    ⟨Nat.zero_le _, [], r0, none, none, trivial, rfl, hlt2, hum, rfl, rfl⟩ (fun _ _ _ _ _ => trivial) (fun i d ρ μ' N1 hi h hN1 => ?_) fun ρ μ' h => ?_
  · obtain ⟨_, pre, r, x, y, Lp, hpl, hr, he, rfl, rfl⟩ := h
    unfold rngC at hi
    rw [List.getElem?_map] at hi
    have hit : i < t + 1 := by
      rcases Nat.lt_or_ge i (t + 1) with h | h
      · exact h
      · rw [List.getElem?_eq_none (by rw [List.length_range]; exact h)] at hi
        cases hi
    rw [List.getElem?_range hit] at hi
    cases hi
    have ek : (t : Int) + (i : Int) * -1 = (t - i : Nat) := by omega
    have ek2 : t + 1 - i = (t - i) + 1 := by omega
    rw [ek2] at hr he
    obtain ⟨h, r', h1, h2, h3, h4, h5⟩ := nh_um _ _ _ _ _ hr
    have hb0 : bgn 0 pre ≤ ws.length := by have := Mk_pos hr; omega
    have eb : bgn 0 pre + (ws.length - bgn 0 pre) = ws.length := by omega
    rw [eb] at h3 h4 h5
    refine seq_cut fun R3 hR3 => ?_
    simp only [dSim, ek, cNextHand]
    refine ⟨ws, l3, pre, r, t - i, rfl, hl, L3.1, Lp, by omega, hr, fun h' r'' e' => ?_⟩
    rw [h1] at e'
    cases e'
    refine hR3 _ _ ?_
    simp only [dSim, List.length_map, iL_len]
    have e2 : (iL pre).map D.int ++ [D.int (h : Nat)] = (iL (pre ++ [h])).map D.int := by simp [iL]
    rw [e2]
    refine ⟨by decide, by omega, hN1 _ _ ⟨by omega, pre ++ [h], r', _, _, lot_snoc Lp h2 h3, by rw [List.length_append, hpl]; rfl, ?_, ?_, rfl, rfl⟩⟩
    · rw [bgn_snoc (n := 0), has_snoc]
      have : t + 1 - (i + 1) = t - i := by omega
      rw [this]
      exact h4
    · rw [bgn_snoc (n := 0), has_snoc]
      have : t + 1 - (i + 1) = t - i := by omega
      rw [this, List.append_assoc, List.cons_append, List.nil_append, ← h5]
      exact he
  · obtain ⟨_, pre, r, x, y, Lp, hpl, hr, he, rfl, rfl⟩ := h
    have el : (rngC (t : Int) (-1) (t + 1)).length = t + 1 := by unfold rngC; rw [List.length_map, List.length_range]
    rw [el, Nat.sub_self] at he
    have e : um l3 (ws.length - bgn 0 pre) (bgn 0 pre) (has l3 false pre) 0 r = [] := by cases (ws.length - bgn 0 pre) <;> rfl
    rw [e, List.append_nil] at he
    subst he
    refine hR2 _ _ ?_
    simp only [dSim]
    exact fin_of q
def cWithHand : DSp := fun ds μ Q => ∃ (n h : Nat) (lot whole : List Nat), ds = [lotD lot, .int h] ∧ n ≤ 1000 ∧ Lot n 0 lot ∧ Lot n 0 whole ∧ whole.Perm (h :: lot) ∧ Q (lotD whole) μ
def w_withHand : DTS :=
  (dRet (dCB fTuple (dCons (dCB fSort (dCons (dOp dAdd (dVar 0) (dTup (dCons (dVar 1) dNil))) dNil)) dNil)))
theorem lot_eq_perm {n m : Nat} {l l' : List Nat} (L : Lot n 0 l) (L' : Lot m 0 l') (p : l.Perm l') : l = l' := nat_pw L.pw L'.pw fun x => p.mem_iff
theorem sort_with {n h : Nat} {lot whole : List Nat} {μ : Mu} {Q : DQ} (L : Lot n 0 lot) (W : Lot n 0 whole) (p : whole.Perm (h :: lot)) (q : Q (.lst ((iL whole).map D.int)) μ) : fSort [.tup ((iL lot).map D.int ++ [D.int (h : Nat)])] μ Q := by
  have e2 : (iL lot).map D.int ++ [D.int (h : Nat)] = (iL (lot ++ [h])).map D.int := by simp [iL]
  rw [e2]
  refine sort_of (.inr rfl) fun ms h1 h2 => ?_
  have p2 : (lot ++ [h]).Perm whole := (List.perm_append_comm).trans p.symm
  obtain ⟨l, rfl, Ll, pl⟩ := sort_lot (m := n) h1 h2 (p2.nodup_iff.mpr W.nodup) fun x hx => (W.mem x (p2.mem_iff.mp hx)).2
  rw [lot_eq_perm Ll W (pl.trans p2)]
  exact q
theorem withHand_ok (N : List Str) (hN : N.length = 2) : ∀ ds μ Q, cWithHand ds μ Q → w_withHand { nx := fun _ μ' => fin Q .non μ', rt := fin Q } (dstart N ds) μ := by
  intro ds μ Q h
  obtain ⟨n, h, lot, whole, rfl, hn, L, W, p, q⟩ := h
  have hz := sizeLine_eq
  have hl := L.drop_ok
  unfold w_withHand
  simp only [dSim, hN, List.length_map, iL_len]
  refine ⟨by decide, by omega, sort_with L W p ?_⟩
  simp only [dSim]
  exact fin_of q
def cComesBy : DSp := fun ds μ Q => ∃ (ws : List (Option Int)) (h : Nat) (lot whole : List Nat), ds = [wishD ws, .int h, lotD lot] ∧ ws.length ≤ 60 ∧ Lot ws.length 0 lot ∧ Lot ws.length 0 whole ∧ whole.Perm (h :: lot) ∧ ∀ l, Ld ws l → Q (.tup [lotD whole, mnD l ws.length whole]) μ
def w_comesBy : DTS :=
  (dSeq (dAsg (dCall cWithHand [] (dCons (dVar 2) (dCons (dVar 1) dNil))) (gN 3))
  (dRet (dTup (dCons (dVar 3) (dCons (dCall cMadeNumber [] (dCons (dVar 0) (dCons (dVar 3) dNil))) dNil)))))
theorem comesBy_ok (N : List Str) (hN : N.length = 4) : ∀ ds μ Q, cComesBy ds μ Q → w_comesBy { nx := fun _ μ' => fin Q .non μ', rt := fin Q } (dstart N ds) μ := by
  intro ds μ Q h
  obtain ⟨ws, h, lot, whole, rfl, hl, L, W, p, q⟩ := h
  have hz := sizeLine_eq
  unfold w_comesBy
  refine seq_cut fun R hR => ?_
  simp only [dSim, hN, cWithHand]
  refine ⟨ws.length, h, lot, whole, rfl, by omega, L, W, p, hR _ _ ?_⟩
  simp only [dSim, cMadeNumber]
  exact ⟨ws, whole, rfl, hl, W, fun l Ll => ⟨by decide, fin_of (q l Ll)⟩⟩
end DL

/-! MadeS: the laws' drawn bunches and their own numbers of made lots. -/
namespace DL
open PySem PySem.Spec PyProof.Rows L2
theorem cut_mid {xs : List D} {a b : Nat} (h : a ≤ b) (hb : b ≤ xs.length) : cutD xs (some (a : Int)) (some (b : Int)) = (xs.drop a).take (b - a) := by
  have e1 : HT.sIx xs.length 0 (some (a : Int)) = a := by
    unfold HT.sIx
    simp only
    split <;> omega
  have e2 : HT.sIx xs.length xs.length (some (b : Int)) = b := by
    unfold HT.sIx
    simp only
    split <;> omega
  unfold cutD
  rw [e1, e2]
theorem lot_sub {m : Nat} {l : List Nat} (h : l.Sublist (List.range m)) : Lot m 0 l := lot_of_pw (List.Pairwise.sublist h List.pairwise_lt_range) fun x hx => ⟨Nat.zero_le _, List.mem_range.mp (h.subset hx)⟩
theorem without_len {m : Nat} {f : List Nat} : m ≤ ((List.range m).filter fun x => !decide (x ∈ f)).length + f.length := by
  have h1 := nodup_len (l := (List.range m).filter fun x => decide (x ∈ f)) (m := f) (List.Pairwise.filter _ List.nodup_range) fun x hx => of_decide_eq_true (List.mem_filter.mp hx).2
  have h2 : ∀ l : List Nat, (l.filter fun x => !decide (x ∈ f)).length + (l.filter fun x => decide (x ∈ f)).length = l.length := fun l => by
    induction l with
    | nil => rfl
    | cons y l ih =>
      rw [List.filter_cons, List.filter_cons]
      by_cases c : y ∈ f
      · rw [decide_eq_true c, if_neg (by decide), if_pos rfl, List.length_cons, List.length_cons]
        omega
      · rw [decide_eq_false c, if_pos (by decide), if_neg (by decide), List.length_cons, List.length_cons]
        omega
  have h3 := h2 (List.range m)
  rw [List.length_range] at h3
  omega
theorem Keep.none {a p : Addr} {μ μ' : Mu} (h : Keep a μ μ') (hp : μ' p = none) (ne : a ≠ p) : μ p = none := by
  cases e : μ p with
  | none => rfl
  | some o =>
    rw [h p o (Ne.symm ne) e] at hp
    cases hp
def cLawBunch : DSp := fun ds μ Q => ∃ (a : Addr) (m k n : Nat) (f : List Nat), ds = [.ref a, .int m, .int k, lstD f] ∧ k ≤ m ∧ m ≤ 1000 ∧ f.length ≤ 1000 ∧ IsPot n μ a ∧ n < 100000000 ∧ ∀ (lot : List Nat) (μ' : Mu), Lot m 0 lot → lot.length = k → Keep a μ μ' → IsPot (n + 2 + k) μ' a → Q (lotD lot) μ'
def w_lawBunch : DTS :=
  (dSeq (dPar 4 5 (dCons (dCall cTake [] (dCons (dVar 0) (dCons (dC (.int 6)) dNil))) (dCons (dLstRgM (dRg1 (dVar 1))) dNil)))
  (dSeq (dIfS (dT (dOp dEq (dVar 4) (dC (.int 1)))) (dRet (dCB fTuple (dCons (dSl (dVar 5) dNoP (dPt (dVar 2))) dNil))) dNext)
  (dSeq (dIfS (dT (dOp dEq (dVar 4) (dC (.int 2)))) (dRet (dCB fTuple (dCons (dSl (dVar 5) (dPt (dOp oSub (dVar 1) (dVar 2))) dNoP) dNil))) dNext)
  (dSeq (dIfS (dT (dOp dEq (dVar 4) (dC (.int 3)))) (dSeq (dAsg (dCall cTake [] (dCons (dVar 0) (dCons (dOp dAdd (dOp oSub (dVar 1) (dVar 2)) (dC (.int 1))) dNil))) (gN 6))
  (dRet (dCB fTuple (dCons (dSl (dVar 5) (dPt (dVar 6)) (dPt (dOp dAdd (dVar 6) (dVar 2)))) dNil)))) dNext)
  (dSeq (dIfS (dAnd (dT (dOp dEq (dVar 4) (dC (.int 4)))) (dT (dOp oGe (dOp oSub (dVar 1) (dCB fLen (dCons (dVar 3) dNil))) (dVar 2)))) (dAsg (dLcM (dISeq (dVar 5)) (gN 7) (dT (dOp (dIn true) (dVar 7) (dVar 3))) (dVar 7) [7]) (gN 5)) dNext)
  (dSeq (dAsg (dLstM dNil) (gN 8))
  (dSeq (dFor (dIR1 (dCons (dVar 2) dNil)) (gN 9) (dDrop (dMl mAppend (dVar 8) (dCons (dMl mPopAt (dVar 5) (dCons (dCall cTake [] (dCons (dVar 0) (dCons (dCB fLen (dCons (dVar 5) dNil)) dNil))) dNil)) dNil))))
  (dRet (dCB fTuple (dCons (dCB fSort (dCons (dVar 8) dNil)) dNil))))))))))
theorem lawBunch_ok (N : List Str) (hN : N.length = 10) : ∀ ds μ Q, cLawBunch ds μ Q → w_lawBunch { nx := fun _ μ' => fin Q .non μ', rt := fin Q } (dstart N ds) μ := by
  intro ds μ Q h
  obtain ⟨a, m, k, n, f, rfl, hk, hm, hf, hp, hn, q⟩ := h
  have hz := sizeLine_eq
  unfold w_lawBunch
  refine seq_cut fun R hR => ?_
  simp only [dSim, hN, cTake]
  refine ⟨a, 6, n, rfl, by decide, by decide, hp, by omega, fun w μ1 w0 w1 k1 p1 => ?_⟩
  refine ⟨by omega, by omega, fun p hpn => hR _ _ (seq_cut fun R1 hR1 => ?_)⟩
  have e0 : ((m : Int) - 0).toNat = m := by omega
  rw [e0, rng_iL]
  have ap : a ≠ p := p1.ne hpn
  have mp : mput μ1 p (.lst ((iL (List.range m)).map D.int)) p = some (.lst ((iL (List.range m)).map D.int)) := mput_same
  have np0 := k1.none hpn ap
  have kp : Keep a μ (mput μ1 p (.lst ((iL (List.range m)).map D.int))) := k1.new np0
  have pp : IsPot (n + 1) (mput μ1 p (.lst ((iL (List.range m)).map D.int))) a := p1.at_ (mput_ne ap)
  generalize mput μ1 p (.lst ((iL (List.range m)).map D.int)) = μ2 at *
  have sl : ∀ (lo hi : Option Int) (l : List Nat) (Q' : DQ) (μ3 : Mu), μ3 p = some (.lst ((iL (List.range m)).map D.int)) → cutD ((iL (List.range m)).map D.int) lo hi = (iL l).map D.int → Q' (.tup ((iL l).map D.int)) μ3 →
      ((∃ xs, see μ3 (.ref p) = .lst xs ∧ Q' (.tup (cutD xs lo hi)) μ3) ∨ ∃ xs, see μ3 (.ref p) = .tup xs ∧ Q' (.tup (cutD xs lo hi)) μ3) := fun lo hi l Q' μ3 hm3 hc hq => .inl ⟨_, see_ref hm3, by rw [hc]; exact hq⟩
  have mt : ∀ (l : List Nat) (i : Nat), ((iL l).map D.int).take i = (iL (l.take i)).map D.int := fun l i => by unfold iL; rw [List.map_take, List.map_take]
  have md : ∀ (l : List Nat) (i : Nat), ((iL l).map D.int).drop i = (iL (l.drop i)).map D.int := fun l i => by unfold iL; rw [List.map_drop, List.map_drop]
  simp only [dSim, z_eq_int]
  by_cases c1 : w = 1
  · rw [decide_eq_true c1, if_pos rfl]
    refine sl _ _ ((List.range m).take k) _ _ mp (by rw [cut_to (k := (k : Int)) (by omega), Int.toNat_natCast, mt]) (fin_of (q _ _ (lot_sub (List.take_sublist _ _)) (by rw [List.length_take, List.length_range]; omega) kp (pp.mono (by omega))))
  rw [decide_eq_false c1, if_neg (by decide)]
  refine hR1 _ _ (seq_cut fun R2 hR2 => ?_)
  simp only [dSim, z_eq_int]
  by_cases c2 : w = 2
  · rw [decide_eq_true c2, if_pos rfl]
    refine sl _ _ ((List.range m).drop (m - k)) _ _ mp (by rw [cut_from (k := (m : Int) - (k : Int)) (by omega), ← md]; congr 1; omega) (fin_of (q _ _ (lot_sub (List.drop_sublist _ _)) (by rw [List.length_drop, List.length_range]; omega) kp (pp.mono (by omega))))
  rw [decide_eq_false c2, if_neg (by decide)]
  refine hR2 _ _ (seq_cut fun R3 hR3 => ?_)
  simp only [dSim, z_eq_int, cTake]
  by_cases c3 : w = 3
  · rw [decide_eq_true c3, if_pos rfl]
    refine ⟨a, _, _, rfl, by omega, by omega, pp, by omega, fun r μ3 r0 r1 k3 p3 => ?_⟩
    obtain ⟨b, rfl⟩ : ∃ b : Nat, r = b := ⟨r.toNat, by omega⟩
    have e : (b : Int) + (k : Int) = ((b + k : Nat) : Int) := by omega
    rw [e]
    refine sl _ _ (((List.range m).drop b).take k) _ _ (k3 p _ (Ne.symm ap) mp) (by rw [cut_mid (a := b) (b := b + k) (by omega) (by rw [List.length_map, iL_len, List.length_range]; omega), md, mt]; congr 3; omega)
      (fin_of (q _ _ (lot_sub ((List.take_sublist _ _).trans (List.drop_sublist _ _))) (by rw [List.length_take, List.length_drop, List.length_range]; omega) (kp.trans k3) (p3.mono (by omega))))
  rw [decide_eq_false c3, if_neg (by decide)]
  refine hR3 _ _ (seq_cut fun R4 hR4 => ?_)
  have go : ∀ (p1 : Addr) (ls : List Nat) (μ3 : Mu), μ3 p1 = some (.lst ((iL ls).map D.int)) → ls.Nodup → (∀ x ∈ ls, x < m) → k ≤ ls.length → ls.length ≤ 1000 → Keep a μ μ3 → IsPot (n + 1) μ3 a → a ≠ p1 → μ p1 = none →
      R4 [some (.ref a), some (.int m), some (.int k), some (lstD f), some (.int w), some (.ref p1), none, none, none, none] μ3 := fun p1 ls0 μ3 m1 nd0 hx0 hk0 hk1 k3 p3 a1 n1 => by
    refine hR4 _ _ (seq_cut fun R5 hR5 => ?_)
    simp only [dSim]
    refine ⟨by decide, fun p2 hp2 => hR5 _ _ (seq_cut fun R6 hR6 => ?_)⟩
    have p21 : p2 ≠ p1 := fun e => by
      rw [e, m1] at hp2
      cases hp2
    have a2 : a ≠ p2 := p3.ne hp2
    have n2 := k3.none hp2 a2
    simp only [dSim, dFor, dIR1]
    refine ⟨_, rfl, by omega, by omega, ?_⟩
    rw [Int.toNat_natCast]
    refine for_inv (fun i ρ μ' => i ≤ k ∧ Keep a μ μ' ∧ IsPot (n + 1 + i) μ' a ∧ ∃ (ls fs : List Nat) (z : Option D), μ' p1 = some (.lst ((iL ls).map D.int)) ∧ μ' p2 = some (.lst ((iL fs).map D.int)) ∧ (fs ++ ls).Perm ls0 ∧ fs.length = i ∧
        ρ = [some (.ref a), some (.int m), some (.int k), some (lstD f), some (.int w), some (.ref p1), none, none, some (.ref p2), z])
      ⟨Nat.zero_le _, k3.new n2, p3.at_ (mput_ne a2), ls0, [], _, by rw [mput_ne (Ne.symm p21)]; exact m1, mput_same, by simp, rfl, rfl⟩ (fun _ _ _ _ _ => trivial) (fun i d ρ μ' N1 hi h hN1 => ?_) fun ρ μ' h => ?_
    · obtain ⟨_, hkp, hpt, ls, fs, z, m1, m2, pm, hl, rfl⟩ := h
      obtain ⟨h1, rfl⟩ := rng_at hi
      have hlen : fs.length + ls.length = ls0.length := by
        have := pm.length_eq
        rw [List.length_append] at this
        exact this
      simp only [dSim, z_isL m2, z_isL m1, z_len_ref m1, cTake]
      refine ⟨a, _, n + 1 + i, rfl, by rw [List.length_map, iL_len]; omega, by rw [List.length_map, iL_len]; omega, hpt, by omega, fun r μ4 r0 r1 hk2 hpt2 => ?_⟩
      rw [List.length_map, iL_len] at r1
      obtain ⟨r, rfl⟩ : ∃ j : Nat, r = j := ⟨r.toNat, by omega⟩
      have hr : r < ls.length := by omega
      have m1' := hk2 p1 _ (Ne.symm a1) m1
      have m2' := hk2 p2 _ (Ne.symm a2) m2
      have hg : ls[r]? = some ls[r] := List.getElem?_eq_getElem hr
      rw [z_onL m1']
      refine ⟨r, r, _, rfl, by omega, by omega, by rw [List.length_map, iL_len]; exact seqIndex_nat hr, lotD_at hg, ?_⟩
      have m2'' : mput μ4 p1 (.lst (((iL ls).map D.int).eraseIdx r)) p2 = some (.lst ((iL fs).map D.int)) := by rw [mput_ne p21]; exact m2'
      simp only [z_onL m2'', z_append]
      refine ⟨by rw [List.length_map, iL_len]; omega, hN1 _ _ ⟨h1, ((hkp.trans hk2).new n1).new n2, ?_, ls.eraseIdx r, fs ++ [ls[r]], _, ?_, ?_, ?_, by simp [hl], rfl⟩⟩
      · exact (hpt2.at_ (mput_ne a1)).at_ (mput_ne a2)
      · rw [mput_ne (Ne.symm p21), mput_same]
        unfold iL
        rw [eraseIdx_map', eraseIdx_map']
      · rw [mput_same]
        simp [iL]
      · refine List.Perm.trans ?_ pm
        rw [List.append_assoc]
        exact List.Perm.append_left _ (erase_perm ls r hr)
    · obtain ⟨_, hkp, hpt, ls, fs, z, m1, m2, pm, hl, rfl⟩ := h
      rw [rng_len] at hl hpt
      refine hR6 _ _ ?_
      simp only [dSim]
      refine sort_of (.inl (see_ref m2)) fun ms h1 h2 => ?_
      have sub : ∀ x ∈ fs, x ∈ ls0 := fun x hx => pm.mem_iff.mp (List.mem_append_left _ hx)
      obtain ⟨lot, rfl, LT, pl⟩ := sort_lot (m := m) h1 h2 ((List.nodup_append.mp (pm.nodup_iff.mpr nd0)).1) fun x hx => hx0 x (sub x hx)
      simp only [dSim]
      exact fin_of (q lot μ' LT (by rw [pl.length_eq, hl]) hkp (hpt.mono (by omega)))
  have base : R4 [some (.ref a), some (.int m), some (.int k), some (lstD f), some (.int w), some (.ref p), none, none, none, none] μ2 := go p (List.range m) μ2 mp List.nodup_range (fun x hx => List.mem_range.mp hx) (by rw [List.length_range]; exact hk) (by rw [List.length_range]; exact hm) kp pp ap np0
  simp only [dSim, z_eq_int, dLcM, dISeq, List.length_map, iL_len]
  by_cases c4 : w = 4
  · rw [decide_eq_true c4, if_pos rfl]
    by_cases c5 : (k : Int) ≤ (m : Int) - (f.length : Int)
    · rw [decide_eq_true c5, if_pos rfl]
      refine ⟨_, .inl (see_ref mp), ?_⟩
      refine lc_nat (fun x => !decide (x ∈ f)) (fun x => .int (x : Nat)) rfl (by rw [List.length_range]; omega) (fun x K _ hK => ?_) (fun x K _ _ hK => ?_) ?_
      · simp only [dSim, dwipe, z_inL, if_true]
        exact hK
      · simp only [dSim, dwipe]
        exact hK
      rw [map_int]
      have hw := without_len (m := m) (f := f)
      have hle : ((List.range m).filter fun x => !decide (x ∈ f)).length ≤ m := Nat.le_trans (List.length_filter_le _ _) (Nat.le_of_eq List.length_range)
      intro p' hp'
      have ap' : a ≠ p' := pp.ne hp'
      have n' := kp.none hp' ap'
      exact go p' _ _ mput_same (List.Pairwise.filter _ List.nodup_range) (fun x hx => List.mem_range.mp (List.mem_filter.mp hx).1) (by omega) (by omega) (kp.new n') (pp.at_ (mput_ne ap')) ap' n'
    · rw [decide_eq_false c5, if_neg (by decide)]
      exact base
  · rw [decide_eq_false c4, if_neg (by decide)]
    simp only [Bool.false_eq_true, if_false]
    exact base
/-! ### the laws' own numbers -/
def cLawDue : DSp := fun ds μ Q => ∃ (ws : List (Option Int)) (lot : List Nat), ds = [.int (ws.length : Nat), wishD ws, lotD lot] ∧ ws.length ≤ 60 ∧ Lot ws.length 0 lot ∧ ∀ l, Ld ws l → Q (mnD l ws.length lot) μ
def w_lawDue : DTS :=
  (dSeq (dAsg (dTup (dCons (dCall cLawFirst [] (dCons (dVar 1) dNil)) (dCons (dCall cTriangle [] (dCons (dVar 0) dNil)) dNil))) (gTp 2 (gsCons (gN 3) (gsCons (gN 4) gsNil))))
  (dSeq (dIfS (dNot (dT (dCB fAny (dCons (dLc (dISeq (dVar 3)) (gN 5) dYes (dOp (dIn false) (dVar 5) (dVar 2)) [5]) dNil)))) (dRet (dC .non)) dNext)
  (dSeq (dAsg (dTup (dCons (dC (.int 0)) (dCons (dC (.bl false)) (dCons (dC (.int 0)) dNil)))) (gTp 3 (gsCons (gN 6) (gsCons (gN 7) (gsCons (gN 8) gsNil)))))
  (dSeq (dFor (dIEnum (dCons (dVar 2) dNil)) (gTp 2 (gsCons (gN 9) (gsCons (gN 5) gsNil))) (dSeq (dAsg (dOp oSub (dOp oSub (dCB fLen (dCons (dVar 2) dNil)) (dVar 9)) (dC (.int 1))) (gN 10))
  (dSeq (dFor (dIR2 (dCons (dVar 8) (dCons (dVar 5) dNil))) (gN 11) (dSeq (dAsg (dOp dAdd (dVar 6) (dOp dIx (dOp dIx (dVar 4) (dOp oSub (dOp oSub (dVar 0) (dVar 11)) (dC (.int 1)))) (dVar 10))) (gN 6))
  (dIfS (dAnd (dNot (dTru (dVar 7))) (dT (dOp (dIn true) (dVar 11) (dVar 3)))) (dAsg (dOp oSub (dVar 6) (dOp dIx (dOp dIx (dVar 4) (dCB fLen (dCons (dLc (dIR2 (dCons (dOp dAdd (dVar 11) (dC (.int 1))) (dCons (dVar 0) dNil))) (gN 12) (dT (dOp (dIn true) (dVar 12) (dVar 3))) (dVar 12) [12]) dNil))) (dVar 10))) (gN 6)) dNext)))
  (dPar 7 8 (dCons (dOrV (dVar 7) (dOp (dIn false) (dVar 5) (dVar 3))) (dCons (dOp dAdd (dVar 5) (dC (.int 1))) dNil))))))
  (dRet (dVar 6))))))
/-- what is to come -/
def remn (l : List Nat) (n : Nat) (led : Bool) (b : Nat) (t : List Nat) : Int := (rk n b t : Nat) - (if led then 0 else pb l n b t : Nat)
theorem remn_skip {l : List Nat} {n b h : Nat} {t : List Nat} {led : Bool} (k : b < h) : remn l n led b (h :: t) = (bin (n - b - 1) t.length : Nat) - (if !led && pl l b then bin (np l (n - (b + 1)) (b + 1)) t.length else 0 : Nat) + remn l n led (b + 1) (h :: t) := by
  unfold remn
  rw [rk_skip k]
  cases led with
  | true => simp <;> omega
  | false =>
    rw [pb, pb, sb_step k]
    cases c : pl l b with
    | true => simp <;> omega
    | false => simp <;> omega
theorem remn_here {l : List Nat} {n h : Nat} {t : List Nat} {led : Bool} : remn l n led h (h :: t) = remn l n (ld l led h) (h + 1) t := by
  unfold remn
  rw [rk_here]
  cases led with
  | true => rfl
  | false =>
    rw [pb, sb_same, ld_pl]
    cases c : pl l h with
    | true => simp
    | false => simp
theorem rng_range' {x k : Nat} : rng (x : Int) k = (iL (List.range' x k)).map D.int := by
  unfold rng iL
  rw [List.range'_eq_map_range, List.map_map, List.map_map]
  refine List.map_congr_left fun i _ => ?_
  show D.int ((x : Int) + (i : Int)) = D.int ((x + i : Nat) : Int)
  rw [Int.natCast_add]
theorem lawDue_ok (N : List Str) (hN : N.length = 13) : ∀ ds μ Q, cLawDue ds μ Q → w_lawDue { nx := fun _ μ' => fin Q .non μ', rt := fin Q } (dstart N ds) μ := by
  intro ds μ Q h
  obtain ⟨ws, lot, rfl, hl, Lt, q⟩ := h
  have hz := sizeLine_eq
  have hlt := Lt.drop_ok
  unfold w_lawDue
  refine seq_cut fun R hR => ?_
  simp only [dSim, hN, cLawFirst, cTriangle]
  refine ⟨ws, rfl, hl, fun l L => ⟨_, rfl, hl, by decide, hR _ _ (seq_cut fun R1 hR1 => ?_)⟩⟩
  have q := q l L
  unfold mnD at q
  have hll := L.1.drop_ok
  simp only [dSim, dLc, dISeq]
  refine ⟨_, .inl rfl, ?_⟩
  refine lc_nat (fun _ => true) (fun x => .bl (decide (x ∈ lot))) rfl (by omega) (fun x K _ hK => hK) (fun x K _ _ hK => ?_) ?_
  · simp only [dSim, dwipe, z_inT, Bool.false_eq_true, if_false]
    exact hK
  rw [List.filter_eq_self.mpr fun _ _ => rfl]
  refine any_in ?_
  simp only [z_seb]
  by_cases c : has l false lot = true
  · rw [if_pos c] at q
    rw [c, Bool.not_true, if_neg (by decide)]
    refine hR1 _ _ (seq_cut fun R2 hR2 => ?_)
    simp only [dSim]
    refine ⟨by decide, hR2 _ _ (seq_cut fun R3 hR3 => ?_)⟩
    simp only [dSim, dFor, dIEnum]
    refine ⟨_, _, rfl, .inr rfl, ?_⟩
    refine for_inv (fun i ρ μ' => μ' = μ ∧ ∃ (f : Int) (b : Nat) (led : Bool) (x5 x9 x10 x11 x12 : Option D), f + remn l ws.length led b (lot.drop i) = (mr l ws.length 0 false lot : Nat) ∧ Lot ws.length b (lot.drop i) ∧
        ρ = [some (.int (ws.length : Nat)), some (wishD ws), some (lotD lot), some (lstD l), some (.lst (tsD (ws.length + 1))), x5, some (.int f), some (.bl led), some (.int (b : Nat)), x9, x10, x11, x12])
      ⟨rfl, 0, 0, false, none, none, none, none, none, by rw [List.drop_zero, Int.zero_add]; unfold remn; rw [if_neg (by decide)]; exact mr_sub Lt, Lt, rfl⟩ (fun i ρ μ' _ h => by rw [h.1]) (fun i d ρ μ' N1 hi h hN1 => ?_) fun ρ μ' h => ?_
    · obtain ⟨rfl, f, b, led, x5, x9, x10, x11, x12, hs, Lb, rfl⟩ := h
      obtain ⟨d', hd', rfl⟩ := enumD_get.mp hi
      obtain ⟨x, hx, rfl⟩ := lotD_get hd'
      have hil : i < lot.length := (List.getElem?_eq_some_iff.mp hx).1
      rw [drop_get hx] at hs Lb
      obtain ⟨hb1, hb2, hb3⟩ := Lb
      simp only [z_tp, z_gsc, z_gsn, gN, List.set_cons_zero, List.set_cons_succ, List.length_cons, List.length_nil, true_and]
      refine seq_cut fun R4 hR4 => ?_
      simp only [dSim, List.length_map, iL_len]
      have er : ((lot.length : Int) - (i : Int)) - 1 = ((lot.drop (i + 1)).length : Nat) := by
        rw [List.length_drop]
        omega
      rw [er]
      generalize hrr : lot.drop (i + 1) = t at *
      have hr : t.length ≤ 59 := by rw [← hrr, List.length_drop]; omega
      refine hR4 _ _ (seq_cut fun R5 hR5 => ?_)
      simp only [dSim, dFor, dIR2]
      refine ⟨_, _, rfl, by omega, ?_⟩
      refine for_inv (fun j ρ μ2 => μ2 = μ' ∧ b + j ≤ x ∧ ∃ (g : Int) (x11 x12 : Option D), g + remn l ws.length led (b + j) (x :: t) = (mr l ws.length 0 false lot : Nat) ∧
          ρ = [some (.int (ws.length : Nat)), some (wishD ws), some (lotD lot), some (lstD l), some (.lst (tsD (ws.length + 1))), some (.int (x : Nat)), some (.int g), some (.bl led), some (.int (b : Nat)), some (.int (i : Nat)), some (.int (t.length : Nat)), x11, x12])
        ⟨rfl, by omega, f, x11, x12, hs, rfl⟩ (fun _ _ _ _ _ => trivial) (fun j d ρ μ2 N2 hj h hN2 => ?_) fun ρ μ2 h => ?_
      · obtain ⟨rfl, _, g, x11, x12, hg, rfl⟩ := h
        obtain ⟨hj1, rfl⟩ := rng_get.mp hj
        have hjx : b + j < x := by omega
        have ej : (b : Int) + (j : Int) = ((b + j : Nat) : Int) := by omega
        rw [ej]
        obtain ⟨y, hy⟩ : ∃ y, y = b + j := ⟨_, rfl⟩
        have hy2 : b + (j + 1) = y + 1 := by omega
        rw [← hy] at hg hjx ⊢
        rw [remn_skip hjx] at hg
        refine seq_cut fun R6 hR6 => ?_
        simp only [dSim]
        have e1 : ((ws.length : Int) - (y : Int)) - 1 = (ws.length - y - 1 : Nat) := by omega
        rw [e1]
        refine ⟨_, at_nat' (tsD_get (by omega)), ?_⟩
        unfold tD
        rw [z_ix_lst]
        refine ⟨_, at_nat' (tI_at (by omega)), ?_⟩
        simp only [dSim]
        refine hR6 _ _ ?_
        simp only [dSim, dLc, dIR2]
        refine ⟨led, rfl, ?_⟩
        by_cases c1 : (!led && pl l y) = true
        · rw [if_pos c1] at hg
          rw [Bool.and_eq_true] at c1
          rw [c1.1, if_pos rfl]
          simp only [z_inL, if_true]
          have hm : y ∉ l := pl_iff.mp c1.2
          rw [decide_eq_false hm, z_seb, Bool.not_false, if_pos rfl]
          have e2 : (y : Int) + 1 = ((y + 1 : Nat) : Int) := rfl
          rw [e2]
          refine ⟨_, _, rfl, by omega, ?_⟩
          have e3 : ((ws.length : Int) - ((y + 1 : Nat) : Int)).toNat = ws.length - (y + 1) := by omega
          rw [e3, rng_range']
          refine lc_nat (pl l) (fun x => .int (x : Nat)) trivial (by rw [List.length_range']; omega) (fun z K _ hK => ?_) (fun z K _ _ hK => ?_) ?_
          · simp only [dSim, dwipe, z_inL, if_true]
            exact hK
          · simp only [dSim, dwipe]
            exact hK
          simp only [dSim, List.length_map]
          have e4 : ((List.range' (y + 1) (ws.length - (y + 1))).filter (pl l)).length = np l (ws.length - (y + 1)) (y + 1) := rfl
          rw [e4]
          have hnp : np l (ws.length - (y + 1)) (y + 1) ≤ ws.length - (y + 1) := np_le
          refine ⟨_, at_nat' (tsD_get (by omega)), ?_⟩
          unfold tD
          rw [z_ix_lst]
          refine ⟨_, at_nat' (tI_at (by omega)), ?_⟩
          simp only [dSim]
          refine hN2 _ _ ⟨rfl, by omega, _, _, _, ?_, rfl⟩
          rw [hy2, ← hg]
          omega
        · rw [if_neg c1] at hg
          have out := hN2 [some (.int (ws.length : Nat)), some (wishD ws), some (lotD lot), some (lstD l), some (.lst (tsD (ws.length + 1))), some (.int (x : Nat)), some (.int (g + (bin (ws.length - y - 1) t.length : Nat))), some (.bl led), some (.int (b : Nat)), some (.int (i : Nat)), some (.int (t.length : Nat)), some (.int (y : Nat)), x12] μ2 ⟨rfl, by omega, g + (bin (ws.length - y - 1) t.length : Nat), some (.int (y : Nat)), x12, by rw [hy2, ← hg]; omega, rfl⟩
          cases led with
          | true =>
            rw [Bool.not_true, if_neg (by decide), if_neg (by decide)]
            exact out
          | false =>
            rw [Bool.not_false, if_pos rfl]
            simp only [z_inL, if_true]
            have hm : y ∈ l := by
              by_cases h : y ∈ l
              · exact h
              · exact absurd (by rw [pl_iff.mpr h]; rfl) c1
            rw [decide_eq_true hm, z_seb, Bool.not_true, if_neg (by decide)]
            exact out
      · obtain ⟨rfl, hbx, g, x11, x12, hg, rfl⟩ := h
        have el : (rng (b : Int) ((x : Int) - (b : Int)).toNat).length = x - b := by rw [rng_len]; omega
        rw [el] at hg
        have eb : b + (x - b) = x := by omega
        rw [eb, remn_here] at hg
        refine hR5 _ _ ?_
        simp only [dSim, z_inL, Bool.false_eq_true, if_false]
        have e1 : (x : Int) + 1 = ((x + 1 : Nat) : Int) := rfl
        rw [e1]
        have fin2 : N1 [some (.int (ws.length : Nat)), some (wishD ws), some (lotD lot), some (lstD l), some (.lst (tsD (ws.length + 1))), some (.int (x : Nat)), some (.int g), some (.bl (ld l led x)), some (.int ((x + 1 : Nat) : Int)), some (.int (i : Nat)), some (.int (t.length : Nat)), x11, x12] μ2 :=
          hN1 _ _ ⟨rfl, g, x + 1, _, _, _, _, _, _, hg, hb3, rfl⟩
        unfold ld at fin2
        cases led with
        | true =>
          rw [if_pos rfl]
          exact fin2
        | false =>
          rw [if_neg (by decide)]
          exact fin2
    · obtain ⟨rfl, f, b, led, x5, x9, x10, x11, x12, hs, _, rfl⟩ := h
      refine hR3 _ _ ?_
      simp only [dSim]
      rw [enumD_len, List.length_map, iL_len, List.drop_length] at hs
      have e : remn l ws.length led b [] = 0 := by
        unfold remn
        rw [rk_nil, pb]
        cases led <;> rfl
      rw [e, Int.add_zero] at hs
      rw [hs]
      exact fin_of q
  · rw [if_neg c] at q
    rw [Bool.not_eq_true] at c
    rw [c, Bool.not_false, if_pos rfl]
    exact fin_of q
/-! ### a hand more -/
def insH (h : Nat) : List Nat → List Nat
  | [] => [h]
  | x :: t => if h < x then h :: x :: t else x :: insH h t
theorem insH_perm {h : Nat} : ∀ l : List Nat, (insH h l).Perm (h :: l)
  | [] => List.Perm.refl _
  | x :: t => by
    rw [insH]
    split
    · exact List.Perm.refl _
    · exact ((insH_perm t).cons x).trans (List.Perm.swap h x t)
theorem insH_lot {n h : Nat} : ∀ {a : Nat} {l : List Nat}, Lot n a l → a ≤ h → h < n → h ∉ l → Lot n a (insH h l)
  | a, [], _, h1, h2, _ => ⟨h1, h2, trivial⟩
  | a, x :: t, ⟨k1, k2, k3⟩, h1, h2, h3 => by
    rw [insH]
    have hne : h ≠ x := fun e => h3 (by rw [e]; exact List.mem_cons_self)
    split
    · rename_i c
      exact ⟨h1, h2, by omega, k2, k3⟩
    · exact ⟨k1, k2, insH_lot k3 (by omega) h2 fun hm => h3 (List.mem_cons_of_mem _ hm)⟩
theorem insH_len {h : Nat} {l : List Nat} : (insH h l).length = l.length + 1 := by
  rw [(insH_perm l).length_eq, List.length_cons]
theorem mr_bound {l : List Nat} {n : Nat} {lot : List Nat} (L : Lot n 0 lot) (h : has l false lot = true) : mr l n 0 false lot < 2 ^ n := by
  have h1 := mr_lt (l := l) n 0 false lot (by rw [Nat.zero_add]; exact L) h
  have h2 := Mk_not (l := l) (m := n) (a := 0) (k := lot.length)
  have h3 := bin_le_two n lot.length
  omega
theorem shb_mn {l : List Nat} {n k m : Nat} {lot : List Nat} (L : Lot n 0 lot) (hn : n ≤ 60) (hm : 252 ≤ m) : Shb k m (mnD l n lot) := by
  unfold mnD
  split
  · rename_i h
    have h1 := mr_bound L h
    have h2 : (2 : Nat) ^ n ≤ 2 ^ 60 := Nat.pow_le_pow_right (by decide) hn
    exact shb_nat (Nat.lt_of_lt_of_le h1 (Nat.le_trans h2 (by decide))) hm
  · have h2 : Shb k m .non = (4 ≤ m) := by cases k <;> rfl
    rw [h2]
    omega
end DL

/-! MadeT: all made lots, in their order. -/
namespace DL
open PySem PySem.Spec PyProof.Rows L2
theorem mlots_um {l : List Nat} : ∀ (m a : Nat) (led : Bool) (k : Nat), (lots m a k).filter (has l led) = (List.range (Mk l m a led k)).map (um l m a led k)
  | m, a, led, 0 => by
    rw [lots_zero, Mk_zero]
    cases led with
    | true =>
      have e : um l m a true 0 0 = [] := by cases m <;> rfl
      rw [if_pos rfl]
      show [[]] = [um l m a true 0 0]
      rw [e]
    | false => rfl
  | 0, a, led, k + 1 => by
    rw [Mk_none]
    rfl
  | m + 1, a, led, k + 1 => by
    show ((lots m (a + 1) k).map (a :: ·) ++ lots m (a + 1) (k + 1)).filter (has l led) = _
    rw [List.filter_append, List.filter_map, Mk_succ, List.range_add, List.map_append, List.map_map]
    have e1 : (has l led ∘ fun x => a :: x) = has l (ld l led a) := funext fun x => has_cons
    rw [e1, mlots_um m (a + 1) (ld l led a) k, mlots_um m (a + 1) led (k + 1), List.map_map]
    congr 1
    · refine List.map_congr_left fun r hr => ?_
      have := List.mem_range.mp hr
      show a :: um l m (a + 1) (ld l led a) k r = um l (m + 1) a led (k + 1) r
      rw [um, if_pos this]
    · refine List.map_congr_left fun r _ => ?_
      show _ = um l (m + 1) a led (k + 1) (Mk l m (a + 1) (ld l led a) k + r)
      rw [um, if_neg (by omega), Nat.add_sub_cancel_left]
theorem filter_at {α : Type} {p : α → Bool} : ∀ {xs : List α} {i : Nat} {x : α}, xs[i]? = some x → p x = true → (xs.filter p)[((xs.take i).filter p).length]? = some x
  | [], i, x, h, _ => by simp at h
  | y :: xs, 0, x, h, hp => by
    rw [List.getElem?_cons_zero] at h
    cases h
    rw [List.filter_cons, if_pos hp]
    rfl
  | y :: xs, i + 1, x, h, hp => by
    rw [List.getElem?_cons_succ] at h
    have ih := filter_at h hp
    rw [List.take_succ_cons, List.filter_cons, List.filter_cons]
    split
    · rw [List.length_cons, List.getElem?_cons_succ]
      exact ih
    · exact ih
/-- how many made lots stand ahead -/
def cntm (l : List Nat) (n k i : Nat) : Nat := (((lots n 0 k).take i).filter (has l false)).length
theorem cntm_mr {l : List Nat} {n k i : Nat} {lot : List Nat} (h : (lots n 0 k)[i]? = some lot) (hh : has l false lot = true) : cntm l n k i = mr l n 0 false lot := by
  have h1 := filter_at h hh
  rw [mlots_um, List.getElem?_map] at h1
  unfold cntm
  generalize (((lots n 0 k).take i).filter (has l false)).length = c at *
  cases e : (List.range (Mk l n 0 false k))[c]? with
  | none => rw [e] at h1; cases h1
  | some j =>
    rw [e] at h1
    cases h1
    obtain ⟨h2, h3⟩ := List.getElem?_eq_some_iff.mp e
    rw [List.length_range] at h2
    rw [List.getElem_range] at h3
    subst h3
    exact ((um_ok n 0 false k c h2).2.2.2).symm
theorem cntm_succ {l : List Nat} {n k i : Nat} {lot : List Nat} (h : (lots n 0 k)[i]? = some lot) : cntm l n k (i + 1) = cntm l n k i + if has l false lot then 1 else 0 := by
  unfold cntm
  rw [List.take_succ, h, List.filter_append, List.length_append]
  congr 1
  show ([lot].filter (has l false)).length = _
  rw [List.filter_cons, List.filter_nil]
  split <;> rfl
theorem cntm_all {l : List Nat} {n k i : Nat} (h : bin n k ≤ i) : cntm l n k i = Mk l n 0 false k := by
  unfold cntm
  rw [List.take_of_length_le (by rw [lots_len]; exact h), mlots_um, List.length_map, List.length_range]
theorem see_mn {l : List Nat} {n : Nat} {lot : List Nat} {μ : Mu} : see μ (mnD l n lot) = mnD l n lot := by
  unfold mnD
  split <;> rfl
end DL

/-! CryP: signs, lots less a hand, terms, cries, what is freed of a cry. -/
namespace DL
open PySem PySem.Spec PyProof.Rows L2
def sgn (k : Nat) : Int := if k % 2 = 0 then 1 else -1
theorem sgn_cases (k : Nat) : sgn k = 1 ∨ sgn k = -1 := by
  unfold sgn
  split
  · exact .inl rfl
  · exact .inr rfl
def sg (h : Nat) (lot : List Nat) : Int := sgn (lot.filter fun x => decide (x < h)).length
def wo (lot : List Nat) (h : Nat) : List Nat := lot.filter fun x => !decide (x = h)
theorem wo_lot {n a h : Nat} {lot : List Nat} (L : Lot n a lot) : Lot n a (wo lot h) := lot_of_pw (List.Pairwise.filter _ L.pw) fun x hx => L.mem x (List.mem_filter.mp hx).1
theorem wo_len {n a h : Nat} {lot : List Nat} (L : Lot n a lot) (hm : h ∈ lot) : (wo lot h).length + 1 = lot.length := by
  have e : wo lot h = lot.erase h := by
    unfold wo
    rw [L.nodup.erase_eq_filter]
    congr 1
  rw [e, List.length_erase_of_mem hm]
  have := List.length_pos_of_mem hm
  omega
def cSignOf : DSp := fun ds μ Q => ∃ k : Nat, ds = [.int k] ∧ Q (.int (sgn k)) μ
def w_signOf : DTS :=
  (dRet (dIf (dT (dOp dEq (dOp oMod (dVar 0) (dC (.int 2))) (dC (.int 0)))) (dC (.int 1)) (dNeg (dC (.int 1)))))
theorem signOf_ok (N : List Str) (hN : N.length = 1) : ∀ ds μ Q, cSignOf ds μ Q → w_signOf { nx := fun _ μ' => fin Q .non μ', rt := fin Q } (dstart N ds) μ := by
  intro ds μ Q h
  obtain ⟨k, rfl, q⟩ := h
  unfold w_signOf
  simp only [dSim, hN, z_eq_int]
  refine ⟨by decide, ?_⟩
  unfold sgn at q
  by_cases c : k % 2 = 0
  · rw [if_pos c] at q
    rw [decide_eq_true (by omega : (k : Int) % 2 = 0), if_pos rfl]
    exact fin_of q
  · rw [if_neg c] at q
    rw [decide_eq_false (by omega : ¬ (k : Int) % 2 = 0), if_neg (by decide)]
    exact fin_of q
def cSign : DSp := fun ds μ Q => ∃ (h : Nat) (lot : List Nat), ds = [.int h, lotD lot] ∧ lot.length ≤ 100000 ∧ Q (.int (sg h lot)) μ
def w_sign : DTS :=
  (dRet (dCall cSignOf [] (dCons (dCB fLen (dCons (dLc (dISeq (dVar 1)) (gN 2) (dT (dOp oLt (dVar 2) (dVar 0))) (dVar 2) [2]) dNil)) dNil)))
theorem dec_lt {x h : Nat} : decide ((x : Int) < (h : Int)) = decide (x < h) := by rw [decide_eq_decide]; omega
theorem sign_ok (N : List Str) (hN : N.length = 3) : ∀ ds μ Q, cSign ds μ Q → w_sign { nx := fun _ μ' => fin Q .non μ', rt := fin Q } (dstart N ds) μ := by
  intro ds μ Q hc
  obtain ⟨h, lot, rfl, hl, q⟩ := hc
  have hz := sizeLine_eq
  unfold w_sign
  simp only [dSim, hN, dLc, dISeq, cSignOf]
  refine ⟨_, .inr rfl, ?_⟩
  refine lc_nat (fun x => decide (x < h)) (fun x => .int (x : Nat)) rfl (by omega) (fun x K _ hK => ?_) (fun x K _ _ hK => ?_) ?_
  · simp only [dSim, dwipe, dec_lt]
    exact hK
  · simp only [dSim, dwipe]
    exact hK
  simp only [dSim, List.length_map]
  exact ⟨_, rfl, fin_of q⟩
def cWithout : DSp := fun ds μ Q => ∃ (lot : List Nat) (h : Nat), ds = [lotD lot, .int h] ∧ lot.length ≤ 100000 ∧ Q (lotD (wo lot h)) μ
def w_without : DTS :=
  (dRet (dCB fTuple (dCons (dLc (dISeq (dVar 0)) (gN 2) (dT (dOp dNe (dVar 2) (dVar 1))) (dVar 2) [2]) dNil)))
theorem without_ok (N : List Str) (hN : N.length = 3) : ∀ ds μ Q, cWithout ds μ Q → w_without { nx := fun _ μ' => fin Q .non μ', rt := fin Q } (dstart N ds) μ := by
  intro ds μ Q hc
  obtain ⟨lot, h, rfl, hl, q⟩ := hc
  have hz := sizeLine_eq
  unfold w_without
  simp only [dSim, hN, dLc, dISeq]
  refine ⟨_, .inr rfl, ?_⟩
  refine lc_nat (fun x => !decide (x = h)) (fun x => .int (x : Nat)) rfl (by omega) (fun x K _ hK => ?_) (fun x K _ _ hK => ?_) ?_
  · simp only [dSim, dwipe, z_ne_int, z_nat]
    exact hK
  · simp only [dSim, dwipe]
    exact hK
  rw [map_int]
  exact fin_of q
/-! ### terms -/
/-- what a hand wishes -/
def wish (ws : List (Option Int)) (h : Nat) : Option Int := ws.getD h none
def wv (ws : List (Option Int)) (h : Nat) : Int := (wish ws h).getD 0
theorem wish_at {ws : List (Option Int)} {h : Nat} (hl : h < ws.length) : (ws.map oD)[h]? = some (oD (wish ws h)) := by
  rw [List.getElem?_map, List.getElem?_eq_getElem hl]
  unfold wish
  rw [List.getD_eq_getElem?_getD, List.getElem?_eq_getElem hl]
  rfl
/-- the hands of a lot that wish -/
def wl (ws : List (Option Int)) (lot : List Nat) : List Nat := lot.filter fun h => (wish ws h).isSome
theorem oD_some {ws : List (Option Int)} {h : Nat} (e : (wish ws h).isSome = true) : oD (wish ws h) = .int (wv ws h) := by
  unfold wv
  cases c : wish ws h with
  | none => rw [c] at e; cases e
  | some v => rfl
theorem isNone_oD {o : Option Int} : isNone (oD o) = !o.isSome := by cases o <;> rfl
def trmD (ws : List (Option Int)) (lot : List Nat) (h : Nat) : D := .tup [.int (sg h lot), .int (wv ws h), lotD (wo lot h)]
def cTerms : DSp := fun ds μ Q => ∃ (ws : List (Option Int)) (lot : List Nat), ds = [wishD ws, lotD lot] ∧ ws.length ≤ 60 ∧ Lot ws.length 0 lot ∧ Q (.tup ((wl ws lot).map (trmD ws lot))) μ
def w_terms : DTS :=
  (dRet (dCB fTuple (dCons (dLc (dISeq (dVar 1)) (gN 2) (dT (dOp dIsN (dOp dIx (dVar 0) (dVar 2)) (dC .non))) (dTup (dCons (dCall cSign [] (dCons (dVar 2) (dCons (dVar 1) dNil))) (dCons (dOp dIx (dVar 0) (dVar 2)) (dCons (dCall cWithout [] (dCons (dVar 1) (dCons (dVar 2) dNil))) dNil)))) [2]) dNil)))
theorem terms_ok (N : List Str) (hN : N.length = 3) : ∀ ds μ Q, cTerms ds μ Q → w_terms { nx := fun _ μ' => fin Q .non μ', rt := fin Q } (dstart N ds) μ := by
  intro ds μ Q hc
  obtain ⟨ws, lot, rfl, hl, L, q⟩ := hc
  have hz := sizeLine_eq
  have hll := L.drop_ok
  unfold w_terms
  simp only [dSim, hN, dLc, dISeq]
  refine ⟨_, .inr rfl, ?_⟩
  refine lc_nat (fun h => (wish ws h).isSome) (trmD ws lot) rfl (by omega) (fun h K hm hK => ?_) (fun h K hm hp hK => ?_) ?_
  · have hlt := (L.mem h hm).2
    simp only [dSim, dwipe]
    refine ⟨_, at_nat' (wish_at hlt), ?_⟩
    simp only [dSim, isNone_oD, Bool.not_not]
    exact hK
  · have hlt := (L.mem h hm).2
    simp only [dSim, dwipe, cSign, cWithout]
    refine ⟨h, lot, rfl, by omega, _, at_nat' (wish_at hlt), lot, h, rfl, by omega, by decide, ?_⟩
    rw [oD_some hp]
    exact hK
  exact fin_of q
/-! ### cries -/
/-- a file's piece -/
def pc (n : Nat) (fl : List Nat) (l : List Nat) : Nat := fl.getD (rk n 0 l) 0
/-- one hand's part of a cry -/
def part1 (ws : List (Option Int)) (F : Int → List Nat) (lot : List Nat) (h : Nat) : Int := sg h lot * (pc ws.length (F (wv ws h)) (wo lot h) : Nat)
def cryZ (ws : List (Option Int)) (F : Int → List Nat) (lot : List Nat) : Int := ((wl ws lot).map (part1 ws F lot)).sum
/-- the files in a dict -/
def filesD (ms : List Int) (F : Int → List Nat) : List (Key × D) := ms.map fun v => (Sum.inl v, lotD (F v))
theorem files_get {ms : List Int} {F : Int → List Nat} {v : Int} (h : v ∈ ms) : getT (filesD ms F) (.inl v) = some (lotD (F v)) := by
  induction ms with
  | nil => cases h
  | cons m ms ih =>
    unfold filesD getT
    rw [List.map_cons, List.find?_cons]
    by_cases c : (Sum.inl m : Key) = Sum.inl v
    · rw [decide_eq_true c]
      cases c
      rfl
    · rw [decide_eq_false c]
      rcases List.mem_cons.mp h with rfl | h
      · exact absurd rfl c
      · exact ih h
/-- files of a prime's numbers, of this many pieces -/
def FOk (ms : List Int) (F : Int → List Nat) (p c : Nat) : Prop := ∀ v ∈ ms, (F v).length = c ∧ ∀ x ∈ F v, x < p
theorem mul1 {i j : Int} (h1 : i.natAbs ≤ 2 ^ 100) (h2 : j.natAbs ≤ 2 ^ 100) : MulOk i j := mulOk_of (Nat.lt_of_le_of_lt h1 (Nat.pow_lt_pow_right (by decide) (by decide))) (Nat.lt_of_le_of_lt h2 (Nat.pow_lt_pow_right (by decide) (by decide)))
theorem sgn_abs (k : Nat) : (sgn k).natAbs ≤ 2 ^ 100 := by
  rcases sgn_cases k with h | h <;> (rw [h]; decide)
def cCry : DSp := fun ds μ Q => ∃ (p c : Nat) (ms : List Int) (F : Int → List Nat) (ws : List (Option Int)) (lot : List Nat), ds = [.int p, .dk (filesD ms F), wishD ws, lotD lot] ∧ 2 ≤ p ∧ p ≤ 10 ^ 9 ∧ ws.length ≤ 60 ∧ Lot ws.length 0 lot ∧
  FOk ms F p c ∧ (∀ h ∈ lot, (wish ws h).isSome = true → wv ws h ∈ ms ∧ c = bin ws.length (lot.length - 1)) ∧ Q (.int (cryZ ws F lot % (p : Nat))) μ
def w_cry : DTS :=
  (dSeq (dAsg (dLc (dISeq (dCall cTerms [] (dCons (dVar 2) (dCons (dVar 3) dNil)))) (gTp 3 (gsCons (gN 5) (gsCons (gN 6) (gsCons (gN 7) gsNil)))) dYes (dOp dMul (dVar 5) (dCall cPiece [] (dCons (dCB fLen (dCons (dVar 2) dNil)) (dCons (dGetD (dVar 1) (dVar 6)) (dCons (dVar 7) dNil))))) [5, 6, 7]) (gN 4))
  (dRet (dOp oMod (dCB fSum (dCons (dVar 4) dNil)) (dVar 0))))
theorem pc_at {n c : Nat} {fl l : List Nat} (L : Lot n 0 l) (h : fl.length = bin n l.length) : fl[rk n 0 l]? = some (pc n fl l) ∧ pc n fl l ∈ fl := by
  obtain ⟨x, h1, h2⟩ := piece_at L rfl h
  have e : pc n fl l = x := by
    unfold pc
    rw [List.getD_eq_getElem?_getD, h1]
    rfl
  rw [e]
  exact ⟨h1, h2⟩
theorem cry_ok (N : List Str) (hN : N.length = 8) : ∀ ds μ Q, cCry ds μ Q → w_cry { nx := fun _ μ' => fin Q .non μ', rt := fin Q } (dstart N ds) μ := by
  intro ds μ Q hc
  obtain ⟨p, c, ms, F, ws, lot, rfl, hp1, hp2, hl, L, hF, hw, q⟩ := hc
  have hz := sizeLine_eq
  have hll := L.drop_ok
  unfold w_cry
  refine seq_cut fun R hR => ?_
  simp only [dSim, hN, dLc, dISeq, cTerms]
  refine ⟨ws, lot, rfl, hl, L, _, .inr rfl, ?_⟩
  have hwl : (wl ws lot).length ≤ 60 := Nat.le_trans (List.length_filter_le _ _) (by omega)
  refine lc_any1 (wl ws lot) (trmD ws lot) (fun h => .int (part1 ws F lot h)) rfl (by omega) (fun h K hm hK => ?_) ?_
  · obtain ⟨h1, h2⟩ := List.mem_filter.mp hm
    obtain ⟨h3, h4⟩ := hw h h1 h2
    obtain ⟨h5, h6⟩ := hF _ h3
    have Lw := wo_lot (h := h) L
    have lw := wo_len L h1
    obtain ⟨h7, h8⟩ := pc_at (c := c) (fl := F (wv ws h)) Lw (by rw [h5, h4]; congr 1; omega)
    have h9 := h6 _ h8
    unfold trmD
    simp only [dSim, dwipe, cPiece, dGetD, List.length_map]
    refine ⟨lotD (F (wv ws h)), .inl ⟨_, .inl (wv ws h), see_dk, rfl, (files_get h3).symm⟩, ws.length, _, _, wo lot h, rfl, hl, Lw, lotD_at h7, ?_⟩
    simp only [dSim]
    refine ⟨mul1 (sgn_abs _) ?_, hK⟩
    rw [Int.natAbs_natCast]
    exact Nat.le_trans (by omega : pc ws.length (F (wv ws h)) (wo lot h) ≤ 10 ^ 9) (by decide)
  refine hR _ _ ?_
  simp only [dSim]
  refine sum_of (ns := (wl ws lot).map (part1 ws F lot)) (by rw [see_lst, List.map_map]; rfl) ?_
  simp only [dSim]
  exact ⟨by omega, fin_of q⟩
/-! ### freed -/
/-- files as a hand has them -/
def ownD (ms : List Int) (G : Int → List D) : List (Key × D) := ms.map fun v => (Sum.inl v, .tup (G v))
theorem own_get {ms : List Int} {G : Int → List D} {v : Int} (h : v ∈ ms) : getT (ownD ms G) (.inl v) = some (.tup (G v)) := by
  induction ms with
  | nil => cases h
  | cons m ms ih =>
    unfold ownD getT
    rw [List.map_cons, List.find?_cons]
    by_cases c : (Sum.inl m : Key) = Sum.inl v
    · rw [decide_eq_true c]
      cases c
      rfl
    · rw [decide_eq_false c]
      rcases List.mem_cons.mp h with rfl | h
      · exact absurd rfl c
      · exact ih h
/-- what the others' pieces come to -/
def restZ (ws : List (Option Int)) (F : Int → List Nat) (lot : List Nat) (hand : Nat) : Int := (((wl ws lot).filter fun h => !decide (h = hand)).map (part1 ws F lot)).sum
theorem sum_take_f {l : List Nat} {p : Nat → Bool} {g : Nat → Int} {i h : Nat} (e : l[i]? = some h) : (((l.take (i + 1)).filter p).map g).sum = (((l.take i).filter p).map g).sum + if p h then g h else 0 := by
  rw [List.take_succ, e, List.filter_append, List.map_append, List.sum_append]
  congr 1
  show (([h].filter p).map g).sum = _
  rw [List.filter_cons, List.filter_nil]
  split
  · simp
  · rfl
def cFreed : DSp := fun ds μ Q => ∃ (p c : Nat) (ms : List Int) (F : Int → List Nat) (G : Int → List D) (ws : List (Option Int)) (lot : List Nat) (hand : Nat) (num : Int), ds = [.int p, wishD ws, .int hand, .dk (ownD ms G), lotD lot, .int num] ∧ 2 ≤ p ∧ p ≤ 10 ^ 9 ∧ ws.length ≤ 60 ∧ Lot ws.length 0 lot ∧ hand ∈ lot ∧
  num.natAbs ≤ 2 ^ 60 ∧ FOk ms F p c ∧ (∀ h ∈ lot, (wish ws h).isSome = true → wv ws h ∈ ms ∧ c = bin ws.length (lot.length - 1)) ∧
  (∀ v ∈ ms, ∀ l : List Nat, Lot ws.length 0 l → l.length + 1 = lot.length → hand ∈ l → (G v)[rk ws.length 0 l]? = some (.int (pc ws.length (F v) l : Nat))) ∧ Q (.int ((sg hand lot * (num - restZ ws F lot hand)) % (p : Nat))) μ
def w_freed : DTS :=
  (dSeq (dAsg (dVar 5) (gN 6))
  (dSeq (dFor (dISeq (dCall cTerms [] (dCons (dVar 1) (dCons (dVar 4) dNil)))) (gTp 3 (gsCons (gN 7) (gsCons (gN 8) (gsCons (gN 9) gsNil)))) (dIfS (dT (dOp (dIn false) (dVar 2) (dVar 9))) (dAug 6 (dOp dMul (dVar 7) (dCall cPiece [] (dCons (dCB fLen (dCons (dVar 1) dNil)) (dCons (dGetD (dVar 3) (dVar 8)) (dCons (dVar 9) dNil))))) (fun i j => i - j)) dNext))
  (dRet (dOp oMod (dOp dMul (dCall cSign [] (dCons (dVar 2) (dCons (dVar 4) dNil))) (dVar 6)) (dVar 0)))))
theorem natAbs_sub_le' {a b : Int} : (a - b).natAbs ≤ a.natAbs + b.natAbs := by omega
theorem sum_abs {l : List Nat} {g : Nat → Int} {B : Nat} (h : ∀ x ∈ l, (g x).natAbs ≤ B) : ((l.map g).sum).natAbs ≤ l.length * B := by
  induction l with
  | nil => simp
  | cons x l ih =>
    rw [List.map_cons, List.sum_cons, List.length_cons, Nat.succ_mul]
    have h1 := h x List.mem_cons_self
    have h2 := ih fun y hy => h y (List.mem_cons_of_mem _ hy)
    omega
theorem freed_ok (N : List Str) (hN : N.length = 10) : ∀ ds μ Q, cFreed ds μ Q → w_freed { nx := fun _ μ' => fin Q .non μ', rt := fin Q } (dstart N ds) μ := by
  intro ds μ Q hc
  obtain ⟨p, c, ms, F, G, ws, lot, hand, num, rfl, hp1, hp2, hl, L, hm, hnum, hF, hw, hG, q⟩ := hc
  have hz := sizeLine_eq
  have hll := L.drop_ok
  have hwl : (wl ws lot).length ≤ 60 := Nat.le_trans (List.length_filter_le _ _) (by omega)
  have piece : ∀ h ∈ wl ws lot, pc ws.length (F (wv ws h)) (wo lot h) ≤ 10 ^ 9 := fun h hh => by
    obtain ⟨h1, h2⟩ := List.mem_filter.mp hh
    obtain ⟨h3, h4⟩ := hw h h1 h2
    obtain ⟨h5, h6⟩ := hF _ h3
    have Lw := wo_lot (h := h) L
    have lw := wo_len L h1
    obtain ⟨h7, h8⟩ := pc_at (c := c) (fl := F (wv ws h)) Lw (by rw [h5, h4]; congr 1; omega)
    have h9 := h6 _ h8
    omega
  unfold w_freed
  refine seq_cut fun R hR => ?_
  simp only [dSim, hN]
  refine hR _ _ (seq_cut fun R1 hR1 => ?_)
  simp only [dSim, dFor, dISeq, cTerms]
  refine ⟨ws, lot, rfl, hl, L, _, .inr rfl, ?_⟩
  refine for_inv (fun i ρ μ' => μ' = μ ∧ ∃ x y z, ρ = [some (.int p), some (wishD ws), some (.int hand), some (.dk (ownD ms G)), some (lotD lot), some (.int num), some (.int (num - ((((wl ws lot).take i).filter fun h => !decide (h = hand)).map (part1 ws F lot)).sum)), x, y, z])
    ⟨rfl, none, none, none, by simp⟩ (fun i ρ μ' _ h => by rw [h.1]) (fun i d ρ μ' N1 hi h hN1 => ?_) fun ρ μ' h => ?_
  · obtain ⟨rfl, x, y, z, rfl⟩ := h
    rw [List.getElem?_map] at hi
    cases e : (wl ws lot)[i]? with
    | none => rw [e] at hi; cases hi
    | some h =>
      rw [e] at hi
      cases hi
      have hmem := List.mem_of_getElem? e
      obtain ⟨h1, h2⟩ := List.mem_filter.mp hmem
      obtain ⟨h3, h4⟩ := hw h h1 h2
      have Lw := wo_lot (h := h) L
      have lw := wo_len L h1
      have hpc := piece h hmem
      have es := sum_take_f (p := fun h => !decide (h = hand)) (g := part1 ws F lot) e
      unfold trmD
      simp only [dSim, z_inT, Bool.false_eq_true, if_false]
      have hin : hand ∈ wo lot h ↔ ¬ h = hand := by
        unfold wo
        rw [List.mem_filter]
        simp only [hm, true_and, Bool.not_eq_true', decide_eq_false_iff_not]
        exact ⟨fun h e => h e.symm, fun h e => h e.symm⟩
      by_cases c1 : h = hand
      · rw [decide_eq_false (fun hh => (hin.mp hh) c1), if_neg (by decide)]
        rw [decide_eq_true c1, Bool.not_true, if_neg (by decide), Int.add_zero] at es
        refine hN1 _ _ ⟨rfl, some (.int (sg h lot)), some (.int (wv ws h)), some (lotD (wo lot h)), ?_⟩
        rw [es]
      · have hh := hin.mpr c1
        rw [decide_eq_true hh, if_pos rfl]
        rw [decide_eq_false c1, Bool.not_false, if_pos rfl] at es
        simp only [cPiece, dGetD, List.length_map]
        refine ⟨.tup (G (wv ws h)), .inl ⟨_, .inl (wv ws h), see_dk, rfl, (own_get h3).symm⟩, ws.length, _, _, wo lot h, rfl, hl, Lw, hG _ h3 _ Lw lw hh, ?_⟩
        simp only [dSim]
        refine ⟨mul1 (sgn_abs _) ?_, ?_⟩
        · rw [Int.natAbs_natCast]
          exact Nat.le_trans hpc (by decide)
        · refine hN1 _ _ ⟨rfl, some (.int (sg h lot)), some (.int (wv ws h)), some (lotD (wo lot h)), ?_⟩
          rw [es, ← Int.sub_sub]
          rfl
  · obtain ⟨rfl, x, y, z, rfl⟩ := h
    refine hR1 _ _ ?_
    rw [List.length_map, List.take_length]
    simp only [dSim, cSign]
    have habs : (restZ ws F lot hand).natAbs ≤ 60 * 10 ^ 9 := by
      unfold restZ
      refine Nat.le_trans (sum_abs (B := 10 ^ 9) fun h hh => ?_) (Nat.mul_le_mul_right _ (Nat.le_trans (List.length_filter_le _ _) hwl))
      have := piece h (List.mem_filter.mp hh).1
      unfold part1 sg
      rcases sgn_cases ((lot.filter fun x => decide (x < h)).length) with e | e <;> (rw [e]; omega)
    refine ⟨hand, lot, rfl, by omega, mul1 (sgn_abs _) ?_, by omega, fin_of q⟩
    have := natAbs_sub_le' (a := num) (b := restZ ws F lot hand)
    unfold restZ at this habs
    exact Nat.le_trans (Nat.le_trans this (Nat.add_le_add hnum habs)) (by decide)
end DL

/-! CallP: a law's order of lots, sheets by wish, a call made from them. -/
namespace DL
open PySem PySem.Spec PyProof.Rows L2
/-! ### lots as keys -/
def lkey (l : List Nat) : List NestedKey := l.map fun x => .num (x : Nat)
theorem nkDs_lkey : ∀ l : List Nat, nkDs (lkey l) = (iL l).map D.int
  | [] => rfl
  | x :: l => by
    show nkD (.num (x : Nat)) :: nkDs (lkey l) = _
    rw [nkDs_lkey l]
    rfl
theorem nkD_lkey (l : List Nat) : nkD (.tup (lkey l)) = lotD l := by
  show D.tup (nkDs (lkey l)) = _
  rw [nkDs_lkey]
theorem lkey_NTs : ∀ l : List Nat, NTs (lkey l) = true
  | [] => rfl
  | x :: l => by
    show (NT (.num (x : Nat)) && NTs (lkey l)) = true
    rw [lkey_NTs l]
    rfl
theorem lkey_NT (l : List Nat) : NT (.tup (lkey l)) = true := lkey_NTs l
theorem lkey_depthAll : ∀ l : List Nat, NestedKey.depthAll (lkey l) ≤ 1
  | [] => by decide
  | x :: l => by
    show max (NestedKey.depth (.num (x : Nat))) (NestedKey.depthAll (lkey l)) ≤ 1
    have := lkey_depthAll l
    have h : NestedKey.depth (.num (x : Nat)) ≤ 1 := by simp [NestedKey.depth]
    omega
theorem lkey_depth (l : List Nat) : (NestedKey.tup (lkey l)).depth ≤ 8 := by
  have := lkey_depthAll l
  show NestedKey.depthAll (lkey l) + 1 ≤ 8
  omega
theorem lkey_inj : ∀ {l m : List Nat}, lkey l = lkey m → l = m
  | [], [], _ => rfl
  | [], _ :: _, h => by cases h
  | _ :: _, [], h => by cases h
  | x :: l, y :: m, h => by
    obtain ⟨h1, h2⟩ := List.cons.inj h
    have h3 := NestedKey.num.inj h1
    rw [lkey_inj h2, Int.ofNat.inj h3]
/-! ### dicts of keys that differ -/
section
variable {κ : Type} [DecidableEq κ]
theorem getT_none {kvs : List (κ × D)} {k : κ} (h : k ∉ kvs.map (·.1)) : getT kvs k = none := by
  unfold getT
  have e : kvs.find? (fun kv => decide (kv.1 = k)) = none := List.find?_eq_none.mpr fun p hp c => h (List.mem_map.mpr ⟨p, hp, of_decide_eq_true c⟩)
  rw [e]
  rfl
theorem getT_mem {kvs : List (κ × D)} {k : κ} {d : D} (nd : (kvs.map (·.1)).Nodup) (h : (k, d) ∈ kvs) : getT kvs k = some d := by
  induction kvs with
  | nil => cases h
  | cons p kvs ih =>
    rw [List.map_cons, List.nodup_cons] at nd
    unfold getT
    rw [List.find?_cons]
    rcases List.mem_cons.mp h with rfl | h
    · simp
    · have ne : ¬ p.1 = k := fun e => nd.1 (e ▸ List.mem_map.mpr ⟨_, h, rfl⟩)
      rw [decide_eq_false ne]
      exact ih nd.2 h
theorem foldT_go : ∀ (kvs acc : List (κ × D)), ((acc ++ kvs).map (·.1)).Nodup → kvs.foldl (fun acc e => putT acc e.1 e.2) acc = acc ++ kvs
  | [], acc, _ => by simp
  | p :: kvs, acc, nd => by
    have h1 : p.1 ∉ acc.map (·.1) := fun c => by
      rw [List.map_append, List.map_cons] at nd
      exact (List.nodup_append.mp nd).2.2 _ c _ List.mem_cons_self rfl
    rw [List.foldl_cons, putT_new (getT_none h1)]
    have e : acc ++ p :: kvs = acc ++ [(p.1, p.2)] ++ kvs := by simp
    rw [foldT_go kvs _ (by rw [← e]; exact nd), e]
theorem foldT_nodup {kvs : List (κ × D)} (nd : (kvs.map (·.1)).Nodup) : foldT kvs = kvs := foldT_go kvs [] nd
end
/-! ### the order of lots -/
def ordD (n t : Nat) : List (NestedKey × D) := (List.range (bin n t)).map fun i => (NestedKey.tup (lkey (unr n 0 t i)), D.int (i : Nat))
theorem ordD_len (n t : Nat) : (ordD n t).length = bin n t := by
  unfold ordD
  rw [List.length_map, List.length_range]
theorem nodup_range_map {β : Type} {f : Nat → β} {n : Nat} (h : ∀ i < n, ∀ j < n, f i = f j → i = j) : ((List.range n).map f).Nodup := by
  rw [List.nodup_iff_pairwise_ne, List.pairwise_map]
  refine List.Pairwise.imp_of_mem (fun {a b} ha hb ne e => ?_) (List.nodup_iff_pairwise_ne.mp List.nodup_range)
  exact ne (h a (List.mem_range.mp ha) b (List.mem_range.mp hb) e)
theorem unr_inj {n t i j : Nat} (hi : i < bin n t) (hj : j < bin n t) (e : unr n 0 t i = unr n 0 t j) : i = j := by
  have h1 := (unr_ok n 0 t i hi).2.2
  have h2 := (unr_ok n 0 t j hj).2.2
  rw [e, h2] at h1
  exact h1.symm
theorem ordD_nodup (n t : Nat) : ((ordD n t).map (·.1)).Nodup := by
  unfold ordD
  rw [List.map_map]
  exact nodup_range_map fun i hi j hj e => unr_inj hi hj (lkey_inj (NestedKey.tup.inj e))
theorem ordD_get {n : Nat} {l : List Nat} (L : Lot n 0 l) : getT (ordD n l.length) (.tup (lkey l)) = some (.int (rk n 0 l : Nat)) := by
  have h1 := rk_lt 0 l L
  refine getT_mem (ordD_nodup _ _) (List.mem_map.mpr ⟨rk n 0 l, List.mem_range.mpr h1, ?_⟩)
  have e := unr_rk (Nat.zero_le _) L
  rw [Nat.sub_zero] at e
  rw [e]
def cOrder : DSp := fun ds μ Q => ∃ (n k : Nat), ds = [.int n, .int k] ∧ n ≤ 1000 ∧ k ≤ 1000 ∧ (∀ j ≤ k, bin n j ≤ 100000) ∧ Q (.dt (ordD n k)) μ
def w_order : DTS :=
  (dRet (dDictN (dCons (dLc (dIEnum (dCons (dCall cBunches [] (dCons (dVar 0) (dCons (dVar 1) dNil))) dNil)) (gTp 2 (gsCons (gN 2) (gsCons (gN 3) gsNil))) dYes (dTup (dCons (dVar 3) (dCons (dVar 2) dNil))) [2, 3]) dNil)))
theorem order_ok (N : List Str) (hN : N.length = 4) : ∀ ds μ Q, cOrder ds μ Q → w_order { nx := fun _ μ' => fin Q .non μ', rt := fin Q } (dstart N ds) μ := by
  intro ds μ Q h
  obtain ⟨n, k, rfl, hn, hk, hb, q⟩ := h
  have hz := sizeLine_eq
  unfold w_order
  simp only [dSim, hN, dLc, dIEnum, dDictN, cBunches]
  refine ⟨n, k, rfl, hn, hk, hb, _, _, rfl, .inl rfl, ?_⟩
  have hll : (lots n 0 k).length = bin n k := lots_len n 0 k
  have hbk := hb k (Nat.le_refl k)
  refine lc_enum (fun _ => true) (fun i => .tup [lotD (unr n 0 k i), .int (i : Nat)]) rfl (by rw [List.length_map]; omega) (fun i d K1 K2 hi h1 _ => ?_) ?_
  · rw [List.getElem?_map, lots_unr, List.getElem?_map] at hi
    cases e : (List.range (bin n k))[i]? with
    | none => rw [e] at hi; cases hi
    | some j =>
      rw [e] at hi
      cases hi
      have : i = j := (List.getElem?_eq_some_iff.mp e).2 ▸ by simp
      subst this
      simp only [dSim, dwipe, dYes]
      rw [if_pos trivial]
      exact ⟨by omega, h1 rfl⟩
  rw [List.filter_eq_self.mpr fun _ _ => rfl, List.length_map, hll]
  refine ⟨_, (List.range (bin n k)).map fun i => (lkey (unr n 0 k i), D.int (i : Nat)), rfl, ?_, fun e he => ?_, ?_⟩
  · rw [List.map_map]
    show D.lst _ = _
    congr 1
    refine List.map_congr_left fun i _ => ?_
    show _ = D.tup [nkD (.tup (lkey (unr n 0 k i))), _]
    rw [nkD_lkey]
  · obtain ⟨i, _, rfl⟩ := List.mem_map.mp he
    exact ⟨lkey_NT _, lkey_depth _⟩
  · rw [List.map_map]
    have e := foldT_nodup (ordD_nodup n k)
    unfold ordD at e q
    show fin Q (.dt (foldT ((List.range (bin n k)).map fun i => (NestedKey.tup (lkey (unr n 0 k i)), D.int (i : Nat))))) μ
    rw [e]
    exact fin_of q
/-! ### turns -/
def cTurn : DSp := fun ds μ Q => ∃ (h : Nat) (lot : List Nat), ds = [.int h, lotD lot] ∧ lot.length ≤ 100000 ∧ Q (.int (sg h lot)) μ
def w_turn : DTS :=
  (dRet (dOp oSub (dC (.int 1)) (dOp dMul (dC (.int 2)) (dOp oMod (dCB fLen (dCons (dLc (dISeq (dVar 1)) (gN 2) (dT (dOp oLt (dVar 2) (dVar 0))) (dVar 2) [2]) dNil)) (dC (.int 2))))))
theorem turn_ok (N : List Str) (hN : N.length = 3) : ∀ ds μ Q, cTurn ds μ Q → w_turn { nx := fun _ μ' => fin Q .non μ', rt := fin Q } (dstart N ds) μ := by
  intro ds μ Q hc
  obtain ⟨h, lot, rfl, hl, q⟩ := hc
  have hz := sizeLine_eq
  unfold w_turn
  simp only [dSim, hN, dLc, dISeq]
  refine ⟨_, .inr rfl, ?_⟩
  refine lc_nat (fun x => decide (x < h)) (fun x => .int (x : Nat)) rfl (by omega) (fun x K _ hK => ?_) (fun x K _ _ hK => ?_) ?_
  · simp only [dSim, dwipe, dec_lt]
    exact hK
  · simp only [dSim, dwipe]
    exact hK
  simp only [dSim, List.length_map]
  have e : (1 : Int) - 2 * (((lot.filter fun x => decide (x < h)).length : Int) % 2) = sg h lot := by
    unfold sg sgn
    generalize (lot.filter fun x => decide (x < h)).length = k
    split <;> omega
  refine ⟨by decide, mul1 (by decide) ?_, ?_⟩
  · refine Nat.le_trans ?_ (by decide : 1 ≤ 2 ^ 100)
    omega
  · rw [e]
    exact fin_of q
/-! ### a call -/
def cCall : DSp := fun ds μ Q => ∃ (p t : Nat) (ms : List Int) (F : Int → List Nat) (ws : List (Option Int)) (lot : List Nat), ds = [.int p, wishD ws, .dk (filesD ms F), .dt (ordD ws.length t), lotD lot] ∧ 2 ≤ p ∧ p ≤ 10 ^ 9 ∧ ws.length ≤ 60 ∧ Lot ws.length 0 lot ∧ lot.length = t + 1 ∧
  FOk ms F p (bin ws.length t) ∧ (∀ h ∈ lot, (wish ws h).isSome = true → wv ws h ∈ ms) ∧ Q (.int (cryZ ws F lot % (p : Nat))) μ
def w_callS : DTS :=
  (dSeq (dAsg (dC (.int 0)) (gN 5))
  (dSeq (dFor (dISeq (dVar 4)) (gN 6) (dIfS (dT (dOp dIsN (dOp dIx (dVar 1) (dVar 6)) (dC .non))) (dSeq (dAsg (dGetD (dVar 3) (dCall cWithout [] (dCons (dVar 4) (dCons (dVar 6) dNil)))) (gN 7))
  (dAsg (dOp dAdd (dVar 5) (dOp dMul (dCall cTurn [] (dCons (dVar 6) (dCons (dVar 4) dNil))) (dOp dIx (dGetD (dVar 2) (dOp dIx (dVar 1) (dVar 6))) (dVar 7)))) (gN 5))) dNext))
  (dRet (dOp oMod (dVar 5) (dVar 0)))))
theorem callS_ok (N : List Str) (hN : N.length = 8) : ∀ ds μ Q, cCall ds μ Q → w_callS { nx := fun _ μ' => fin Q .non μ', rt := fin Q } (dstart N ds) μ := by
  intro ds μ Q hc
  obtain ⟨p, t, ms, F, ws, lot, rfl, hp1, hp2, hl, L, hlt, hF, hw, q⟩ := hc
  have hz := sizeLine_eq
  have hll := L.drop_ok
  unfold w_callS
  refine seq_cut fun R hR => ?_
  simp only [dSim, hN]
  refine hR _ _ (seq_cut fun R1 hR1 => ?_)
  simp only [dSim, dFor, dISeq]
  refine ⟨_, .inr rfl, ?_⟩
  refine for_inv (fun i ρ μ' => μ' = μ ∧ ∃ x y, ρ = [some (.int p), some (wishD ws), some (.dk (filesD ms F)), some (.dt (ordD ws.length t)), some (lotD lot), some (.int ((((lot.take i).filter fun h => (wish ws h).isSome).map (part1 ws F lot)).sum)), x, y])
    ⟨rfl, none, none, by simp⟩ (fun i ρ μ' _ h => by rw [h.1]) (fun i d ρ μ' N1 hi h hN1 => ?_) fun ρ μ' h => ?_
  · obtain ⟨rfl, x, y, rfl⟩ := h
    rw [List.getElem?_map] at hi
    unfold iL at hi
    rw [List.getElem?_map] at hi
    cases e : lot[i]? with
    | none => rw [e] at hi; cases hi
    | some h =>
      rw [e] at hi
      cases hi
      have hmem := List.mem_of_getElem? e
      have hlt1 := (L.mem h hmem).2
      have es := sum_take_f (p := fun h => (wish ws h).isSome) (g := part1 ws F lot) e
      simp only [dSim]
      refine ⟨_, at_nat' (wish_at hlt1), ?_⟩
      simp only [dSim, isNone_oD, Bool.not_not]
      by_cases c : (wish ws h).isSome = true
      · rw [if_pos c]
        rw [if_pos c] at es
        have hv := hw h hmem c
        obtain ⟨h5, h6⟩ := hF _ hv
        have Lw := wo_lot (h := h) L
        have lw := wo_len L hmem
        have lwt : (wo lot h).length = t := by omega
        obtain ⟨h7, h8⟩ := pc_at (c := 0) (fl := F (wv ws h)) Lw (by rw [h5, lwt])
        have h9 := h6 _ h8
        have og := ordD_get Lw
        rw [lwt] at og
        simp only [cWithout, dGetD, cTurn]
        refine ⟨lot, h, rfl, by omega, .int (rk ws.length 0 (wo lot h) : Nat), .inr ⟨_, lkey (wo lot h), see_dt, (nkD_lkey _).symm, lkey_depth _, og.symm⟩, ?_⟩
        simp only [dSim]
        refine ⟨h, lot, rfl, by omega, _, at_nat' (wish_at hlt1), lotD (F (wv ws h)), .inl ⟨_, .inl (wv ws h), see_dk, by rw [oD_some c]; rfl, (files_get hv).symm⟩, ?_⟩
        simp only [dSim]
        refine ⟨_, at_nat' (lotD_at h7), ?_⟩
        simp only [dSim]
        refine ⟨mul1 (sgn_abs _) ?_, ?_⟩
        · rw [Int.natAbs_natCast]
          exact Nat.le_trans (by omega : pc ws.length (F (wv ws h)) (wo lot h) ≤ 10 ^ 9) (by decide)
        · refine hN1 _ _ ⟨rfl, some (.int h), some (.int (rk ws.length 0 (wo lot h) : Nat)), ?_⟩
          rw [es]
          rfl
      · rw [if_neg c]
        rw [if_neg c, Int.add_zero] at es
        refine hN1 _ _ ⟨rfl, some (.int h), y, ?_⟩
        rw [es]
  · obtain ⟨rfl, x, y, rfl⟩ := h
    refine hR1 _ _ ?_
    rw [List.length_map, iL_len, List.take_length]
    simp only [dSim]
    exact ⟨by omega, fin_of q⟩
/-! ### sheets by wish -/
theorem Keep.del {a p : Addr} {μ μ' : Mu} (h : Keep a μ μ') (hp : μ p = Option.none) : Keep a μ (mdel μ' p) := fun b m hb e => by
  have : b ≠ p := fun q => by rw [q, hp] at e; cases e
  unfold mdel
  rw [if_neg this]
  exact h b m hb e
theorem filesD_len (ms : List Int) (F : Int → List Nat) : (filesD ms F).length = ms.length := List.length_map _
theorem filesD_none {ms : List Int} {F : Int → List Nat} {v : Int} (h : v ∉ ms) : getT (filesD ms F) (.inl v) = none := by
  refine getT_none fun c => ?_
  unfold filesD at c
  rw [List.map_map] at c
  obtain ⟨u, hu, e⟩ := List.mem_map.mp c
  cases e
  exact h hu
theorem filesD_snoc {ms : List Int} {F : Int → List Nat} {v : Int} {fl : List Nat} (h : v ∉ ms) : filesD ms F ++ [(.inl v, lotD fl)] = filesD (ms ++ [v]) fun u => if u = v then fl else F u := by
  unfold filesD
  rw [List.map_append]
  congr 1
  · refine List.map_congr_left fun u hu => ?_
    show _ = (Sum.inl u, lotD (if u = v then fl else F u))
    rw [if_neg fun e : u = v => h (e ▸ hu)]
  · simp
def cSheets : DSp := fun ds μ Q => ∃ (a : Addr) (p c n : Nat) (ws : List (Option Int)), ds = [.ref a, .int p, wishD ws, .int c] ∧ 2 ≤ p ∧ p ≤ 10 ^ 9 ∧ 0 < c ∧ c ≤ 100000 ∧ ws.length ≤ 60 ∧ IsPot n μ a ∧ n < 700000000 ∧
  ∀ (ms : List Int) (F : Int → List Nat) (μ' : Mu), ms.Nodup → (∀ v, v ∈ ms ↔ some v ∈ ws) → ms.length ≤ ws.length → FOk ms F p c → Keep a μ μ' → IsPot (n + ws.length * (2 + 3 * c)) μ' a → Q (.dk (filesD ms F)) μ'
def w_sheets : DTS :=
  (dSeq (dAsg dNewK (gN 4))
  (dSeq (dFor (dISeq (dVar 2)) (gN 5) (dIfS (dAnd (dT (dOp dIsN (dVar 5) (dC .non))) (dT (dOp (dInD true) (dVar 5) (dVar 4)))) (sDPutD (dVar 4) (dVar 5) (dCall cSheet [] (dCons (dVar 0) (dCons (dVar 1) (dCons (dVar 3) dNil))))) dNext))
  (dRet (dFrzD 4))))
theorem sheets_ok (N : List Str) (hN : N.length = 6) : ∀ ds μ Q, cSheets ds μ Q → w_sheets { nx := fun _ μ' => fin Q .non μ', rt := fin Q } (dstart N ds) μ := by
  intro ds μ Q hc
  obtain ⟨a, p, c, n, ws, rfl, hp1, hp2, hc0, hc1, hl, hp, hn, q⟩ := hc
  have hz := sizeLine_eq
  unfold w_sheets
  refine seq_cut fun R hR => ?_
  simp only [dSim, hN, dNewK]
  intro b hb
  refine hR _ _ (seq_cut fun R1 hR1 => ?_)
  have ab : a ≠ b := hp.ne hb
  simp only [dSim, dFor, dISeq]
  refine ⟨_, .inr rfl, ?_⟩
  refine for_inv (fun i ρ μ' => ∃ (ms : List Int) (F : Int → List Nat) (x : Option D), Keep a μ μ' ∧ IsPot (n + i * (2 + 3 * c)) μ' a ∧ μ' b = some (.dk (filesD ms F)) ∧ ms.Nodup ∧ (∀ v, v ∈ ms ↔ some v ∈ ws.take i) ∧ ms.length ≤ i ∧ FOk ms F p c ∧
      ρ = [some (.ref a), some (.int p), some (wishD ws), some (.int c), some (.ref b), x])
    ⟨[], fun _ => [], none, Keep.refl.new hb, (hp.mono (by omega)).at_ (mput_ne ab), mput_same, List.nodup_nil, by simp, Nat.le_refl _, (fun v hv => by cases hv), rfl⟩ (fun _ _ _ _ _ => rfl) (fun i d ρ μ' N1 hi h hN1 => ?_) fun ρ μ' h => ?_
  · obtain ⟨ms, F, x, k1, p1, m1, nd, hm, hlm, hF, rfl⟩ := h
    rw [List.getElem?_map] at hi
    cases e : ws[i]? with
    | none => rw [e] at hi; cases hi
    | some o =>
      rw [e] at hi
      cases hi
      have hlt : i < ws.length := (List.getElem?_eq_some_iff.mp e).1
      have et : ws.take (i + 1) = ws.take i ++ [o] := by rw [List.take_succ, e]; rfl
      have ei : (i + 1) * (2 + 3 * c) = i * (2 + 3 * c) + (2 + 3 * c) := Nat.succ_mul _ _
      have hbig : i * (2 + 3 * c) ≤ 60 * (2 + 3 * 100000) := Nat.mul_le_mul (by omega) (by omega)
      cases o with
      | none =>
        simp only [dSim, oD, isNone, Bool.not_true, Bool.false_eq_true, if_false]
        exact hN1 _ _ ⟨ms, F, _, k1, p1.mono (by omega), m1, nd, fun v => by rw [hm, et]; simp, by omega, hF, rfl⟩
      | some v =>
        simp only [dSim, oD, isNone, Bool.not_false, if_true, dInD]
        refine ⟨_, .inl ⟨_, .inl v, see_refk m1, rfl, rfl⟩, ?_⟩
        by_cases hv : v ∈ ms
        · simp only [files_get hv, z_seb, Option.isSome_some, Bool.not_true, Bool.false_eq_true, if_false]
          refine hN1 _ _ ⟨ms, F, _, k1, p1.mono (by omega), m1, nd, fun u => ?_, by omega, hF, rfl⟩
          rw [et, List.mem_append, List.mem_singleton, ← hm]
          exact ⟨.inl, fun h => h.elim id fun h => by cases h; exact hv⟩
        · simp only [dSim, filesD_none hv, z_seb, Option.isSome_none, Bool.not_false, if_true, sDPutD, cSheet]
          refine ⟨a, p, c, _, rfl, hp1, hp2, hc0, hc1, p1, by omega, fun fl μ2 f1 f2 k2 p2 => ?_⟩
          have m2 := k2 b _ (Ne.symm ab) m1
          refine .inl ⟨b, _, .inl v, rfl, m2, rfl, by rw [filesD_len]; omega, ?_⟩
          rw [putT_new (filesD_none hv), filesD_snoc hv]
          refine hN1 _ _ ⟨ms ++ [v], _, _, (k1.trans k2).new hb, (p2.mono (by omega)).at_ (mput_ne ab), mput_same, ?_, fun u => ?_, ?_, fun u hu => ?_, rfl⟩
          · refine List.nodup_append.mpr ⟨nd, by simp, fun x hx y hy => ?_⟩
            rw [List.mem_singleton] at hy
            subst hy
            intro e
            subst e
            exact hv hx
          · rw [et, List.mem_append, List.mem_append, hm, List.mem_singleton, List.mem_singleton]
            simp
          · rw [List.length_append, List.length_cons, List.length_nil]
            omega
          · simp only
            by_cases c1 : u = v
            · rw [if_pos c1]
              exact ⟨f1, f2⟩
            · rw [if_neg c1]
              rcases List.mem_append.mp hu with hu | hu
              · exact hF u hu
              · rw [List.mem_singleton] at hu
                exact absurd hu c1
  · obtain ⟨ms, F, x, k1, p1, m1, nd, hm, hlm, hF, rfl⟩ := h
    rw [List.length_map] at p1 hm hlm
    rw [List.take_length] at hm
    refine hR1 _ _ ?_
    simp only [dSim]
    exact .inl ⟨_, m1, fin_of (q ms F _ nd hm hlm hF (k1.del hb) (p1.at_ (if_neg ab)))⟩
end DL

/-! RepP: what the laws' reprs ask of sheets, wishes, terms. -/
namespace DL
open PySem PySem.Spec PyProof.Rows L2
theorem noLs_of : ∀ {ds : List D}, (∀ d ∈ ds, noL (toP d) = true) → noLs (toPs ds) = true
  | [], _ => rfl
  | d :: ds, h => by
    show (noL (toP d) && noLs (toPs ds)) = true
    rw [h d List.mem_cons_self, noLs_of fun e he => h e (List.mem_cons_of_mem _ he)]
    rfl
theorem noL_lot (l : List Nat) : noL (toP (lotD l)) = true := noLs_of fun d hd => by
  obtain ⟨i, _, rfl⟩ := List.mem_map.mp hd
  rfl
theorem noL_wish (ws : List (Option Int)) : noL (toP (wishD ws)) = true := noLs_of fun d hd => by
  obtain ⟨o, _, rfl⟩ := List.mem_map.mp hd
  cases o <;> rfl
theorem wr_in {v : Int} (h : 0 ≤ v ∧ v < 1000000) : -(2 ^ 250) < v ∧ v < 2 ^ 250 := ⟨Int.lt_of_lt_of_le (by decide) h.1, Int.lt_trans h.2 (by decide)⟩
theorem shb_wish {k m : Nat} {ws : List (Option Int)} (hr : Wr ws) (hm : ws.length * 254 + 3 ≤ m) : Shb (k + 1) m (wishD ws) := ⟨252, fun d hd => by
  obtain ⟨o, ho, rfl⟩ := List.mem_map.mp hd
  cases o with
  | none =>
    have h2 : Shb k 252 .non = (4 ≤ 252) := by cases k <;> rfl
    show Shb k 252 .non
    rw [h2]
    decide
  | some v =>
    have h2 : Shb k 252 (.int v) = (-(2 ^ 250) < v ∧ v < 2 ^ 250 ∧ 252 ≤ 252) := by cases k <;> rfl
    show Shb k 252 (.int v)
    rw [h2]
    have := wr_in (hr v ho)
    exact ⟨this.1, this.2, Nat.le_refl _⟩, by rw [List.length_map]; exact hm⟩
theorem wish_pt {n : Nat} {ws : List (Option Int)} (hr : Wr ws) (hm : ws.length * 254 + 3 ≤ n) : PtOk n (wishD ws) := .inr ⟨rfl, shb_wish hr hm, noL_wish ws⟩
theorem files_ok {ms : List Int} {F : Int → List Nat} {p c : Nat} (hr : ∀ v ∈ ms, 0 ≤ v ∧ v < 1000000) (hF : FOk ms F p c) (hp : p ≤ 10 ^ 9) : DkOk (c * 254 + 3) (filesD ms F) := fun e he => by
  obtain ⟨v, hv, rfl⟩ := List.mem_map.mp he
  have := wr_in (hr v hv)
  obtain ⟨h1, h2⟩ := hF v hv
  refine ⟨⟨v, rfl, this.1, this.2⟩, ?_, noL_lot _⟩
  exact shb_lot (fun x hx => Nat.lt_of_lt_of_le (Nat.lt_of_lt_of_le (h2 x hx) hp) (by decide)) (by rw [h1]; exact Nat.le_refl _)
theorem files_pt {n : Nat} {ms : List Int} {F : Int → List Nat} {p c : Nat} (hr : ∀ v ∈ ms, 0 ≤ v ∧ v < 1000000) (hF : FOk ms F p c) (hp : p ≤ 10 ^ 9) (hn : ms.length * (c * 254 + 3 + 260) + 10 ≤ n) : PtOk n (.dk (filesD ms F)) :=
  .inl ⟨_, _, rfl, files_ok hr hF hp, by rw [filesD_len]; exact hn⟩
/-- the pair of sheets and wishes of a few people -/
theorem kept_pt {ms : List Int} {F : Int → List Nat} {p c : Nat} {ws : List (Option Int)} (hr : Wr ws) (hms : ∀ v, v ∈ ms ↔ some v ∈ ws) (hml : ms.length ≤ ws.length) (hl : ws.length ≤ 6) (hF : FOk ms F p c) (hp : p ≤ 10 ^ 9) (hc : c ≤ 64) :
    ∀ x ∈ [D.dk (filesD ms F), wishD ws], PtOk 200000 x := fun x hx => by
  rcases List.mem_cons.mp hx with rfl | hx
  · refine files_pt (fun v hv => hr v ((hms v).mp hv)) hF hp ?_
    have h1 : ms.length * (c * 254 + 3 + 260) ≤ 6 * (64 * 254 + 3 + 260) := Nat.mul_le_mul (by omega) (by omega)
    omega
  · rw [List.mem_singleton] at hx
    subst hx
    exact wish_pt hr (by omega)
theorem sheet_at {ws : List (Option Int)} {ms : List Int} (hms : ∀ v, v ∈ ms ↔ some v ∈ ws) {h : Nat} (h1 : h < ws.length) (h2 : (wish ws h).isSome = true) : wv ws h ∈ ms := by
  rw [hms]
  unfold wv
  cases e : wish ws h with
  | none => rw [e] at h2; cases h2
  | some v =>
    unfold wish at e
    rw [List.getD_eq_getElem?_getD, List.getElem?_eq_getElem h1] at e
    have e : ws[h] = some v := e
    rw [Option.getD_some, ← e]
    exact List.getElem_mem h1
theorem wv_wr {ws : List (Option Int)} (hr : Wr ws) {h : Nat} (h1 : h < ws.length) (h2 : (wish ws h).isSome = true) : 0 ≤ wv ws h ∧ wv ws h < 1000000 := by
  refine hr _ ?_
  unfold wv
  cases e : wish ws h with
  | none => rw [e] at h2; cases h2
  | some v =>
    unfold wish at e
    rw [List.getD_eq_getElem?_getD, List.getElem?_eq_getElem h1] at e
    have e : ws[h] = some v := e
    rw [Option.getD_some, ← e]
    exact List.getElem_mem h1
def dueD (ws : List (Option Int)) (lot : List Nat) : D := .tup ((wl ws lot).map (trmD ws lot))
theorem shb_due {ws : List (Option Int)} {lot : List Nat} (hr : Wr ws) (hl : ws.length ≤ 60) (L : Lot ws.length 0 lot) : ∃ m, Shb 40 m (dueD ws lot) ∧ m ≤ sizeLine := by
  have hz := sizeLine_eq
  have hll := L.drop_ok
  refine ⟨3000000, ⟨45738, fun d hd => ?_, ?_⟩, by omega⟩
  · obtain ⟨h, hh, rfl⟩ := List.mem_map.mp hd
    obtain ⟨h1, h2⟩ := List.mem_filter.mp hh
    have hw := wr_in (wv_wr hr (L.mem h h1).2 h2)
    refine ⟨15243, fun e he => ?_, by simp only [List.length_cons, List.length_nil]; omega⟩
    simp only [List.mem_cons, List.not_mem_nil, or_false] at he
    rcases he with rfl | rfl | rfl
    · have hs : -(2 ^ 250) < sg h lot ∧ sg h lot < 2 ^ 250 := by
        unfold sg
        rcases sgn_cases ((lot.filter fun x => decide (x < h)).length) with e | e <;> (rw [e]; decide)
      exact ⟨hs.1, hs.2, by decide⟩
    · exact ⟨hw.1, hw.2, by decide⟩
    · refine shb_lot (fun x hx => ?_) ?_
      · have h3 := (L.mem x (List.mem_filter.mp hx).1).2
        exact Nat.lt_trans h3 (Nat.lt_of_le_of_lt hl (by decide))
      · have : (wo lot h).length ≤ lot.length := List.length_filter_le _ _
        omega
  · have : (wl ws lot).length ≤ lot.length := List.length_filter_le _ _
    rw [List.length_map]
    omega
theorem mod_in {z : Int} {p : Nat} (h0 : 0 < p) (hp : p ≤ 10 ^ 9) : ∃ n, Shb 40 n (.int (z % (p : Int))) ∧ n ≤ sizeLine := by
  have h1 := Int.emod_nonneg z (by omega : (p : Int) ≠ 0)
  have h2 := Int.emod_lt_of_pos z (by omega : 0 < (p : Int))
  exact shb_i (Int.lt_of_lt_of_le (by decide) h1) (Int.lt_trans h2 (Int.lt_of_le_of_lt (by omega : (p : Int) ≤ 10 ^ 9) (by decide)))
end DL

/-! SrtP: sorted pairs of a lot and a number. -/
namespace DL
open PySem PySem.Spec PyProof.Rows L2
def prD (e : List Nat × Int) : D := .tup [lotD e.1, .int e.2]
theorem toPs_ints : ∀ l : List Int, toPs (l.map D.int) = l.map PyData.int
  | [] => rfl
  | x :: l => by
    show PyData.int x :: toPs (l.map D.int) = _
    rw [toPs_ints l]
    rfl
theorem toP_lot (l : List Nat) : toP (lotD l) = .tuple ((iL l).map .int) := by
  show PyData.tuple (toPs ((iL l).map D.int)) = _
  rw [toPs_ints]
theorem toP_pr (e : List Nat × Int) : toP (prD e) = .tuple [.tuple ((iL e.1).map .int), .int e.2] := by
  show PyData.tuple [toP (lotD e.1), .int e.2] = _
  rw [toP_lot]
theorem eqv_ints : ∀ xs ys : List Int, PyData.eqvAll (xs.map .int) (ys.map .int) = decide (xs = ys)
  | [], [] => by simp [PyData.eqvAll]
  | [], _ :: _ => by simp [PyData.eqvAll]
  | _ :: _, [] => by simp [PyData.eqvAll]
  | x :: xs, y :: ys => by
    rw [List.map_cons, List.map_cons, PySem.W.eqv_all_cons, eqv_ints xs ys]
    simp only [PyData.eqv]
    rw [Bool.eq_iff_iff]
    simp
theorem lex_lt : ∀ l m : List Nat, decide (iL l < iL m) = lexN l m
  | [], [] => by simp [lexN, iL]
  | [], _ :: _ => by simp [lexN, iL]
  | _ :: _, [] => by simp [lexN, iL]
  | x :: l, y :: m => by
    rw [lexN_cons, ← lex_lt l m]
    unfold iL
    rw [List.map_cons, List.map_cons]
    simp only [List.cons_lt_cons_iff]
    by_cases c : x = y
    · subst c
      rw [if_pos rfl]
      simp
    · rw [if_neg c]
      have c' : ¬ (x : Int) = (y : Int) := by omega
      simp [c']
theorem lexN_of_not {l m : List Nat} (h : lexN m l = false) (ne : l ≠ m) : lexN l m = true := by
  rw [← lex_lt] at h ⊢
  have h1 := of_decide_eq_false h
  have h2 : iL l ≤ iL m := List.not_lt.mp h1
  refine decide_eq_true ?_
  rcases List.le_iff_lt_or_eq.mp h2 with h | h
  · exact h
  · exact absurd (iL_inj h) ne
theorem alike_pr (e f : List Nat × Int) : PySem.W.alike (toP (prD e)) (toP (prD f)) = true := by
  rw [toP_pr, toP_pr]
  simp [PySem.W.alike, PySem.W.alikeAll, PySem.W.alike_ints]
theorem dataLt_pr {e f : List Nat × Int} (ne : e.1 ≠ f.1) : PySem.W.dataLt (toP (prD e)) (toP (prD f)) = lexN e.1 f.1 := by
  rw [toP_pr, toP_pr, PySem.W.dataLt_pair (by simp [PySem.W.alike, PySem.W.alike_ints]) (by simp [PySem.W.alike])]
  have h1 : PyData.eqv (.tuple ((iL e.1).map .int)) (.tuple ((iL f.1).map .int)) = false := by
    simp only [PyData.eqv]
    rw [eqv_ints]
    exact decide_eq_false fun h => ne (iL_inj h)
  rw [h1, if_neg (by decide), PySem.W.dataLt_tuple]
  have h2 := PySem.W.dataLt_ints (iL e.1) (iL f.1)
  unfold PySem.W.rowLt at h2
  rw [h2]
  exact lex_lt _ _
theorem shb_pr {e : List Nat × Int} (h1 : ∀ x ∈ e.1, x < 2 ^ 250) (h2 : -(2 ^ 250) < e.2 ∧ e.2 < 2 ^ 250) : Shb 30 (2 * (e.1.length * 254 + 257 + 2) + 3) (prD e) := by
  refine ⟨e.1.length * 254 + 257, fun d hd => ?_, Nat.le_refl _⟩
  simp only [List.mem_cons, List.not_mem_nil, or_false] at hd
  rcases hd with rfl | rfl
  · exact shb_lot h1 (by omega)
  · exact ⟨h2.1, h2.2, by omega⟩
theorem sort_pr {μ : Mu} {Q : DQ} {d : D} {xs : List (List Nat × Int)} (h : see μ d = .lst (xs.map prD)) (hb : ∀ e ∈ xs, (∀ x ∈ e.1, x < 2 ^ 250) ∧ -(2 ^ 250) < e.2 ∧ e.2 < 2 ^ 250) (nd : (xs.map (·.1)).Nodup)
    (q : ∀ ys : List (List Nat × Int), ys.Perm xs → ys.Pairwise (fun a b => lexN a.1 b.1 = true) → Q (.lst (ys.map prD)) μ) : fSortX [d] μ Q := by
  have em := List.map_mergeSort (r := PySem.W.dataLe false fun e : List Nat × Int => toP (prD e)) (s := leD) (f := prD) (l := xs) fun a _ b _ => rfl
  refine ⟨d, xs.map prD, rfl, h, fun x hx => ?_, ?_, ?_, ?_⟩
  · obtain ⟨e, he, rfl⟩ := List.mem_map.mp hx
    exact ⟨_, shb_pr (hb e he).1 (hb e he).2⟩
  · rw [List.map_map]
    exact PySem.W.AllAlike.of alike_pr
  · rw [List.map_map]
    exact PySem.W.Sortable.tuples fun e => ⟨_, _, toP_pr e⟩
  · rw [← em]
    have pm := List.mergeSort_perm xs (PySem.W.dataLe false fun e : List Nat × Int => toP (prD e))
    refine q _ pm ?_
    have pw := PySem.W.sort_pairwise (PySem.W.sortLe_total (PyProof.Rows.listOrd PyProof.Rows.itemOrd) false fun e : List Nat × Int => PySem.W.keyToks (toP (prD e))) xs
    have nd2 : ((xs.mergeSort (PySem.W.dataLe false fun e : List Nat × Int => toP (prD e))).map (·.1)).Nodup := (pm.map _).nodup_iff.mpr nd
    rw [List.nodup_iff_pairwise_ne, List.pairwise_map] at nd2
    refine (List.Pairwise.and pw nd2).imp fun {a b} h => ?_
    obtain ⟨h1, h2⟩ := h
    refine lexN_of_not ?_ h2
    rw [← dataLt_pr (Ne.symm h2)]
    have h1 : (!PySem.W.dataLt (toP (prD b)) (toP (prD a))) = true := h1
    rw [Bool.not_eq_true'] at h1
    exact h1
/-- sorted lists of the same entries are the same -/
theorem sorted_unique {xs ys : List (List Nat × Int)} (pm : xs.Perm ys) (h1 : xs.Pairwise (fun a b => lexN a.1 b.1 = true)) (h2 : ys.Pairwise (fun a b => lexN a.1 b.1 = true)) : xs = ys := by
  refine List.Perm.eq_of_pairwise (le := fun a b => lexN a.1 b.1 = true) (fun a b _ _ h3 h4 => ?_) h1 h2 pm
  exfalso
  rw [← lex_lt] at h3 h4
  exact List.lt_asymm (of_decide_eq_true h3) (of_decide_eq_true h4)
end DL

/-! TolM: signs of rows, sums over choices, the law of the cries left out. -/
namespace DL
/-! ### signs -/
def s2 (a b : Nat) : Int := if b < a then -1 else 1
theorem s2_sq (a b : Nat) : s2 a b * s2 a b = 1 := by unfold s2; split <;> rfl
theorem s2_swap {a b : Nat} (h : a ≠ b) : s2 b a = - s2 a b := by
  unfold s2
  by_cases c : b < a
  · rw [if_pos c, if_neg (by omega)]
    rfl
  · rw [if_neg c, if_pos (by omega)]
/-- a against all of a list -/
def c2 (a : Nat) : List Nat → Int
  | [] => 1
  | x :: l => s2 a x * c2 a l
/-- the sign of sorting a row -/
def sig : List Nat → Int
  | [] => 1
  | a :: l => c2 a l * sig l
theorem c2_append (a : Nat) : ∀ l m : List Nat, c2 a (l ++ m) = c2 a l * c2 a m
  | [], m => by rw [List.nil_append, c2, Int.one_mul]
  | x :: l, m => by rw [List.cons_append, c2, c2, c2_append a l m, Int.mul_assoc]
theorem c2_perm {a : Nat} {l m : List Nat} (h : l.Perm m) : c2 a l = c2 a m := by
  induction h with
  | nil => rfl
  | cons x _ ih => rw [c2, c2, ih]
  | swap x y l => rw [c2, c2, c2, c2, ← Int.mul_assoc, ← Int.mul_assoc, Int.mul_comm (s2 a y)]
  | trans _ _ h1 h2 => rw [h1, h2]
/-- all of one list against all of another -/
def x2 : List Nat → List Nat → Int
  | [], _ => 1
  | a :: l, m => c2 a m * x2 l m
theorem x2_perm {l m k : List Nat} (h : m.Perm k) : x2 l m = x2 l k := by
  induction l with
  | nil => rfl
  | cons a l ih => rw [x2, x2, c2_perm h, ih]
theorem sig_append : ∀ l m : List Nat, sig (l ++ m) = sig l * sig m * x2 l m
  | [], m => by rw [List.nil_append, sig, x2, Int.one_mul, Int.mul_one]
  | a :: l, m => by
    rw [List.cons_append, sig, sig, x2, sig_append l m, c2_append]
    simp only [Int.mul_assoc, Int.mul_left_comm, Int.mul_comm]
theorem sq_cases {z : Int} (h : z = 1 ∨ z = -1) : z * z = 1 := by rcases h with rfl | rfl <;> rfl
theorem s2_cases (a b : Nat) : s2 a b = 1 ∨ s2 a b = -1 := by
  unfold s2
  split
  · exact .inr rfl
  · exact .inl rfl
theorem pm_mul {y z : Int} (h : y = 1 ∨ y = -1) (k : z = 1 ∨ z = -1) : y * z = 1 ∨ y * z = -1 := by
  rcases h with rfl | rfl <;> rcases k with rfl | rfl <;> decide
theorem c2_cases (a : Nat) : ∀ l : List Nat, c2 a l = 1 ∨ c2 a l = -1
  | [] => .inl rfl
  | x :: l => pm_mul (s2_cases a x) (c2_cases a l)
theorem sig_cases : ∀ l : List Nat, sig l = 1 ∨ sig l = -1
  | [] => .inl rfl
  | a :: l => pm_mul (c2_cases a l) (sig_cases l)
/-- all of a list against b -/
def d2 (b : Nat) : List Nat → Int
  | [] => 1
  | x :: l => s2 x b * d2 b l
theorem d2_c2 {b : Nat} : ∀ {l : List Nat}, b ∉ l → d2 b l = c2 b l * (if l.length % 2 = 0 then 1 else -1)
  | [], _ => rfl
  | x :: l, h => by
    rw [List.mem_cons, not_or] at h
    rw [d2, c2, d2_c2 h.2, s2_swap h.1, List.length_cons]
    by_cases c : l.length % 2 = 0
    · rw [if_pos c, if_neg (by omega)]
      simp only [Int.neg_mul, Int.mul_neg, Int.mul_one]
    · rw [if_neg c, if_pos (by omega)]
      simp only [Int.neg_mul, Int.mul_neg, Int.mul_one, Int.neg_neg]
theorem sig_snoc : ∀ (l : List Nat) (b : Nat) (r : List Nat), sig (l ++ b :: r) = d2 b l * sig (l ++ r) * c2 b r
  | [], b, r => by rw [List.nil_append, List.nil_append, sig, d2, Int.one_mul, Int.mul_comm]
  | a :: l, b, r => by
    rw [List.cons_append, List.cons_append, sig, sig, d2, sig_snoc l b r, c2_append, c2_append, c2]
    simp only [Int.mul_assoc, Int.mul_left_comm, Int.mul_comm]
/-- to exchange two changes the sign -/
theorem sig_swap {a b : Nat} {m r : List Nat} (ne : a ≠ b) (ha : a ∉ m) (hb : b ∉ m) : sig (b :: m ++ a :: r) = - sig (a :: m ++ b :: r) := by
  have e1 : ∀ x y : Nat, x ∉ m → y ∉ m → sig (x :: m ++ y :: r) = s2 x y * (c2 x m * c2 y m) * (c2 x r * c2 y r) * (if m.length % 2 = 0 then 1 else -1) * sig (m ++ r) := fun x y hx hy => by
    rw [List.cons_append, sig, c2_append, c2, sig_snoc, d2_c2 hy]
    simp only [Int.mul_assoc, Int.mul_left_comm, Int.mul_comm]
  rw [e1 b a hb ha, e1 a b ha hb, s2_swap ne, Int.mul_comm (c2 b m), Int.mul_comm (c2 b r)]
  simp only [Int.neg_mul]
theorem sig_swap' {a b : Nat} {l m r : List Nat} (ne : a ≠ b) (ha : a ∉ m) (hb : b ∉ m) : sig (l ++ b :: m ++ a :: r) = - sig (l ++ a :: m ++ b :: r) := by
  rw [List.append_assoc, List.append_assoc, sig_append, sig_append l]
  have h1 := sig_swap (r := r) ne ha hb
  rw [List.cons_append, List.cons_append] at h1
  rw [List.cons_append, List.cons_append, h1]
  have pm : (b :: (m ++ a :: r)).Perm (a :: (m ++ b :: r)) := by
    have q1 : (m ++ a :: r).Perm (a :: (m ++ r)) := List.perm_middle
    have q2 : (m ++ b :: r).Perm (b :: (m ++ r)) := List.perm_middle
    exact ((q1.cons b).trans (List.Perm.swap a b (m ++ r))).trans (q2.symm.cons a)
  rw [x2_perm pm]
  simp only [Int.mul_neg, Int.neg_mul]
/-- a sorted row has the sign 1 -/
theorem c2_less {a : Nat} : ∀ {l : List Nat}, (∀ x ∈ l, a < x) → c2 a l = 1
  | [], _ => rfl
  | x :: l, h => by
    have h1 := h x List.mem_cons_self
    rw [c2, c2_less fun y hy => h y (List.mem_cons_of_mem _ hy), Int.mul_one]
    unfold s2
    exact if_neg (by omega)
theorem sig_sorted : ∀ {l : List Nat}, l.Pairwise (· < ·) → sig l = 1
  | [], _ => rfl
  | a :: l, h => by
    obtain ⟨h1, h2⟩ := List.pairwise_cons.mp h
    rw [sig, c2_less h1, sig_sorted h2]
    rfl
/-- a hand ahead of the sorted others -/
theorem c2_sg (h : Nat) : ∀ l : List Nat, c2 h l = sg h l
  | [] => rfl
  | x :: l => by
    rw [c2, c2_sg h l]
    unfold sg s2
    rw [List.filter_cons]
    by_cases c : x < h
    · rw [if_pos c, if_pos (decide_eq_true c), List.length_cons]
      generalize (l.filter fun x => decide (x < h)).length = k
      unfold sgn
      by_cases d : k % 2 = 0
      · rw [if_pos d, if_neg (by omega)]
        rfl
      · rw [if_neg d, if_pos (by omega)]
        rfl
    · rw [if_neg c, if_neg (by rw [decide_eq_false c]; decide), Int.one_mul]
theorem sg_wo (h : Nat) (l : List Nat) : sg h (wo l h) = sg h l := by
  unfold sg wo
  rw [List.filter_filter]
  congr 2
  refine List.filter_congr fun x _ => ?_
  by_cases c : x < h
  · have : ¬ x = h := by omega
    simp [c, this]
  · simp [c]
/-- moving a hand of a sorted row to its head -/
theorem sig_head {h : Nat} {l r : List Nat} (hl : l.Pairwise (· < ·)) (hm : h ∈ l) : sig (r ++ l) * sg h l = sig (r ++ h :: wo l h) := by
  have pm : (h :: wo l h).Perm l := by
    have e : wo l h = l.erase h := by
      have nd : l.Nodup := hl.imp fun h => Nat.ne_of_lt h
      unfold wo
      rw [nd.erase_eq_filter]
      congr 1
    rw [e]
    exact (List.perm_cons_erase hm).symm
  have hw : sig (wo l h) = 1 := sig_sorted (List.Pairwise.filter _ hl)
  rw [sig_append r l, sig_append r, x2_perm pm, sig, c2_sg, sg_wo, sig_sorted hl, hw, Int.mul_one, Int.mul_one]
  rw [Int.mul_assoc, Int.mul_comm (x2 r l), ← Int.mul_assoc]
/-! ### choices -/
def chs : List (List Nat) → List (List Nat)
  | [] => [[]]
  | c :: cs => c.flatMap fun a => (chs cs).map (a :: ·)
theorem sum_flatMap' {α β : Type} {f : α → List β} {g : β → Int} : ∀ l : List α, ((l.flatMap f).map g).sum = (l.map fun a => ((f a).map g).sum).sum
  | [] => rfl
  | a :: l => by rw [List.flatMap_cons, List.map_append, List.sum_append, List.map_cons, List.sum_cons, sum_flatMap' l]
theorem sum_comm' {α β : Type} {f : α → β → Int} {m : List β} : ∀ l : List α, (l.map fun a => (m.map fun b => f a b).sum).sum = (m.map fun b => (l.map fun a => f a b).sum).sum
  | [] => by
    rw [List.map_nil, List.sum_nil]
    induction m with
    | nil => rfl
    | cons b m ih => rw [List.map_cons, List.sum_cons, ← ih]; rfl
  | a :: l => by
    rw [List.map_cons, List.sum_cons, sum_comm' l]
    induction m with
    | nil => rfl
    | cons b m ih =>
      rw [List.map_cons, List.sum_cons, List.map_cons, List.sum_cons, List.map_cons, List.sum_cons, ← ih, List.map_cons, List.sum_cons]
      omega
theorem sum_zero {α : Type} {f : α → Int} : ∀ {l : List α}, (∀ a ∈ l, f a = 0) → (l.map f).sum = 0
  | [], _ => rfl
  | a :: l, h => by rw [List.map_cons, List.sum_cons, h a List.mem_cons_self, sum_zero fun b hb => h b (List.mem_cons_of_mem _ hb)]; rfl
theorem sum_congr' {α : Type} {f g : α → Int} {l : List α} (h : ∀ a ∈ l, f a = g a) : (l.map f).sum = (l.map g).sum := by rw [List.map_congr_left h]
theorem sum_neg' {α : Type} {f : α → Int} : ∀ l : List α, (l.map fun a => - f a).sum = - (l.map f).sum
  | [] => rfl
  | a :: l => by rw [List.map_cons, List.sum_cons, List.map_cons, List.sum_cons, sum_neg' l]; omega
theorem anti_zero {α : Type} {f : α → α → Int} {l : List α} (h : ∀ a ∈ l, ∀ b ∈ l, f a b = - f b a) : (l.map fun a => (l.map fun b => f a b).sum).sum = 0 := by
  have h1 := sum_comm' (f := f) (m := l) l
  have h2 : (l.map fun b => (l.map fun a => f a b).sum).sum = - (l.map fun a => (l.map fun b => f a b).sum).sum := by
    rw [← sum_neg']
    refine sum_congr' fun a ha => ?_
    rw [← sum_neg']
    exact sum_congr' fun b hb => h b hb a ha
  omega
/-- the place of one class, last -/
theorem chs_mid (g : List Nat → Int) : ∀ (A : List (List Nat)) (C : List Nat) (B : List (List Nat)), ((chs (A ++ C :: B)).map g).sum = ((chs A).map fun x => ((chs B).map fun y => (C.map fun a => g (x ++ a :: y)).sum).sum).sum
  | [], C, B => by
    show ((C.flatMap fun a => (chs B).map (a :: ·)).map g).sum = (([[]] : List (List Nat)).map fun x => ((chs B).map fun y => (C.map fun a => g (x ++ a :: y)).sum).sum).sum
    rw [sum_flatMap', List.map_cons, List.map_nil, List.sum_cons, List.sum_nil, Int.add_zero, ← sum_comm']
    refine sum_congr' fun a _ => ?_
    rw [List.map_map]
    rfl
  | c :: A, C, B => by
    rw [List.cons_append, chs, chs, sum_flatMap', sum_flatMap']
    refine sum_congr' fun a _ => ?_
    rw [List.map_map, List.map_map, chs_mid (g ∘ (a :: ·)) A C B]
    rfl
theorem chs_mem : ∀ {cs : List (List Nat)} {x : List Nat}, x ∈ chs cs → x.length = cs.length ∧ ∀ (i : Nat) a c, x[i]? = some a → cs[i]? = some c → a ∈ c
  | [], x, h => by
    rw [chs, List.mem_singleton] at h
    subst h
    exact ⟨rfl, fun i a c h => by simp at h⟩
  | c :: cs, x, h => by
    rw [chs, List.mem_flatMap] at h
    obtain ⟨a, ha, h⟩ := h
    obtain ⟨y, hy, rfl⟩ := List.mem_map.mp h
    obtain ⟨h1, h2⟩ := chs_mem hy
    refine ⟨by rw [List.length_cons, List.length_cons, h1], fun i b d e1 e2 => ?_⟩
    cases i with
    | zero =>
      rw [List.getElem?_cons_zero] at e1 e2
      cases e1
      cases e2
      exact ha
    | succ i =>
      rw [List.getElem?_cons_succ] at e1 e2
      exact h2 i b d e1 e2
end DL

/-! TolN: the law of the cries left out. -/
namespace DL
def rst (E row : List Nat) : List Nat := E.filter fun x => !decide (x ∈ row)
def clw (ws : List (Option Int)) (E : List Nat) (v : Int) : List Nat := E.filter fun h => decide (wish ws h = some v)
def cls (ws : List (Option Int)) (E : List Nat) (ms : List Int) : List (List Nat) := ms.map (clw ws E)
/-- a cry of pieces of any kind -/
def cryP (ws : List (Option Int)) (P : Int → List Nat → Int) (lot : List Nat) : Int := ((wl ws lot).map fun h => sg h lot * P (wv ws h) (wo lot h)).sum
theorem mem_clw {ws : List (Option Int)} {E : List Nat} {v : Int} {h : Nat} : h ∈ clw ws E v ↔ h ∈ E ∧ wish ws h = some v := by
  unfold clw
  rw [List.mem_filter, decide_eq_true_eq]
theorem mem_rst {E row : List Nat} {x : Nat} : x ∈ rst E row ↔ x ∈ E ∧ x ∉ row := by
  unfold rst
  rw [List.mem_filter, Bool.not_eq_true', decide_eq_false_iff_not]
theorem chs_cls {ws : List (Option Int)} {E : List Nat} {ms : List Int} {y : List Nat} (h : y ∈ chs (cls ws E ms)) {z : Nat} (hz : z ∈ y) : z ∈ E ∧ ∃ v ∈ ms, wish ws z = some v := by
  obtain ⟨h1, h2⟩ := chs_mem h
  obtain ⟨i, hi⟩ := List.mem_iff_getElem?.mp hz
  have hl : i < ms.length := by
    have := (List.getElem?_eq_some_iff.mp hi).1
    unfold cls at h1
    rw [List.length_map] at h1
    omega
  have hc : (cls ws E ms)[i]? = some (clw ws E ms[i]) := by
    unfold cls
    rw [List.getElem?_map, List.getElem?_eq_getElem hl]
    rfl
  obtain ⟨h3, h4⟩ := mem_clw.mp (h2 i z _ hi hc)
  exact ⟨h3, _, List.getElem_mem hl, h4⟩
/-- sums by what is wished -/
theorem sum_by {ws : List (Option Int)} {ms : List Int} (nd : ms.Nodup) {t : Nat → Int} : ∀ {E : List Nat}, (∀ h ∈ E, ∀ v, wish ws h = some v → v ∈ ms) → ((wl ws E).map t).sum = (ms.map fun v => ((clw ws E v).map t).sum).sum
  | [], _ => (sum_zero fun v _ => rfl).symm
  | h :: E, hm => by
    have ih := sum_by nd (t := t) (E := E) fun g hg => hm g (List.mem_cons_of_mem _ hg)
    have e1 : ∀ v, ((clw ws (h :: E) v).map t).sum = (if wish ws h = some v then t h else 0) + ((clw ws E v).map t).sum := fun v => by
      unfold clw
      rw [List.filter_cons]
      by_cases c : wish ws h = some v
      · rw [if_pos (decide_eq_true c), if_pos c, List.map_cons, List.sum_cons]
      · rw [if_neg (by rw [decide_eq_false c]; decide), if_neg c, Int.zero_add]
    have e2 : ∀ l : List Int, (l.map fun v => ((clw ws (h :: E) v).map t).sum).sum = (l.map fun v => if wish ws h = some v then t h else 0).sum + (l.map fun v => ((clw ws E v).map t).sum).sum := fun l => by
      induction l with
      | nil => rfl
      | cons v l ih => rw [List.map_cons, List.sum_cons, ih, e1, List.map_cons, List.sum_cons, List.map_cons, List.sum_cons]; omega
    rw [e2, ← ih]
    unfold wl
    rw [List.filter_cons]
    cases c : wish ws h with
    | none =>
      have z : (ms.map fun v => if (none : Option Int) = some v then t h else 0).sum = 0 := sum_zero fun v _ => if_neg (by simp)
      rw [if_neg (by decide), z, Int.zero_add]
    | some u =>
      rw [if_pos (by rfl), List.map_cons, List.sum_cons]
      have hu := hm h List.mem_cons_self u c
      have : ∀ l : List Int, l.Nodup → u ∈ l → (l.map fun v => if some u = some v then t h else 0).sum = t h := fun l nl hl => by
        induction l with
        | nil => cases hl
        | cons v l ih =>
          obtain ⟨n1, n2⟩ := List.nodup_cons.mp nl
          rw [List.map_cons, List.sum_cons]
          by_cases c1 : u = v
          · subst c1
            rw [if_pos rfl, sum_zero fun w hw => if_neg fun e => n1 (by rw [Option.some.inj e]; exact hw)]
            omega
          · rw [if_neg fun e => c1 (Option.some.inj e), ih n2 ((List.mem_cons.mp hl).resolve_left c1)]
            omega
      rw [this ms nd hu]
theorem sum_mul' {α : Type} {f : α → Int} {c : Int} : ∀ l : List α, c * (l.map f).sum = (l.map fun a => c * f a).sum
  | [] => Int.mul_zero c
  | a :: l => by rw [List.map_cons, List.sum_cons, List.map_cons, List.sum_cons, Int.mul_add, sum_mul' l]
theorem wl_rst {ws : List (Option Int)} {row : List Nat} {g : Nat → Int} (hg : ∀ h ∈ row, g h = 0) : ∀ {E : List Nat}, ((wl ws E).map g).sum = ((wl ws (rst E row)).map g).sum
  | [] => rfl
  | x :: E => by
    have ih := wl_rst (ws := ws) hg (E := E)
    unfold wl rst at ih ⊢
    by_cases c : x ∈ row
    · have e : (x :: E).filter (fun x => !decide (x ∈ row)) = E.filter fun x => !decide (x ∈ row) := List.filter_cons_of_neg (by rw [decide_eq_true c]; decide)
      rw [e, ← ih, List.filter_cons]
      split
      · rw [List.map_cons, List.sum_cons, hg x c, Int.zero_add]
      · rfl
    · have e : (x :: E).filter (fun x => !decide (x ∈ row)) = x :: E.filter fun x => !decide (x ∈ row) := List.filter_cons_of_pos (by rw [decide_eq_false c]; rfl)
      rw [e, List.filter_cons, List.filter_cons]
      split
      · rw [List.map_cons, List.sum_cons, List.map_cons, List.sum_cons, ih]
      · exact ih
/-- what a row and a hand beside it bring -/
def trm (P : Int → List Nat → Int) (E row : List Nat) (v : Int) (h : Nat) : Int :=
  if h ∈ row then 0 else sig (row ++ h :: (E.filter fun x => !decide (x ∈ row) && !decide (x = h))) * P v (E.filter fun x => !decide (x ∈ row) && !decide (x = h))
theorem row_terms {ws : List (Option Int)} {P : Int → List Nat → Int} {E : List Nat} {ms : List Int} (hE : E.Pairwise (· < ·)) (nd : ms.Nodup) (hm : ∀ h ∈ E, ∀ v, wish ws h = some v → v ∈ ms) (row : List Nat) :
    sig (row ++ rst E row) * cryP ws P (rst E row) = (ms.map fun v => ((clw ws E v).map (trm P E row v)).sum).sum := by
  have hR : (rst E row).Pairwise (· < ·) := List.Pairwise.filter _ hE
  have e1 : sig (row ++ rst E row) * cryP ws P (rst E row) = ((wl ws (rst E row)).map fun h => trm P E row (wv ws h) h).sum := by
    unfold cryP
    rw [sum_mul']
    refine sum_congr' fun h hh => ?_
    have hr := (List.mem_filter.mp hh).1
    obtain ⟨h1, h2⟩ := mem_rst.mp hr
    have ew : wo (rst E row) h = E.filter fun x => !decide (x ∈ row) && !decide (x = h) := by
      unfold wo rst
      rw [List.filter_filter]
      exact List.filter_congr fun x _ => Bool.and_comm _ _
    unfold trm
    rw [if_neg h2, ← ew, ← sig_head hR hr, Int.mul_assoc]
  have e2 : ((wl ws E).map fun h => trm P E row (wv ws h) h).sum = ((wl ws (rst E row)).map fun h => trm P E row (wv ws h) h).sum := by
    exact wl_rst fun h hh => if_pos hh
  rw [e1, ← e2, sum_by nd hm]
  refine sum_congr' fun v _ => sum_congr' fun h hh => ?_
  have := (mem_clw.mp hh).2
  unfold wv
  rw [this]
  rfl
/-- the law -/
theorem told_zero {ws : List (Option Int)} {P : Int → List Nat → Int} {E : List Nat} {ms : List Int} (hE : E.Pairwise (· < ·)) (nd : ms.Nodup) (hm : ∀ h ∈ E, ∀ v, wish ws h = some v → v ∈ ms) :
    ((chs (cls ws E ms)).map fun row => sig (row ++ rst E row) * cryP ws P (rst E row)).sum = 0 := by
  rw [sum_congr' fun row _ => row_terms hE nd hm row, sum_comm']
  refine sum_zero fun v hv => ?_
  obtain ⟨A, B, rfl⟩ := List.append_of_mem hv
  have ec : cls ws E (A ++ v :: B) = cls ws E A ++ clw ws E v :: cls ws E B := by
    unfold cls
    rw [List.map_append, List.map_cons]
  rw [ec, chs_mid]
  refine sum_zero fun x hx => sum_zero fun y hy => ?_
  have ndv : v ∉ A ∧ v ∉ B := by
    obtain ⟨n1, n2, n3⟩ := List.nodup_append.mp nd
    exact ⟨fun h => n3 _ h _ List.mem_cons_self rfl, (List.nodup_cons.mp n2).1⟩
  have out : ∀ h ∈ clw ws E v, h ∉ x ∧ h ∉ y := fun h hh => by
    have e := (mem_clw.mp hh).2
    refine ⟨fun c => ?_, fun c => ?_⟩
    · obtain ⟨_, u, hu, eu⟩ := chs_cls hx c
      rw [e] at eu
      cases eu
      exact ndv.1 hu
    · obtain ⟨_, u, hu, eu⟩ := chs_cls hy c
      rw [e] at eu
      cases eu
      exact ndv.2 hu
  refine anti_zero (f := fun a h => trm P E (x ++ a :: y) v h) fun a ha h hh => ?_
  obtain ⟨a1, a2⟩ := out a ha
  obtain ⟨h1, h2⟩ := out h hh
  by_cases c : a = h
  · subst c
    have : trm P E (x ++ a :: y) v a = 0 := if_pos (by simp)
    rw [this]
    rfl
  · have m1 : h ∉ x ++ a :: y := by
      simp only [List.mem_append, List.mem_cons, not_or]
      exact ⟨h1, fun e => c e.symm, h2⟩
    have m2 : a ∉ x ++ h :: y := by
      simp only [List.mem_append, List.mem_cons, not_or]
      exact ⟨a1, c, a2⟩
    have ef : (E.filter fun z => !decide (z ∈ x ++ a :: y) && !decide (z = h)) = E.filter fun z => !decide (z ∈ x ++ h :: y) && !decide (z = a) := by
      refine List.filter_congr fun z _ => ?_
      rw [Bool.eq_iff_iff]
      simp only [Bool.and_eq_true, Bool.not_eq_true', decide_eq_false_iff_not, List.mem_append, List.mem_cons, not_or]
      exact ⟨fun ⟨⟨p, q, r⟩, s⟩ => ⟨⟨p, s, r⟩, q⟩, fun ⟨⟨p, q, r⟩, s⟩ => ⟨⟨p, s, r⟩, q⟩⟩
    unfold trm
    rw [if_neg m1, if_neg m2, ef]
    generalize (E.filter fun z => !decide (z ∈ x ++ h :: y) && !decide (z = a)) = X
    have := sig_swap' (l := x) (m := y) (r := X) (a := h) (b := a) (Ne.symm c) h2 a2
    rw [this, Int.neg_mul]
end DL

/-! TolP: sorting_sign, choices. -/
namespace DL
open PySem PySem.Spec PyProof.Rows L2
theorem lc_acc {α : Type} {tg : DG} {tt : DB} {te : DT} {G : Mu → Prop} {ρ0 : Rho} {Q : List D → Mu → Prop} {μ : Mu} (g : α → D) (p : α → Bool) (f : α → D) (hG : G μ) : ∀ (xs : List α) (acc : List D), acc.length + xs.length ≤ sizeLine →
    (∀ (x : α) (K1 : D → Mu → Prop) (K2 : Mu → Prop), x ∈ xs → (p x = true → K1 (f x) μ) → (p x = false → K2 μ) → tg (g x) ρ0 μ fun ρ2 μ2 => tt ρ2 μ2 fun b μ3 => if b = true then te ρ2 μ3 K1 else K2 μ3) →
    Q (acc ++ (xs.filter p).map f) μ → lcGo tg tt te G ρ0 Q (xs.map g) acc μ
  | [], acc, _, _, hd => by
    rw [List.filter_nil, List.map_nil, List.append_nil] at hd
    exact ⟨hG, hd⟩
  | x :: xs, acc, hn, hs, hd => by
    rw [List.length_cons] at hn
    refine ⟨hG, hs x _ _ List.mem_cons_self (fun hp => ⟨by omega, ?_⟩) fun hp => ?_⟩
    · refine lc_acc g p f hG xs _ (by rw [List.length_append, List.length_cons, List.length_nil]; omega) (fun y K1 K2 hy => hs y K1 K2 (List.mem_cons_of_mem _ hy)) ?_
      rw [List.filter_cons, if_pos hp, List.map_cons] at hd
      rw [List.append_assoc]
      exact hd
    · refine lc_acc g p f hG xs _ (by omega) (fun y K1 K2 hy => hs y K1 K2 (List.mem_cons_of_mem _ hy)) ?_
      rw [List.filter_cons, if_neg (by rw [hp]; decide)] at hd
      exact hd
theorem lc2_acc {α : Type} {tg : DG} {tt : DB} {wi1 : DIt} {g1 : DG} {tt1 : DB} {te : DT} {vs1 : List Nat} {G : Mu → Prop} {ρ0 : Rho} {Q : List D → Mu → Prop} {μ : Mu} (g : α → D) (F : α → List D) (hG : G μ) : ∀ (xs : List α) (acc : List D), acc.length + (xs.flatMap F).length ≤ sizeLine →
    (∀ (x : α) (acc : List D) (K : List D → Mu → Prop), x ∈ xs → acc.length + (F x).length ≤ sizeLine → K (acc ++ F x) μ → tg (g x) ρ0 μ fun ρ2 μ2 => tt ρ2 μ2 fun b μ3 => if b = true then wi1 ρ2 μ3 fun items1 G1 μ4 => lcGo g1 tt1 te G1 (dwipe ρ2 vs1) K items1 acc μ4 else K acc μ3) →
    Q (acc ++ xs.flatMap F) μ → lcGo2 tg tt wi1 g1 tt1 te vs1 G ρ0 Q (xs.map g) acc μ
  | [], acc, _, _, hd => by
    rw [List.flatMap_nil, List.append_nil] at hd
    exact ⟨hG, hd⟩
  | x :: xs, acc, hn, hs, hd => by
    rw [List.flatMap_cons, List.length_append] at hn
    refine ⟨hG, hs x acc _ List.mem_cons_self (by omega) ?_⟩
    refine lc2_acc g F hG xs _ (by rw [List.length_append]; omega) (fun y acc K hy => hs y acc K (List.mem_cons_of_mem _ hy)) ?_
    rw [List.flatMap_cons] at hd
    rw [List.append_assoc]
    exact hd
theorem lot_app (l m : List Nat) : (iL l).map D.int ++ (iL m).map D.int = (iL (l ++ m)).map D.int := by
  unfold iL
  rw [List.map_append, List.map_append]
/-! ### the sign of sorting -/
def cSortSign : DSp := fun ds μ Q => ∃ l : List Nat, ds = [lotD l] ∧ l.length ≤ 1000 ∧ Q (.int (sig l)) μ
def w_sortSign : DTS :=
  (dSeq (dAsg (dC (.int 1)) (gN 1))
  (dSeq (dFor (dIEnum (dCons (dVar 0) dNil)) (gTp 2 (gsCons (gN 2) (gsCons (gN 3) gsNil))) (dFor (dISeq (dSl (dVar 0) (dPt (dOp dAdd (dVar 2) (dC (.int 1)))) dNoP)) (gN 4) (dIfS (dT (dOp oLt (dVar 4) (dVar 3))) (dAsg (dNeg (dVar 1)) (gN 1)) dNext)))
  (dRet (dVar 1))))
theorem c2_snoc (a x : Nat) (l : List Nat) : c2 a (l ++ [x]) = c2 a l * s2 a x := by
  rw [c2_append, c2, c2, Int.mul_one]
theorem sortSign_ok (N : List Str) (hN : N.length = 5) : ∀ ds μ Q, cSortSign ds μ Q → w_sortSign { nx := fun _ μ' => fin Q .non μ', rt := fin Q } (dstart N ds) μ := by
  intro ds μ Q hc
  obtain ⟨l, rfl, hl, q⟩ := hc
  have hz := sizeLine_eq
  unfold w_sortSign
  refine seq_cut fun R hR => ?_
  simp only [dSim, hN]
  refine hR _ _ (seq_cut fun R1 hR1 => ?_)
  simp only [dSim, dFor, dIEnum]
  refine ⟨_, _, rfl, .inr rfl, ?_⟩
  refine for_inv (fun i ρ μ' => μ' = μ ∧ ∃ (z : Int) (x y u : Option D), z * sig (l.drop i) = sig l ∧ ρ = [some (lotD l), some (.int z), x, y, u])
    ⟨rfl, 1, none, none, none, by rw [List.drop_zero, Int.one_mul], rfl⟩ (fun _ _ _ _ h => by rw [h.1]) (fun i d ρ μ' N1 hi h hN1 => ?_) fun ρ μ' h => ?_
  · obtain ⟨rfl, z, x, y, u, hzz, rfl⟩ := h
    obtain ⟨e, he, rfl⟩ := enumD_get.mp hi
    rw [List.getElem?_map] at he
    unfold iL at he
    rw [List.getElem?_map] at he
    cases ea : l[i]? with
    | none => rw [ea] at he; cases he
    | some a =>
      rw [ea] at he
      cases he
      have hlt : i < l.length := (List.getElem?_eq_some_iff.mp ea).1
      have ed : l.drop i = a :: l.drop (i + 1) := by
        rw [List.drop_eq_getElem_cons hlt, (List.getElem?_eq_some_iff.mp ea).2]
      simp only [z_tp, z_gsc, z_gsn, gN, List.set_cons_zero, List.set_cons_succ, List.length_cons, List.length_nil, true_and]
      simp only [dSim, dFor, dISeq]
      refine .inr ⟨_, rfl, _, .inr rfl, ?_⟩
      have ei : (i : Int) + 1 = ((i + 1 : Nat) : Int) := by omega
      have ecut : cutD ((iL l).map D.int) (some ((i : Int) + 1)) none = (iL (l.drop (i + 1))).map D.int := by
        rw [cut_from (by omega), ei, Int.toNat_natCast]
        unfold iL
        rw [List.map_drop, List.map_drop]
      rw [ecut]
      refine for_inv (fun k ρ μ2 => μ2 = μ' ∧ ∃ (w : Int) (v : Option D), w = z * c2 a ((l.drop (i + 1)).take k) ∧ ρ = [some (lotD l), some (.int w), some (.int (i : Nat)), some (.int (a : Nat)), v])
        ⟨rfl, z, u, by rw [List.take_zero, c2, Int.mul_one], rfl⟩ (fun _ _ _ _ h => by rw [h.1]) (fun k d ρ μ2 N2 hk h hN2 => ?_) fun ρ μ2 h => ?_
      · obtain ⟨rfl, w, v, rfl, rfl⟩ := h
        rw [List.getElem?_map] at hk
        unfold iL at hk
        rw [List.getElem?_map] at hk
        cases eb : (l.drop (i + 1))[k]? with
        | none => rw [eb] at hk; cases hk
        | some b =>
          rw [eb] at hk
          cases hk
          have et : (l.drop (i + 1)).take (k + 1) = (l.drop (i + 1)).take k ++ [b] := by rw [List.take_succ, eb]; rfl
          simp only [dSim, dec_lt]
          by_cases c : b < a
          · rw [decide_eq_true c, if_pos rfl]
            refine hN2 _ _ ⟨rfl, _, _, ?_, rfl⟩
            rw [et, c2_snoc]
            unfold s2
            rw [if_pos c]
            simp only [Int.mul_neg, Int.mul_one]
          · rw [decide_eq_false c, if_neg (by decide)]
            refine hN2 _ _ ⟨rfl, _, _, ?_, rfl⟩
            rw [et, c2_snoc]
            unfold s2
            rw [if_neg c, Int.mul_one]
      · obtain ⟨rfl, w, v, rfl, rfl⟩ := h
        refine hN1 _ _ ⟨rfl, _, _, _, _, ?_, rfl⟩
        rw [List.length_map, iL_len, List.take_length, Int.mul_assoc, ← hzz, ed, sig]
  · obtain ⟨rfl, z, x, y, u, hzz, rfl⟩ := h
    rw [enumD_len, List.length_map, iL_len, List.drop_length, sig, Int.mul_one] at hzz
    subst hzz
    refine hR1 _ _ ?_
    simp only [dSim]
    exact fin_of q
/-! ### choices -/
theorem chs_snoc (c : List Nat) : ∀ A : List (List Nat), chs (A ++ [c]) = (chs A).flatMap fun x => c.map fun h => x ++ [h]
  | [] => by
    show (c.flatMap fun a => (chs []).map (a :: ·)) = _
    rw [chs]
    simp [List.flatMap_singleton, List.map_eq_flatMap]
  | a :: A => by
    rw [List.cons_append, chs, chs, List.flatMap_assoc]
    congr 1
    funext x
    rw [chs_snoc c A, List.map_flatMap, List.flatMap_map]
    congr 1
    funext y
    rw [List.map_map]
    rfl
def cChoices : DSp := fun ds μ Q => ∃ cs : List (List Nat), ds = [.lst (cs.map lstD)] ∧ cs.length ≤ 1000 ∧ (∀ k, (chs (cs.take k)).length ≤ 100000) ∧ Q (.lst ((chs cs).map lotD)) μ
def w_choices : DTS :=
  (dSeq (dAsg (dLst (dCons (dTup dNil) dNil)) (gN 1))
  (dSeq (dFor (dISeq (dVar 0)) (gN 2) (dAsg (dLc2 (dISeq (dVar 1)) (gN 3) dYes (dISeq (dVar 2)) (gN 4) dYes (dOp dAdd (dVar 3) (dTup (dCons (dVar 4) dNil))) [3, 4] [4]) (gN 1)))
  (dRet (dVar 1))))
theorem choices_ok (N : List Str) (hN : N.length = 5) : ∀ ds μ Q, cChoices ds μ Q → w_choices { nx := fun _ μ' => fin Q .non μ', rt := fin Q } (dstart N ds) μ := by
  intro ds μ Q hc
  obtain ⟨cs, rfl, hl, hb, q⟩ := hc
  have hz := sizeLine_eq
  unfold w_choices
  refine seq_cut fun R hR => ?_
  simp only [dSim, hN]
  refine ⟨by omega, by omega, hR _ _ (seq_cut fun R1 hR1 => ?_)⟩
  simp only [dSim, dFor, dISeq]
  refine ⟨_, .inl rfl, ?_⟩
  refine for_inv (fun i ρ μ' => μ' = μ ∧ ∃ (x : Option D), ρ = [some (.lst (cs.map lstD)), some (.lst ((chs (cs.take i)).map lotD)), x, none, none])
    ⟨rfl, none, by rw [List.take_zero]; rfl⟩ (fun _ _ _ _ h => by rw [h.1]) (fun i d ρ μ' N1 hi h hN1 => ?_) fun ρ μ' h => ?_
  · obtain ⟨rfl, x, rfl⟩ := h
    rw [List.getElem?_map] at hi
    cases ec : cs[i]? with
    | none => rw [ec] at hi; cases hi
    | some c =>
      rw [ec] at hi
      cases hi
      have et : cs.take (i + 1) = cs.take i ++ [c] := by rw [List.take_succ, ec]; rfl
      have es := chs_snoc c (cs.take i)
      rw [← et] at es
      have ef : ((chs (cs.take (i + 1))).map lotD) = (chs (cs.take i)).flatMap fun x => c.map fun h => lotD (x ++ [h]) := by
        rw [es, List.map_flatMap]
        congr 1
        funext x
        rw [List.map_map]
        rfl
      have hlen := hb (i + 1)
      simp only [dSim, dLc2, dISeq]
      refine ⟨_, .inl rfl, ?_⟩
      refine lc2_acc lotD (fun x => c.map fun h => lotD (x ++ [h])) (by exact rfl) (chs (cs.take i)) [] (by rw [← ef, List.length_map, List.length_nil]; omega) (fun x acc K hxm hn hK => ?_) ?_
      · simp only [dSim, dwipe, dYes, if_true]
        refine ⟨_, .inl rfl, ?_⟩
        have ec2 : (iL c).map D.int = c.map fun h : Nat => D.int (h : Nat) := by
          unfold iL
          rw [List.map_map]
          rfl
        rw [ec2]
        refine lc_acc (fun h : Nat => D.int (h : Nat)) (fun _ => true) (fun h => lotD (x ++ [h])) (by exact rfl) c acc (by rw [List.length_map] at hn; exact hn) (fun h K1 K2 _ h1 _ => ?_) ?_
        · simp only [dSim, dwipe, dYes, if_true]
          rw [List.length_map, iL_len]
          have hx := (chs_mem hxm).1
          rw [List.length_take] at hx
          refine ⟨by omega, by omega, ?_⟩
          have e : D.tup ((iL x).map D.int ++ [D.int (h : Nat)]) = lotD (x ++ [h]) := congrArg D.tup (lot_app x [h])
          rw [e]
          exact h1 rfl
        · rw [List.filter_eq_self.mpr fun _ _ => rfl]
          exact hK
      · rw [List.nil_append, ← ef]
        exact hN1 _ _ ⟨rfl, _, rfl⟩
  · obtain ⟨rfl, x, rfl⟩ := h
    rw [List.length_map, List.take_length]
    refine hR1 _ _ ?_
    simp only [dSim]
    exact fin_of q
end DL

/-! TolQ: told_by. -/
namespace DL
open PySem PySem.Spec PyProof.Rows L2
theorem wish_some {ws : List (Option Int)} {h : Nat} {v : Int} : wish ws h = some v ↔ ws[h]? = some (some v) := by
  unfold wish
  rw [List.getD_eq_getElem?_getD]
  cases e : ws[h]? with
  | none => simp
  | some o => simp
theorem sum_split' {α : Type} [DecidableEq α] {g : α → Int} {a : α} : ∀ {l : List α}, l.Nodup → a ∈ l → (l.map g).sum = g a + ((l.filter fun x => !decide (x = a)).map g).sum
  | [], _, hm => by cases hm
  | x :: l, nd, hm => by
    obtain ⟨n1, n2⟩ := List.nodup_cons.mp nd
    rw [List.map_cons, List.sum_cons, List.filter_cons]
    by_cases c : x = a
    · subst c
      rw [decide_eq_true rfl, Bool.not_true, if_neg (by decide), List.filter_eq_self.mpr fun y hy => by
        rw [Bool.not_eq_true', decide_eq_false_iff_not]
        intro e
        exact n1 (e ▸ hy)]
    · rw [decide_eq_false c, Bool.not_false, if_pos rfl, List.map_cons, List.sum_cons]
      rcases List.mem_cons.mp hm with e | hm
      · exact absurd e.symm c
      · rw [sum_split' n2 hm]
        omega
theorem chs_nodup : ∀ {cs : List (List Nat)}, (∀ c ∈ cs, c.Nodup) → (chs cs).Nodup
  | [], _ => by simp [chs]
  | c :: cs, h => by
    have ih := chs_nodup (cs := cs) fun d hd => h d (List.mem_cons_of_mem _ hd)
    have hc := h c List.mem_cons_self
    rw [chs]
    unfold List.Nodup at *
    rw [List.pairwise_flatMap]
    refine ⟨fun a _ => List.pairwise_map.mpr (ih.imp fun h e => h (List.cons.inj e).2), hc.imp fun {a b} ne x hx y hy e => ?_⟩
    obtain ⟨x', _, rfl⟩ := List.mem_map.mp hx
    obtain ⟨y', _, rfl⟩ := List.mem_map.mp hy
    exact ne (List.cons.inj e).1
theorem chs_len : ∀ cs : List (List Nat), (chs cs).length = (cs.map List.length).prod
  | [] => rfl
  | c :: cs => by
    rw [chs, List.length_flatMap, List.map_cons, List.prod_cons, ← chs_len cs]
    have e : ∀ (k : Nat) (c : List Nat), (c.map fun _ => k).sum = c.length * k := fun k c => by
      induction c with
      | nil => simp
      | cons a c ih => rw [List.map_cons, List.sum_cons, ih, List.length_cons, Nat.succ_mul, Nat.add_comm]
    have e2 : (c.map fun a => ((chs cs).map (a :: ·)).length) = c.map fun _ => (chs cs).length := List.map_congr_left fun a _ => List.length_map _
    rw [e2, e]
theorem prod_take : ∀ (k : Nat) (ns : List Nat), (∀ n ∈ ns, 1 ≤ n) → (ns.take k).prod ≤ ns.prod ∧ 1 ≤ ns.prod
  | 0, [], _ => by simp
  | _ + 1, [], _ => by simp
  | 0, n :: ns, h => by
    have h1 := (prod_take 0 ns fun m hm => h m (List.mem_cons_of_mem _ hm)).2
    have h2 := h n List.mem_cons_self
    rw [List.take_zero, List.prod_nil, List.prod_cons]
    have := Nat.mul_le_mul h2 h1
    omega
  | k + 1, n :: ns, h => by
    obtain ⟨h0, h1⟩ := prod_take k ns fun m hm => h m (List.mem_cons_of_mem _ hm)
    have h2 := h n List.mem_cons_self
    rw [List.take_succ_cons, List.prod_cons, List.prod_cons]
    have := Nat.mul_le_mul h2 h1
    exact ⟨Nat.mul_le_mul_left _ h0, by omega⟩
theorem rst_inj {ws : List (Option Int)} {E : List Nat} {ms : List Int} (nd : ms.Nodup) {x y : List Nat} (hx : x ∈ chs (cls ws E ms)) (hy : y ∈ chs (cls ws E ms)) (e : rst E x = rst E y) : x = y := by
  obtain ⟨x1, x2⟩ := chs_mem hx
  obtain ⟨y1, y2⟩ := chs_mem hy
  refine List.ext_getElem (by omega) fun i h1 h2 => ?_
  have hl : i < ms.length := by
    unfold cls at x1
    rw [List.length_map] at x1
    omega
  have at_ : ∀ j (hj : j < ms.length), (cls ws E ms)[j]? = some (clw ws E ms[j]) := fun j hj => by
    unfold cls
    rw [List.getElem?_map, List.getElem?_eq_getElem hj]
    rfl
  obtain ⟨a1, a2⟩ := mem_clw.mp (x2 i _ _ (List.getElem?_eq_getElem h1) (at_ i hl))
  have hin : x[i] ∈ y := Classical.byContradiction fun c => by
    have : x[i] ∈ rst E y := mem_rst.mpr ⟨a1, c⟩
    rw [← e] at this
    exact (mem_rst.mp this).2 (List.getElem_mem h1)
  obtain ⟨j, hj, ej⟩ := List.mem_iff_getElem.mp hin
  have hjl : j < ms.length := by
    unfold cls at y1
    rw [List.length_map] at y1
    omega
  have b2 := (mem_clw.mp (y2 j _ _ (List.getElem?_eq_getElem hj) (at_ j hjl))).2
  rw [ej, a2] at b2
  have hij : i = j := (List.getElem_inj nd).mp (Option.some.inj b2)
  subst hij
  exact ej.symm
/-! ### what is told -/
def fnd (ws : List (Option Int)) (E : List Nat) (ms : List Int) (lot : List Nat) : List (List Nat × Int) :=
  ((chs (cls ws E ms)).filter fun row => !decide (row = ms.map (fi ws))).map fun row => (rst E row, 0 - sig (ms.map (fi ws) ++ lot) * sig (row ++ rst E row))
/-- the hands of the case that is not made -/
structure Bare (ws : List (Option Int)) (lot l : List Nat) (ms : List Int) (E : List Nat) : Prop where
  L : Lot ws.length 0 lot
  ld : Ld ws l
  wd : Wd ws ms
  no : has l false lot = false
  E1 : Lot ws.length 0 E
  E2 : E.Perm (lot ++ l)
def Told (ws : List (Option Int)) (lot : List Nat) (T : List (List Nat × Int)) : Prop := (∃ l, Ld ws l ∧ has l false lot = true ∧ T = [(lot, 1)]) ∨ ∃ l ms E, Bare ws lot l ms E ∧ T.Perm (fnd ws E ms lot) ∧ T.Pairwise fun a b => lexN a.1 b.1 = true
theorem Told.eq {ws : List (Option Int)} {lot : List Nat} {T U : List (List Nat × Int)} (h : Told ws lot T) (k : Told ws lot U) : T = U := by
  rcases h with ⟨l, h1, a, rfl⟩ | ⟨l, ms, E, B, a3, a4⟩
  · rcases k with ⟨l', k1, b, rfl⟩ | ⟨l', ms', E', B', _⟩
    · rfl
    · have := B'.no
      rw [B'.ld.eq h1, a] at this
      cases this
  · rcases k with ⟨l', k1, b, rfl⟩ | ⟨l', ms', E', B', b3, b4⟩
    · have := B.no
      rw [B.ld.eq k1, b] at this
      cases this
    · cases B'.ld.eq B.ld
      cases B'.wd.eq B.wd
      cases B'.E1.ext B.E1 fun x => by rw [B.E2.mem_iff, B'.E2.mem_iff]
      exact sorted_unique (a3.trans b3.symm) a4 b4
section
variable {ws : List (Option Int)} {lot l : List Nat} {ms : List Int} {E : List Nat} (B : Bare ws lot l ms E)
include B
theorem Bare.off {x : Nat} (h : x ∈ lot) : x ∉ l := fun c => by
  have := B.no
  unfold has at this
  rw [Bool.false_or, List.any_eq_false] at this
  exact this x h (decide_eq_true c)
theorem Bare.mem {x : Nat} : x ∈ E ↔ x ∈ lot ∨ x ∈ l := by rw [B.E2.mem_iff, List.mem_append]
theorem Bare.nd : ms.Nodup := B.wd.1.imp fun h => Int.ne_of_lt h
theorem Bare.cov : ∀ h ∈ E, ∀ v, wish ws h = some v → v ∈ ms := fun h _ v e => (B.wd.2 v).mpr (List.mem_of_getElem? (wish_some.mp e))
theorem Bare.first {x : Nat} : x ∈ ms.map (fi ws) ↔ x ∈ l := by
  rw [B.ld.2 x, List.mem_map]
  constructor
  · rintro ⟨v, hv, rfl⟩
    exact ⟨v, (fi_mem ((B.wd.2 v).mp hv)).1, rfl⟩
  · rintro ⟨v, h1, h2⟩
    exact ⟨v, (B.wd.2 v).mpr (List.mem_of_getElem? h1), h2⟩
theorem Bare.fi_in {v : Int} (hv : v ∈ ms) : fi ws v ∈ clw ws E v := by
  refine mem_clw.mpr ⟨B.mem.mpr (.inr (B.first.mp (List.mem_map_of_mem hv))), wish_some.mpr (fi_mem ((B.wd.2 v).mp hv)).1⟩
theorem Bare.amg (v : Int) : amg ws l lot v = clw ws E v := by
  have p1 : (DL.amg ws l lot v).Pairwise (· < ·) := by
    unfold DL.amg wsh
    exact List.Pairwise.filter _ (List.Pairwise.filter _ List.pairwise_lt_range)
  have p2 : (clw ws E v).Pairwise (· < ·) := List.Pairwise.filter _ B.E1.pw
  refine pw_ext (fun a => Nat.lt_irrefl a) (fun _ _ _ => Nat.lt_trans) p1 p2 fun x => ?_
  unfold DL.amg wsh
  rw [List.mem_filter, List.mem_filter, mem_clw, B.mem, wish_some, List.mem_range]
  simp only [Bool.or_eq_true, decide_eq_true_eq]
  constructor
  · rintro ⟨⟨_, h2⟩, h3⟩
    exact ⟨h3.symm, h2⟩
  · rintro ⟨h1, h2⟩
    exact ⟨⟨(List.getElem?_eq_some_iff.mp h2).1, h2⟩, h1.symm⟩
theorem Bare.amgs : (ms.map fun v => lstD (DL.amg ws l lot v)) = (cls ws E ms).map lstD := by
  unfold cls
  rw [List.map_map]
  refine List.map_congr_left fun v _ => ?_
  rw [B.amg v]
  rfl
theorem Bare.ways : ways ws l lot ms = (chs (cls ws E ms)).length := by
  unfold DL.ways
  rw [chs_len]
  unfold cls
  rw [List.map_map]
  congr 1
  refine List.map_congr_left fun v _ => ?_
  rw [B.amg v]
  rfl
theorem Bare.first_in : ms.map (fi ws) ∈ chs (cls ws E ms) := by
  have : ∀ ns : List Int, (∀ v ∈ ns, v ∈ ms) → ns.map (fi ws) ∈ chs (cls ws E ns) := fun ns => by
    induction ns with
    | nil => intro _; simp [cls, chs]
    | cons v ns ih =>
      intro h
      show _ ∈ chs (clw ws E v :: cls ws E ns)
      rw [chs, List.mem_flatMap]
      exact ⟨fi ws v, B.fi_in (h v List.mem_cons_self), List.mem_map.mpr ⟨_, ih fun u hu => h u (List.mem_cons_of_mem _ hu), rfl⟩⟩
  exact this ms fun _ h => h
theorem Bare.rest : rst E (ms.map (fi ws)) = lot := by
  refine pw_ext (fun a => Nat.lt_irrefl a) (fun _ _ _ => Nat.lt_trans) (List.Pairwise.filter _ B.E1.pw) B.L.pw fun x => ?_
  rw [mem_rst, B.mem, B.first]
  exact ⟨fun ⟨h1, h2⟩ => h1.resolve_right h2, fun h => ⟨.inl h, B.off h⟩⟩
theorem Bare.cnd : (chs (cls ws E ms)).Nodup := chs_nodup fun c hc => by
  obtain ⟨v, _, rfl⟩ := List.mem_map.mp hc
  exact List.Pairwise.filter _ B.E1.nodup
theorem Bare.fst_nd : ((fnd ws E ms lot).map (·.1)).Nodup := by
  unfold fnd
  rw [List.map_map]
  have h : ((chs (cls ws E ms)).filter fun row => !decide (row = ms.map (fi ws))).Nodup := List.Pairwise.filter _ B.cnd
  unfold List.Nodup at *
  rw [List.pairwise_map]
  refine (List.Pairwise.and_mem.mp h).imp fun {a b} ⟨ha, hb, ne⟩ e => ?_
  exact ne (rst_inj B.nd (List.mem_filter.mp ha).1 (List.mem_filter.mp hb).1 e)
/-- the law -/
theorem Bare.sum (P : Int → List Nat → Int) : ((fnd ws E ms lot).map fun e => e.2 * cryP ws P e.1).sum = cryP ws P lot := by
  have h1 := told_zero (P := P) B.E1.pw B.nd B.cov
  rw [sum_split' B.cnd B.first_in, B.rest] at h1
  unfold fnd
  rw [List.map_map]
  have e1 : ∀ row : List Nat, ((fun e : List Nat × Int => e.2 * cryP ws P e.1) ∘ fun row => (rst E row, 0 - sig (ms.map (fi ws) ++ lot) * sig (row ++ rst E row))) row = -(sig (ms.map (fi ws) ++ lot)) * (sig (row ++ rst E row) * cryP ws P (rst E row)) := fun row => by
    show (0 - sig (ms.map (fi ws) ++ lot) * sig (row ++ rst E row)) * cryP ws P (rst E row) = _
    rw [Int.zero_sub, Int.neg_mul, Int.neg_mul, Int.mul_assoc]
  rw [sum_congr' fun row _ => e1 row, ← sum_mul']
  have sq := sq_cases (sig_cases (ms.map (fi ws) ++ lot))
  generalize sig (ms.map (fi ws) ++ lot) = s at *
  generalize (List.map (fun row => sig (row ++ rst E row) * cryP ws P (rst E row)) (List.filter (fun row => !decide (row = ms.map (fi ws))) (chs (cls ws E ms)))).sum = r at *
  have hr : r = -(s * cryP ws P lot) := by omega
  rw [hr, Int.neg_mul_neg, ← Int.mul_assoc, sq, Int.one_mul]
theorem Bare.fnd_mem {e : List Nat × Int} (h : e ∈ fnd ws E ms lot) : Lot ws.length 0 e.1 ∧ e.1.length = lot.length ∧ has l false e.1 = true ∧ (e.2 = 1 ∨ e.2 = -1) := by
  unfold fnd at h
  obtain ⟨row, hrow, rfl⟩ := List.mem_map.mp h
  obtain ⟨hr, hne⟩ := List.mem_filter.mp hrow
  have hL : Lot ws.length 0 (rst E row) := lot_of_pw (List.Pairwise.filter _ B.E1.pw) fun x hx => B.E1.mem x (mem_rst.mp hx).1
  obtain ⟨r1, r2⟩ := chs_mem hr
  have rl : row.length = ms.length := by
    rw [r1]
    exact List.length_map _
  have at_ : ∀ j (hj : j < ms.length), (cls ws E ms)[j]? = some (clw ws E ms[j]) := fun j hj => by
    unfold cls
    rw [List.getElem?_map, List.getElem?_eq_getElem hj]
    rfl
  have rw_ : ∀ i (hi : i < row.length), row[i] ∈ E ∧ wish ws row[i] = some (ms[i]'(by omega)) := fun i hi => mem_clw.mp (r2 i _ _ (List.getElem?_eq_getElem hi) (at_ i (by omega)))
  have rnd : row.Nodup := by
    unfold List.Nodup
    rw [List.pairwise_iff_getElem]
    intro i j hi hj hij e
    have e1 := (rw_ i hi).2
    rw [e, (rw_ j hj).2] at e1
    have := (List.getElem_inj B.nd).mp (Option.some.inj e1)
    omega
  have rE : ∀ x ∈ row, x ∈ E := fun x hx => (chs_cls hr hx).1
  have cnt : (rst E row).length + row.length = E.length := by
    have p : E.Perm (row ++ rst E row) := by
      refine (List.perm_ext_iff_of_nodup B.E1.nodup ?_).mpr fun x => ?_
      · refine List.nodup_append.mpr ⟨rnd, hL.nodup, fun a ha b hb e => ?_⟩
        subst e
        exact (mem_rst.mp hb).2 ha
      · rw [List.mem_append, mem_rst]
        constructor
        · intro h
          by_cases c : x ∈ row
          · exact .inl c
          · exact .inr ⟨h, c⟩
        · rintro (h | h)
          · exact rE x h
          · exact h.1
    rw [p.length_eq, List.length_append]
    omega
  have el := B.E2.length_eq
  rw [List.length_append] at el
  have ll : l.length = ms.length := by
    have p : l.Perm (ms.map (fi ws)) := by
      refine (List.perm_ext_iff_of_nodup B.ld.1.nodup ?_).mpr fun x => B.first.symm
      unfold List.Nodup
      rw [List.pairwise_map]
      refine (List.Pairwise.and_mem.mp B.nd).imp fun {a b} ⟨ha, hb, ne⟩ e => ?_
      exact ne (fi_inj ((B.wd.2 a).mp ha) ((B.wd.2 b).mp hb) e)
    rw [p.length_eq, List.length_map]
  refine ⟨hL, by show (rst E row).length = _; omega, ?_, ?_⟩
  · refine Classical.byContradiction fun c => ?_
    have c : has l false (rst E row) = false := by simpa using c
    rw [Bool.not_eq_true', decide_eq_false_iff_not] at hne
    refine hne (List.ext_getElem (by rw [List.length_map]; exact rl) fun i h1 h2 => ?_)
    rw [List.getElem_map]
    have hi : i < ms.length := by omega
    have hl : fi ws ms[i] ∈ l := B.first.mp (List.mem_map_of_mem (List.getElem_mem hi))
    have hin : fi ws ms[i] ∈ row := Classical.byContradiction fun d => by
      unfold has at c
      rw [Bool.false_or, List.any_eq_false] at c
      exact c _ (mem_rst.mpr ⟨B.mem.mpr (.inr hl), d⟩) (decide_eq_true hl)
    obtain ⟨j, hj, ej⟩ := List.mem_iff_getElem.mp hin
    have e1 := (rw_ j hj).2
    rw [ej, wish_some.mpr (fi_mem ((B.wd.2 _).mp (List.getElem_mem hi))).1] at e1
    have hij : i = j := (List.getElem_inj B.nd).mp (Option.some.inj e1)
    subst hij
    exact ej
  · show 0 - _ = 1 ∨ 0 - _ = -1
    rcases pm_mul (sig_cases (ms.map (fi ws) ++ lot)) (sig_cases (row ++ rst E row)) with e | e <;> rw [e] <;> decide
end
end DL

/-! TolR: told_by. -/
namespace DL
open PySem PySem.Spec PyProof.Rows L2
def toldD (T : List (List Nat × Int)) : D := .tup (T.map fun e => .tup [.int e.2, lotD e.1])
def cTold : DSp := fun ds μ Q => ∃ (ws : List (Option Int)) (lot : List Nat), ds = [wishD ws, lotD lot] ∧ ws.length ≤ 60 ∧ Lot ws.length 0 lot ∧ (∀ ms l, Wd ws ms → Ld ws l → has l false lot = false → ways ws l lot ms ≤ 2001) ∧ ∀ T, Told ws lot T → Q (toldD T) μ
def w_told : DTS :=
  (dSeq (dIfS (dT (dCall cIsMade [] (dCons (dVar 0) (dCons (dVar 1) dNil)))) (dRet (dTup (dCons (dTup (dCons (dC (.int 1)) (dCons (dVar 1) dNil))) dNil))) dNext)
  (dSeq (dAsg (dCall cLeftMany [] (dCons (dVar 0) (dCons (dVar 1) dNil))) (gN 2))
  (dSeq (dIfS (dT (dOp oGt (dVar 2) (dC (.int 2000)))) dNever dNext)
  (dSeq (dPar 3 4 (dCons (dCall cFirst [] (dCons (dVar 0) dNil)) (dCons (dCB fSort (dCons (dOp dAdd (dVar 1) (dCall cLeaders [] (dCons (dVar 0) dNil))) dNil)) dNil)))
  (dSeq (dPar 5 6 (dCons (dCall cSortSign [] (dCons (dOp dAdd (dVar 3) (dVar 1)) dNil)) (dCons (dLstM dNil) dNil)))
  (dSeq (dFor (dISeq (dCall cChoices [] (dCons (dCall cAmong [] (dCons (dVar 0) (dCons (dVar 1) dNil))) dNil))) (gN 7) (dSeq (dAsg (dCB fTuple (dCons (dLc (dISeq (dVar 4)) (gN 9) (dT (dOp (dIn true) (dVar 9) (dVar 7))) (dVar 9) [9]) dNil)) (gN 8))
  (dIfS (dT (dOp dNe (dVar 7) (dVar 3))) (dDrop (dMl mAppend (dVar 6) (dCons (dTup (dCons (dVar 8) (dCons (dOp oSub (dC (.int 0)) (dOp dMul (dVar 5) (dCall cSortSign [] (dCons (dOp dAdd (dVar 7) (dVar 8)) dNil)))) dNil))) dNil))) dNext)))
  (dRet (dCB fTuple (dCons (dLc (dISeq (dCB fSortX (dCons (dVar 6) dNil))) (gTp 2 (gsCons (gN 8) (gsCons (gN 10) gsNil))) dYes (dTup (dCons (dVar 10) (dCons (dVar 8) dNil))) [8, 10]) dNil)))))))))
theorem fnd_snoc {ws : List (Option Int)} {E : List Nat} {ms : List Int} {lot : List Nat} {i : Nat} {rows : List (List Nat)} {row : List Nat} (e : rows[i]? = some row) :
    ((rows.take (i + 1)).filter fun row => !decide (row = ms.map (fi ws))).map (fun row => (rst E row, 0 - sig (ms.map (fi ws) ++ lot) * sig (row ++ rst E row))) =
    ((rows.take i).filter fun row => !decide (row = ms.map (fi ws))).map (fun row => (rst E row, 0 - sig (ms.map (fi ws) ++ lot) * sig (row ++ rst E row))) ++ if row = ms.map (fi ws) then [] else [(rst E row, 0 - sig (ms.map (fi ws) ++ lot) * sig (row ++ rst E row))] := by
  rw [List.take_succ, e, List.filter_append, List.map_append]
  congr 1
  show (([row].filter fun row => !decide (row = ms.map (fi ws))).map _) = _
  rw [List.filter_cons, List.filter_nil]
  by_cases c : row = ms.map (fi ws)
  · rw [if_neg (by rw [decide_eq_true c]; decide), if_pos c]
    rfl
  · rw [if_pos (by rw [decide_eq_false c]; rfl), if_neg c]
    rfl
theorem told_ok (N : List Str) (hN : N.length = 11) : ∀ ds μ Q, cTold ds μ Q → w_told { nx := fun _ μ' => fin Q .non μ', rt := fin Q } (dstart N ds) μ := by
  intro ds μ Q hc
  obtain ⟨ws, lot, rfl, hl, L, hw, q⟩ := hc
  have hz := sizeLine_eq
  have hll := L.drop_ok
  unfold w_told
  refine seq_cut fun R hR => ?_
  simp only [dSim, hN, cIsMade]
  refine ⟨ws, lot, rfl, hl, fun l hl1 => ?_⟩
  by_cases made : has l false lot = true
  · rw [if_pos made]
    exact ⟨by omega, by omega, fin_of (q [(lot, 1)] (.inl ⟨l, hl1, made, rfl⟩))⟩
  rw [if_neg made]
  have made : has l false lot = false := by simpa using made
  refine hR _ _ (seq_cut fun R1 hR1 => ?_)
  simp only [dSim, cLeftMany]
  refine ⟨ws, lot, rfl, hl, fun ms l' hms hl2 => hR1 _ _ (seq_cut fun R2 hR2 => ?_)⟩
  cases hl2.eq hl1
  have hways := hw ms l hms hl1 made
  simp only [dSim]
  rw [decide_eq_false (by omega), if_neg (by decide)]
  refine hR2 _ _ (seq_cut fun R3 hR3 => ?_)
  simp only [dSim, cFirst, cLeaders]
  refine ⟨ws, rfl, hl, fun ms' hms2 => ⟨ws, rfl, hl, fun l3 hl3 => ?_⟩⟩
  cases hms2.eq hms
  cases hl3.eq hl1
  have hlen := hl1.1.drop_ok
  refine ⟨by rw [List.length_map, List.length_map, iL_len, iL_len]; omega, ?_⟩
  rw [lot_app]
  refine sort_of (.inr rfl) fun ns h1 h2 => ?_
  have nd0 : (lot ++ l).Nodup := List.nodup_append.mpr ⟨L.nodup, hl1.1.nodup, fun a ha b hb e => by
    subst e
    unfold has at made
    rw [Bool.false_or, List.any_eq_false] at made
    exact made a ha (decide_eq_true hb)⟩
  obtain ⟨E, rfl, E1, E2⟩ := sort_lot (m := ws.length) h1 h2 nd0 fun x hx => (List.mem_append.mp hx).elim (fun h => (L.mem x h).2) fun h => (hl1.1.mem x h).2
  have B : Bare ws lot l ms E := ⟨L, hl1, hms, made, E1, E2⟩
  have hms1 := hms.len
  have hE := E1.drop_ok
  refine hR3 _ _ (seq_cut fun R4 hR4 => ?_)
  simp only [dSim, cSortSign]
  refine ⟨by rw [List.length_map, List.length_map, iL_len, iL_len, List.length_map]; omega, ms.map (fi ws) ++ lot, by rw [lot_app], by rw [List.length_append, List.length_map]; omega, by omega, fun p hp => hR4 _ _ (seq_cut fun R5 hR5 => ?_)⟩
  simp only [dSim, dFor, dISeq, cChoices, cAmong]
  refine ⟨ws, lot, rfl, hl, fun ms4 l4 hms4 hl4 => ?_⟩
  cases hms4.eq hms
  cases hl4.eq hl1
  have one : ∀ c ∈ (cls ws E ms).map List.length, 1 ≤ c := fun c hc => by
    obtain ⟨c', hc', rfl⟩ := List.mem_map.mp hc
    obtain ⟨v, hv, rfl⟩ := List.mem_map.mp hc'
    exact List.length_pos_of_mem (B.fi_in hv)
  have clen : (cls ws E ms).length = ms.length := List.length_map _
  refine ⟨cls ws E ms, by rw [B.amgs], by omega, fun k => ?_, _, .inl rfl, ?_⟩
  · rw [chs_len, List.map_take]
    have := (prod_take k _ one).1
    rw [← chs_len, ← B.ways] at this
    omega
  refine for_inv (fun i ρ μ' => μ' = mput μ p (.lst (((((chs (cls ws E ms)).take i).filter fun row => !decide (row = ms.map (fi ws))).map fun row => (rst E row, 0 - sig (ms.map (fi ws) ++ lot) * sig (row ++ rst E row))).map prD)) ∧ ∃ x y, ρ = [some (wishD ws), some (lotD lot), some (.int ((ways ws l lot ms : Nat) - 1)), some (lotD (ms.map (fi ws))), some (lstD E), some (.int (sig (ms.map (fi ws) ++ lot))), some (.ref p), x, y, none, none])
    ⟨rfl, none, none, rfl⟩ (fun _ _ _ _ _ => rfl) (fun i d ρ μ' N1 hi h hN1 => ?_) fun ρ μ' h => ?_
  · obtain ⟨rfl, x, y, rfl⟩ := h
    rw [List.getElem?_map] at hi
    cases e : (chs (cls ws E ms))[i]? with
    | none => rw [e] at hi; cases hi
    | some row =>
      rw [e] at hi
      cases hi
      have hrow := List.mem_of_getElem? e
      have hrl : row.length = ms.length := by rw [(chs_mem hrow).1, clen]
      have hil : i < (chs (cls ws E ms)).length := (List.getElem?_eq_some_iff.mp e).1
      have hrst : (rst E row).length ≤ E.length := List.length_filter_le _ _
      have es := fnd_snoc (ws := ws) (E := E) (ms := ms) (lot := lot) e
      refine seq_cut fun R6 hR6 => ?_
      simp only [dSim, dLc, dISeq]
      refine ⟨_, .inl rfl, ?_⟩
      refine lc_nat (fun x => !decide (x ∈ row)) (fun x => .int (x : Nat)) rfl (by omega) (fun x K _ hK => ?_) (fun x K _ _ hK => ?_) ?_
      · simp only [dSim, dwipe, z_inT, if_true]
        exact hK
      · simp only [dSim, dwipe]
        exact hK
      rw [map_int]
      refine hR6 _ _ ?_
      simp only [dSim, z_neLot]
      by_cases c : row = ms.map (fi ws)
      · rw [decide_eq_true c, Bool.not_true, if_neg (by decide)]
        rw [if_pos c, List.append_nil] at es
        refine hN1 _ _ ⟨by rw [es], _, _, rfl⟩
      · rw [decide_eq_false c, Bool.not_false, if_pos rfl]
        rw [if_neg c] at es
        simp only [z_isL mput_same, cSortSign]
        refine ⟨by rw [List.length_map, List.length_map, iL_len, iL_len]; exact Nat.le_trans (Nat.add_le_add (by omega : row.length ≤ 60) (Nat.le_trans hrst (by omega : E.length ≤ 60))) (by omega), row ++ rst E row, by rw [lot_app]; rfl, by rw [List.length_append]; omega, ?_⟩
        simp only [dSim]
        refine ⟨mul1 ?_ ?_, by omega, ?_⟩
        · rcases sig_cases (ms.map (fi ws) ++ lot) with e | e <;> (rw [e]; decide)
        · rcases sig_cases (row ++ rst E row) with e | e <;> (rw [e]; decide)
        simp only [z_onL mput_same, z_append, mput_mput]
        have hfl := List.length_filter_le (fun row => !decide (row = ms.map (fi ws))) ((chs (cls ws E ms)).take i)
        rw [List.length_take] at hfl
        have hcl := B.ways
        refine ⟨by rw [List.length_map, List.length_map]; omega, hN1 _ _ ⟨?_, _, _, rfl⟩⟩
        rw [es, List.map_append]
        rfl
  · obtain ⟨rfl, x, y, rfl⟩ := h
    rw [List.length_map, List.take_length]
    refine hR5 _ _ ?_
    simp only [dSim, dLc, dISeq]
    refine sort_pr (xs := fnd ws E ms lot) ?_ ?_ B.fst_nd fun T pm pw => ?_
    · rw [see_ref mput_same]
      rfl
    · intro e he
      obtain ⟨e1, _, _, e2⟩ := B.fnd_mem he
      refine ⟨fun x hx => Nat.lt_trans (e1.mem x hx).2 (Nat.lt_of_le_of_lt hl (by decide)), ?_⟩
      rcases e2 with e2 | e2 <;> (rw [e2]; decide)
    · refine ⟨_, .inl rfl, ?_⟩
      have hT := pm.length_eq
      have hfl := List.length_filter_le (fun row => !decide (row = ms.map (fi ws))) (chs (cls ws E ms))
      have hcl := B.ways
      have hTl : T.length ≤ 2001 := by
        rw [hT]
        unfold fnd
        rw [List.length_map]
        omega
      refine lc_any1 T prD (fun e => .tup [.int e.2, lotD e.1]) rfl (by omega) (fun e K _ hK => ?_) ?_
      · unfold prD
        simp only [z_tp, z_gsc, z_gsn, gN, List.set_cons_zero, List.set_cons_succ, List.length_cons, List.length_nil, true_and]
        simp only [dSim, dwipe]
        exact ⟨by omega, hK⟩
      · exact fin_sub (Sub.put hp Sub.refl) (q T (.inr ⟨l, ms, E, B, pm, pw⟩))
end DL

/-! HeldP: cries taken apart into pieces and counted in a dict. -/
namespace DL
open PySem PySem.Spec PyProof.Rows L2
abbrev Hd := List ((Int × List Nat) × Int)
def hkey (k : Int × List Nat) : NestedKey := .tup [.num k.1, .tup (lkey k.2)]
theorem hkey_inj {k j : Int × List Nat} (h : hkey k = hkey j) : k = j := by
  unfold hkey at h
  have h1 := NestedKey.tup.inj h
  obtain ⟨h2, h3⟩ := List.cons.inj h1
  obtain ⟨h4, _⟩ := List.cons.inj h3
  exact Prod.ext (NestedKey.num.inj h2) (lkey_inj (NestedKey.tup.inj h4))
theorem hkey_D (v : Int) (l : List Nat) : nkD (hkey (v, l)) = .tup [.int v, lotD l] := by
  show D.tup [nkD (.num v), nkD (.tup (lkey l))] = _
  rw [nkD_lkey]
  rfl
theorem hkey_NT (k : Int × List Nat) : NT (hkey k) = true := by
  show (true && (NTs (lkey k.2) && true)) = true
  rw [lkey_NTs]
  rfl
theorem hkey_depth (k : Int × List Nat) : (hkey k).depth ≤ 8 := by
  have h := lkey_depthAll k.2
  show NestedKey.depthAll [.num k.1, .tup (lkey k.2)] + 1 ≤ 8
  have e : NestedKey.depthAll [.num k.1, .tup (lkey k.2)] = max (NestedKey.depth (.num k.1)) (max (NestedKey.depthAll (lkey k.2) + 1) 0) := by simp only [NestedKey.depthAll, NestedKey.depth]
  have h0 : NestedKey.depth (.num k.1) ≤ 1 := by simp [NestedKey.depth]
  omega
def heD (zs : Hd) : List (NestedKey × D) := zs.map fun z => (hkey z.1, .int z.2)
def hput (zs : Hd) (k : Int × List Nat) (c : Int) : Hd := if k ∈ zs.map (·.1) then zs.map (fun z => if z.1 = k then (z.1, z.2 + c) else z) else zs ++ [(k, c)]
def htot (zs : Hd) (P : Int → List Nat → Int) : Int := (zs.map fun z => z.2 * P z.1.1 z.1.2).sum
theorem heD_keys (zs : Hd) : (heD zs).map (·.1) = (zs.map (·.1)).map hkey := by
  unfold heD
  rw [List.map_map, List.map_map]
  rfl
theorem heD_nodup {zs : Hd} (h : (zs.map (·.1)).Nodup) : ((heD zs).map (·.1)).Nodup := by
  rw [heD_keys]
  unfold List.Nodup at *
  rw [List.pairwise_map]
  exact h.imp fun ne e => ne (hkey_inj e)
theorem same_key {zs : Hd} (h : (zs.map (·.1)).Nodup) {y z : (Int × List Nat) × Int} (hy : y ∈ zs) (hz : z ∈ zs) (e : y.1 = z.1) : y = z := by
  induction zs with
  | nil => cases hy
  | cons x zs ih =>
    obtain ⟨n1, n2⟩ := List.nodup_cons.mp h
    rcases List.mem_cons.mp hy with ey | hy'
    · rcases List.mem_cons.mp hz with ez | hz'
      · rw [ey, ez]
      · exact absurd (show x.1 ∈ zs.map (·.1) by rw [← ey, e]; exact List.mem_map_of_mem hz') n1
    · rcases List.mem_cons.mp hz with ez | hz'
      · exact absurd (show x.1 ∈ zs.map (·.1) by rw [← ez, ← e]; exact List.mem_map_of_mem hy') n1
      · exact ih n2 hy' hz'
theorem heD_get {zs : Hd} (h : (zs.map (·.1)).Nodup) {k : Int × List Nat} {c : Int} : putT (heD zs) (hkey k) (match getT (heD zs) (hkey k) with | some (.int x) => .int (x + c) | _ => .int c) = heD (hput zs k c) := by
  by_cases hk : k ∈ zs.map (·.1)
  · obtain ⟨z, hz, rfl⟩ := List.mem_map.mp hk
    have hm : (hkey z.1, D.int z.2) ∈ heD zs := List.mem_map.mpr ⟨z, hz, rfl⟩
    rw [getT_mem (heD_nodup h) hm]
    unfold putT hput
    rw [if_pos hk, if_pos (List.any_eq_true.mpr ⟨_, hm, decide_eq_true rfl⟩)]
    unfold heD
    rw [List.map_map, List.map_map]
    refine List.map_congr_left fun y hy => ?_
    show (if hkey y.1 = hkey z.1 then (hkey y.1, D.int (z.2 + c)) else (hkey y.1, D.int y.2)) = _
    by_cases e : y.1 = z.1
    · have ey : y = z := same_key h hy hz e
      subst ey
      rw [if_pos rfl]
      show _ = (hkey (if y.1 = y.1 then (y.1, y.2 + c) else y).1, D.int (if y.1 = y.1 then (y.1, y.2 + c) else y).2)
      rw [if_pos rfl]
    · rw [if_neg fun h => e (hkey_inj h)]
      show _ = (hkey (if y.1 = z.1 then (y.1, y.2 + c) else y).1, D.int (if y.1 = z.1 then (y.1, y.2 + c) else y).2)
      rw [if_neg e]
  · have hn : hkey k ∉ (heD zs).map (·.1) := fun c => by
      rw [heD_keys] at c
      obtain ⟨j, hj, e⟩ := List.mem_map.mp c
      exact hk (hkey_inj e ▸ hj)
    rw [getT_none hn, putT_new (getT_none hn)]
    unfold hput
    rw [if_neg hk]
    unfold heD
    rw [List.map_append]
    rfl
theorem hput_keys {zs : Hd} {k : Int × List Nat} {c : Int} (h : (zs.map (·.1)).Nodup) : ((hput zs k c).map (·.1)).Nodup ∧ (hput zs k c).length ≤ zs.length + 1 := by
  unfold hput
  split
  · rw [List.map_map]
    have e : zs.map ((·.1) ∘ fun z => if z.1 = k then (z.1, z.2 + c) else z) = zs.map (·.1) := List.map_congr_left fun z _ => by
      show (if z.1 = k then (z.1, z.2 + c) else z).1 = z.1
      split <;> rfl
    rw [e, List.length_map]
    exact ⟨h, Nat.le_succ _⟩
  · rename_i hk
    rw [List.map_append, List.length_append]
    refine ⟨List.nodup_append.mpr ⟨h, by simp, fun a ha b hb e => ?_⟩, Nat.le_refl _⟩
    subst e
    rw [List.map_cons, List.map_nil, List.mem_singleton] at hb
    subst hb
    exact hk ha
theorem htot_map {P : Int → List Nat → Int} {k : Int × List Nat} {c : Int} : ∀ {zs : Hd}, (zs.map (·.1)).Nodup → htot (zs.map fun z => if z.1 = k then (z.1, z.2 + c) else z) P = htot zs P + if k ∈ zs.map (·.1) then c * P k.1 k.2 else 0
  | [], _ => rfl
  | z :: zs, nd => by
    obtain ⟨n1, n2⟩ := List.nodup_cons.mp nd
    have ih := htot_map (P := P) (k := k) (c := c) n2
    unfold htot at ih ⊢
    rw [List.map_cons, List.map_cons, List.sum_cons, List.map_cons, List.sum_cons, ih, List.map_cons]
    by_cases e : z.1 = k
    · subst e
      rw [if_pos rfl, if_neg n1, if_pos List.mem_cons_self]
      show (z.2 + c) * P z.1.1 z.1.2 + _ = _
      rw [Int.add_mul]
      omega
    · rw [if_neg e]
      by_cases d : k ∈ zs.map (·.1)
      · rw [if_pos d, if_pos (List.mem_cons_of_mem _ d)]
        omega
      · rw [if_neg d, if_neg fun h => (List.mem_cons.mp h).elim (fun h => e h.symm) d]
        omega
theorem htot_put {zs : Hd} {k : Int × List Nat} {c : Int} (h : (zs.map (·.1)).Nodup) (P : Int → List Nat → Int) : htot (hput zs k c) P = htot zs P + c * P k.1 k.2 := by
  unfold hput
  split
  · rename_i hk
    rw [htot_map h, if_pos hk]
  · unfold htot
    rw [List.map_append, List.sum_append]
    simp
/-- nothing left -/
theorem htot_zero {zs : Hd} (h : (zs.map (·.1)).Nodup) (z0 : ∀ P, htot zs P = 0) : ∀ z ∈ zs, z.2 = 0 := fun z hz => by
  have h1 := z0 fun v l => if (v, l) = z.1 then 1 else 0
  have nd : zs.Nodup := by
    unfold List.Nodup at *
    rw [List.pairwise_map] at h
    exact h.imp fun ne e => ne (by rw [e])
  unfold htot at h1
  rw [sum_split' nd hz] at h1
  have h2 : ((zs.filter fun x => !decide (x = z)).map fun y : (Int × List Nat) × Int => y.2 * if (y.1.1, y.1.2) = z.1 then (1 : Int) else 0).sum = 0 := sum_zero fun y hy => by
    obtain ⟨h3, h4⟩ := List.mem_filter.mp hy
    rw [Bool.not_eq_true', decide_eq_false_iff_not] at h4
    have : ¬ y.1 = z.1 := fun e => h4 (same_key h h3 hz e)
    rw [if_neg this, Int.mul_zero]
  rw [h2] at h1
  have h3 : z.2 * (if (z.1.1, z.1.2) = z.1 then (1 : Int) else 0) + 0 = 0 := h1
  rw [if_pos rfl] at h3
  omega
/-! ### a hand's place in a lot -/
theorem lot_at_split {n a : Nat} {lot : List Nat} (L : Lot n a lot) {i h : Nat} (e : lot[i]? = some h) : sg h lot = sgn i ∧ lot.take i ++ lot.drop (i + 1) = wo lot h := by
  have hlt := (List.getElem?_eq_some_iff.mp e).1
  have eh := (List.getElem?_eq_some_iff.mp e).2
  have el : lot = lot.take i ++ h :: lot.drop (i + 1) := by
    rw [← eh, ← List.drop_eq_getElem_cons hlt, List.take_append_drop]
  have pw := L.pw
  rw [el] at pw
  obtain ⟨p1, p2, p3⟩ := List.pairwise_append.mp pw
  obtain ⟨p4, _⟩ := List.pairwise_cons.mp p2
  have lo : ∀ x ∈ lot.take i, x < h := fun x hx => p3 x hx h List.mem_cons_self
  constructor
  · have ef : lot.filter (fun x => decide (x < h)) = lot.take i := by
      conv => lhs; rw [el]
      rw [List.filter_append, List.filter_cons, if_neg (by simp), List.filter_eq_self.mpr fun x hx => decide_eq_true (lo x hx), List.filter_eq_nil_iff.mpr fun x hx => by
        have := p4 x hx
        simp only [decide_eq_true_eq]
        omega]
      exact List.append_nil _
    unfold sg
    rw [ef, List.length_take, Nat.min_eq_left (Nat.le_of_lt hlt)]
  · unfold wo
    conv => rhs; rw [el]
    rw [List.filter_append, List.filter_cons, if_neg (by simp), List.filter_eq_self.mpr fun x hx => by
      have := lo x hx
      simp only [Bool.not_eq_true', decide_eq_false_iff_not]
      omega, List.filter_eq_self.mpr fun x hx => by
      have := p4 x hx
      simp only [Bool.not_eq_true', decide_eq_false_iff_not]
      omega]
/-! ### the contracts -/
def cAdd : DSp := fun ds μ Q => ∃ (b : Addr) (ws : List (Option Int)) (lot : List Nat) (c : Int) (zs : Hd), ds = [.ref b, wishD ws, lotD lot, .int c] ∧ ws.length ≤ 60 ∧ Lot ws.length 0 lot ∧ c.natAbs ≤ 2 ^ 100 ∧ μ b = some (.dt (heD zs)) ∧ (zs.map (·.1)).Nodup ∧ zs.length ≤ 10000000 ∧
  ∀ zs' : Hd, (zs'.map (·.1)).Nodup → zs'.length ≤ zs.length + 60 → (∀ P, htot zs' P = htot zs P + c * cryP ws P lot) → Q .non (mput μ b (.dt (heD zs')))
def w_add : DTS :=
  (dFor (dIEnum (dCons (dVar 2) dNil)) (gTp 2 (gsCons (gN 4) (gsCons (gN 5) gsNil))) (dIfS (dT (dOp dIsN (dOp dIx (dVar 1) (dVar 5)) (dC .non))) (dSeq (dAsg (dTup (dCons (dOp dIx (dVar 1) (dVar 5)) (dCons (dOp dAdd (dSl (dVar 2) dNoP (dPt (dVar 4))) (dSl (dVar 2) (dPt (dOp dAdd (dVar 4) (dC (.int 1)))) dNoP)) dNil))) (gN 6))
  (sDPutD (dVar 0) (dVar 6) (dOp dAdd (dGet2 (dVar 0) (dVar 6) (dC (.int 0))) (dOp dMul (dVar 3) (dOp oSub (dC (.int 1)) (dOp dMul (dC (.int 2)) (dOp oMod (dVar 4) (dC (.int 2))))))))) dNext))
theorem heD_val {zs : Hd} {k : NestedKey} {d : D} (h : getT (heD zs) k = some d) : ∃ x, d = .int x := by
  unfold getT at h
  cases e : (heD zs).find? fun kv => decide (kv.1 = k) with
  | none => rw [e] at h; cases h
  | some p =>
    rw [e] at h
    have hm := List.mem_of_find?_eq_some e
    unfold heD at hm
    obtain ⟨z, _, rfl⟩ := List.mem_map.mp hm
    exact ⟨z.2, (Option.some.inj h).symm⟩
theorem add_ok (N : List Str) (hN : N.length = 7) : ∀ ds μ Q, cAdd ds μ Q → w_add { nx := fun _ μ' => fin Q .non μ', rt := fin Q } (dstart N ds) μ := by
  intro ds μ Q hc
  obtain ⟨b, ws, lot, c, zs, rfl, hl, L, hc1, m0, nd0, hzs, q⟩ := hc
  have hz := sizeLine_eq
  have hll := L.drop_ok
  unfold w_add
  simp only [dSim, dFor, dIEnum, hN]
  refine ⟨_, _, rfl, .inr rfl, ?_⟩
  refine for_inv (fun i ρ μ' => ∃ (zs' : Hd) (x y z : Option D), μ' = mput μ b (.dt (heD zs')) ∧ (zs'.map (·.1)).Nodup ∧ zs'.length ≤ zs.length + i ∧ (∀ P : Int → List Nat → Int, htot zs' P = htot zs P + c * ((wl ws (lot.take i)).map fun h => sg h lot * P (wv ws h) (wo lot h)).sum) ∧ ρ = [some (.ref b), some (wishD ws), some (lotD lot), some (.int c), x, y, z])
    ⟨zs, none, none, none, (mput_self m0).symm, nd0, Nat.le_refl _, fun P => by rw [List.take_zero]; exact (by rw [show wl ws [] = [] from rfl, List.map_nil, List.sum_nil, Int.mul_zero, Int.add_zero]), rfl⟩ (fun _ _ _ _ _ => rfl) (fun i d ρ μ' N1 hi h hN1 => ?_) fun ρ μ' h => ?_
  · obtain ⟨zs1, x, y, z, rfl, nd1, hl1, ht1, rfl⟩ := h
    obtain ⟨e, he, rfl⟩ := enumD_get.mp hi
    rw [List.getElem?_map] at he
    unfold iL at he
    rw [List.getElem?_map] at he
    cases ea : lot[i]? with
    | none => rw [ea] at he; cases he
    | some h =>
      rw [ea] at he
      cases he
      have hlt : i < lot.length := (List.getElem?_eq_some_iff.mp ea).1
      have hmem := List.mem_of_getElem? ea
      have hn := (L.mem h hmem).2
      obtain ⟨es, ew⟩ := lot_at_split L ea
      have et : lot.take (i + 1) = lot.take i ++ [h] := by rw [List.take_succ, ea]; rfl
      simp only [z_tp, z_gsc, z_gsn, gN, List.set_cons_zero, List.set_cons_succ, List.length_cons, List.length_nil, true_and]
      simp only [dSim]
      refine ⟨_, at_nat' (wish_at hn), ?_⟩
      simp only [dSim, isNone_oD, Bool.not_not]
      by_cases cw : (wish ws h).isSome = true
      · rw [if_pos cw]
        refine ⟨_, at_nat' (wish_at hn), .inr ⟨_, rfl, .inr ⟨_, rfl, ?_⟩⟩⟩
        have e1 : cutD ((iL lot).map D.int) none (some (i : Int)) = (iL (lot.take i)).map D.int := by
          rw [cut_to (by omega), Int.toNat_natCast]
          unfold iL
          rw [List.map_take, List.map_take]
        have e2 : cutD ((iL lot).map D.int) (some ((i : Int) + 1)) none = (iL (lot.drop (i + 1))).map D.int := by
          rw [cut_from (by omega), show (i : Int) + 1 = ((i + 1 : Nat) : Int) by omega, Int.toNat_natCast]
          unfold iL
          rw [List.map_drop, List.map_drop]
        rw [e1, e2, lot_app, ew, List.length_map, List.length_map, iL_len, iL_len, List.length_take, List.length_drop, oD_some cw]
        refine ⟨by omega, by omega, ?_⟩
        have ek : D.tup [.int (wv ws h), D.tup ((iL (wo lot h)).map D.int)] = nkD (hkey (wv ws h, wo lot h)) := (hkey_D _ _).symm
        have see1 : see (mput μ b (.dt (heD zs1))) (.ref b) = .dt (heD zs1) := by simp only [see, mput_same]
        have ec : sgn i = 1 - 2 * ((i : Int) % 2) := by
          unfold sgn
          split <;> omega
        have fin1 : ∀ x : Int, putT (heD zs1) (hkey (wv ws h, wo lot h)) (.int (x + c * (1 - 2 * ((i : Int) % 2)))) = heD (hput zs1 (wv ws h, wo lot h) (c * (1 - 2 * ((i : Int) % 2)))) →
            Put (mput μ b (.dt (heD zs1))) (.ref b) (D.tup [.int (wv ws h), D.tup ((iL (wo lot h)).map D.int)]) (.int (x + c * (1 - 2 * ((i : Int) % 2)))) (N1 [some (.ref b), some (wishD ws), some (lotD lot), some (.int c), some (.int (i : Nat)), some (.int (h : Nat)), some (D.tup [.int (wv ws h), D.tup ((iL (wo lot h)).map D.int)])]) := fun x hx => by
          refine .inr ⟨b, heD zs1, _, rfl, mput_same, ek, hkey_NT (wv ws h, wo lot h), hkey_depth (wv ws h, wo lot h), ?_, ?_⟩
          · unfold heD
            rw [List.length_map]
            omega
          · have hx : putT (heD zs1) (NestedKey.tup [.num (wv ws h), .tup (lkey (wo lot h))]) (.int (x + c * (1 - 2 * ((i : Int) % 2)))) = heD (hput zs1 (wv ws h, wo lot h) (c * (1 - 2 * ((i : Int) % 2)))) := hx
            rw [hx, mput_mput]
            obtain ⟨k1, k2⟩ := hput_keys (k := (wv ws h, wo lot h)) (c := c * (1 - 2 * ((i : Int) % 2))) nd1
            refine hN1 _ _ ⟨_, _, _, _, rfl, k1, by omega, fun P => ?_, rfl⟩
            rw [htot_put nd1, ht1 P, et]
            unfold wl
            rw [List.filter_append, List.filter_cons, if_pos cw, List.filter_nil, List.map_append, List.sum_append, List.map_cons, List.map_nil, List.sum_cons, List.sum_nil, Int.add_zero, Int.mul_add, Int.add_assoc, es, ec, Int.mul_assoc]
        simp only [dSim, sDPutD]
        refine ⟨.inr ⟨_, see1⟩, getT (heD zs1) (hkey (wv ws h, wo lot h)), .inr ⟨_, _, see1, ek, hkey_depth (wv ws h, wo lot h), rfl⟩, ?_⟩
        have g1 := heD_get (k := (wv ws h, wo lot h)) (c := c * (1 - 2 * ((i : Int) % 2))) nd1
        have hb : (1 - 2 * ((i : Int) % 2)).natAbs ≤ 1 := by omega
        refine ⟨by decide, mul1 (by decide) (Nat.le_trans (by omega : ((i : Int) % 2).natAbs ≤ 1) (by decide)), mul1 hc1 (Nat.le_trans hb (by decide)), ?_⟩
        cases eo : getT (heD zs1) (hkey (wv ws h, wo lot h)) with
        | none =>
          rw [eo] at g1
          simp only [Option.getD_none, z_add_int]
          refine fin1 0 ?_
          rw [Int.zero_add]
          exact g1
        | some d =>
          obtain ⟨x0, rfl⟩ := heD_val eo
          rw [eo] at g1
          simp only [Option.getD_some, z_add_int]
          exact fin1 x0 g1
      · rw [if_neg cw]
        refine hN1 _ _ ⟨zs1, _, _, _, rfl, nd1, by omega, fun P => ?_, rfl⟩
        rw [ht1 P, et]
        unfold wl
        rw [List.filter_append, List.filter_cons, if_neg cw, List.filter_nil, List.append_nil]
  · obtain ⟨zs1, x, y, z, rfl, nd1, hl1, ht1, rfl⟩ := h
    rw [enumD_len, List.length_map, iL_len] at hl1 ht1
    rw [List.take_length] at ht1
    exact fin_of (q zs1 nd1 (by omega) ht1)
def cIsTold : DSp := fun ds μ Q => ∃ (ws : List (Option Int)) (lot : List Nat) (T : List (List Nat × Int)), ds = [wishD ws, lotD lot, toldD T] ∧ ws.length ≤ 60 ∧ Lot ws.length 0 lot ∧ T.length ≤ 100000 ∧ (∀ e ∈ T, Lot ws.length 0 e.1 ∧ e.2.natAbs ≤ 2 ^ 100) ∧ (∀ P, (T.map fun e => e.2 * cryP ws P e.1).sum = cryP ws P lot) ∧ Q (.bl true) μ
def w_isTold : DTS :=
  (dSeq (dAsg dNewT (gN 3))
  (dSeq (dDrop (dCall cAdd [] (dCons (dVar 3) (dCons (dVar 0) (dCons (dVar 1) (dCons (dNeg (dC (.int 1))) dNil))))))
  (dSeq (dFor (dISeq (dVar 2)) (gTp 2 (gsCons (gN 4) (gsCons (gN 5) gsNil))) (dDrop (dCall cAdd [] (dCons (dVar 3) (dCons (dVar 0) (dCons (dVar 5) (dCons (dVar 4) dNil)))))))
  (dRet (dNotV (dCB fAny (dCons (dLc (dIVals (dFrzD 3)) (gN 6) dYes (dOp dNe (dVar 6) (dC (.int 0))) [6]) dNil)))))))
theorem isTold_ok (N : List Str) (hN : N.length = 7) : ∀ ds μ Q, cIsTold ds μ Q → w_isTold { nx := fun _ μ' => fin Q .non μ', rt := fin Q } (dstart N ds) μ := by
  intro ds μ Q hc
  obtain ⟨ws, lot, T, rfl, hl, L, hT, hTe, hsum, q⟩ := hc
  have hz := sizeLine_eq
  unfold w_isTold
  refine seq_cut fun R hR => ?_
  simp only [dSim, hN, dNewT]
  intro b hb
  refine hR _ _ (seq_cut fun R1 hR1 => ?_)
  simp only [dSim, cAdd]
  refine ⟨b, ws, lot, -1, [], rfl, hl, L, by decide, mput_same, List.nodup_nil, Nat.zero_le _, fun zs0 nd0 hl0 ht0 => hR1 _ _ (seq_cut fun R2 hR2 => ?_)⟩
  rw [mput_mput]
  simp only [dSim, dFor, dISeq]
  refine ⟨_, .inr rfl, ?_⟩
  refine for_inv (fun i ρ μ' => ∃ (zs : Hd) (x y : Option D), μ' = mput μ b (.dt (heD zs)) ∧ (zs.map (·.1)).Nodup ∧ zs.length ≤ 60 + 60 * i ∧ (∀ P, htot zs P = (-1) * cryP ws P lot + ((T.take i).map fun e => e.2 * cryP ws P e.1).sum) ∧ ρ = [some (wishD ws), some (lotD lot), some (toldD T), some (.ref b), x, y, none])
    ⟨zs0, none, none, rfl, nd0, by simpa using hl0, fun P => by rw [ht0 P]; simp [htot], rfl⟩ (fun _ _ _ _ _ => rfl) (fun i d ρ μ' N1 hi h hN1 => ?_) fun ρ μ' h => ?_
  · obtain ⟨zs, x, y, rfl, nd, hzl, ht, rfl⟩ := h
    rw [List.getElem?_map] at hi
    cases e : T[i]? with
    | none => rw [e] at hi; cases hi
    | some t =>
      rw [e] at hi
      cases hi
      have hlt : i < T.length := (List.getElem?_eq_some_iff.mp e).1
      obtain ⟨t1, t2⟩ := hTe t (List.mem_of_getElem? e)
      have et : T.take (i + 1) = T.take i ++ [t] := by rw [List.take_succ, e]; rfl
      simp only [z_tp, z_gsc, z_gsn, gN, List.set_cons_zero, List.set_cons_succ, List.length_cons, List.length_nil, true_and]
      simp only [dSim, cAdd]
      refine ⟨b, ws, t.1, t.2, zs, rfl, hl, t1, t2, mput_same, nd, by omega, fun zs' nd' hl' ht' => ?_⟩
      rw [mput_mput]
      refine hN1 _ _ ⟨zs', _, _, rfl, nd', by omega, fun P => ?_, rfl⟩
      rw [ht' P, ht P, et, List.map_append, List.sum_append, List.map_cons, List.map_nil, List.sum_cons, List.sum_nil]
      omega
  · obtain ⟨zs, x, y, rfl, nd, hzl, ht, rfl⟩ := h
    rw [List.length_map] at hzl ht
    rw [List.take_length] at ht
    have z0 := htot_zero nd fun P => by rw [ht P, hsum P]; omega
    refine hR2 _ _ ?_
    simp only [dSim, dLc, dIVals]
    refine .inr ⟨_, mput_same, .inr ⟨_, rfl, ?_⟩⟩
    have ev : (heD zs).map (·.2) = zs.map fun z => D.int z.2 := by
      unfold heD
      rw [List.map_map]
      rfl
    rw [ev]
    refine lc_any1 zs (fun z => D.int z.2) (fun z => .bl false) trivial (by omega) (fun z K hzm hK => ?_) ?_
    · simp only [dSim, dwipe, z_ne_int, z0 z hzm]
      exact hK
    refine any_of (bs := zs.map fun _ => false) (by rw [see_lst, List.map_map]; rfl) ?_
    have ea : (zs.map fun _ => false).any id = false := by
      rw [List.any_eq_false]
      intro x hx
      obtain ⟨_, _, rfl⟩ := List.mem_map.mp hx
      decide
    rw [ea]
    simp only [dSim]
    refine fin_sub ?_ q
    intro a m e
    have c : a ≠ b := fun c => by rw [c, hb] at e; cases e
    unfold mdel
    rw [if_neg c, mput_ne c]
    exact e
end DL

/-! ToldP: what holds of that which is told. -/
namespace DL
open PySem PySem.Spec PyProof.Rows L2
theorem clw_perm {ws : List (Option Int)} {v : Int} {E F : List Nat} (h : E.Perm F) : (clw ws E v).Perm (clw ws F v) := h.filter _
theorem clw_app {ws : List (Option Int)} {v : Int} {E F : List Nat} : clw ws (E ++ F) v = clw ws E v ++ clw ws F v := List.filter_append ..
theorem len_one {l : List Nat} {a : Nat} (nd : l.Nodup) (h : ∀ x ∈ l, x = a) : l.length ≤ 1 := by
  cases l with
  | nil => exact Nat.zero_le _
  | cons x l =>
    cases l with
    | nil => exact Nat.le_refl _
    | cons y l =>
      exfalso
      have h1 := h x List.mem_cons_self
      have h2 := h y (List.mem_cons_of_mem _ List.mem_cons_self)
      rw [h1, h2] at nd
      exact (List.nodup_cons.mp nd).1 List.mem_cons_self
theorem prod_two {f g : Int → Nat} : ∀ ms : List Int, (∀ v ∈ ms, f v ≤ 1 + g v) → (ms.map f).prod ≤ 2 ^ (ms.map g).sum
  | [], _ => by simp
  | v :: ms, h => by
    have h1 := prod_two ms fun u hu => h u (List.mem_cons_of_mem _ hu)
    have h2 := h v List.mem_cons_self
    rw [List.map_cons, List.prod_cons, List.map_cons, List.sum_cons, Nat.pow_add]
    refine Nat.mul_le_mul (Nat.le_trans h2 ?_) h1
    have := Nat.lt_two_pow_self (n := g v)
    omega
theorem sum_lens {ws : List (Option Int)} {ms : List Int} (nd : ms.Nodup) {E : List Nat} (hc : ∀ h ∈ E, ∀ v, wish ws h = some v → v ∈ ms) : (ms.map fun v => (clw ws E v).length).sum ≤ E.length := by
  have h := sum_by nd (t := fun _ => 1) hc
  have e1 : ∀ l : List Nat, (l.map fun _ => (1 : Int)).sum = l.length := fun l => by
    induction l with
    | nil => rfl
    | cons x l ih => rw [List.map_cons, List.sum_cons, ih, List.length_cons]; omega
  have e2 : ∀ ns : List Int, (ns.map fun v => ((clw ws E v).map fun _ => (1 : Int)).sum).sum = ((ns.map fun v => (clw ws E v).length).sum : Nat) := fun ns => by
    induction ns with
    | nil => rfl
    | cons x l ih => rw [List.map_cons, List.sum_cons, ih, e1, List.map_cons, List.sum_cons]; omega
  rw [e1, e2] at h
  have := List.length_filter_le (fun h => (wish ws h).isSome) E
  unfold wl at h
  omega
section
variable {ws : List (Option Int)} {lot l : List Nat} {ms : List Int} {E : List Nat} (B : Bare ws lot l ms E)
include B
theorem Bare.few : DL.ways ws l lot ms ≤ 2 ^ lot.length := by
  rw [B.ways, chs_len]
  unfold cls
  rw [List.map_map]
  have h1 : ∀ v ∈ ms, (List.length ∘ clw ws E) v ≤ 1 + (clw ws lot v).length := fun v hv => by
    show (clw ws E v).length ≤ _
    rw [(clw_perm B.E2).length_eq, clw_app, List.length_append]
    have h2 : (clw ws l v).length ≤ 1 := len_one (a := fi ws v) (List.Pairwise.filter _ B.ld.1.nodup) fun x hx => by
      obtain ⟨h3, h4⟩ := mem_clw.mp hx
      obtain ⟨u, h5, h6⟩ := (B.ld.2 x).mp h3
      rw [wish_some, h5] at h4
      cases h4
      exact h6.symm
    omega
  refine Nat.le_trans (prod_two ms h1) (Nat.pow_le_pow_right (by decide) ?_)
  exact sum_lens B.nd fun h hh v e => B.cov h (B.mem.mpr (.inl hh)) v e
end
theorem exists_E {ws : List (Option Int)} {lot l : List Nat} {ms : List Int} (L : Lot ws.length 0 lot) (ld : Ld ws l) (wd : Wd ws ms) (no : has l false lot = false) : ∃ E, Bare ws lot l ms E := by
  have nd0 : (lot ++ l).Nodup := List.nodup_append.mpr ⟨L.nodup, ld.1.nodup, fun a ha b hb e => by
    subst e
    unfold has at no
    rw [Bool.false_or, List.any_eq_false] at no
    exact no a ha (decide_eq_true hb)⟩
  have hlt : ∀ x ∈ lot ++ l, x < ws.length := fun x hx => (List.mem_append.mp hx).elim (fun h => (L.mem x h).2) fun h => (ld.1.mem x h).2
  let E := (List.range ws.length).filter fun x => decide (x ∈ lot ++ l)
  have p1 : E.Pairwise (· < ·) := List.Pairwise.filter _ List.pairwise_lt_range
  refine ⟨E, L, ld, wd, no, lot_of_pw p1 fun x hx => ?_, (List.perm_ext_iff_of_nodup (p1.imp fun h => Nat.ne_of_lt h) nd0).mpr fun x => ?_⟩
  · have := List.mem_range.mp (List.mem_filter.mp hx).1
    omega
  · rw [List.mem_filter, List.mem_range, decide_eq_true_eq]
    exact ⟨fun h => h.2, fun h => ⟨hlt x h, h⟩⟩
/-- few ways for lots of few hands -/
theorem few_ways {ws : List (Option Int)} {lot : List Nat} (L : Lot ws.length 0 lot) (hl : lot.length ≤ 10) : ∀ ms l, Wd ws ms → Ld ws l → has l false lot = false → ways ws l lot ms ≤ 2001 := fun ms l wd ld no => by
  obtain ⟨E, B⟩ := exists_E L ld wd no
  have h1 := B.few
  have h2 : (2 : Nat) ^ lot.length ≤ 2 ^ 10 := Nat.pow_le_pow_right (by decide) hl
  exact Nat.le_trans h1 (Nat.le_trans h2 (by decide))
section
variable {ws : List (Option Int)} {lot : List Nat} {T : List (List Nat × Int)}
theorem Told.mem (h : Told ws lot T) (L : Lot ws.length 0 lot) {l : List Nat} (ld : Ld ws l) : ∀ e ∈ T, Lot ws.length 0 e.1 ∧ e.1.length = lot.length ∧ has l false e.1 = true ∧ (e.2 = 1 ∨ e.2 = -1) := fun e he => by
  rcases h with ⟨l', h1, h2, rfl⟩ | ⟨l', ms, E, B, pm, _⟩
  · cases h1.eq ld
    rw [List.mem_singleton] at he
    subst he
    exact ⟨L, rfl, h2, .inl rfl⟩
  · cases B.ld.eq ld
    exact B.fnd_mem (pm.mem_iff.mp he)
theorem Told.lots (h : Told ws lot T) (L : Lot ws.length 0 lot) : ∀ e ∈ T, Lot ws.length 0 e.1 ∧ e.1.length = lot.length ∧ (e.2 = 1 ∨ e.2 = -1) := fun e he => by
  rcases h with ⟨l', h1, h2, rfl⟩ | ⟨l', ms, E, B, pm, _⟩
  · rw [List.mem_singleton] at he
    subst he
    exact ⟨L, rfl, .inl rfl⟩
  · obtain ⟨a, b, _, d⟩ := B.fnd_mem (pm.mem_iff.mp he)
    exact ⟨a, b, d⟩
theorem Told.sum (h : Told ws lot T) (P : Int → List Nat → Int) : (T.map fun e => e.2 * cryP ws P e.1).sum = cryP ws P lot := by
  rcases h with ⟨l', h1, h2, rfl⟩ | ⟨l', ms, E, B, pm, _⟩
  · rw [List.map_cons, List.map_nil, List.sum_cons, List.sum_nil, Int.one_mul, Int.add_zero]
  · rw [← B.sum P]
    have p2 := pm.map fun e => e.2 * cryP ws P e.1
    clear pm
    generalize T.map _ = a at *
    generalize (fnd ws E ms lot).map _ = b at *
    induction p2 with
    | nil => rfl
    | cons x _ ih => rw [List.sum_cons, List.sum_cons, ih]
    | swap x y l => rw [List.sum_cons, List.sum_cons, List.sum_cons, List.sum_cons]; omega
    | trans _ _ h1 h2 => rw [h1, h2]
theorem fnd_len {l ms E} (B : Bare ws lot l ms E) : (fnd ws E ms lot).length + 1 = ways ws l lot ms := by
  unfold fnd
  rw [List.length_map, B.ways]
  have h := sum_split' (g := fun _ => (1 : Int)) B.cnd B.first_in
  have e1 : ∀ l : List (List Nat), (l.map fun _ => (1 : Int)).sum = l.length := fun l => by
    induction l with
    | nil => rfl
    | cons x l ih => rw [List.map_cons, List.sum_cons, ih, List.length_cons]; omega
  rw [e1, e1] at h
  omega
theorem Told.few (h : Told ws lot T) (hl : lot.length ≤ 10) : T.length ≤ 1024 := by
  rcases h with ⟨l', h1, h2, rfl⟩ | ⟨l', ms, E, B, pm, _⟩
  · show 1 ≤ 1024
    decide
  · have h1 := fnd_len B
    have h2 := B.few
    have h3 : (2 : Nat) ^ lot.length ≤ 2 ^ 10 := Nat.pow_le_pow_right (by decide) hl
    have h4 : (2 : Nat) ^ 10 = 1024 := by decide
    rw [pm.length_eq]
    omega
theorem shb_told (h : Told ws lot T) (L : Lot ws.length 0 lot) (hw : ws.length ≤ 60) (hl : lot.length ≤ 10) : ∃ m, Shb 40 m (toldD T) ∧ m ≤ sizeLine := by
  have hz := sizeLine_eq
  have hT := h.few hl
  refine ⟨8000000, ⟨5600, fun d hd => ?_, ?_⟩, by omega⟩
  · obtain ⟨e, he, rfl⟩ := List.mem_map.mp hd
    obtain ⟨h1, h2, h3⟩ := h.lots L e he
    refine ⟨2600, fun x hx => ?_, by simp only [List.length_cons, List.length_nil]; omega⟩
    simp only [List.mem_cons, List.not_mem_nil, or_false] at hx
    rcases hx with rfl | rfl
    · rcases h3 with h3 | h3 <;> (rw [h3]; exact ⟨by decide, by decide, by decide⟩)
    · exact shb_lot (fun y hy => Nat.lt_trans (h1.mem y hy).2 (Nat.lt_of_le_of_lt hw (by decide))) (by omega)
  · rw [List.length_map]
    omega
theorem plDs_all {n : Nat} : ∀ {ds : List D}, (∀ d ∈ ds, plD n d = true) → plDs n ds = true
  | [], _ => rfl
  | d :: ds, h => by
    show (plD n d && plDs n ds) = true
    rw [h d List.mem_cons_self, plDs_all fun e he => h e (List.mem_cons_of_mem _ he)]
    rfl
theorem pl_lotN {n : Nat} (l : List Nat) : plD (n + 1) (lotD l) = true := plDs_all fun d hd => by
  obtain ⟨i, _, rfl⟩ := List.mem_map.mp hd
  cases n <;> rfl
theorem pl_told (T : List (List Nat × Int)) : Pl (toldD T) := plDs_all (n := 59) fun d hd => by
  obtain ⟨e, _, rfl⟩ := List.mem_map.mp hd
  refine plDs_all (n := 58) fun x hx => ?_
  simp only [List.mem_cons, List.not_mem_nil, or_false] at hx
  rcases hx with rfl | rfl
  · rfl
  · exact pl_lotN _
end
end DL

/-! AllP: all lots, all cries from the made ones. -/
namespace DL
open PySem PySem.Spec PyProof.Rows L2
def cLots : DSp := fun ds μ Q => ∃ (n k : Nat), ds = [.int n, .int k] ∧ n ≤ 60 ∧ k ≤ 100 ∧ bin n k ≤ 2000 ∧ Q (.tup ((lots n 0 k).map lotD)) μ
def w_lots : DTS :=
  (dSeq (dAsg (dCall cChoose [] (dCons (dVar 0) (dCons (dVar 1) dNil))) (gN 2))
  (dSeq (dIfS (dT (dOp oGt (dVar 2) (dC (.int 2000)))) dNever dNext)
  (dRet (dCB fTuple (dCons (dLc (dIR1 (dCons (dVar 2) dNil)) (gN 3) dYes (dCall cLotAt [] (dCons (dVar 0) (dCons (dVar 1) (dCons (dVar 3) dNil)))) [3]) dNil)))))
theorem lots_ok (N : List Str) (hN : N.length = 4) : ∀ ds μ Q, cLots ds μ Q → w_lots { nx := fun _ μ' => fin Q .non μ', rt := fin Q } (dstart N ds) μ := by
  intro ds μ Q hc
  obtain ⟨n, k, rfl, hn, hk, hb, q⟩ := hc
  have hz := sizeLine_eq
  unfold w_lots
  refine seq_cut fun R hR => ?_
  simp only [dSim, hN, cChoose]
  refine ⟨n, k, rfl, hn, by omega, hR _ _ (seq_cut fun R1 hR1 => ?_)⟩
  simp only [dSim]
  rw [decide_eq_false (by omega), if_neg (by decide)]
  refine hR1 _ _ ?_
  simp only [dSim, dLc, dIR1]
  refine ⟨bin n k, rfl, by omega, by omega, ?_⟩
  rw [Int.toNat_natCast, rng_map]
  refine lc_gen1 (List.range (bin n k)) _ (fun i => lotD (unr n 0 k i)) trivial (by rw [List.length_range]; omega) (fun i K hi hK => ?_) ?_
  · obtain ⟨h1, h2, h3⟩ := unr_ok n 0 k i (List.mem_range.mp hi)
    rw [Nat.zero_add] at h1 h3
    simp only [dSim, dwipe, cLotAt]
    exact ⟨n, unr n 0 k i, by rw [h2, h3], hn, h1, hK⟩
  · have e : (List.range (bin n k)).map (fun i => lotD (unr n 0 k i)) = (lots n 0 k).map lotD := by
      rw [lots_unr, List.map_map]
      rfl
    rw [e]
    exact fin_of q
def cAllFrom : DSp := fun ds μ Q => ∃ (p t : Nat) (ws : List (Option Int)) (cs : List Nat) (P : Int → List Nat → Int), ds = [.int p, .int t, wishD ws, lotD cs] ∧ 2 ≤ p ∧ p ≤ 10 ^ 9 ∧ ws.length ≤ 60 ∧ t + 1 ≤ 10 ∧ bin ws.length (t + 1) ≤ 2000 ∧ (∀ c ∈ cs, c < p) ∧
  (∀ l, Ld ws l → ∀ lot, Lot ws.length 0 lot → lot.length = t + 1 → has l false lot = true → ∃ c, cs[mr l ws.length 0 false lot]? = some c ∧ (c : Int) = cryP ws P lot % (p : Nat)) ∧ Q (.tup ((lots ws.length 0 (t + 1)).map fun lot => .int (cryP ws P lot % (p : Nat)))) μ
def w_allFrom : DTS :=
  (dSeq (dAsg (dLstM dNil) (gN 4))
  (dSeq (dFor (dISeq (dCall cLots [] (dCons (dCB fLen (dCons (dVar 2) dNil)) (dCons (dOp dAdd (dVar 1) (dC (.int 1))) dNil)))) (gN 5) (dDrop (dMl mAppend (dVar 4) (dCons (dOp oMod (dCB fSum (dCons (dLc (dISeq (dCall cTold [] (dCons (dVar 2) (dCons (dVar 5) dNil)))) (gTp 2 (gsCons (gN 6) (gsCons (gN 7) gsNil))) dYes (dOp dMul (dVar 6) (dOp dIx (dVar 3) (dCall cMadeNumber [] (dCons (dVar 2) (dCons (dVar 7) dNil))))) [6, 7]) dNil)) (dVar 0)) dNil))))
  (dRet (dCB fTuple (dCons (dVar 4) dNil)))))
theorem sum_mod {α : Type} {f g : α → Int} {p : Int} : ∀ {l : List α}, (∀ a ∈ l, f a % p = g a % p) → (l.map f).sum % p = (l.map g).sum % p
  | [], _ => rfl
  | a :: l, h => by
    rw [List.map_cons, List.map_cons, List.sum_cons, List.sum_cons, Int.add_emod, h a List.mem_cons_self, sum_mod fun b hb => h b (List.mem_cons_of_mem _ hb), ← Int.add_emod]
theorem allFrom_ok (N : List Str) (hN : N.length = 8) : ∀ ds μ Q, cAllFrom ds μ Q → w_allFrom { nx := fun _ μ' => fin Q .non μ', rt := fin Q } (dstart N ds) μ := by
  intro ds μ Q hc
  obtain ⟨p, t, ws, cs, P, rfl, hp1, hp2, hl, ht, hb, hcs, hmade, q⟩ := hc
  have hz := sizeLine_eq
  unfold w_allFrom
  refine seq_cut fun R hR => ?_
  simp only [dSim, hN]
  refine ⟨by omega, fun b hb2 => hR _ _ (seq_cut fun R1 hR1 => ?_)⟩
  simp only [dSim, dFor, dISeq, cLots, List.length_map]
  refine ⟨ws.length, t + 1, rfl, hl, by omega, hb, _, .inr rfl, ?_⟩
  refine for_inv (fun i ρ μ' => μ' = mput μ b (.lst (((lots ws.length 0 (t + 1)).take i).map fun lot => .int (cryP ws P lot % (p : Nat)))) ∧ ∃ x, ρ = [some (.int p), some (.int t), some (wishD ws), some (lotD cs), some (.ref b), x, none, none])
    ⟨rfl, none, rfl⟩ (fun _ _ _ _ _ => rfl) (fun i d ρ μ' N1 hi h hN1 => ?_) fun ρ μ' h => ?_
  · obtain ⟨rfl, x, rfl⟩ := h
    rw [List.getElem?_map] at hi
    cases e : (lots ws.length 0 (t + 1))[i]? with
    | none => rw [e] at hi; cases hi
    | some lot =>
      rw [e] at hi
      cases hi
      obtain ⟨L, hlen, _, hil⟩ := lots_get e
      have et : (lots ws.length 0 (t + 1)).take (i + 1) = (lots ws.length 0 (t + 1)).take i ++ [lot] := by rw [List.take_succ, e]; rfl
      simp only [dSim, z_isL mput_same, dLc, dISeq, cTold]
      refine ⟨ws, lot, rfl, hl, L, few_ways L (by omega), fun T hT => ⟨_, .inr rfl, ?_⟩⟩
      have hTl := hT.few (by omega)
      refine lc_any1 T (fun e => .tup [.int e.2, lotD e.1]) (fun e => .int (e.2 * (cryP ws P e.1 % (p : Nat)))) (by exact rfl) (by omega) (fun e K he hK => ?_) ?_
      · obtain ⟨a1, a2, a3⟩ := hT.lots L e he
        simp only [z_tp, z_gsc, z_gsn, gN, List.set_cons_zero, List.set_cons_succ, List.length_cons, List.length_nil, true_and]
        simp only [dSim, dwipe, cMadeNumber]
        refine ⟨ws, e.1, rfl, hl, a1, fun l ld => ?_⟩
        obtain ⟨_, _, b3, _⟩ := hT.mem L ld e he
        obtain ⟨c, c1, c2⟩ := hmade l ld e.1 a1 (by omega) b3
        unfold mnD
        rw [if_pos b3]
        simp only [dSim]
        refine ⟨_, at_nat' (lotD_at c1), ?_⟩
        have hc := hcs c (List.mem_of_getElem? c1)
        simp only [dSim]
        refine ⟨mul1 ?_ ?_, ?_⟩
        · rcases a3 with a3 | a3 <;> (rw [a3]; decide)
        · rw [Int.natAbs_natCast]
          exact Nat.le_trans (by omega : c ≤ 10 ^ 9) (by decide)
        · rw [c2]
          exact hK
      refine sum_of (ns := T.map fun e => e.2 * (cryP ws P e.1 % (p : Nat))) (by rw [see_lst, List.map_map]; rfl) ?_
      simp only [dSim]
      have em : (T.map fun e => e.2 * (cryP ws P e.1 % (p : Nat))).sum % (p : Int) = cryP ws P lot % (p : Int) := by
        rw [← hT.sum P]
        exact sum_mod fun e _ => by rw [Int.mul_emod, Int.emod_emod, ← Int.mul_emod]
      rw [em]
      simp only [z_onL mput_same, z_append, mput_mput]
      have hll := lots_len ws.length 0 (t + 1)
      refine ⟨by omega, by rw [List.length_map, List.length_take]; omega, hN1 _ _ ⟨?_, _, rfl⟩⟩
      rw [et, List.map_append]
      rfl
  · obtain ⟨rfl, x, rfl⟩ := h
    rw [List.length_map, List.take_length]
    refine hR1 _ _ ?_
    simp only [dSim, fTuple]
    exact ⟨_, _, rfl, .inl (see_ref mput_same), fin_sub (Sub.put hb2 Sub.refl) q⟩
end DL

/-! TelP: a cry told, a file told, the made lots, their cries. -/
namespace DL
open PySem PySem.Spec PyProof.Rows L2
/-- a row of cries, by made numbers -/
def Heard (ws : List (Option Int)) (P : Int → List Nat → Int) (p k : Nat) (cs : List Nat) : Prop := (∀ c ∈ cs, c < p) ∧
  ∀ l, Ld ws l → ∀ lot, Lot ws.length 0 lot → lot.length = k → has l false lot = true → ∃ c, cs[mr l ws.length 0 false lot]? = some c ∧ (c : Int) = cryP ws P lot % (p : Nat)
def cCryTold : DSp := fun ds μ Q => ∃ (p : Nat) (ws : List (Option Int)) (lot cs : List Nat) (P : Int → List Nat → Int), ds = [.int p, wishD ws, lotD lot, lotD cs] ∧ 2 ≤ p ∧ p ≤ 10 ^ 9 ∧ ws.length ≤ 60 ∧ Lot ws.length 0 lot ∧ lot.length ≤ 10 ∧ Heard ws P p lot.length cs ∧ Q (.int (cryP ws P lot % (p : Nat))) μ
def w_cryTold : DTS :=
  (dRet (dOp oMod (dCB fSum (dCons (dLc (dISeq (dCall cTold [] (dCons (dVar 1) (dCons (dVar 2) dNil)))) (gTp 2 (gsCons (gN 4) (gsCons (gN 5) gsNil))) dYes (dOp dMul (dVar 4) (dOp dIx (dVar 3) (dCall cMadeNumber [] (dCons (dVar 1) (dCons (dVar 5) dNil))))) [4, 5]) dNil)) (dVar 0)))
theorem cryTold_ok (N : List Str) (hN : N.length = 6) : ∀ ds μ Q, cCryTold ds μ Q → w_cryTold { nx := fun _ μ' => fin Q .non μ', rt := fin Q } (dstart N ds) μ := by
  intro ds μ Q hc
  obtain ⟨p, ws, lot, cs, P, rfl, hp1, hp2, hl, L, hlot, hcs, q⟩ := hc
  have hz := sizeLine_eq
  unfold w_cryTold
  simp only [dSim, hN, dLc, dISeq, cTold]
  refine ⟨ws, lot, rfl, hl, L, few_ways L hlot, fun T hT => ⟨_, .inr rfl, ?_⟩⟩
  have hTl := hT.few hlot
  refine lc_any1 T (fun e => .tup [.int e.2, lotD e.1]) (fun e => .int (e.2 * (cryP ws P e.1 % (p : Nat)))) (by exact rfl) (by omega) (fun e K he hK => ?_) ?_
  · obtain ⟨a1, a2, a3⟩ := hT.lots L e he
    simp only [z_tp, z_gsc, z_gsn, gN, List.set_cons_zero, List.set_cons_succ, List.length_cons, List.length_nil, true_and]
    simp only [dSim, dwipe, cMadeNumber]
    refine ⟨ws, e.1, rfl, hl, a1, fun l ld => ?_⟩
    obtain ⟨_, _, b3, _⟩ := hT.mem L ld e he
    obtain ⟨c, c1, c2⟩ := hcs.2 l ld e.1 a1 a2 b3
    unfold mnD
    rw [if_pos b3]
    simp only [dSim]
    refine ⟨_, at_nat' (lotD_at c1), ?_⟩
    have hc := hcs.1 c (List.mem_of_getElem? c1)
    simp only [dSim]
    refine ⟨mul1 ?_ ?_, ?_⟩
    · rcases a3 with a3 | a3 <;> (rw [a3]; decide)
    · rw [Int.natAbs_natCast]
      exact Nat.le_trans (by omega : c ≤ 10 ^ 9) (by decide)
    · rw [c2]
      exact hK
  refine sum_of (ns := T.map fun e => e.2 * (cryP ws P e.1 % (p : Nat))) (by rw [see_lst, List.map_map]; rfl) ?_
  simp only [dSim]
  have em : (T.map fun e => e.2 * (cryP ws P e.1 % (p : Nat))).sum % (p : Int) = cryP ws P lot % (p : Int) := by
    rw [← hT.sum P]
    exact sum_mod fun e _ => by rw [Int.mul_emod, Int.emod_emod, ← Int.mul_emod]
  rw [em]
  exact ⟨by omega, fin_of q⟩
def cOwnNumber : DSp := fun ds μ Q => ∃ (ws : List (Option Int)) (h : Nat), ds = [wishD ws, .int h] ∧ h < ws.length ∧ (wish ws h).isSome = true ∧ Q (.int (wv ws h)) μ
def w_ownNumber : DTS :=
  (dSeq (dIfS (dT (dOp dIs (dOp dIx (dVar 0) (dVar 1)) (dC .non))) dNever dNext)
  (dRet (dOp dIx (dVar 0) (dVar 1))))
theorem ownNumber_ok (N : List Str) (hN : N.length = 2) : ∀ ds μ Q, cOwnNumber ds μ Q → w_ownNumber { nx := fun _ μ' => fin Q .non μ', rt := fin Q } (dstart N ds) μ := by
  intro ds μ Q hc
  obtain ⟨ws, h, rfl, h1, h2, q⟩ := hc
  unfold w_ownNumber
  refine seq_cut fun R hR => ?_
  simp only [dSim, hN]
  refine ⟨_, at_nat' (wish_at h1), ?_⟩
  simp only [dSim, isNone_oD, h2, Bool.not_true, Bool.false_eq_true, if_false]
  refine hR _ _ ?_
  simp only [dSim]
  refine ⟨_, at_nat' (wish_at h1), ?_⟩
  rw [oD_some h2]
  exact fin_of q
end DL

/-! SrtQ: sorted lots. -/
namespace DL
open PySem PySem.Spec PyProof.Rows L2
theorem alike_lots (e f : List Nat) : PySem.W.alike (toP (lotD e)) (toP (lotD f)) = true := by
  rw [toP_lot, toP_lot]
  simp [PySem.W.alike, PySem.W.alikeAll, PySem.W.alike_ints]
theorem dataLt_lots {e f : List Nat} : PySem.W.dataLt (toP (lotD e)) (toP (lotD f)) = lexN e f := by
  rw [toP_lot, toP_lot, PySem.W.dataLt_tuple]
  have h2 := PySem.W.dataLt_ints (iL e) (iL f)
  unfold PySem.W.rowLt at h2
  rw [h2]
  exact lex_lt _ _
theorem sort_lots {μ : Mu} {Q : DQ} {d : D} {xs : List (List Nat)} (h : see μ d = .lst (xs.map lotD)) (hb : ∀ e ∈ xs, ∀ x ∈ e, x < 2 ^ 250) (hne : ∀ e ∈ xs, e ≠ []) (nd : xs.Nodup)
    (q : ∀ ys : List (List Nat), ys.Perm xs → ys.Pairwise (fun a b => lexN a b = true) → Q (.lst (ys.map lotD)) μ) : fSortX [d] μ Q := by
  have em := List.map_mergeSort (r := PySem.W.dataLe false fun e : List Nat => toP (lotD e)) (s := leD) (f := lotD) (l := xs) fun a _ b _ => rfl
  refine ⟨d, xs.map lotD, rfl, h, fun x hx => ?_, ?_, ?_, ?_⟩
  · obtain ⟨e, he, rfl⟩ := List.mem_map.mp hx
    exact ⟨_, shb_lot (hb e he) (Nat.le_refl _)⟩
  · rw [List.map_map]
    exact PySem.W.AllAlike.of alike_lots
  · rw [List.map_map]
    refine .inl fun d hd => ?_
    obtain ⟨e, he, rfl⟩ := List.mem_map.mp hd
    cases e with
    | nil => exact absurd rfl (hne _ he)
    | cons x l => exact ⟨_, _, toP_lot (x :: l)⟩
  · rw [← em]
    have pm := List.mergeSort_perm xs (PySem.W.dataLe false fun e : List Nat => toP (lotD e))
    refine q _ pm ?_
    have pw := PySem.W.sort_pairwise (PySem.W.sortLe_total (PyProof.Rows.listOrd PyProof.Rows.itemOrd) false fun e : List Nat => PySem.W.keyToks (toP (lotD e))) xs
    have nd2 : (xs.mergeSort (PySem.W.dataLe false fun e : List Nat => toP (lotD e))).Nodup := pm.nodup_iff.mpr nd
    rw [List.nodup_iff_pairwise_ne] at nd2
    refine (List.Pairwise.and pw nd2).imp fun {a b} h => ?_
    obtain ⟨h1, h2⟩ := h
    refine lexN_of_not ?_ h2
    rw [← dataLt_lots]
    have h1 : (!PySem.W.dataLt (toP (lotD b)) (toP (lotD a))) = true := h1
    rw [Bool.not_eq_true'] at h1
    exact h1
theorem lexN_asymm {a b : List Nat} (h1 : lexN a b = true) (h2 : lexN b a = true) : False := by
  rw [← lex_lt] at h1 h2
  exact List.lt_asymm (of_decide_eq_true h1) (of_decide_eq_true h2)
theorem lots_unique {xs ys : List (List Nat)} (pm : xs.Perm ys) (h1 : xs.Pairwise (fun a b => lexN a b = true)) (h2 : ys.Pairwise (fun a b => lexN a b = true)) : xs = ys :=
  List.Perm.eq_of_pairwise (le := fun a b => lexN a b = true) (fun a b _ _ h3 h4 => (lexN_asymm h3 h4).elim) h1 h2 pm
theorem nodup_map_on {α β : Type} {f : α → β} : ∀ {l : List α}, (∀ x ∈ l, ∀ y ∈ l, f x = f y → x = y) → l.Nodup → (l.map f).Nodup
  | [], _, _ => List.nodup_nil
  | x :: l, h, nd => by
    obtain ⟨n1, n2⟩ := List.nodup_cons.mp nd
    rw [List.map_cons, List.nodup_cons]
    refine ⟨fun hm => ?_, nodup_map_on (fun a ha b hb => h a (List.mem_cons_of_mem _ ha) b (List.mem_cons_of_mem _ hb)) n2⟩
    obtain ⟨y, hy, e⟩ := List.mem_map.mp hm
    have := h y (List.mem_cons_of_mem _ hy) x List.mem_cons_self e
    subst this
    exact n1 hy
theorem lots_nodup (n k : Nat) : (lots n 0 k).Nodup := by
  rw [List.nodup_iff_pairwise_ne]
  refine (lots_pw n k).imp fun {a b} h e => ?_
  subst e
  exact lexN_asymm h h
/-- a lot with a hand more -/
def ins (n h : Nat) (lot : List Nat) : List Nat := (List.range n).filter fun x => decide (x = h) || decide (x ∈ lot)
theorem mem_ins {n h x : Nat} {lot : List Nat} : x ∈ ins n h lot ↔ x < n ∧ (x = h ∨ x ∈ lot) := by
  unfold ins
  rw [List.mem_filter, List.mem_range, Bool.or_eq_true, decide_eq_true_eq, decide_eq_true_eq]
theorem ins_lot {n h : Nat} {lot : List Nat} : Lot n 0 (ins n h lot) := lot_of_pw (List.Pairwise.filter _ List.pairwise_lt_range) fun x hx => ⟨Nat.zero_le _, (mem_ins.mp hx).1⟩
theorem ins_perm {n h : Nat} {lot : List Nat} (L : Lot n 0 lot) (hh : h < n) (no : h ∉ lot) : (ins n h lot).Perm (h :: lot) :=
  (List.perm_ext_iff_of_nodup ins_lot.nodup (List.nodup_cons.mpr ⟨no, L.nodup⟩)).mpr fun x => by
    rw [mem_ins, List.mem_cons]
    exact ⟨fun h => h.2, fun h1 => ⟨h1.elim (fun e => e ▸ hh) fun hm => (L.mem x hm).2, h1⟩⟩
theorem ins_len {n h : Nat} {lot : List Nat} (L : Lot n 0 lot) (hh : h < n) (no : h ∉ lot) : (ins n h lot).length = lot.length + 1 := by
  rw [(ins_perm L hh no).length_eq, List.length_cons]
theorem wo_ins {n h : Nat} {lot : List Nat} (L : Lot n 0 lot) (hh : h < n) (no : h ∉ lot) : wo (ins n h lot) h = lot := by
  refine nat_pw (wo_lot ins_lot (a := 0)).pw L.pw fun x => ?_
  unfold wo
  rw [List.mem_filter, mem_ins, Bool.not_eq_true', decide_eq_false_iff_not]
  exact ⟨fun ⟨⟨_, h1⟩, h2⟩ => h1.elim (fun e => absurd e h2) id, fun h1 => ⟨⟨(L.mem x h1).2, .inr h1⟩, fun e => no (e ▸ h1)⟩⟩
theorem ins_wo {n h : Nat} {lot : List Nat} (L : Lot n 0 lot) (hm : h ∈ lot) : ins n h (wo lot h) = lot := by
  refine nat_pw (ins_lot (n := n)).pw L.pw fun x => ?_
  unfold wo
  rw [mem_ins, List.mem_filter, Bool.not_eq_true', decide_eq_false_iff_not]
  refine ⟨fun ⟨_, h1⟩ => h1.elim (fun e => e ▸ hm) fun h => h.1, fun h1 => ⟨(L.mem x h1).2, ?_⟩⟩
  by_cases c : x = h
  · exact .inl c
  · exact .inr ⟨h1, c⟩
end DL

/-! CrisP: the made lots in order, their cries. -/
namespace DL
open PySem PySem.Spec PyProof.Rows L2
/-- the hands without the first i leaders -/
def rsl (n : Nat) (l : List Nat) (i : Nat) : List Nat := (List.range n).filter fun x => !decide (x ∈ l.take i)
theorem mem_rsl {n i x : Nat} {l : List Nat} : x ∈ rsl n l i ↔ x < n ∧ x ∉ l.take i := by
  unfold rsl
  rw [List.mem_filter, List.mem_range, Bool.not_eq_true', decide_eq_false_iff_not]
theorem rsl_pw (n : Nat) (l : List Nat) (i : Nat) : (rsl n l i).Pairwise (· < ·) := List.Pairwise.filter _ List.pairwise_lt_range
theorem rsl_lot (n : Nat) (l : List Nat) (i : Nat) : Lot n 0 (rsl n l i) := lot_of_pw (rsl_pw n l i) fun x hx => ⟨Nat.zero_le _, (mem_rsl.mp hx).1⟩
theorem rsl_zero (n : Nat) (l : List Nat) : rsl n l 0 = List.range n := by
  unfold rsl
  rw [List.take_zero]
  exact List.filter_eq_self.mpr fun x _ => by simp
theorem rsl_others {n i : Nat} {l : List Nat} : rsl n l i = others n 0 (l.take i) := others_zero.symm
theorem take_lot {n : Nat} : ∀ {a i : Nat} {l : List Nat}, Lot n a l → Lot n a (l.take i) := fun {a i l} L =>
  lot_of_pw (List.Pairwise.sublist (List.take_sublist i l) L.pw) fun x hx => L.mem x (List.mem_of_mem_take hx)
theorem rsl_len {n i : Nat} {l : List Nat} (L : Lot n 0 l) (h : i ≤ l.length) : (rsl n l i).length + i = n := by
  have h1 := (others_lot n 0 (l.take i) (by omega) (take_lot L)).2
  rw [List.length_take, Nat.min_eq_left h] at h1
  rw [rsl_others]
  omega
theorem rsl_succ {n i h : Nat} {l : List Nat} (e : l[i]? = some h) : (rsl n l i).filter (fun x => !decide (x = h)) = rsl n l (i + 1) := by
  unfold rsl
  rw [List.filter_filter, List.take_succ, e]
  refine List.filter_congr fun x _ => ?_
  rw [← Bool.not_or]
  congr 1
  rw [Bool.eq_iff_iff, Bool.or_eq_true, decide_eq_true_eq, decide_eq_true_eq, decide_eq_true_eq, List.mem_append]
  simp [or_comm]
/-- a lot of places in a row -/
def atL (R lot : List Nat) : List Nat := lot.map fun i => R.getD i 0
theorem getD_lt {R : List Nat} {i : Nat} (h : i < R.length) : R[i]? = some (R.getD i 0) := by
  rw [List.getD_eq_getElem?_getD, List.getElem?_eq_getElem h]
  rfl
theorem getD_mem {R : List Nat} {i : Nat} (h : i < R.length) : R.getD i 0 ∈ R := List.mem_of_getElem? (getD_lt h)
theorem pw_getD {R : List Nat} (pw : R.Pairwise (· < ·)) {i j : Nat} (hj : j < R.length) (h : i < j) : R.getD i 0 < R.getD j 0 := by
  have h1 := List.pairwise_iff_getElem.mp pw i j (by omega) hj h
  rw [List.getD_eq_getElem?_getD, List.getD_eq_getElem?_getD, List.getElem?_eq_getElem hj, List.getElem?_eq_getElem (by omega : i < R.length)]
  exact h1
theorem getD_inj {R : List Nat} (pw : R.Pairwise (· < ·)) {i j : Nat} (hi : i < R.length) (hj : j < R.length) (e : R.getD i 0 = R.getD j 0) : i = j := by
  rcases Nat.lt_trichotomy i j with h | h | h
  · have := pw_getD pw hj h
    omega
  · exact h
  · have := pw_getD pw hi h
    omega
theorem atL_pw {R lot : List Nat} (pw : R.Pairwise (· < ·)) (L : Lot R.length 0 lot) : (atL R lot).Pairwise (· < ·) := by
  unfold atL
  rw [List.pairwise_map, List.pairwise_iff_getElem]
  intro i j hi hj hij
  have h1 := List.pairwise_iff_getElem.mp L.pw i j hi hj hij
  exact pw_getD pw (L.mem _ (List.getElem_mem hj)).2 h1
theorem atL_mem {R lot : List Nat} (L : Lot R.length 0 lot) : ∀ x ∈ atL R lot, x ∈ R := fun x hx => by
  obtain ⟨i, hi, rfl⟩ := List.mem_map.mp hx
  exact getD_mem (L.mem i hi).2
theorem atL_lot {n : Nat} {R lot : List Nat} (R0 : Lot n 0 R) (L : Lot R.length 0 lot) : Lot n 0 (atL R lot) := lot_of_pw (atL_pw R0.pw L) fun x hx => R0.mem x (atL_mem L x hx)
theorem atL_inj {R lot lot' : List Nat} (pw : R.Pairwise (· < ·)) (L : Lot R.length 0 lot) (L' : Lot R.length 0 lot') (e : atL R lot = atL R lot') : lot = lot' := by
  refine nat_pw L.pw L'.pw fun i => ?_
  have go : ∀ {l m : List Nat}, Lot R.length 0 l → Lot R.length 0 m → atL R l = atL R m → ∀ i, i ∈ l → i ∈ m := fun {l m} A B e i hi => by
    have h1 : R.getD i 0 ∈ atL R m := e ▸ List.mem_map.mpr ⟨i, hi, rfl⟩
    obtain ⟨j, hj, e2⟩ := List.mem_map.mp h1
    have := getD_inj pw (B.mem j hj).2 (A.mem i hi).2 e2
    exact this ▸ hj
  exact ⟨go L L' e i, go L' L e.symm i⟩
theorem range_at {R : List Nat} (P : Nat → Bool) : ((List.range R.length).filter fun i => P (R.getD i 0)).map (fun i => R.getD i 0) = R.filter P := by
  have e : (List.range R.length).map (fun i => R.getD i 0) = R := by
    refine List.ext_getElem (by rw [List.length_map, List.length_range]) fun i h1 h2 => ?_
    rw [List.getElem_map, List.getElem_range, List.getD_eq_getElem?_getD, List.getElem?_eq_getElem h2]
    rfl
  conv => rhs; rw [← e]
  rw [List.filter_map]
  rfl
/-- a lot of a row's hands, by their places -/
theorem atL_ex {R y : List Nat} (pw : R.Pairwise (· < ·)) (py : y.Pairwise (· < ·)) (h : ∀ x ∈ y, x ∈ R) : ∃ lot, Lot R.length 0 lot ∧ lot.length = y.length ∧ atL R lot = y := by
  have e : atL R ((List.range R.length).filter fun i => decide (R.getD i 0 ∈ y)) = y := by
    unfold atL
    rw [range_at fun x => decide (x ∈ y)]
    exact nat_pw (List.Pairwise.filter _ pw) py fun x => by
      rw [List.mem_filter, decide_eq_true_eq]
      exact ⟨fun q => q.2, fun q => ⟨h x q, q⟩⟩
  refine ⟨_, lot_of_pw (List.Pairwise.filter _ List.pairwise_lt_range) fun i hi => ⟨Nat.zero_le _, List.mem_range.mp (List.mem_filter.mp hi).1⟩, ?_, e⟩
  have := congrArg List.length e
  unfold atL at this
  rw [List.length_map] at this
  exact this
/-- the lots that a leader meets -/
def met (n t : Nat) (l : List Nat) (i : Nat) : List (List Nat) := (lots (rsl n l (i + 1)).length 0 t).map fun lot => ins n (l.getD i 0) (atL (rsl n l (i + 1)) lot)
def mets (n t : Nat) (l : List Nat) (i : Nat) : List (List Nat) := (List.range i).flatMap (met n t l)
theorem mets_succ (n t : Nat) (l : List Nat) (i : Nat) : mets n t l (i + 1) = mets n t l i ++ met n t l i := by
  unfold mets
  rw [List.range_succ, List.flatMap_append]
  simp
theorem lead_out {n i : Nat} {l : List Nat} (L : Lot n 0 l) (h : i < l.length) : l.getD i 0 ∉ rsl n l (i + 1) ∧ l.getD i 0 < n ∧ l.getD i 0 ∈ l := by
  refine ⟨fun c => ?_, (L.mem _ (getD_mem h)).2, getD_mem h⟩
  refine (mem_rsl.mp c).2 ?_
  rw [List.take_succ, getD_lt h]
  simp
theorem met_mem {n t i : Nat} {l x : List Nat} (L : Lot n 0 l) (h : i < l.length) : x ∈ met n t l i ↔ Lot n 0 x ∧ x.length = t + 1 ∧ l.getD i 0 ∈ x ∧ ∀ j < i, l.getD j 0 ∉ x := by
  obtain ⟨o1, o2, o3⟩ := lead_out (n := n) L h
  unfold met
  rw [List.mem_map]
  constructor
  · rintro ⟨lot, hl, rfl⟩
    obtain ⟨hl1, hl2⟩ := lots_mem.mp hl
    have A := atL_lot (rsl_lot n l (i + 1)) hl1
    have no : l.getD i 0 ∉ atL (rsl n l (i + 1)) lot := fun c => o1 (atL_mem hl1 _ c)
    refine ⟨ins_lot, ?_, mem_ins.mpr ⟨o2, .inl rfl⟩, fun j hj c => ?_⟩
    · rw [ins_len A o2 no]
      unfold atL
      rw [List.length_map, hl2]
    · rcases (mem_ins.mp c).2 with e | c
      · have := getD_inj L.pw (by omega) h e
        omega
      · refine (mem_rsl.mp (atL_mem hl1 _ c)).2 ?_
        rw [List.mem_take_iff_getElem]
        refine ⟨j, by omega, ?_⟩
        rw [List.getD_eq_getElem?_getD, List.getElem?_eq_getElem (by omega : j < l.length)]
        rfl
  · rintro ⟨hx, hl, hi, hj⟩
    obtain ⟨lot, h1, h2, h3⟩ := atL_ex (R := rsl n l (i + 1)) (y := wo x (l.getD i 0)) (rsl_pw n l (i + 1)) (wo_lot hx).pw fun y hy => by
      obtain ⟨y1, y2⟩ := List.mem_filter.mp hy
      rw [Bool.not_eq_true', decide_eq_false_iff_not] at y2
      refine mem_rsl.mpr ⟨(hx.mem y y1).2, fun c => ?_⟩
      obtain ⟨j, hj1, e⟩ := List.mem_take_iff_getElem.mp c
      have e2 : l.getD j 0 = y := by
        rw [List.getD_eq_getElem?_getD, List.getElem?_eq_getElem (by omega : j < l.length)]
        exact e
      rcases Nat.lt_or_ge j i with q | q
      · exact hj j q (e2 ▸ y1)
      · have : j = i := by omega
        subst this
        exact y2 e2.symm
    refine ⟨lot, lots_mem.mpr ⟨h1, ?_⟩, ?_⟩
    · have := wo_len hx hi
      omega
    · rw [h3]
      exact ins_wo hx hi
theorem met_nodup {n t i : Nat} {l : List Nat} (L : Lot n 0 l) (h : i < l.length) : (met n t l i).Nodup := by
  obtain ⟨o1, o2, o3⟩ := lead_out (n := n) L h
  refine nodup_map_on (fun x hx y hy e => ?_) (lots_nodup _ _)
  obtain ⟨hx1, _⟩ := lots_mem.mp hx
  obtain ⟨hy1, _⟩ := lots_mem.mp hy
  have A := atL_lot (rsl_lot n l (i + 1)) hx1
  have B := atL_lot (rsl_lot n l (i + 1)) hy1
  have na : l.getD i 0 ∉ atL (rsl n l (i + 1)) x := fun c => o1 (atL_mem hx1 _ c)
  have nb : l.getD i 0 ∉ atL (rsl n l (i + 1)) y := fun c => o1 (atL_mem hy1 _ c)
  have e2 : wo (ins n (l.getD i 0) (atL (rsl n l (i + 1)) x)) (l.getD i 0) = wo (ins n (l.getD i 0) (atL (rsl n l (i + 1)) y)) (l.getD i 0) := congrArg (fun z => wo z (l.getD i 0)) e
  rw [wo_ins A o2 na, wo_ins B o2 nb] at e2
  exact atL_inj (rsl_pw n l (i + 1)) hx1 hy1 e2
theorem mets_mem {n t i : Nat} {l x : List Nat} (L : Lot n 0 l) (h : i ≤ l.length) : x ∈ mets n t l i ↔ Lot n 0 x ∧ x.length = t + 1 ∧ ∃ j < i, l.getD j 0 ∈ x := by
  induction i with
  | zero => simp [mets]
  | succ i ih =>
    rw [mets_succ, List.mem_append, ih (by omega), met_mem L (by omega)]
    constructor
    · rintro (⟨a, b, j, hj, c⟩ | ⟨a, b, c, _⟩)
      · exact ⟨a, b, j, by omega, c⟩
      · exact ⟨a, b, i, by omega, c⟩
    · rintro ⟨a, b, j, hj, c⟩
      by_cases q : ∃ j < i, l.getD j 0 ∈ x
      · exact .inl ⟨a, b, q⟩
      · refine .inr ⟨a, b, ?_, fun j hj c => q ⟨j, hj, c⟩⟩
        have : j = i := by
          rcases Nat.lt_or_ge j i with z | z
          · exact absurd ⟨j, z, c⟩ q
          · omega
        exact this ▸ c
theorem mets_nodup {n t i : Nat} {l : List Nat} (L : Lot n 0 l) (h : i ≤ l.length) : (mets n t l i).Nodup := by
  induction i with
  | zero => exact List.nodup_nil
  | succ i ih =>
    rw [mets_succ]
    refine List.nodup_append.mpr ⟨ih (by omega), met_nodup L (by omega), fun a ha b hb e => ?_⟩
    subst e
    obtain ⟨_, _, j, hj, c⟩ := (mets_mem L (by omega)).mp ha
    obtain ⟨_, _, _, d⟩ := (met_mem L (by omega)).mp hb
    exact d j hj c
theorem mets_len {n t i : Nat} {l : List Nat} (L : Lot n 0 l) (h : i ≤ l.length) : (mets n t l i).length + bin (n - i) (t + 1) = bin n (t + 1) := by
  induction i with
  | zero =>
    show 0 + _ = _
    rw [Nat.zero_add, Nat.sub_zero]
  | succ i ih =>
    have h1 := ih (by omega)
    have h2 := rsl_len (i := i + 1) L h
    have h3 : (met n t l i).length = bin (n - (i + 1)) t := by
      unfold met
      rw [List.length_map, lots_len]
      congr 1
      omega
    have hp : 0 < n - i := by
      have := L.length_le
      omega
    have h4 := bin_pas (k := t) hp
    rw [mets_succ, List.length_append, h3]
    have e : n - i - 1 = n - (i + 1) := by omega
    rw [e] at h4
    omega
/-- the made lots -/
def mls (n t : Nat) (l : List Nat) : List (List Nat) := (lots n 0 (t + 1)).filter (has l false)
theorem mets_perm {n t : Nat} {l : List Nat} (L : Lot n 0 l) : (mets n t l l.length).Perm (mls n t l) := by
  refine (List.perm_ext_iff_of_nodup (mets_nodup L (Nat.le_refl _)) ((lots_nodup n (t + 1)).filter _)).mpr fun x => ?_
  rw [mets_mem L (Nat.le_refl _), List.mem_filter, lots_mem]
  have e : has l false x = true ↔ ∃ j < l.length, l.getD j 0 ∈ x := by
    unfold has
    rw [Bool.false_or, List.any_eq_true]
    constructor
    · rintro ⟨y, h1, h2⟩
      obtain ⟨j, hj, e⟩ := List.mem_iff_getElem.mp (of_decide_eq_true h2)
      refine ⟨j, hj, ?_⟩
      rw [List.getD_eq_getElem?_getD, List.getElem?_eq_getElem hj]
      show l[j] ∈ x
      rw [e]
      exact h1
    · rintro ⟨j, hj, h⟩
      exact ⟨_, h, decide_eq_true (getD_mem hj)⟩
  rw [e]
  exact ⟨fun ⟨a, b, c⟩ => ⟨⟨a, b⟩, c⟩, fun ⟨⟨a, b⟩, c⟩ => ⟨a, b, c⟩⟩
theorem mls_len {n t : Nat} {l : List Nat} (L : Lot n 0 l) : (mls n t l).length + bin (n - l.length) (t + 1) = bin n (t + 1) := by
  rw [← (mets_perm L).length_eq]
  exact mets_len L (Nat.le_refl _)
theorem mls_pw (n t : Nat) (l : List Nat) : (mls n t l).Pairwise (fun a b => lexN a b = true) := (lots_pw n (t + 1)).filter _
def cMadeLots : DSp := fun ds μ Q => ∃ (t : Nat) (ws : List (Option Int)), ds = [.int t, wishD ws] ∧ t ≤ 99 ∧ ws.length ≤ 60 ∧ ∀ l, Ld ws l → (mls ws.length t l).length ≤ 2000 ∧ Q (.lst ((mls ws.length t l).map lotD)) μ
def w_madeLots : DTS :=
  (dSeq (dAsg (dTup (dCons (dLstRg (dRg1 (dCB fLen (dCons (dVar 1) dNil)))) (dCons (dLstM dNil) dNil))) (gTp 2 (gsCons (gN 2) (gsCons (gN 3) gsNil))))
  (dSeq (dFor (dISeq (dCall cLeaders [] (dCons (dVar 1) dNil))) (gN 4) (dSeq (dAsg (dLc (dISeq (dVar 2)) (gN 5) (dT (dOp dNe (dVar 5) (dVar 4))) (dVar 5) [5]) (gN 2))
  (dDrop (dMl mExtend (dVar 3) (dCons (dLc (dISeq (dCall cLots [] (dCons (dCB fLen (dCons (dVar 2) dNil)) (dCons (dVar 0) dNil)))) (gN 7) dYes (dCall cWithHand [] (dCons (dCB fTuple (dCons (dLc (dISeq (dVar 7)) (gN 6) dYes (dOp dIx (dVar 2) (dVar 6)) [6]) dNil)) (dCons (dVar 4) dNil))) [7]) dNil)))))
  (dRet (dCB fSortX (dCons (dVar 3) dNil)))))
theorem madeLots_ok (N : List Str) (hN : N.length = 8) : ∀ ds μ Q, cMadeLots ds μ Q → w_madeLots { nx := fun _ μ' => fin Q .non μ', rt := fin Q } (dstart N ds) μ := by
  intro ds μ Q hc
  obtain ⟨t, ws, rfl, ht, hl, q⟩ := hc
  have hz := sizeLine_eq
  unfold w_madeLots
  refine seq_cut fun R hR => ?_
  simp only [dSim, hN, List.length_map]
  refine ⟨by omega, by omega, by omega, fun b hb => ⟨by omega, hR _ _ (seq_cut fun R1 hR1 => ?_)⟩⟩
  simp only [dSim, dFor, dISeq, cLeaders]
  refine ⟨ws, rfl, hl, fun l ld => ⟨_, .inr rfl, ?_⟩⟩
  obtain ⟨q1, q2⟩ := q l ld
  have L := ld.1
  have hll := L.length_le
  refine for_inv (fun i ρ μ' => μ' = mput μ b (.lst ((mets ws.length t l i).map lotD)) ∧ ∃ x y z u, ρ = [some (.int t), some (wishD ws), some (lstD (rsl ws.length l i)), some (.ref b), x, y, z, u])
    ⟨rfl, none, none, none, none, ?_⟩ (fun _ _ _ _ _ => rfl) (fun i d ρ μ' N1 hi h hN1 => ?_) fun ρ μ' h => ?_
  · rw [rsl_zero, Int.sub_zero, Int.toNat_natCast, rng_iL]
  · obtain ⟨rfl, x, y, z, u, rfl⟩ := h
    obtain ⟨h, e, rfl⟩ := lotD_get hi
    have hil : i < l.length := (List.getElem?_eq_some_iff.mp e).1
    have eh : l.getD i 0 = h := by
      have := getD_lt hil
      rw [e] at this
      cases this
      rfl
    have hr := rsl_len (n := ws.length) (i := i) L (by omega)
    have hr1 := rsl_len (n := ws.length) (i := i + 1) L (by omega)
    have hm1 := mets_len (n := ws.length) (t := t) (i := i) L (by omega)
    have hm2 := mets_len (n := ws.length) (t := t) (i := i + 1) L (by omega)
    have hm3 := mls_len (n := ws.length) (t := t) L
    have hbm := bin_mono (by omega : ws.length - l.length ≤ ws.length - (i + 1)) (t + 1)
    have hmt : (met ws.length t l i).length = bin (rsl ws.length l (i + 1)).length t := by
      unfold met
      rw [List.length_map, lots_len]
    have hms := congrArg List.length (mets_succ ws.length t l i)
    rw [List.length_append] at hms
    obtain ⟨o1, o2, o3⟩ := lead_out (n := ws.length) L hil
    rw [eh] at o1 o2 o3
    refine seq_cut fun R2 hR2 => ?_
    simp only [dSim, dLc, dISeq]
    refine ⟨_, .inl rfl, ?_⟩
    refine lc_nat (fun x => !decide (x = h)) (fun x => .int (x : Nat)) rfl (by omega) (fun x K _ hK => ?_) (fun x K _ _ hK => ?_) ?_
    · simp only [dSim, dwipe, z_ne_int, z_nat]
      exact hK
    · simp only [dSim, dwipe]
      exact hK
    rw [map_int, rsl_succ e]
    refine hR2 _ _ ?_
    simp only [dSim, z_isL mput_same, dLc, dISeq, cLots, List.length_map, iL_len]
    refine ⟨(rsl ws.length l (i + 1)).length, t, rfl, by omega, by omega, by omega, _, .inr rfl, ?_⟩
    refine lc_gen1 (lots (rsl ws.length l (i + 1)).length 0 t) lotD (fun lot => lotD (ins ws.length h (atL (rsl ws.length l (i + 1)) lot))) rfl (by rw [lots_len]; omega) (fun lot K hm hK => ?_) ?_
    · obtain ⟨hl1, hl2⟩ := lots_mem.mp hm
      have A := atL_lot (rsl_lot ws.length l (i + 1)) hl1
      have no : h ∉ atL (rsl ws.length l (i + 1)) lot := fun c => o1 (atL_mem hl1 _ c)
      simp only [dSim, dwipe, dLc, dISeq]
      refine ⟨_, .inr rfl, ?_⟩
      have hll2 := hl1.drop_ok
      refine lc_nat (fun _ => true) (fun x => .int ((rsl ws.length l (i + 1)).getD x 0 : Nat)) rfl (by omega) (fun x K _ hK => hK) (fun x K hx _ hK => ?_) ?_
      · simp only [dSim, dwipe]
        exact ⟨_, at_nat' (lotD_at (getD_lt (hl1.mem x hx).2)), hK⟩
      rw [List.filter_eq_self.mpr fun _ _ => rfl]
      have e3 : lot.map (fun x => D.int ((rsl ws.length l (i + 1)).getD x 0 : Nat)) = (iL (atL (rsl ws.length l (i + 1)) lot)).map D.int := by
        rw [← map_int]
        unfold atL
        rw [List.map_map]
        rfl
      rw [e3]
      simp only [dSim, cWithHand]
      exact ⟨ws.length, h, _, _, rfl, by omega, A, ins_lot, ins_perm A o2 no, hK⟩
    have e4 : (lots (rsl ws.length l (i + 1)).length 0 t).map (fun lot => lotD (ins ws.length h (atL (rsl ws.length l (i + 1)) lot))) = (met ws.length t l i).map lotD := by
      unfold met
      rw [List.map_map, eh]
      rfl
    rw [e4]
    simp only [z_onL mput_same, mExtend, mput_mput, List.length_map]
    refine ⟨_, _, rfl, rfl, by rw [List.length_map]; omega, hN1 _ _ ⟨?_, _, _, _, _, rfl⟩⟩
    rw [mets_succ, List.map_append]
  · obtain ⟨rfl, x, y, z, u, rfl⟩ := h
    refine hR1 _ _ ?_
    rw [List.length_map, iL_len]
    simp only [dSim]
    refine sort_lots (see_ref mput_same) (fun x hx y hy => ?_) (fun x hx e => ?_) (mets_nodup L (Nat.le_refl _)) fun ys pm pw => ?_
    · have h1 := (((mets_mem L (Nat.le_refl _)).mp hx).1.mem y hy).2
      exact Nat.lt_trans h1 (Nat.lt_of_le_of_lt hl (by decide))
    · have h1 := ((mets_mem L (Nat.le_refl _)).mp hx).2.1
      rw [e] at h1
      cases h1
    · have e : ys = mls ws.length t l := lots_unique (pm.trans (mets_perm L)) pw (mls_pw _ _ _)
      rw [e]
      exact fin_sub (Sub.put hb Sub.refl) q2
/-! ### the made cries -/
def crD (ws : List (Option Int)) (F : Int → List Nat) (p : Nat) (lot : List Nat) : D := .int (cryZ ws F lot % (p : Nat))
def cCries : DSp := fun ds μ Q => ∃ (p t : Nat) (ms : List Int) (F : Int → List Nat) (ws : List (Option Int)), ds = [.int p, .int t, .dk (filesD ms F), wishD ws] ∧ 2 ≤ p ∧ p ≤ 10 ^ 9 ∧ t ≤ 99 ∧ ws.length ≤ 60 ∧ FOk ms F p (bin ws.length t) ∧
  (∀ h < ws.length, (wish ws h).isSome = true → wv ws h ∈ ms) ∧ ∀ l, Ld ws l → (mls ws.length t l).length ≤ 2000 ∧ Q (.tup ((mls ws.length t l).map (crD ws F p))) μ
def w_cries' : DTS :=
  (dSeq (dAsg (dCall cMade [] (dCons (dVar 1) (dCons (dVar 3) dNil))) (gN 4))
  (dSeq (dIfS (dT (dOp oGt (dVar 4) (dC (.int 2000)))) dNever dNext)
  (dRet (dCB fTuple (dCons (dLc (dISeq (dCall cMadeLots [] (dCons (dVar 1) (dCons (dVar 3) dNil)))) (gN 5) dYes (dCall cCry [] (dCons (dVar 0) (dCons (dVar 2) (dCons (dVar 3) (dCons (dVar 5) dNil))))) [5]) dNil)))))
theorem mls_mem {n t : Nat} {l lot : List Nat} (h : lot ∈ mls n t l) : Lot n 0 lot ∧ lot.length = t + 1 ∧ has l false lot = true := by
  obtain ⟨h1, h2⟩ := List.mem_filter.mp h
  obtain ⟨h3, h4⟩ := lots_mem.mp h1
  exact ⟨h3, h4, h2⟩
theorem mls_mk {ws : List (Option Int)} {t : Nat} {l : List Nat} (ld : Ld ws l) : mk t ws.length l.length = ((mls ws.length t l).length : Nat) := by
  have := mls_len (n := ws.length) (t := t) ld.1
  unfold mk
  omega
theorem cries_ok (N : List Str) (hN : N.length = 6) : ∀ ds μ Q, cCries ds μ Q → w_cries' { nx := fun _ μ' => fin Q .non μ', rt := fin Q } (dstart N ds) μ := by
  intro ds μ Q hc
  obtain ⟨p, t, ms, F, ws, rfl, hp1, hp2, ht, hl, hF, hw, q⟩ := hc
  have hz := sizeLine_eq
  unfold w_cries'
  refine seq_cut fun R hR => ?_
  simp only [dSim, hN, cMade]
  refine ⟨t, ws, rfl, by omega, hl, fun l ld => hR _ _ (seq_cut fun R1 hR1 => ?_)⟩
  obtain ⟨q1, q2⟩ := q l ld
  rw [mls_mk ld]
  simp only [dSim]
  rw [decide_eq_false (by omega), if_neg (by decide)]
  refine hR1 _ _ ?_
  simp only [dSim, dLc, dISeq, cMadeLots]
  refine ⟨t, ws, rfl, ht, hl, fun l' ld' => ?_⟩
  obtain rfl := ld'.eq ld
  refine ⟨q1, _, .inl rfl, ?_⟩
  refine lc_gen1 (mls ws.length t l') lotD (crD ws F p) rfl (by omega) (fun lot K hm hK => ?_) (fin_of q2)
  obtain ⟨L, hlen, hh⟩ := mls_mem hm
  simp only [dSim, dwipe, cCry]
  exact ⟨p, bin ws.length t, ms, F, ws, lot, rfl, hp1, hp2, hl, L, hF, fun h h1 h2 => ⟨hw h (L.mem h h1).2 h2, by rw [hlen]; rfl⟩, hK⟩
/-- the made cries, where they stand -/
theorem made_at_mr {l : List Nat} {n : Nat} {lot : List Nat} (L : Lot n 0 lot) (h : has l false lot = true) : ((lots n 0 lot.length).filter (has l false))[mr l n 0 false lot]? = some lot := by
  have L0 : Lot (0 + n) 0 lot := by rw [Nat.zero_add]; exact L
  have h1 := mr_lt n 0 false lot L0 h
  rw [mlots_um, List.getElem?_map, List.getElem?_range h1]
  show some (um l n 0 false lot.length (mr l n 0 false lot)) = _
  rw [um_mr L0 h]
/-- a row of cries is heard as they are made -/
def crN (ws : List (Option Int)) (F : Int → List Nat) (p t : Nat) (l : List Nat) : List Nat := (mls ws.length t l).map fun lot => (cryZ ws F lot % (p : Nat)).toNat
theorem crN_D {ws : List (Option Int)} {F : Int → List Nat} {p t : Nat} {l : List Nat} (hp : 2 ≤ p) : .tup ((mls ws.length t l).map (crD ws F p)) = lotD (crN ws F p t l) := by
  show D.tup _ = D.tup _
  congr 1
  unfold crN iL
  rw [List.map_map, List.map_map]
  refine List.map_congr_left fun lot _ => ?_
  show D.int _ = D.int (((cryZ ws F lot % (p : Nat)).toNat : Nat) : Int)
  rw [Int.toNat_of_nonneg (Int.emod_nonneg _ (by omega))]
theorem crN_heard {ws : List (Option Int)} {F : Int → List Nat} {p t : Nat} {l : List Nat} (ld : Ld ws l) (hp : 2 ≤ p) : Heard ws (fun v l => (pc ws.length (F v) l : Nat)) p (t + 1) (crN ws F p t l) := by
  refine ⟨fun c hc => ?_, fun l' ld' lot L hlen hh => ?_⟩
  · obtain ⟨lot, _, rfl⟩ := List.mem_map.mp hc
    have h1 := Int.emod_nonneg (cryZ ws F lot) (by omega : (p : Int) ≠ 0)
    have h2 := Int.emod_lt_of_pos (cryZ ws F lot) (by omega : 0 < (p : Int))
    omega
  · obtain rfl := ld'.eq ld
    have hm := made_at_mr L hh
    rw [hlen] at hm
    refine ⟨(cryZ ws F lot % (p : Nat)).toNat, by unfold crN mls; rw [List.getElem?_map, hm]; rfl, ?_⟩
    rw [Int.toNat_of_nonneg (Int.emod_nonneg _ (by omega))]
    rfl
/-! ### what a hand tells -/
theorem sum_split1 {g : Nat → Int} {h : Nat} : ∀ {l : List Nat}, l.Nodup → h ∈ l → (l.map g).sum = g h + ((l.filter fun x => !decide (x = h)).map g).sum
  | [], _, hm => by cases hm
  | x :: l, nd, hm => by
    obtain ⟨n1, n2⟩ := List.nodup_cons.mp nd
    rw [List.map_cons, List.sum_cons, List.filter_cons]
    by_cases c : x = h
    · subst c
      rw [decide_eq_true rfl, Bool.not_true, if_neg (by decide), List.filter_eq_self.mpr fun y hy => by
        rw [Bool.not_eq_true', decide_eq_false_iff_not]
        intro e
        exact n1 (e ▸ hy)]
    · rw [decide_eq_false c, Bool.not_false, if_pos rfl, List.map_cons, List.sum_cons]
      rcases List.mem_cons.mp hm with e | hm
      · exact absurd e.symm c
      · rw [sum_split1 n2 hm]
        omega
theorem cry_split {ws : List (Option Int)} {F : Int → List Nat} {lot : List Nat} {hand : Nat} (L : Lot ws.length 0 lot) (hm : hand ∈ lot) (hw : (wish ws hand).isSome = true) : cryZ ws F lot = part1 ws F lot hand + restZ ws F lot hand :=
  sum_split1 (List.Pairwise.filter _ L.nodup) (List.mem_filter.mpr ⟨hm, hw⟩)
theorem freed_eq {s c r m x p : Int} (hs : s = 1 ∨ s = -1) (hc : c = s * x + r) : (s * ((c + m) % p - r)) % p = (x + s * m) % p := by
  have e1 : s * ((c + m) % p - r) = x + s * m + p * (-(s * ((c + m) / p))) := by
    have h := Int.emod_add_mul_ediv (c + m) p
    generalize (c + m) % p = w at *
    generalize (c + m) / p = v at *
    have hw : w = c + m - p * v := by omega
    subst hw
    subst hc
    rcases hs with rfl | rfl
    · rw [Int.one_mul, Int.one_mul, Int.one_mul, Int.one_mul, Int.mul_neg]
      omega
    · rw [Int.neg_one_mul, Int.neg_one_mul, Int.neg_one_mul, Int.neg_one_mul, Int.neg_neg]
      omega
  rw [e1, Int.add_mul_emod_self_left]
/-- files as they lie with a hand -/
def Has (n t hand : Nat) (ms : List Int) (F : Int → List Nat) (G : Int → List D) : Prop := ∀ v ∈ ms, ∀ l : List Nat, Lot n 0 l → l.length = t → hand ∈ l → (G v)[rk n 0 l]? = some (.int (pc n (F v) l : Nat))
def cToldFile : DSp := fun ds μ Q => ∃ (p t hand : Nat) (ms : List Int) (F : Int → List Nat) (G : Int → List D) (ws : List (Option Int)) (cs : List Nat), ds = [.int p, .int t, wishD ws, .int hand, .dk (ownD ms G), lotD cs] ∧ 2 ≤ p ∧ p ≤ 10 ^ 9 ∧ ws.length ≤ 60 ∧ t ≤ 9 ∧ bin ws.length t ≤ 2000 ∧ hand < ws.length ∧ (wish ws hand).isSome = true ∧
  FOk ms F p (bin ws.length t) ∧ (∀ h < ws.length, (wish ws h).isSome = true → wv ws h ∈ ms) ∧ Has ws.length t hand ms F G ∧ Heard ws (fun v l => (pc ws.length (F v) l : Nat)) p (t + 1) cs ∧ Q (lotD (F (wv ws hand))) μ
def w_toldFile : DTS :=
  (dSeq (dPar 6 7 (dCons (dGetD (dVar 4) (dCall cOwnNumber [] (dCons (dVar 2) (dCons (dVar 3) dNil)))) (dCons (dLstM dNil) dNil)))
  (dSeq (dFor (dIEnum (dCons (dCall cLots [] (dCons (dCB fLen (dCons (dVar 2) dNil)) (dCons (dVar 1) dNil))) dNil)) (gTp 2 (gsCons (gN 8) (gsCons (gN 9) gsNil))) (dIfS (dT (dOp (dIn false) (dVar 3) (dVar 9))) (dDrop (dMl mAppend (dVar 7) (dCons (dOp dIx (dVar 6) (dVar 8)) dNil))) (dSeq (dAsg (dOp dIx (dCall cComesBy [] (dCons (dVar 2) (dCons (dVar 3) (dCons (dVar 9) dNil)))) (dC (.int 0))) (gN 10))
  (dDrop (dMl mAppend (dVar 7) (dCons (dCall cFreed [] (dCons (dVar 0) (dCons (dVar 2) (dCons (dVar 3) (dCons (dVar 4) (dCons (dVar 10) (dCons (dCall cCryTold [] (dCons (dVar 0) (dCons (dVar 2) (dCons (dVar 10) (dCons (dVar 5) dNil))))) dNil))))))) dNil))))))
  (dRet (dCB fTuple (dCons (dVar 7) dNil)))))
theorem toldFile_ok (N : List Str) (hN : N.length = 11) : ∀ ds μ Q, cToldFile ds μ Q → w_toldFile { nx := fun _ μ' => fin Q .non μ', rt := fin Q } (dstart N ds) μ := by
  intro ds μ Q hc
  obtain ⟨p, t, hand, ms, F, G, ws, cs, rfl, hp1, hp2, hl, ht, hb, hh, hw, hF, hms, hG, hcs, q⟩ := hc
  have hz := sizeLine_eq
  have hv := hms hand hh hw
  obtain ⟨hf1, hf2⟩ := hF _ hv
  unfold w_toldFile
  refine seq_cut fun R hR => ?_
  simp only [dSim, hN, cOwnNumber, dGetD]
  refine ⟨ws, hand, rfl, hh, hw, .tup (G (wv ws hand)), .inl ⟨_, .inl (wv ws hand), see_dk, rfl, (own_get hv).symm⟩, by omega, fun b hb0 => hR _ _ (seq_cut fun R1 hR1 => ?_)⟩
  simp only [dSim, dFor, dIEnum, cLots, List.length_map]
  refine ⟨ws.length, t, rfl, hl, by omega, hb, _, _, rfl, .inr rfl, ?_⟩
  have hll : (lots ws.length 0 t).length = bin ws.length t := lots_len _ 0 t
  refine for_inv (fun i ρ μ' => μ' = mput μ b (.lst (((F (wv ws hand)).take i).map fun x : Nat => .int x)) ∧ ∃ x y z, ρ = [some (.int p), some (.int t), some (wishD ws), some (.int hand), some (.dk (ownD ms G)), some (lotD cs), some (.tup (G (wv ws hand))), some (.ref b), x, y, z])
    ⟨rfl, none, none, none, rfl⟩ (fun _ _ _ _ _ => rfl) (fun i d ρ μ' N1 hi h hN1 => ?_) fun ρ μ' h => ?_
  · obtain ⟨rfl, x, y, z, rfl⟩ := h
    obtain ⟨e, he, rfl⟩ := enumD_get.mp hi
    rw [List.getElem?_map] at he
    cases ea : (lots ws.length 0 t)[i]? with
    | none => rw [ea] at he; cases he
    | some lot =>
      rw [ea] at he
      cases he
      obtain ⟨L, hlen, hrk, hil⟩ := lots_get ea
      obtain ⟨pa1, pa2⟩ := pc_at (c := 0) (fl := F (wv ws hand)) L (by rw [hf1, hlen])
      rw [hrk] at pa1
      have hx := hf2 _ pa2
      have et : (F (wv ws hand)).take (i + 1) = (F (wv ws hand)).take i ++ [pc ws.length (F (wv ws hand)) lot] := by rw [List.take_succ, pa1]; rfl
      have step : μ = μ → mput μ b (.lst (((F (wv ws hand)).take i).map (fun x : Nat => D.int x) ++ [D.int (pc ws.length (F (wv ws hand)) lot : Nat)])) = mput μ b (.lst (((F (wv ws hand)).take (i + 1)).map fun x : Nat => D.int x)) := fun _ => by
        rw [et, List.map_append]
        rfl
      have hsz : (((F (wv ws hand)).take i).map fun x : Nat => D.int x).length < sizeLine := by
        rw [List.length_map, List.length_take]
        omega
      simp only [z_tp, z_gsc, z_gsn, gN, List.set_cons_zero, List.set_cons_succ, List.length_cons, List.length_nil, true_and]
      simp only [dSim, z_inT, Bool.false_eq_true, if_false]
      by_cases c : hand ∈ lot
      · rw [decide_eq_true c, if_pos rfl]
        have hg := hG _ hv lot L hlen c
        rw [hrk] at hg
        simp only [dSim, z_isL mput_same]
        refine ⟨_, at_nat' hg, ?_⟩
        simp only [z_onL mput_same, z_append, mput_mput]
        exact ⟨hsz, hN1 _ _ ⟨step rfl, _, _, _, rfl⟩⟩
      · rw [decide_eq_false c, if_neg (by decide)]
        have W := ins_len L hh c
        have wi := wo_ins L hh c
        have hm : hand ∈ ins ws.length hand lot := mem_ins.mpr ⟨hh, .inl rfl⟩
        simp only [cComesBy]
        refine ⟨ws, hand, lot, ins ws.length hand lot, rfl, hl, L, ins_lot, ins_perm L hh c, fun l ld => ?_⟩
        simp only [dSim, z_isL mput_same, cCryTold]
        refine ⟨_, at_nat' (j := 0) rfl, p, ws, ins ws.length hand lot, cs, fun v l => (pc ws.length (F v) l : Nat), rfl, hp1, hp2, hl, ins_lot, by omega, by rw [W, hlen]; exact hcs, ?_⟩
        have ec : cryP ws (fun v l => (pc ws.length (F v) l : Nat)) (ins ws.length hand lot) = cryZ ws F (ins ws.length hand lot) := rfl
        rw [ec]
        simp only [cFreed]
        have h1 := Int.emod_nonneg (cryZ ws F (ins ws.length hand lot)) (by omega : (p : Int) ≠ 0)
        have h2 := Int.emod_lt_of_pos (cryZ ws F (ins ws.length hand lot)) (by omega : 0 < (p : Int))
        refine ⟨p, bin ws.length t, ms, F, G, ws, ins ws.length hand lot, hand, _, rfl, hp1, hp2, hl, ins_lot, hm, ?_, hF, fun h h3 h4 => ⟨hms h (mem_ins.mp h3).1 h4, by rw [W, hlen]; rfl⟩, fun v hv l Ll hll hml => hG v hv l Ll (by omega) hml, ?_⟩
        · have : (2 : Nat) ^ 60 = 1152921504606846976 := by decide
          omega
        have ee : (sg hand (ins ws.length hand lot) * (cryZ ws F (ins ws.length hand lot) % (p : Int) - restZ ws F (ins ws.length hand lot) hand)) % (p : Int) = (pc ws.length (F (wv ws hand)) lot : Nat) := by
          have h3 := freed_eq (m := 0) (p := (p : Int)) (sgn_cases _) (cry_split (F := F) ins_lot hm hw)
          rw [Int.add_zero, Int.mul_zero, Int.add_zero, wi] at h3
          unfold sg
          rw [h3]
          exact Int.emod_eq_of_lt (by omega) (by omega)
        rw [ee]
        simp only [z_onL mput_same, z_append, mput_mput]
        exact ⟨hsz, hN1 _ _ ⟨step rfl, _, _, _, rfl⟩⟩
  · obtain ⟨rfl, x, y, z, rfl⟩ := h
    refine hR1 _ _ ?_
    rw [enumD_len, List.length_map, hll, ← hf1, List.take_length, map_int]
    simp only [dSim, fTuple]
    exact ⟨_, _, rfl, .inl (see_ref mput_same), fin_sub (Sub.put hb0 Sub.refl) q⟩
end DL

/-! OwnP: files as they lie with a hand, by the laws' own words. -/
namespace DL
open PySem PySem.Spec PyProof.Rows L2
def ownL (n t hand : Nat) (fl : List Nat) : List D := (fl.zip (lots n 0 t)).map fun e => if decide (hand ∈ e.2) = true then .int (e.1 : Nat) else .non
def cOwn : DSp := fun ds μ Q => ∃ (n t hand : Nat) (ms : List Int) (F : Int → List Nat), ds = [.int n, .int t, .dk (filesD ms F), .int hand] ∧ n ≤ 60 ∧ t ≤ 60 ∧ (∀ j ≤ t, bin n j ≤ 100000) ∧ ms.Nodup ∧ ms.length ≤ 1000 ∧ (∀ v ∈ ms, (F v).length ≤ 100000) ∧ Q (.dk (ownD ms fun v => ownL n t hand (F v))) μ
theorem ownL_at {n t hand : Nat} {fl l : List Nat} (L : Lot n 0 l) (hl : l.length = t) (hf : fl.length = bin n t) (hm : hand ∈ l) : (ownL n t hand fl)[rk n 0 l]? = some (.int (pc n fl l : Nat)) := by
  obtain ⟨h1, _⟩ := pc_at (c := 0) (fl := fl) L (by rw [hf, hl])
  have h2 := lots_rk L
  rw [hl] at h2
  have e : (fl.zip (lots n 0 t))[rk n 0 l]? = some (pc n fl l, l) := List.getElem?_zip_eq_some.mpr ⟨h1, h2⟩
  unfold ownL
  rw [List.getElem?_map, e]
  show some (if decide (hand ∈ l) = true then _ else _) = _
  rw [if_pos (decide_eq_true hm)]
theorem shb_own {n t hand p : Nat} {fl : List Nat} (hf : ∀ x ∈ fl, x < p) (hp : p ≤ 10 ^ 9) : Shb 30 (fl.length * 254 + 3) (.tup (ownL n t hand fl)) := by
  refine ⟨252, fun d hd => ?_, ?_⟩
  · unfold ownL at hd
    obtain ⟨e, he, rfl⟩ := List.mem_map.mp hd
    have := hf _ (List.of_mem_zip he).1
    have h3 : e.1 < 2 ^ 250 := Nat.lt_of_lt_of_le (by omega : e.1 < 10 ^ 9) (by decide)
    split
    · exact shb_nat h3 (Nat.le_refl _)
    · show 4 ≤ 252
      decide
  · have : (ownL n t hand fl).length ≤ fl.length := by
      unfold ownL
      rw [List.length_map, List.length_zip]
      omega
    omega
theorem noL_own {n t hand : Nat} {fl : List Nat} : noL (toP (.tup (ownL n t hand fl))) = true := by
  show noLs (toPs (ownL n t hand fl)) = true
  unfold ownL
  generalize fl.zip (lots n 0 t) = es
  induction es with
  | nil => rfl
  | cons e es ih =>
    rw [List.map_cons]
    show (noL (toP (if decide (hand ∈ e.2) = true then .int (e.1 : Nat) else .non)) && _) = true
    rw [ih]
    split <;> rfl
def w_own : DTS :=
  (dSeq (dPar 4 5 (dCons (dCall cBunches [] (dCons (dVar 0) (dCons (dVar 1) dNil))) (dCons dNewK dNil)))
  (dSeq (dFor (dIKeys (dVar 2)) (gN 6) (sDPutD (dVar 5) (dVar 6) (dCB fTuple (dCons (dLc (dIZip (dCons (dGetD (dVar 2) (dVar 6)) (dCons (dVar 4) dNil))) (gTp 2 (gsCons (gN 7) (gsCons (gN 8) gsNil))) dYes (dIf (dT (dOp (dIn false) (dVar 3) (dVar 8))) (dVar 7) (dC .non)) [7, 8]) dNil))))
  (dRet (dFrzD 5))))
theorem own_ok (N : List Str) (hN : N.length = 9) : ∀ ds μ Q, cOwn ds μ Q → w_own { nx := fun _ μ' => fin Q .non μ', rt := fin Q } (dstart N ds) μ := by
  intro ds μ Q hc
  obtain ⟨n, t, hand, ms, F, rfl, hn, ht, hb, nd, hms, hF, q⟩ := hc
  have hz := sizeLine_eq
  unfold w_own
  refine seq_cut fun R hR => ?_
  simp only [dSim, hN, cBunches, dNewK]
  refine ⟨n, t, rfl, by omega, by omega, hb, ?_⟩
  intro b hbn
  refine hR _ _ (seq_cut fun R1 hR1 => ?_)
  simp only [dSim, dFor, dIKeys]
  refine ⟨_, rfl, ?_⟩
  unfold filesD
  rw [List.map_map]
  refine for_inv (fun i ρ μ' => ∃ x y z, μ' = mput μ b (.dk (ownD (ms.take i) fun v => ownL n t hand (F v))) ∧ ρ = [some (.int n), some (.int t), some (.dk (filesD ms F)), some (.int hand), some (.lst ((lots n 0 t).map lotD)), some (.ref b), x, y, z])
    ⟨none, none, none, rfl, rfl⟩ (fun _ _ _ _ _ => trivial) (fun i d ρ μ' N1 hi h hN1 => ?_) fun ρ μ' h => ?_
  · obtain ⟨x, y, z, rfl, rfl⟩ := h
    rw [List.getElem?_map] at hi
    cases e : ms[i]? with
    | none => rw [e] at hi; cases hi
    | some v =>
      rw [e] at hi
      cases hi
      have hv := List.mem_of_getElem? e
      have hlt : i < ms.length := (List.getElem?_eq_some_iff.mp e).1
      have et : ms.take (i + 1) = ms.take i ++ [v] := by rw [List.take_succ, e]; rfl
      have hf := hF v hv
      simp only [dSim, sDPutD, dLc, dIZip, dGetD]
      refine ⟨lotD (F v), .inl ⟨_, .inl v, see_dk, rfl, (files_get hv).symm⟩, _, _, _, _, rfl, .inr (.inr (.inr ⟨rfl, rfl⟩)), ?_⟩
      have ez : zipD ((iL (F v)).map D.int) ((lots n 0 t).map lotD) = ((F v).zip (lots n 0 t)).map fun e => .tup [.int (e.1 : Nat), lotD e.2] := by
        rw [zipD_zip]
        unfold iL
        rw [List.map_map, List.zip_map, List.map_map]
        rfl
      rw [ez]
      refine lc_any1 _ _ (fun e => if decide (hand ∈ e.2) = true then .int (e.1 : Nat) else .non) ⟨rfl, rfl⟩ (by rw [List.length_zip]; omega) (fun e K _ hK => ?_) ?_
      · simp only [dSim, dwipe, z_inT, Bool.false_eq_true, if_false]
        cases c : decide (hand ∈ e.2) with
        | true =>
          rw [c, if_pos rfl] at hK
          rw [if_pos rfl]
          exact hK
        | false =>
          rw [c, if_neg (by decide)] at hK
          rw [if_neg (by decide)]
          exact hK
      have hnone : getT (ownD (ms.take i) fun v => ownL n t hand (F v)) (.inl v) = none := by
        refine getT_none fun c => ?_
        unfold ownD at c
        rw [List.map_map] at c
        obtain ⟨u, hu, eu⟩ := List.mem_map.mp c
        cases eu
        obtain ⟨j, hj⟩ := List.mem_iff_getElem?.mp hu
        have hj2 : j < i := by
          have := (List.getElem?_eq_some_iff.mp hj).1
          rw [List.length_take] at this
          omega
        rw [List.getElem?_take, if_pos hj2] at hj
        have := (List.getElem?_inj (i := j) (j := i) (by omega) nd).mp (by rw [hj, e])
        omega
      refine .inl ⟨b, _, .inl v, rfl, mput_same, rfl, ?_, ?_⟩
      · unfold ownD
        rw [List.length_map, List.length_take]
        omega
      rw [putT_new hnone, mput_mput]
      refine hN1 _ _ ⟨_, _, _, ?_, rfl⟩
      congr 2
      rw [et]
      unfold ownD
      rw [List.map_append]
      rfl
  · obtain ⟨x, y, z, rfl, rfl⟩ := h
    rw [List.length_map, List.take_length]
    refine hR1 _ _ ?_
    simp only [dSim]
    exact .inl ⟨_, mput_same, fin_sub (fun b' m e => by
      have c : b' ≠ b := fun c => by rw [c, hbn] at e; cases e
      unfold mdel
      rw [if_neg c, mput_ne c]
      exact e) q⟩
/-! ### a bunch's cry, in other words -/
def w_callT : DTS :=
  (dSeq (dAsg (dC (.int 0)) (gN 5))
  (dSeq (dFor (dISeq (dVar 4)) (gN 6) (dIfS (dT (dOp dIsN (dOp dIx (dVar 1) (dVar 6)) (dC .non))) (dAsg (dOp dAdd (dVar 5) (dOp dMul (dCall cTurn [] (dCons (dVar 6) (dCons (dVar 4) dNil))) (dOp dIx (dGetD (dVar 2) (dOp dIx (dVar 1) (dVar 6))) (dGetD (dVar 3) (dCall cWithout [] (dCons (dVar 4) (dCons (dVar 6) dNil))))))) (gN 5)) dNext))
  (dRet (dOp oMod (dVar 5) (dVar 0)))))
theorem callT_ok (N : List Str) (hN : N.length = 7) : ∀ ds μ Q, cCall ds μ Q → w_callT { nx := fun _ μ' => fin Q .non μ', rt := fin Q } (dstart N ds) μ := by
  intro ds μ Q hc
  obtain ⟨p, t, ms, F, ws, lot, rfl, hp1, hp2, hl, L, hlt, hF, hw, q⟩ := hc
  have hz := sizeLine_eq
  have hll := L.drop_ok
  unfold w_callT
  refine seq_cut fun R hR => ?_
  simp only [dSim, hN]
  refine hR _ _ (seq_cut fun R1 hR1 => ?_)
  simp only [dSim, dFor, dISeq]
  refine ⟨_, .inr rfl, ?_⟩
  refine for_inv (fun i ρ μ' => μ' = μ ∧ ∃ x, ρ = [some (.int p), some (wishD ws), some (.dk (filesD ms F)), some (.dt (ordD ws.length t)), some (lotD lot), some (.int ((((lot.take i).filter fun h => (wish ws h).isSome).map (part1 ws F lot)).sum)), x])
    ⟨rfl, none, by simp⟩ (fun i ρ μ' _ h => by rw [h.1]) (fun i d ρ μ' N1 hi h hN1 => ?_) fun ρ μ' h => ?_
  · obtain ⟨rfl, x, rfl⟩ := h
    rw [List.getElem?_map] at hi
    unfold iL at hi
    rw [List.getElem?_map] at hi
    cases e : lot[i]? with
    | none => rw [e] at hi; cases hi
    | some h =>
      rw [e] at hi
      cases hi
      have hmem := List.mem_of_getElem? e
      have hlt1 := (L.mem h hmem).2
      have es := sum_take_f (p := fun h => (wish ws h).isSome) (g := part1 ws F lot) e
      simp only [dSim]
      refine ⟨_, at_nat' (wish_at hlt1), ?_⟩
      simp only [dSim, isNone_oD, Bool.not_not]
      by_cases c : (wish ws h).isSome = true
      · rw [if_pos c]
        rw [if_pos c] at es
        have hv := hw h hmem c
        obtain ⟨h5, h6⟩ := hF _ hv
        have Lw := wo_lot (h := h) L
        have lw := wo_len L hmem
        have lwt : (wo lot h).length = t := by omega
        obtain ⟨h7, h8⟩ := pc_at (c := 0) (fl := F (wv ws h)) Lw (by rw [h5, lwt])
        have h9 := h6 _ h8
        have og := ordD_get Lw
        rw [lwt] at og
        simp only [dSim, cTurn, dGetD]
        refine ⟨h, lot, rfl, by omega, _, at_nat' (wish_at hlt1), lotD (F (wv ws h)), .inl ⟨_, .inl (wv ws h), see_dk, by rw [oD_some c]; rfl, (files_get hv).symm⟩, ?_⟩
        simp only [cWithout]
        refine ⟨lot, h, rfl, by omega, .int (rk ws.length 0 (wo lot h) : Nat), .inr ⟨_, lkey (wo lot h), see_dt, (nkD_lkey _).symm, lkey_depth _, og.symm⟩, ?_⟩
        simp only [dSim]
        refine ⟨_, at_nat' (lotD_at h7), ?_⟩
        simp only [dSim]
        refine ⟨mul1 (sgn_abs _) ?_, ?_⟩
        · rw [Int.natAbs_natCast]
          exact Nat.le_trans (by omega : pc ws.length (F (wv ws h)) (wo lot h) ≤ 10 ^ 9) (by decide)
        · refine hN1 _ _ ⟨rfl, some (.int h), ?_⟩
          rw [es]
          rfl
      · rw [if_neg c]
        rw [if_neg c, Int.add_zero] at es
        refine hN1 _ _ ⟨rfl, some (.int h), ?_⟩
        rw [es]
  · obtain ⟨rfl, x, rfl⟩ := h
    refine hR1 _ _ ?_
    rw [List.length_map, iL_len, List.take_length]
    simp only [dSim]
    exact ⟨by omega, fin_of q⟩
/-! ### what repr asks -/
theorem shb_fl {k p c : Nat} {fl : List Nat} (h : fl.length = c) (h2 : ∀ x ∈ fl, x < p) (hp : p ≤ 10 ^ 9) (hc : c ≤ 3000) : ∃ m, Shb (k + 1) m (lotD fl) ∧ m ≤ sizeLine := by
  have hz := sizeLine_eq
  exact ⟨3000 * 254 + 3, shb_lot (fun x hx => Nat.lt_of_lt_of_le (h2 x hx) (Nat.le_trans hp (by decide))) (by omega), by omega⟩
theorem shb_crs {k : Nat} {ws : List (Option Int)} {F : Int → List Nat} {p : Nat} {xs : List (List Nat)} (hp : 2 ≤ p) (hp2 : p ≤ 10 ^ 9) (h : xs.length ≤ 3000) : ∃ m, Shb (k + 2) m (.tup (xs.map (crD ws F p))) ∧ m ≤ sizeLine := by
  have hz := sizeLine_eq
  refine ⟨3000 * 254 + 3, ⟨252, fun d hd => ?_, by rw [List.length_map]; omega⟩, by omega⟩
  obtain ⟨lot, _, rfl⟩ := List.mem_map.mp hd
  have h1 := Int.emod_nonneg (cryZ ws F lot) (by omega : (p : Int) ≠ 0)
  have h2 := Int.emod_lt_of_pos (cryZ ws F lot) (by omega : 0 < (p : Int))
  exact ⟨Int.lt_of_lt_of_le (by decide) h1, Int.lt_trans h2 (Int.lt_of_le_of_lt (by omega : (p : Int) ≤ 10 ^ 9) (by decide)), Nat.le_refl _⟩
theorem own_dk {n t hand p c : Nat} {ms : List Int} {F : Int → List Nat} (hr : ∀ v ∈ ms, 0 ≤ v ∧ v < 1000000) (hF : FOk ms F p c) (hp : p ≤ 10 ^ 9) : DkOk (c * 254 + 3) (ownD ms fun v => ownL n t hand (F v)) := fun e he => by
  obtain ⟨v, hv, rfl⟩ := List.mem_map.mp he
  have h1 := wr_in (hr v hv)
  obtain ⟨h2, h3⟩ := hF v hv
  have h4 := shb_own (n := n) (t := t) (hand := hand) h3 hp
  rw [h2] at h4
  exact ⟨⟨v, rfl, h1.1, h1.2⟩, h4, noL_own⟩
theorem own_pt {n t hand p c m : Nat} {ms : List Int} {F : Int → List Nat} (hr : ∀ v ∈ ms, 0 ≤ v ∧ v < 1000000) (hF : FOk ms F p c) (hp : p ≤ 10 ^ 9) (hm : ms.length * (c * 254 + 3 + 260) + 10 ≤ m) : PtOk m (.dk (ownD ms fun v => ownL n t hand (F v))) :=
  .inl ⟨_, _, rfl, own_dk hr hF hp, by unfold ownD; rw [List.length_map]; exact hm⟩
theorem lot_pt {n : Nat} {l : List Nat} (h : ∀ x ∈ l, x < 2 ^ 250) (hm : l.length * 254 + 3 ≤ n) : PtOk n (lotD l) := .inr ⟨rfl, shb_lot h hm, noL_lot l⟩
theorem eqD_lot {l l' : List Nat} : eqD (lotD l) (lotD l') = decide (l = l') := by
  rw [eqD_tints, iL_eq]
theorem inD_lots {x : List Nat} {xs : List (List Nat)} : inD (lotD x) (xs.map lotD) = decide (x ∈ xs) := by
  unfold inD
  rw [List.any_map, Bool.eq_iff_iff, List.any_eq_true, decide_eq_true_eq]
  constructor
  · rintro ⟨y, h1, h2⟩
    have h2 : eqD (lotD y) (lotD x) = true := h2
    rw [eqD_lot] at h2
    exact (of_decide_eq_true h2) ▸ h1
  · intro h
    refine ⟨x, h, ?_⟩
    show eqD (lotD x) (lotD x) = true
    rw [eqD_lot]
    exact decide_eq_true rfl
end DL

/-! ShelfP: has, shelf, lack. -/
namespace DL
open PySem PySem.Spec PyProof.Rows L2
def cHas : DSp := fun ds μ Q => ∃ (n h : Nat) (l : List Nat), ds = [.int n, .int (l.length : Nat), .int h, .int (rk n 0 l : Nat)] ∧ n ≤ 60 ∧ Lot n 0 l ∧ Q (.bl (decide (h ∈ l))) μ
def w_has' : DTS :=
  (dRet (dOp (dIn false) (dVar 2) (dCall cLotAt [] (dCons (dVar 0) (dCons (dVar 1) (dCons (dVar 3) dNil))))))
theorem has_ok (N : List Str) (hN : N.length = 4) : ∀ ds μ Q, cHas ds μ Q → w_has' { nx := fun _ μ' => fin Q .non μ', rt := fin Q } (dstart N ds) μ := by
  intro ds μ Q hc
  obtain ⟨n, h, l, rfl, hn, L, q⟩ := hc
  unfold w_has'
  simp only [dSim, hN, cLotAt]
  refine ⟨n, l, rfl, hn, L, ?_⟩
  simp only [z_inT, Bool.false_eq_true, if_false]
  exact fin_of q
def cShelf : DSp := fun ds μ Q => ∃ (n t h : Nat) (fl : List Nat), ds = [.int n, .int t, .int h, lotD fl] ∧ n ≤ 60 ∧ fl.length = bin n t ∧ fl.length ≤ 100000 ∧ Q (.tup (ownL n t h fl)) μ
def w_shelf' : DTS :=
  (dRet (dCB fTuple (dCons (dLc (dIEnum (dCons (dVar 3) dNil)) (gTp 2 (gsCons (gN 4) (gsCons (gN 5) gsNil))) dYes (dIf (dT (dCall cHas [] (dCons (dVar 0) (dCons (dVar 1) (dCons (dVar 2) (dCons (dVar 4) dNil)))))) (dVar 5) (dC .non)) [4, 5]) dNil)))
theorem shelf_ok (N : List Str) (hN : N.length = 6) : ∀ ds μ Q, cShelf ds μ Q → w_shelf' { nx := fun _ μ' => fin Q .non μ', rt := fin Q } (dstart N ds) μ := by
  intro ds μ Q hc
  obtain ⟨n, t, h, fl, rfl, hn, hfl, hb, q⟩ := hc
  have hz := sizeLine_eq
  have hll : (lots n 0 t).length = bin n t := lots_len _ 0 t
  unfold w_shelf'
  simp only [dSim, hN, dLc, dIEnum]
  refine ⟨_, _, rfl, .inr rfl, ?_⟩
  refine lc_enum (fun _ => true) (fun i => (ownL n t h fl).getD i .non) rfl (by rw [List.length_map, iL_len]; omega) (fun i d K1 K2 hi h1 _ => ?_) ?_
  · obtain ⟨x, hx, rfl⟩ := lotD_get hi
    have hil := (List.getElem?_eq_some_iff.mp hx).1
    obtain ⟨l, hl⟩ : ∃ l, (lots n 0 t)[i]? = some l := ⟨_, List.getElem?_eq_getElem (by omega)⟩
    obtain ⟨L, hlen, hrk, _⟩ := lots_get hl
    have ez : (fl.zip (lots n 0 t))[i]? = some (x, l) := List.getElem?_zip_eq_some.mpr ⟨hx, hl⟩
    have eo : (ownL n t h fl).getD i .non = if decide (h ∈ l) = true then .int (x : Nat) else .non := by
      unfold ownL
      rw [List.getD_eq_getElem?_getD, List.getElem?_map, ez]
      rfl
    have h1 := h1 rfl
    rw [eo] at h1
    simp only [dSim, dwipe, dYes, cHas]
    rw [if_pos trivial]
    refine ⟨n, h, l, by rw [hlen, hrk], hn, L, ?_⟩
    cases c : decide (h ∈ l) with
    | true =>
      rw [c, if_pos rfl] at h1
      rw [if_pos rfl]
      exact h1
    | false =>
      rw [c, if_neg (by decide)] at h1
      rw [if_neg (by decide)]
      exact h1
  · have hol : (ownL n t h fl).length = fl.length := by
      unfold ownL
      rw [List.length_map, List.length_zip]
      omega
    have e : ((List.range ((iL fl).map D.int).length).filter fun _ => true).map (fun i => (ownL n t h fl).getD i .non) = ownL n t h fl := by
      rw [List.filter_eq_self.mpr fun _ _ => rfl, List.length_map, iL_len, ← hol]
      refine List.ext_getElem (by rw [List.length_map, List.length_range]) fun i h1 h2 => ?_
      rw [List.getElem_map, List.getElem_range, List.getD_eq_getElem?_getD, List.getElem?_eq_getElem h2]
      rfl
    rw [e]
    exact fin_of q
def cLack : DSp := fun ds μ Q => ∃ n t : Nat, ds = [.int n, .int t] ∧ 1 ≤ n ∧ n ≤ 61 ∧ t ≤ 1000 ∧ Q (.int (bin (n - 1) t : Nat)) μ
def w_lack' : DTS := (dRet (dCall cChoose [] (dCons (dOp oSub (dVar 0) (dC (.int 1))) (dCons (dVar 1) dNil))))
theorem lack_ok (N : List Str) (hN : N.length = 2) : ∀ ds μ Q, cLack ds μ Q → w_lack' { nx := fun _ μ' => fin Q .non μ', rt := fin Q } (dstart N ds) μ := by
  intro ds μ Q hc
  obtain ⟨n, t, rfl, hn, hn2, ht, q⟩ := hc
  unfold w_lack'
  simp only [dSim, hN, cChoose]
  exact ⟨n - 1, t, by congr 2; omega, by omega, by omega, fin_of q⟩
end DL

/-! SgnP: lots laid behind one another, rows sorted by exchanges. -/
namespace DL
open PySem PySem.Spec PyProof.Rows L2
theorem sgn_add (a b : Nat) : sgn (a + b) = sgn a * sgn b := by
  unfold sgn
  rcases Nat.mod_two_eq_zero_or_one a with h | h <;> rcases Nat.mod_two_eq_zero_or_one b with k | k <;> simp [Nat.add_mod, h, k]
/-- the pairs that stand the wrong way -/
def abv (l m : List Nat) : List Nat := l.flatMap fun h => (m.filter fun x => decide (x < h)).map fun _ => h
theorem abv_sgn : ∀ l m : List Nat, sgn (abv l m).length = x2 l m
  | [], m => rfl
  | a :: l, m => by
    have e : abv (a :: l) m = ((m.filter fun x => decide (x < a)).map fun _ => a) ++ abv l m := rfl
    rw [e, List.length_append, sgn_add, abv_sgn l m, List.length_map, x2, c2_sg]
    rfl
theorem x2_left : ∀ {l k m : List Nat}, l.Perm k → x2 l m = x2 k m := fun {l k m} h => by
  induction h with
  | nil => rfl
  | cons x _ ih => rw [x2, x2, ih]
  | swap x y l => rw [x2, x2, x2, x2, ← Int.mul_assoc, ← Int.mul_assoc, Int.mul_comm (c2 y m)]
  | trans _ _ h1 h2 => rw [h1, h2]
theorem x2_app_l : ∀ l k m : List Nat, x2 (l ++ k) m = x2 l m * x2 k m
  | [], k, m => by rw [List.nil_append, x2, Int.one_mul]
  | a :: l, k, m => by rw [List.cons_append, x2, x2, x2_app_l l k m, Int.mul_assoc]
theorem x2_app_r : ∀ l k m : List Nat, x2 l (k ++ m) = x2 l k * x2 l m
  | [], k, m => rfl
  | a :: l, k, m => by
    rw [x2, x2, x2, c2_append, x2_app_r l k m, Int.mul_assoc, Int.mul_assoc, ← Int.mul_assoc (c2 a m), ← Int.mul_assoc (x2 l k), Int.mul_comm (c2 a m)]
theorem x2_cases : ∀ l m : List Nat, x2 l m = 1 ∨ x2 l m = -1
  | [], m => .inl rfl
  | a :: l, m => pm_mul (c2_cases a m) (x2_cases l m)
theorem sig_two {l m : List Nat} (hl : l.Pairwise (· < ·)) (hm : m.Pairwise (· < ·)) : sig (l ++ m) = x2 l m := by
  rw [sig_append, sig_sorted hl, sig_sorted hm, Int.one_mul, Int.one_mul]
theorem lc_accf {α : Type} {tg : DG} {tt : DB} {te : DT} {G : Mu → Prop} {ρ0 : Rho} {Q : List D → Mu → Prop} {μ : Mu} (g : α → D) (p : α → Bool) (f : α → D) (hG : G μ) : ∀ (xs : List α) (acc : List D), acc.length + (xs.filter p).length ≤ sizeLine →
    (∀ (x : α) (K1 : D → Mu → Prop) (K2 : Mu → Prop), x ∈ xs → (p x = true → K1 (f x) μ) → (p x = false → K2 μ) → tg (g x) ρ0 μ fun ρ2 μ2 => tt ρ2 μ2 fun b μ3 => if b = true then te ρ2 μ3 K1 else K2 μ3) →
    Q (acc ++ (xs.filter p).map f) μ → lcGo tg tt te G ρ0 Q (xs.map g) acc μ
  | [], acc, _, _, hd => by
    rw [List.filter_nil, List.map_nil, List.append_nil] at hd
    exact ⟨hG, hd⟩
  | x :: xs, acc, hn, hs, hd => by
    refine ⟨hG, hs x _ _ List.mem_cons_self (fun hp => ?_) fun hp => ?_⟩
    · rw [List.filter_cons, if_pos hp] at hn hd
      rw [List.length_cons] at hn
      refine ⟨by omega, lc_accf g p f hG xs _ (by rw [List.length_append, List.length_cons, List.length_nil]; omega) (fun y K1 K2 hy => hs y K1 K2 (List.mem_cons_of_mem _ hy)) ?_⟩
      rw [List.map_cons] at hd
      rw [List.append_assoc]
      exact hd
    · rw [List.filter_cons, if_neg (by rw [hp]; decide)] at hn hd
      exact lc_accf g p f hG xs _ hn (fun y K1 K2 hy => hs y K1 K2 (List.mem_cons_of_mem _ hy)) hd
def Apart (l m : List Nat) : Prop := ∀ x ∈ l, x ∉ m
def noneD : D := .tup [.int 0, .tup []]
def layD (z : Int) (w : List Nat) : D := .tup [.int z, lotD w]
def cLaid : DSp := fun ds μ Q => ∃ (n : Nat) (l m : List Nat), ds = [lotD l, lotD m] ∧ n ≤ 1000 ∧ Lot n 0 l ∧ Lot n 0 m ∧ (¬ Apart l m → Q noneD μ) ∧ (Apart l m → ∀ w, Lot n 0 w → w.Perm (l ++ m) → Q (layD (x2 l m) w) μ)
def w_laid' : DTS :=
  (dSeq (dIfS (dT (dCB fAny (dCons (dLc (dISeq (dVar 0)) (gN 2) dYes (dOp (dIn false) (dVar 2) (dVar 1)) [2]) dNil))) (dRet (dTup (dCons (dC (.int 0)) (dCons (dTup dNil) dNil)))) dNext)
  (dSeq (dAsg (dLc2 (dISeq (dVar 0)) (gN 2) dYes (dISeq (dVar 1)) (gN 4) (dT (dOp oLt (dVar 4) (dVar 2))) (dVar 2) [2, 4] [4]) (gN 3))
  (dRet (dTup (dCons (dCall cSignOf [] (dCons (dCB fLen (dCons (dVar 3) dNil)) dNil)) (dCons (dCB fTuple (dCons (dCB fSort (dCons (dOp dAdd (dVar 0) (dVar 1)) dNil)) dNil)) dNil))))))
theorem laid_ok (N : List Str) (hN : N.length = 5) : ∀ ds μ Q, cLaid ds μ Q → w_laid' { nx := fun _ μ' => fin Q .non μ', rt := fin Q } (dstart N ds) μ := by
  intro ds μ Q hc
  obtain ⟨n, l, m, rfl, hn, L, M, q1, q2⟩ := hc
  have hz := sizeLine_eq
  have hl := L.drop_ok
  have hm := M.drop_ok
  unfold w_laid'
  refine seq_cut fun R hR => ?_
  simp only [dSim, hN, dLc, dISeq]
  refine ⟨_, .inr rfl, ?_⟩
  refine lc_nat (fun _ => true) (fun x => .bl (decide (x ∈ m))) rfl (by omega) (fun x K _ hK => hK) (fun x K _ _ hK => ?_) ?_
  · simp only [dSim, dwipe, z_inT, Bool.false_eq_true, if_false]
    exact hK
  rw [List.filter_eq_self.mpr fun _ _ => rfl]
  refine ⟨_, l.map fun x => decide (x ∈ m), rfl, by rw [see_lst, List.map_map]; rfl, ?_⟩
  simp only [dSim]
  by_cases c : Apart l m
  · have e : (l.map fun x => decide (x ∈ m)).any id = false := by
      rw [List.any_map, List.any_eq_false]
      intro x hx h
      exact c x hx (of_decide_eq_true h)
    rw [e, if_neg (by decide)]
    refine hR _ _ (seq_cut fun R1 hR1 => ?_)
    simp only [dSim, dLc2, dISeq]
    refine ⟨_, .inr rfl, ?_⟩
    have bound : ∀ k : List Nat, (k.flatMap fun h => (m.filter fun x => decide (x < h)).map fun _ => D.int (h : Nat)).length ≤ k.length * m.length := fun k => by
      induction k with
      | nil => exact Nat.zero_le _
      | cons a k ih =>
        rw [List.flatMap_cons, List.length_append, List.length_map, List.length_cons, Nat.succ_mul]
        have := List.length_filter_le (fun x => decide (x < a)) m
        omega
    have hb := bound l
    have hbb : l.length * m.length ≤ 1000 * 1000 := Nat.mul_le_mul (by omega) (by omega)
    have ei : (iL l).map D.int = l.map fun x : Nat => D.int (x : Nat) := (map_int l).symm
    rw [ei]
    refine lc2_acc (fun x : Nat => D.int (x : Nat)) (fun h => (m.filter fun x => decide (x < h)).map fun _ => D.int (h : Nat)) (by exact rfl) l [] (by rw [List.length_nil]; omega) (fun h acc K hh hacc hK => ?_) ?_
    · have ej : (iL m).map D.int = m.map fun x : Nat => D.int (x : Nat) := (map_int m).symm
      simp only [dSim, dwipe, dYes, if_true]
      refine ⟨_, .inr rfl, ?_⟩
      rw [ej]
      rw [List.length_map] at hacc
      refine lc_accf (fun x : Nat => D.int (x : Nat)) (fun x => decide (x < h)) (fun _ => D.int (h : Nat)) (by exact rfl) m acc hacc (fun x K1 K2 hx h1 h2 => ?_) hK
      simp only [dSim, dwipe, dec_lt]
      by_cases c2 : x < h
      · rw [decide_eq_true c2, if_pos rfl]
        exact h1 (decide_eq_true c2)
      · rw [decide_eq_false c2, if_neg (by decide)]
        exact h2 (decide_eq_false c2)
    rw [List.nil_append]
    refine hR1 _ _ ?_
    have el : (l.flatMap fun h => (m.filter fun x => decide (x < h)).map fun _ => D.int (h : Nat)).length = (abv l m).length := by
      unfold abv
      rw [List.length_flatMap, List.length_flatMap]
      simp only [List.length_map]
    simp only [dSim, cSignOf]
    rw [el]
    refine ⟨_, rfl, ?_⟩
    rw [abv_sgn]
    rw [List.length_map, List.length_map, iL_len, iL_len, lot_app]
    refine ⟨by omega, sort_of (.inr rfl) fun ms h1 h2 => ?_⟩
    have nd : (l ++ m).Nodup := List.nodup_append.mpr ⟨L.nodup, M.nodup, fun a ha b hb e => c a ha (e ▸ hb)⟩
    obtain ⟨w, rfl, W, pw⟩ := sort_lot (m := n) h1 h2 nd fun x hx => (List.mem_append.mp hx).elim (fun h => (L.mem x h).2) fun h => (M.mem x h).2
    simp only [dSim]
    exact ⟨by decide, fin_of (q2 c w W pw)⟩
  · have e : (l.map fun x => decide (x ∈ m)).any id = true := by
      rw [List.any_map, List.any_eq_true]
      refine Classical.byContradiction fun h => c fun x hx hxm => h ⟨x, hx, decide_eq_true hxm⟩
    rw [e, if_pos rfl]
    exact ⟨by decide, by decide, fin_of (q1 c)⟩
/-! ### rows sorted by exchanges of neighbours -/
theorem swap_at {L : List Nat} {k : Nat} (h : k + 1 < L.length) : ∃ pre post, L = pre ++ L.getD k 0 :: L.getD (k + 1) 0 :: post ∧ pre.length = k := by
  refine ⟨L.take k, L.drop (k + 2), ?_, by rw [List.length_take]; omega⟩
  have e1 := List.drop_eq_getElem_cons (by omega : k < L.length)
  have e2 := List.drop_eq_getElem_cons h
  have g1 : L.getD k 0 = L[k] := by rw [List.getD_eq_getElem?_getD, List.getElem?_eq_getElem (by omega)]; rfl
  have g2 : L.getD (k + 1) 0 = L[k + 1] := by rw [List.getD_eq_getElem?_getD, List.getElem?_eq_getElem h]; rfl
  rw [g1, g2, ← e2, ← e1, List.take_append_drop]
/-- the neighbours at k exchanged -/
def swp (L : List Nat) (k : Nat) : List Nat := (L.set k (L.getD (k + 1) 0)).set (k + 1) (L.getD k 0)
theorem swp_len {L : List Nat} {k : Nat} : (swp L k).length = L.length := by unfold swp; rw [List.length_set, List.length_set]
theorem swp_get {L : List Nat} {k i : Nat} (h : k + 1 < L.length) : (swp L k).getD i 0 = if i = k then L.getD (k + 1) 0 else if i = k + 1 then L.getD k 0 else L.getD i 0 := by
  unfold swp
  rw [List.getD_eq_getElem?_getD, List.getElem?_set, List.getElem?_set]
  by_cases c1 : i = k
  · subst c1
    rw [if_neg (by omega), if_pos rfl, if_pos (by omega), if_pos rfl]
    rfl
  · rw [if_neg c1]
    by_cases c2 : i = k + 1
    · subst c2
      rw [if_pos rfl, if_pos (by rw [List.length_set]; exact h), if_pos rfl]
      rfl
    · rw [if_neg (Ne.symm c2), if_neg (Ne.symm c1), if_neg c2, ← List.getD_eq_getElem?_getD]
theorem swp_split {pre post : List Nat} {a b : Nat} : swp (pre ++ a :: b :: post) pre.length = pre ++ b :: a :: post := by
  unfold swp
  have g1 : (pre ++ a :: b :: post).getD pre.length 0 = a := by simp
  have g2 : (pre ++ a :: b :: post).getD (pre.length + 1) 0 = b := by simp
  rw [g1, g2]
  simp
theorem swp_perm {L : List Nat} {k : Nat} (h : k + 1 < L.length) : (swp L k).Perm L := by
  obtain ⟨pre, post, e, hp⟩ := swap_at h
  generalize L.getD k 0 = a at e
  generalize L.getD (k + 1) 0 = b at e
  subst e
  subst hp
  rw [swp_split]
  exact List.Perm.append_left pre (List.Perm.swap a b post)
theorem swp_sig {L : List Nat} {k : Nat} (h : k + 1 < L.length) (ne : L.getD k 0 ≠ L.getD (k + 1) 0) : sig (swp L k) = - sig L := by
  obtain ⟨pre, post, e, hp⟩ := swap_at h
  generalize L.getD k 0 = a at e ne
  generalize L.getD (k + 1) 0 = b at e ne
  subst e
  subst hp
  rw [swp_split]
  have := sig_swap' (l := pre) (m := []) (r := post) ne (by simp) (by simp)
  simp only [List.append_assoc, List.cons_append, List.nil_append] at this
  exact this
theorem nodup_getD {L : List Nat} (nd : L.Nodup) {i j : Nat} (hi : i < L.length) (hj : j < L.length) (ne : i ≠ j) : L.getD i 0 ≠ L.getD j 0 := fun e => by
  rw [List.getD_eq_getElem?_getD, List.getD_eq_getElem?_getD, List.getElem?_eq_getElem hi, List.getElem?_eq_getElem hj] at e
  have e : L[i] = L[j] := e
  exact ne ((List.getElem?_inj (i := i) (j := j) hi nd).mp (by rw [List.getElem?_eq_getElem hi, List.getElem?_eq_getElem hj, e]))
def cLawSorted : DSp := fun ds μ Q => ∃ (d : D) (n : Nat) (row : List Nat), ds = [d] ∧ (see μ d = .lst ((iL row).map D.int) ∨ see μ d = .tup ((iL row).map D.int)) ∧ row.length ≤ 1000 ∧ (∀ x ∈ row, x < n) ∧ (¬ row.Nodup → Q noneD μ) ∧ (row.Nodup → ∀ w, Lot n 0 w → w.Perm row → Q (layD (sig row) w) μ)
def w_lawSorted : DTS :=
  (dSeq (dPar 1 2 (dCons (dCB fListM (dCons (dVar 0) dNil)) (dCons (dC (.int 1)) dNil)))
  (dSeq (dIfS (dT (dOp oLt (dLenSet (dVar 1)) (dCB fLen (dCons (dVar 1) dNil)))) (dRet (dTup (dCons (dC (.int 0)) (dCons (dTup dNil) dNil)))) dNext)
  (dSeq (dFor (dIR3 (dCons (dOp oSub (dCB fLen (dCons (dVar 1) dNil)) (dC (.int 1))) (dCons (dC (.int 0)) (dCons (dNeg (dC (.int 1))) dNil)))) (gN 3) (dFor (dIR1 (dCons (dVar 3) dNil)) (gN 4) (dIfS (dT (dOp oGt (dOp dIx (dVar 1) (dVar 4)) (dOp dIx (dVar 1) (dOp dAdd (dVar 4) (dC (.int 1)))))) (dSeq (dAsg (dTup (dCons (dOp dIx (dVar 1) (dOp dAdd (dVar 4) (dC (.int 1)))) (dCons (dOp dIx (dVar 1) (dVar 4)) dNil))) (gTp 2 (gsCons (gSb (dVar 1) (dVar 4)) (gsCons (gSb (dVar 1) (dOp dAdd (dVar 4) (dC (.int 1)))) gsNil))))
  (dAsg (dOp oSub (dC (.int 0)) (dVar 2)) (gN 2))) dNext)))
  (dRet (dTup (dCons (dVar 2) (dCons (dCB fTuple (dCons (dVar 1) dNil)) dNil)))))))
theorem lawSorted_ok (N : List Str) (hN : N.length = 5) : ∀ ds μ Q, cLawSorted ds μ Q → w_lawSorted { nx := fun _ μ' => fin Q .non μ', rt := fin Q } (dstart N ds) μ := by
  intro ds μ Q hc
  obtain ⟨d, n, row, rfl, hd, hl, hr, q1, q2⟩ := hc
  have hz := sizeLine_eq
  unfold w_lawSorted
  refine seq_cut fun R hR => ?_
  simp only [dSim, hN, fListM]
  refine ⟨_, _, rfl, hd, fun b hb => hR _ _ (seq_cut fun R1 hR1 => ?_)⟩
  have sb : ∀ L : List Nat, see (mput μ b (.lst ((iL L).map D.int))) (.ref b) = .lst ((iL L).map D.int) := fun L => see_ref mput_same
  simp only [dSim, dLenSet, fLen]
  refine ⟨iL row, sb _, by rw [iL_len]; omega, _, _, rfl, .inl (sb _), ?_⟩
  simp only [dSim, List.length_map, iL_len]
  have hu := unlike_le (iL row)
  rw [iL_len] at hu
  have hnd : (iL row).Nodup ↔ row.Nodup := by
    unfold iL
    constructor
    · intro h
      rw [List.nodup_iff_pairwise_ne, List.pairwise_map] at h
      exact h.imp fun h e => h (by rw [e])
    · intro h
      exact DL.nodup_map_on (fun x _ y _ e => by exact_mod_cast e) h
  by_cases nd : row.Nodup
  · have e1 : unlike (iL row) = row.length := by rw [unlike_all.mpr (hnd.mpr nd), iL_len]
    rw [decide_eq_false (by omega), if_neg (by decide)]
    refine hR1 _ _ (seq_cut fun R2 hR2 => ?_)
    simp only [dSim, dFor, dIR3, fLen]
    refine ⟨_, _, rfl, .inl (sb _), ?_⟩
    simp only [dSim, List.length_map, iL_len]
    refine ⟨_, _, _, _, rfl, RgC.neg (by omega) (by omega) (by omega) (by omega), ?_⟩
    have en : ((row.length : Int) - 1 - 0).toNat = row.length - 1 := by omega
    rw [en]
    have ln : ∀ {L : List Nat}, L.Perm row → L.length = row.length := fun h => h.length_eq
    refine for_inv (fun i ρ μ' => ∃ (L : List Nat) (z : Int) (x y : Option D), μ' = mput μ b (.lst ((iL L).map D.int)) ∧ ρ = [some d, some (.ref b), some (.int z), x, y] ∧ L.Perm row ∧ (z = 1 ∨ z = -1) ∧ z * sig L = sig row ∧ ∀ p q, p < q → q < row.length → row.length ≤ q + i → L.getD p 0 < L.getD q 0)
      ⟨row, 1, none, none, rfl, rfl, List.Perm.refl _, .inl rfl, Int.one_mul _, fun p q _ h1 h2 => by omega⟩ (fun _ _ _ _ _ => trivial) (fun i e ρ μ' N1 hi h hN1 => ?_) fun ρ μ' h => ?_
    · obtain ⟨L, z, x, y, rfl, rfl, pm, hz1, hs, hE⟩ := h
      have hi2 := (List.getElem?_eq_some_iff.mp hi).1
      unfold rngC at hi hi2
      rw [List.length_map, List.length_range] at hi2
      rw [List.getElem?_map, List.getElem?_range hi2] at hi
      cases hi
      obtain ⟨e, ee⟩ : ∃ e : Nat, e = row.length - 1 - i := ⟨_, rfl⟩
      have e1 : ((row.length : Int) - 1 + (i : Int) * -1) = (e : Int) := by omega
      simp only [e1]
      simp only [dSim, dFor, dIR1]
      refine ⟨_, rfl, by omega, by omega, ?_⟩
      rw [Int.toNat_natCast]
      refine for_inv (fun k ρ μ' => k ≤ e ∧ ∃ (L : List Nat) (z : Int) (y : Option D), μ' = mput μ b (.lst ((iL L).map D.int)) ∧ ρ = [some d, some (.ref b), some (.int z), some (.int e), y] ∧ L.Perm row ∧ (z = 1 ∨ z = -1) ∧ z * sig L = sig row ∧ (∀ p q, p < q → q < row.length → row.length ≤ q + i → L.getD p 0 < L.getD q 0) ∧ ∀ p < k, L.getD p 0 < L.getD k 0)
        ⟨Nat.zero_le _, L, z, _, rfl, rfl, pm, hz1, hs, hE, fun p h => absurd h (Nat.not_lt_zero _)⟩ (fun _ _ _ _ _ => trivial) (fun k e' ρ μ' N2 hk h hN2 => ?_) fun ρ μ' h => ?_
      · obtain ⟨hk1, rfl⟩ := rng_at hk
        obtain ⟨_, L, z, y, rfl, rfl, pm, hz1, hs, hE, hm⟩ := h
        have hL := ln pm
        have h1 : k + 1 < L.length := by omega
        have ek : ((k : Int) + 1) = ((k + 1 : Nat) : Int) := by omega
        have nL : L.Nodup := pm.nodup_iff.mpr nd
        have ne := nodup_getD nL (by omega : k < L.length) h1 (by omega)
        have ix0 : atD ((iL L).map D.int) (k : Nat) = some (.int (L.getD k 0 : Nat)) := at_nat' (lotD_at (getD_lt (by omega)))
        have ix1 : atD ((iL L).map D.int) ((k + 1 : Nat) : Int) = some (.int (L.getD (k + 1) 0 : Nat)) := at_nat' (lotD_at (getD_lt h1))
        simp only [dSim]
        refine ⟨_, _, _, .inl (sb L), rfl, ix0, _, _, _, .inl (sb L), rfl, by rw [ek]; exact ix1, ?_⟩
        simp only [dSim]
        by_cases c : L.getD (k + 1) 0 < L.getD k 0
        · rw [decide_eq_true (by omega), if_pos rfl]
          refine ⟨_, _, _, .inl (sb L), rfl, by rw [ek]; exact ix1, _, _, _, .inl (sb L), rfl, ix0, by decide, ?_⟩
          rw [z_setix mput_same]
          refine ⟨k, ixN_nat (by rw [List.length_map, iL_len]; omega), ?_⟩
          rw [mput_mput, z_setix mput_same]
          refine ⟨k + 1, by rw [ek]; exact ixN_nat (by rw [List.length_set, List.length_map, iL_len]; omega), ?_⟩
          rw [mput_mput]
          have es : (((iL L).map D.int).set k (.int (L.getD (k + 1) 0 : Nat))).set (k + 1) (.int (L.getD k 0 : Nat)) = (iL (swp L k)).map D.int := by
            unfold swp iL
            rw [List.map_set, List.map_set, List.map_set, List.map_set]
          rw [es]
          have ss := swp_sig h1 ne
          refine hN2 _ _ ⟨hk1, swp L k, 0 - z, _, rfl, rfl, (swp_perm h1).trans pm, by omega, ?_, fun p q hpq hq hqi => ?_, fun p hp => ?_⟩
          · rw [ss, Int.zero_sub, Int.neg_mul_neg]
            exact hs
          · rw [swp_get h1, swp_get h1, if_neg (by omega : ¬ q = k), if_neg (by omega : ¬ q = k + 1)]
            split
            · exact hE (k + 1) q (by omega) hq hqi
            · split
              · exact hE k q (by omega) hq hqi
              · exact hE p q hpq hq hqi
          · rw [swp_get h1, swp_get h1, if_neg (by omega : ¬ k + 1 = k), if_pos rfl]
            split
            · exact c
            · rw [if_neg (by omega)]
              exact hm p (by omega)
        · rw [decide_eq_false (by omega), if_neg (by decide)]
          refine hN2 _ _ ⟨hk1, L, z, _, rfl, rfl, pm, hz1, hs, hE, fun p hp => ?_⟩
          have hlt : L.getD k 0 < L.getD (k + 1) 0 := by omega
          by_cases cp : p = k
          · subst cp
            exact hlt
          · exact Nat.lt_trans (hm p (by omega)) hlt
      · obtain ⟨_, L, z, y, rfl, rfl, pm, hz1, hs, hE, hm⟩ := h
        rw [rng_len] at hm
        refine hN1 _ _ ⟨L, z, _, _, rfl, rfl, pm, hz1, hs, fun p q hpq hq hqi => ?_⟩
        by_cases c : row.length ≤ q + i
        · exact hE p q hpq hq c
        · have : q = e := by omega
          subst this
          exact hm p hpq
    · obtain ⟨L, z, x, y, rfl, rfl, pm, hz1, hs, hE⟩ := h
      have hL := ln pm
      have hrl : (rngC ((row.length : Int) - 1) (-1) (row.length - 1)).length = row.length - 1 := by
        unfold rngC
        rw [List.length_map, List.length_range]
      rw [hrl] at hE
      have pw : L.Pairwise (· < ·) := by
        rw [List.pairwise_iff_getElem]
        intro p q hp hq hpq
        have := hE p q hpq (by omega) (by omega)
        rw [List.getD_eq_getElem?_getD, List.getD_eq_getElem?_getD, List.getElem?_eq_getElem hp, List.getElem?_eq_getElem hq] at this
        exact this
      have e1 : sig L = 1 := sig_sorted pw
      rw [e1, Int.mul_one] at hs
      have W : Lot n 0 L := lot_of_pw pw fun x hx => ⟨Nat.zero_le _, hr x (pm.mem_iff.mp hx)⟩
      refine hR2 _ _ ?_
      simp only [dSim, fTuple]
      refine ⟨_, _, rfl, .inl (sb L), by decide, ?_⟩
      rw [hs]
      exact fin_sub (Sub.put hb Sub.refl) (q2 nd L W pm)
  · have e1 : unlike (iL row) ≠ row.length := fun e => nd (hnd.mp (unlike_all.mp (by rw [e, iL_len])))
    rw [decide_eq_true (by omega), if_pos rfl]
    exact ⟨by decide, by decide, fin_sub (Sub.put hb Sub.refl) (q1 nd)⟩
/-! ### a datum is equal to itself -/
theorem eqD_self {n : Nat} {d : D} (h : plD n d = true) : eqD d d = true := PySem.SeqAt.eqv_refl _ (pl_depth n d h).2
theorem ne_self {μ : Mu} {Q : DQ} {d : D} (h : Pl (see μ d)) (q : Q (.bl false) μ) : dNe d d μ Q := ⟨h, h, by
  rw [eqD_self h]
  exact q⟩
theorem eq_self' {μ : Mu} {Q : DQ} {d : D} (h : Pl (see μ d)) (q : Q (.bl true) μ) : dEq d d μ Q := ⟨h, h, by
  rw [eqD_self h]
  exact q⟩
theorem pl_lay (z : Int) (w : List Nat) : Pl (layD z w) := plDs_all (n := 59) fun d hd => by
  simp only [List.mem_cons, List.not_mem_nil, or_false] at hd
  rcases hd with rfl | rfl
  · rfl
  · exact pl_lotN w
theorem pl_noneD : Pl noneD := rfl
end DL

/-! SgnQ: rows laid behind one another, whole laws of signs. -/
namespace DL
open PySem PySem.Spec PyProof.Rows L2
def cLaidX : DSp := fun ds μ Q => ∃ (n : Nat) (l m : List Nat), ds = [lotD l, lotD m] ∧ l.length ≤ 1000 ∧ m.length ≤ 1000 ∧ l.Nodup ∧ m.Nodup ∧ (∀ x ∈ l, x < n) ∧ (∀ x ∈ m, x < n) ∧ (¬ Apart l m → Q noneD μ) ∧ (Apart l m → ∀ w, Lot n 0 w → w.Perm (l ++ m) → Q (layD (x2 l m) w) μ)
theorem laidX_ok (N : List Str) (hN : N.length = 5) : ∀ ds μ Q, cLaidX ds μ Q → w_laid' { nx := fun _ μ' => fin Q .non μ', rt := fin Q } (dstart N ds) μ := by
  intro ds μ Q hc
  obtain ⟨n, l, m, rfl, hl, hm, L, M, ln, mn, q1, q2⟩ := hc
  have hz := sizeLine_eq
  unfold w_laid'
  refine seq_cut fun R hR => ?_
  simp only [dSim, hN, dLc, dISeq]
  refine ⟨_, .inr rfl, ?_⟩
  refine lc_nat (fun _ => true) (fun x => .bl (decide (x ∈ m))) rfl (by omega) (fun x K _ hK => hK) (fun x K _ _ hK => ?_) ?_
  · simp only [dSim, dwipe, z_inT, Bool.false_eq_true, if_false]
    exact hK
  rw [List.filter_eq_self.mpr fun _ _ => rfl]
  refine ⟨_, l.map fun x => decide (x ∈ m), rfl, by rw [see_lst, List.map_map]; rfl, ?_⟩
  simp only [dSim]
  by_cases c : Apart l m
  · have e : (l.map fun x => decide (x ∈ m)).any id = false := by
      rw [List.any_map, List.any_eq_false]
      intro x hx h
      exact c x hx (of_decide_eq_true h)
    rw [e, if_neg (by decide)]
    refine hR _ _ (seq_cut fun R1 hR1 => ?_)
    simp only [dSim, dLc2, dISeq]
    refine ⟨_, .inr rfl, ?_⟩
    have bound : ∀ k : List Nat, (k.flatMap fun h => (m.filter fun x => decide (x < h)).map fun _ => D.int (h : Nat)).length ≤ k.length * m.length := fun k => by
      induction k with
      | nil => exact Nat.zero_le _
      | cons a k ih =>
        rw [List.flatMap_cons, List.length_append, List.length_map, List.length_cons, Nat.succ_mul]
        have := List.length_filter_le (fun x => decide (x < a)) m
        omega
    have hb := bound l
    have hbb : l.length * m.length ≤ 1000 * 1000 := Nat.mul_le_mul (by omega) (by omega)
    have ei : (iL l).map D.int = l.map fun x : Nat => D.int (x : Nat) := (map_int l).symm
    rw [ei]
    refine lc2_acc (fun x : Nat => D.int (x : Nat)) (fun h => (m.filter fun x => decide (x < h)).map fun _ => D.int (h : Nat)) (by exact rfl) l [] (by rw [List.length_nil]; omega) (fun h acc K hh hacc hK => ?_) ?_
    · have ej : (iL m).map D.int = m.map fun x : Nat => D.int (x : Nat) := (map_int m).symm
      simp only [dSim, dwipe, dYes, if_true]
      refine ⟨_, .inr rfl, ?_⟩
      rw [ej]
      rw [List.length_map] at hacc
      refine lc_accf (fun x : Nat => D.int (x : Nat)) (fun x => decide (x < h)) (fun _ => D.int (h : Nat)) (by exact rfl) m acc hacc (fun x K1 K2 hx h1 h2 => ?_) hK
      simp only [dSim, dwipe, dec_lt]
      by_cases c2 : x < h
      · rw [decide_eq_true c2, if_pos rfl]
        exact h1 (decide_eq_true c2)
      · rw [decide_eq_false c2, if_neg (by decide)]
        exact h2 (decide_eq_false c2)
    rw [List.nil_append]
    refine hR1 _ _ ?_
    have el : (l.flatMap fun h => (m.filter fun x => decide (x < h)).map fun _ => D.int (h : Nat)).length = (abv l m).length := by
      unfold abv
      rw [List.length_flatMap, List.length_flatMap]
      simp only [List.length_map]
    simp only [dSim, cSignOf]
    rw [el]
    refine ⟨_, rfl, ?_⟩
    rw [abv_sgn]
    rw [List.length_map, List.length_map, iL_len, iL_len, lot_app]
    refine ⟨by omega, sort_of (.inr rfl) fun ms h1 h2 => ?_⟩
    have nd : (l ++ m).Nodup := List.nodup_append.mpr ⟨L, M, fun a ha b hb e => c a ha (e ▸ hb)⟩
    obtain ⟨w, rfl, W, pw⟩ := sort_lot (m := n) h1 h2 nd fun x hx => (List.mem_append.mp hx).elim (fun h => ln x h) fun h => mn x h
    simp only [dSim]
    exact ⟨by decide, fin_of (q2 c w W pw)⟩
  · have e : (l.map fun x => decide (x ∈ m)).any id = true := by
      rw [List.any_map, List.any_eq_true]
      refine Classical.byContradiction fun h => c fun x hx hxm => h ⟨x, hx, decide_eq_true hxm⟩
    rw [e, if_pos rfl]
    exact ⟨by decide, by decide, fin_of (q1 c)⟩
theorem x2_one (a : Nat) : ∀ l : List Nat, x2 l [a] = d2 a l
  | [] => rfl
  | b :: l => by
    rw [x2, d2, x2_one a l, c2, c2, Int.mul_one]
theorem sgn_if (k : Nat) : (if k % 2 = 0 then (1 : Int) else -1) = sgn k := rfl
theorem x2_turn : ∀ {l m : List Nat}, Apart l m → x2 l m = sgn (l.length * m.length) * x2 m l
  | [], m, _ => by
    have : x2 m [] = 1 := by
      induction m with
      | nil => rfl
      | cons a m ih => rw [x2, ih fun x hx => by cases hx]; rfl
    rw [this, List.length_nil, Nat.zero_mul]
    rfl
  | a :: l, m, h => by
    have h1 : Apart l m := fun x hx => h x (List.mem_cons_of_mem _ hx)
    have h2 : a ∉ m := h a List.mem_cons_self
    have e : x2 m (a :: l) = x2 m [a] * x2 m l := x2_app_r m [a] l
    rw [x2, x2_turn h1, e, x2_one, d2_c2 h2, sgn_if, List.length_cons, Nat.succ_mul, sgn_add]
    have q : sgn m.length * sgn m.length = 1 := sq_cases (sgn_cases _)
    have : c2 a m * (sgn (l.length * m.length) * x2 m l) = sgn (l.length * m.length) * (sgn m.length * sgn m.length) * (c2 a m * x2 m l) := by
      rw [q, Int.mul_one]
      simp only [Int.mul_left_comm]
    rw [this]
    simp only [Int.mul_assoc, Int.mul_left_comm, Int.mul_comm]
theorem sgn_two (k : Nat) : 1 - 2 * ((k : Int) % 2) = sgn k := by
  unfold sgn
  split <;> omega
theorem wo_perm {n h : Nat} {lot : List Nat} (L : Lot n 0 lot) (hm : h ∈ lot) : lot.Perm (h :: wo lot h) := by
  have hno : h ∉ wo lot h := fun c => by
    have := (List.mem_filter.mp c).2
    rw [decide_eq_true rfl] at this
    cases this
  refine (List.perm_ext_iff_of_nodup L.nodup (List.nodup_cons.mpr ⟨hno, (wo_lot (a := 0) (n := n) L).nodup⟩)).mpr fun x => ?_
  unfold wo
  rw [List.mem_cons, List.mem_filter, Bool.not_eq_true', decide_eq_false_iff_not]
  refine ⟨fun q => ?_, fun q => q.elim (fun e => e ▸ hm) fun q => q.1⟩
  by_cases c : x = h
  · exact .inl c
  · exact .inr ⟨q, c⟩
/-- two hands left out in either order -/
theorem sg_both {n g h : Nat} {lot : List Nat} (L : Lot n 0 lot) (hg : g ∈ lot) (hh : h ∈ lot) (ne : h ≠ g) : sg h lot * sg g (wo lot h) + sg g lot * sg h (wo lot g) = 0 := by
  have e1 : c2 g lot = s2 g h * c2 g (wo lot h) := by rw [c2_perm (wo_perm L hh), c2]
  have e2 : c2 h lot = s2 h g * c2 h (wo lot g) := by rw [c2_perm (wo_perm L hg), c2]
  rw [← c2_sg, ← c2_sg, ← c2_sg, ← c2_sg]
  have f1 : c2 g (wo lot h) = s2 g h * c2 g lot := by rw [e1, ← Int.mul_assoc, s2_sq, Int.one_mul]
  have f2 : c2 h (wo lot g) = s2 h g * c2 h lot := by rw [e2, ← Int.mul_assoc, s2_sq, Int.one_mul]
  rw [f1, f2, s2_swap ne]
  generalize c2 g lot = x
  generalize c2 h lot = y
  generalize s2 h g = z
  rw [Int.neg_mul, Int.mul_neg, Int.mul_left_comm x, Int.mul_left_comm y, Int.mul_comm y x]
  omega
end DL

/-! OutR: parts gathered, outer products. -/
namespace DL
open PySem PySem.Spec PyProof.Rows L2
abbrev Pts := List (List Nat × Int)
def ptD (zs : Pts) : List (NestedKey × D) := zs.map fun z => (.tup (lkey z.1), .int z.2)
def tset (zs : Pts) (l : List Nat) (v : Int) : Pts := if l ∈ zs.map (·.1) then zs.map (fun z => if z.1 = l then (z.1, v) else z) else zs ++ [(l, v)]
theorem tkey_inj {l m : List Nat} (h : NestedKey.tup (lkey l) = .tup (lkey m)) : l = m := lkey_inj (NestedKey.tup.inj h)
theorem tkey_depth (l : List Nat) : (NestedKey.tup (lkey l)).depth ≤ 8 := by
  have h := lkey_depthAll l
  show NestedKey.depthAll (lkey l) + 1 ≤ 8
  omega
theorem tkey_NT (l : List Nat) : NT (.tup (lkey l)) = true := lkey_NTs l
theorem ptD_keys (zs : Pts) : (ptD zs).map (·.1) = (zs.map (·.1)).map fun l => NestedKey.tup (lkey l) := by
  unfold ptD
  rw [List.map_map, List.map_map]
  rfl
theorem ptD_nodup {zs : Pts} (h : (zs.map (·.1)).Nodup) : ((ptD zs).map (·.1)).Nodup := by
  rw [ptD_keys]
  unfold List.Nodup at *
  rw [List.pairwise_map]
  exact h.imp fun ne e => ne (tkey_inj e)
theorem ptD_get {zs : Pts} (h : (zs.map (·.1)).Nodup) {z : List Nat × Int} (hz : z ∈ zs) : getT (ptD zs) (.tup (lkey z.1)) = some (.int z.2) := getT_mem (ptD_nodup h) (List.mem_map.mpr ⟨z, hz, rfl⟩)
theorem ptD_no {zs : Pts} {l : List Nat} (h : l ∉ zs.map (·.1)) : getT (ptD zs) (.tup (lkey l)) = none := getT_none fun c => by
  rw [ptD_keys] at c
  obtain ⟨j, hj, e⟩ := List.mem_map.mp c
  exact h (tkey_inj e ▸ hj)
theorem ptD_put (zs : Pts) (l : List Nat) (v : Int) : putT (ptD zs) (.tup (lkey l)) (.int v) = ptD (tset zs l v) := by
  unfold tset
  by_cases c : l ∈ zs.map (·.1)
  · rw [if_pos c]
    obtain ⟨z, hz, rfl⟩ := List.mem_map.mp c
    unfold putT
    have hm : (NestedKey.tup (lkey z.1), D.int z.2) ∈ ptD zs := List.mem_map.mpr ⟨z, hz, rfl⟩
    rw [if_pos (List.any_eq_true.mpr ⟨_, hm, decide_eq_true rfl⟩)]
    unfold ptD
    rw [List.map_map, List.map_map]
    refine List.map_congr_left fun y _ => ?_
    show (if NestedKey.tup (lkey y.1) = .tup (lkey z.1) then (NestedKey.tup (lkey y.1), D.int v) else (NestedKey.tup (lkey y.1), D.int y.2)) = (NestedKey.tup (lkey (if y.1 = z.1 then (y.1, v) else y).1), D.int (if y.1 = z.1 then (y.1, v) else y).2)
    by_cases e : y.1 = z.1
    · rw [if_pos e, if_pos (by rw [e])]
    · rw [if_neg e, if_neg fun h => e (tkey_inj h)]
  · rw [if_neg c, putT_new (ptD_no c)]
    unfold ptD
    rw [List.map_append]
    rfl
theorem tset_keys {zs : Pts} {l : List Nat} {v : Int} (h : (zs.map (·.1)).Nodup) : ((tset zs l v).map (·.1)).Nodup ∧ (tset zs l v).length ≤ zs.length + 1 ∧ ∀ m, m ∈ (tset zs l v).map (·.1) ↔ m = l ∨ m ∈ zs.map (·.1) := by
  unfold tset
  split
  · rename_i hk
    rw [List.map_map]
    have e : zs.map ((·.1) ∘ fun z => if z.1 = l then (z.1, v) else z) = zs.map (·.1) := List.map_congr_left fun z _ => by
      show (if z.1 = l then (z.1, v) else z).1 = z.1
      split <;> rfl
    rw [e, List.length_map]
    exact ⟨h, Nat.le_succ _, fun m => ⟨.inr, fun h => h.elim (fun e => e ▸ hk) id⟩⟩
  · rename_i hk
    rw [List.map_append, List.length_append]
    refine ⟨List.nodup_append.mpr ⟨h, by simp, fun a ha b hb e => ?_⟩, Nat.le_refl _, fun m => ?_⟩
    · subst e
      rw [List.map_cons, List.map_nil, List.mem_singleton] at hb
      subst hb
      exact hk ha
    · rw [List.mem_append, List.map_cons, List.map_nil, List.mem_singleton]
      exact Or.comm
theorem tset_mem {zs : Pts} {l : List Nat} {v : Int} {z : List Nat × Int} (h : z ∈ tset zs l v) : (z = (l, v)) ∨ (z ∈ zs ∧ z.1 ≠ l) := by
  unfold tset at h
  split at h
  · obtain ⟨y, hy, rfl⟩ := List.mem_map.mp h
    split
    · rename_i e
      exact .inl (by rw [e])
    · rename_i e
      exact .inr ⟨hy, e⟩
  · rename_i hk
    rcases List.mem_append.mp h with h | h
    · exact .inr ⟨h, fun e => hk (e ▸ List.mem_map_of_mem h)⟩
    · exact .inl (List.mem_singleton.mp h)
/-! ### what a lot comes to -/
def coS (P : Pts) (l : List Nat) : Int := ((P.filter fun e => decide (e.1 = l)).map (·.2)).sum
theorem coS_nil (l : List Nat) : coS [] l = 0 := rfl
theorem coS_app (P R : Pts) (l : List Nat) : coS (P ++ R) l = coS P l + coS R l := by
  unfold coS
  rw [List.filter_append, List.map_append, List.sum_append]
theorem coS_one (m : List Nat) (c : Int) (l : List Nat) : coS [(m, c)] l = if m = l then c else 0 := by
  unfold coS
  rw [List.filter_cons]
  by_cases e : m = l
  · rw [if_pos (decide_eq_true e), if_pos e]
    simp
  · rw [if_neg (by rw [decide_eq_false e]; decide), if_neg e]
    rfl
theorem coS_cons (e : List Nat × Int) (P : Pts) (l : List Nat) : coS (e :: P) l = (if e.1 = l then e.2 else 0) + coS P l := by
  rw [← List.singleton_append, coS_app, ← coS_one]
theorem coS_no {P : Pts} {l : List Nat} (h : l ∉ P.map (·.1)) : coS P l = 0 := by
  unfold coS
  rw [List.filter_eq_nil_iff.mpr fun e he => by
    rw [decide_eq_true_eq]
    exact fun c => h (c ▸ List.mem_map_of_mem he)]
  rfl
/-- the parts gathered -/
structure Gat (p : Int) (P xs : Pts) : Prop where
  pw : xs.Pairwise fun a b => lexN a.1 b.1 = true
  mem : ∀ l c, (l, c) ∈ xs ↔ c = coS P l % p ∧ c ≠ 0
theorem lexN_irr {l : List Nat} : lexN l l ≠ true := fun h => lexN_asymm h h
theorem pw_nodup {xs : Pts} (h : xs.Pairwise fun a b => lexN a.1 b.1 = true) : (xs.map (·.1)).Nodup := by
  rw [List.nodup_iff_pairwise_ne, List.pairwise_map]
  exact h.imp fun {a b} h (e : a.1 = b.1) => by
    rw [e] at h
    exact lexN_irr h
theorem nodup_of_fst {xs : Pts} (h : (xs.map (·.1)).Nodup) : xs.Nodup := by
  rw [List.nodup_iff_pairwise_ne] at *
  rw [List.pairwise_map] at h
  exact h.imp fun ne e => ne (by rw [e])
theorem Gat.uniq {p : Int} {P R xs ys : Pts} (h : Gat p P xs) (k : Gat p R ys) (e : ∀ l, coS P l % p = coS R l % p) : xs = ys := by
  refine sorted_unique ((List.perm_ext_iff_of_nodup (nodup_of_fst (pw_nodup h.pw)) (nodup_of_fst (pw_nodup k.pw))).mpr fun z => ?_) h.pw k.pw
  obtain ⟨l, c⟩ := z
  rw [h.mem, k.mem, e]
/-- parts of lots of k hands -/
def Fine (n k : Nat) (P : Pts) : Prop := ∀ e ∈ P, Lot n 0 e.1 ∧ e.1.length = k
theorem Gat.from {p : Int} {P xs : Pts} (h : Gat p P xs) {e : List Nat × Int} (he : e ∈ xs) : e.1 ∈ P.map (·.1) := by
  refine Classical.byContradiction fun c => ?_
  have := ((h.mem e.1 e.2).mp he)
  rw [coS_no c, Int.zero_emod] at this
  exact this.2 this.1
theorem Gat.fine {n k : Nat} {p : Int} {P xs : Pts} (h : Gat p P xs) (f : Fine n k P) : Fine n k xs := fun e he => by
  obtain ⟨y, hy, e1⟩ := List.mem_map.mp (h.from he)
  rw [← e1]
  exact f y hy
theorem Gat.num {p : Int} {P xs : Pts} (hp : 0 < p) (h : Gat p P xs) {e : List Nat × Int} (he : e ∈ xs) : 0 < e.2 ∧ e.2 < p := by
  obtain ⟨h1, h2⟩ := (h.mem e.1 e.2).mp he
  have := Int.emod_nonneg (coS P e.1) (by omega : p ≠ 0)
  have := Int.emod_lt_of_pos (coS P e.1) hp
  omega
theorem Gat.len {p : Int} {P xs : Pts} (h : Gat p P xs) : xs.length ≤ P.length := by
  have h1 : (xs.map (·.1)).length ≤ (P.map (·.1)).length := (pw_nodup h.pw).length_le_of_subset fun l hl => by
    obtain ⟨e, he, rfl⟩ := List.mem_map.mp hl
    exact h.from he
  rw [List.length_map, List.length_map] at h1
  exact h1
/-- the dict on the way -/
structure Tab (p : Int) (P zs : Pts) : Prop where
  nd : (zs.map (·.1)).Nodup
  val : ∀ z ∈ zs, z.2 = coS P z.1 % p
  key : ∀ l, l ∈ zs.map (·.1) ↔ l ∈ P.map (·.1)
  len : zs.length ≤ P.length
theorem Tab.nil {p : Int} : Tab p [] [] := ⟨by simp, fun z hz => (by cases hz), fun l => Iff.rfl, Nat.le_refl _⟩
theorem Tab.put {p : Int} {P zs : Pts} (h : Tab p P zs) (l : List Nat) (c : Int) : Tab p (P ++ [(l, c)]) (tset zs l ((coS P l % p + c) % p)) := by
  obtain ⟨k1, k2, k3⟩ := tset_keys (l := l) (v := (coS P l % p + c) % p) h.nd
  refine ⟨k1, fun z hz => ?_, fun m => ?_, ?_⟩
  · rw [coS_app, coS_one]
    rcases tset_mem hz with rfl | ⟨hz, ne⟩
    · show (coS P l % p + c) % p = _
      rw [if_pos rfl, Int.emod_add_emod]
    · rw [if_neg (Ne.symm ne), Int.add_zero, h.val z hz]
  · rw [k3, h.key, List.map_append, List.mem_append, List.map_cons, List.map_nil, List.mem_singleton]
    exact Or.comm
  · have := h.len
    rw [List.length_append]
    show _ ≤ P.length + 1
    omega
theorem Tab.look {p : Int} {P zs : Pts} (h : Tab p P zs) (l : List Nat) : (getT (ptD zs) (.tup (lkey l))).getD (.int 0) = .int (coS P l % p) := by
  by_cases c : l ∈ zs.map (·.1)
  · obtain ⟨z, hz, rfl⟩ := List.mem_map.mp c
    rw [ptD_get h.nd hz, h.val z hz]
    rfl
  · rw [ptD_no c, coS_no fun hc => c ((h.key l).mpr hc), Int.zero_emod]
    rfl
theorem Tab.get {p : Int} {P zs : Pts} (h : Tab p P zs) {l : List Nat} (hl : l ∈ zs.map (·.1)) : getT (ptD zs) (.tup (lkey l)) = some (.int (coS P l % p)) := by
  obtain ⟨z, hz, rfl⟩ := List.mem_map.mp hl
  rw [ptD_get h.nd hz, h.val z hz]
/-- the dict's entries that are not 0, sorted -/
theorem Tab.gat {p : Int} {P zs ys : Pts} (h : Tab p P zs) (pm : ys.Perm (zs.filter fun z => decide (z.2 ≠ 0))) (pw : ys.Pairwise fun a b => lexN a.1 b.1 = true) : Gat p P ys := by
  refine ⟨pw, fun l c => ?_⟩
  rw [pm.mem_iff, List.mem_filter, decide_eq_true_eq]
  constructor
  · rintro ⟨h1, h2⟩
    exact ⟨h.val _ h1, h2⟩
  · rintro ⟨rfl, h2⟩
    refine ⟨?_, h2⟩
    have hl : l ∈ zs.map (·.1) := (h.key l).mpr (Classical.byContradiction fun c => h2 (by rw [coS_no c, Int.zero_emod]))
    obtain ⟨z, hz, rfl⟩ := List.mem_map.mp hl
    rw [← h.val z hz]
    exact hz
theorem itemsN_ptD (zs : Pts) : itemsN (ptD zs) = zs.map prD := by
  unfold itemsN ptD
  rw [List.map_map]
  refine List.map_congr_left fun z _ => ?_
  show D.tup [nkD (.tup (lkey z.1)), .int z.2] = prD z
  rw [nkD_lkey]
  rfl
theorem keysN_ptD (zs : Pts) : (ptD zs).map (fun e => nkD e.1) = (zs.map (·.1)).map lotD := by
  unfold ptD
  rw [List.map_map, List.map_map]
  exact List.map_congr_left fun z _ => nkD_lkey z.1
/-! ### the walks -/
theorem see_off {μ : Mu} {b : Addr} {o : MO} {d : D} {xs : List D} (hb : μ b = none) (h : see μ d = .lst xs ∨ see μ d = .tup xs) : see (mput μ b o) d = see μ d := by
  cases d with
  | ref a =>
    have ab : a ≠ b := fun e => by
      subst e
      unfold see at h
      simp only [hb] at h
      rcases h with h | h <;> cases h
    simp only [see, mput_ne ab]
  | _ => rfl
theorem fine_shb {n k : Nat} {P : Pts} (hn : n ≤ 1000) (f : Fine n k P) {e : List Nat × Int} (he : e ∈ P) : ∀ x ∈ e.1, x < 2 ^ 250 := fun x hx => by
  have h1 := (f e he).1.mem x hx
  exact Nat.lt_of_lt_of_le (by omega : x < 1024) (by decide)
theorem sortK_of {μ : Mu} {Q : DQ} {d : D} {zs : Pts} {n k : Nat} (h : see μ d = .dt (ptD zs)) (nd : (zs.map (·.1)).Nodup) (hf : Fine n k zs) (hn : n ≤ 1000)
    (q : ∀ ys : List (List Nat), ys.Perm (zs.map (·.1)) → ys.Pairwise (fun a b => lexN a b = true) → Q (.lst (ys.map lotD)) μ) : fSortK [d] μ Q := by
  refine ⟨d, ptD zs, rfl, h, ?_, ?_, fun h2 => ?_, ?_⟩
  · rw [keysN_ptD]
    intro x hx
    obtain ⟨l, hl, rfl⟩ := List.mem_map.mp hx
    obtain ⟨e, he, rfl⟩ := List.mem_map.mp hl
    exact ⟨_, shb_lot (fine_shb hn hf he) (Nat.le_refl _)⟩
  · rw [keysN_ptD, List.map_map]
    exact PySem.W.AllAlike.of alike_lots
  · rw [keysN_ptD, List.map_map]
    have hl : (ptD zs).length = zs.length := List.length_map _
    rw [hl] at h2
    refine .inl fun d hd => ?_
    obtain ⟨l, hl, rfl⟩ := List.mem_map.mp hd
    cases l with
    | cons x l => exact ⟨_, _, toP_lot (x :: l)⟩
    | nil =>
      exfalso
      obtain ⟨e, he, e1⟩ := List.mem_map.mp hl
      have k0 : k = 0 := by
        rw [← (hf e he).2, e1]
        rfl
      match zs, h2, nd, hf with
      | z1 :: z2 :: _, _, nd, hf =>
        have e2 := (hf z1 List.mem_cons_self).2
        have e3 := (hf z2 (List.mem_cons_of_mem _ List.mem_cons_self)).2
        rw [k0] at e2 e3
        have e2 := List.length_eq_zero_iff.mp e2
        have e3 := List.length_eq_zero_iff.mp e3
        rw [List.map_cons, List.map_cons, e2, e3] at nd
        exact (List.nodup_cons.mp nd).1 List.mem_cons_self
  · rw [keysN_ptD]
    have em := List.map_mergeSort (r := PySem.W.dataLe false fun e : List Nat => toP (lotD e)) (s := leD) (f := lotD) (l := zs.map (·.1)) fun a _ b _ => rfl
    rw [← em]
    have pm := List.mergeSort_perm (zs.map (·.1)) (PySem.W.dataLe false fun e : List Nat => toP (lotD e))
    refine q _ pm ?_
    have pw := PySem.W.sort_pairwise (PySem.W.sortLe_total (PyProof.Rows.listOrd PyProof.Rows.itemOrd) false fun e : List Nat => PySem.W.keyToks (toP (lotD e))) (zs.map (·.1))
    have nd2 : ((zs.map (·.1)).mergeSort (PySem.W.dataLe false fun e : List Nat => toP (lotD e))).Nodup := pm.nodup_iff.mpr nd
    rw [List.nodup_iff_pairwise_ne] at nd2
    refine (List.Pairwise.and pw nd2).imp fun {a b} h => ?_
    obtain ⟨h1, h2⟩ := h
    refine lexN_of_not ?_ h2
    rw [← dataLt_lots]
    have h1 : (!PySem.W.dataLt (toP (lotD b)) (toP (lotD a))) = true := h1
    rw [Bool.not_eq_true'] at h1
    exact h1
def cGath : DSp := fun ds μ Q => ∃ (p n k : Nat) (P : Pts) (d : D), ds = [.int p, d] ∧ 1 ≤ p ∧ p ≤ 10 ^ 9 ∧ n ≤ 1000 ∧ Fine n k P ∧ P.length ≤ 10000000 ∧ (see μ d = .lst (P.map prD) ∨ see μ d = .tup (P.map prD)) ∧ ∀ xs, Gat p P xs → Q (.tup (xs.map prD)) μ
def s_fill : DTS → DTS := fun r => (dSeq (dAsg dNewT (gN 2)) (dSeq (dFor (dISeq (dVar 1)) (gTp 2 (gsCons (gN 3) (gsCons (gN 4) gsNil))) (sDPutD (dVar 2) (dVar 3) (dOp oMod (dOp dAdd (dGet2 (dVar 2) (dVar 3) (dC (.int 0))) (dVar 4)) (dVar 0)))) r))
theorem Tab.fine {n k : Nat} {p : Int} {P zs : Pts} (h : Tab p P zs) (f : Fine n k P) : Fine n k zs := fun e he => by
  obtain ⟨y, hy, e1⟩ := List.mem_map.mp ((h.key e.1).mp (List.mem_map_of_mem he))
  rw [← e1]
  exact f y hy
theorem fill_ok {p : Nat} {P : Pts} {d : D} {μ : Mu} {r : DTS} {E : DEnds} (hp : 1 ≤ p) (hl : P.length ≤ 10000000) (hd : see μ d = .lst (P.map prD) ∨ see μ d = .tup (P.map prD))
    (q : ∀ (b : Addr) (zs : Pts) (x y : Option D), μ b = none → Tab p P zs → r E [some (.int p), some d, some (.ref b), x, y] (mput μ b (.dt (ptD zs)))) : s_fill r E [some (.int p), some d, none, none, none] μ := by
  have hz := sizeLine_eq
  unfold s_fill
  refine seq_cut fun R hR => ?_
  simp only [dSim, dNewT]
  refine fun b hb => hR _ _ (seq_cut fun R1 hR1 => ?_)
  have so : ∀ o, see (mput μ b o) d = see μ d := fun o => see_off hb hd
  simp only [dSim, dFor, dISeq]
  refine ⟨P.map prD, by rw [so]; exact hd, ?_⟩
  refine for_inv (fun i ρ ν => ∃ (zs : Pts) (x y : Option D), ν = mput μ b (.dt (ptD zs)) ∧ Tab p (P.take i) zs ∧ ρ = [some (.int p), some d, some (.ref b), x, y])
    ⟨[], none, none, rfl, Tab.nil, rfl⟩ (fun i ρ ν _ h => ?_) (fun i e' ρ ν N1 hi h hN1 => ?_) fun ρ ν h => ?_
  · obtain ⟨zs, _, _, rfl, _⟩ := h
    rw [so, so]
  · obtain ⟨zs, x, y, rfl, T, rfl⟩ := h
    rw [List.getElem?_map] at hi
    cases ea : P[i]? with
    | none => rw [ea] at hi; cases hi
    | some e =>
      rw [ea] at hi
      cases hi
      have et : P.take (i + 1) = P.take i ++ [e] := by rw [List.take_succ, ea]; rfl
      have see1 : see (mput μ b (.dt (ptD zs))) (.ref b) = .dt (ptD zs) := see_reft mput_same
      unfold prD
      simp only [z_tp, z_gsc, z_gsn, gN, List.set_cons_zero, List.set_cons_succ, List.length_cons, List.length_nil, true_and]
      simp only [dSim, sDPutD]
      refine ⟨.inr ⟨_, see1⟩, getT (ptD zs) (.tup (lkey e.1)), .inr ⟨_, _, see1, (nkD_lkey _).symm, tkey_depth _, rfl⟩, ?_⟩
      rw [T.look]
      simp only [dSim]
      refine ⟨by omega, .inr ⟨b, ptD zs, _, rfl, mput_same, (nkD_lkey _).symm, tkey_NT _, tkey_depth _, ?_, ?_⟩⟩
      · have h1 := T.len
        have h2 : (P.take i).length ≤ P.length := by rw [List.length_take]; exact Nat.min_le_right _ _
        unfold ptD
        rw [List.length_map]
        omega
      · rw [ptD_put, mput_mput]
        refine hN1 _ _ ⟨_, _, _, rfl, ?_, rfl⟩
        rw [et]
        exact T.put e.1 e.2
  · obtain ⟨zs, x, y, rfl, T, rfl⟩ := h
    rw [List.length_map, List.take_length] at T
    exact hR1 _ _ (q b zs x y hb T)
def w_gath : DTS := s_fill (dRet (dCB fTuple (dCons (dCB fSortX (dCons (dLc (dIItems (dFrzD 2)) (gTp 2 (gsCons (gN 3) (gsCons (gN 4) gsNil))) (dT (dOp oGt (dVar 4) (dC (.int 0)))) (dTup (dCons (dVar 3) (dCons (dVar 4) dNil))) [3, 4]) dNil)) dNil)))
theorem gath_ok (N : List Str) (hN : N.length = 5) : ∀ ds μ Q, cGath ds μ Q → w_gath { nx := fun _ μ' => fin Q .non μ', rt := fin Q } (dstart N ds) μ := by
  intro ds μ Q hc
  obtain ⟨p, n, k, P, d, rfl, hp, hp2, hn, hf, hl, hd, q⟩ := hc
  have hz := sizeLine_eq
  unfold w_gath
  have e5 : dstart N [.int p, d] = [some (.int p), some d, none, none, none] := by
    unfold dstart
    rw [hN]
    rfl
  rw [e5]
  refine fill_ok hp hl hd fun b zs x y hb T => ?_
  have hzl := T.len
  have hzf := T.fine hf
  simp only [dSim, dLc, dIItems]
  refine .inr ⟨_, mput_same, .inr ⟨_, rfl, ?_⟩⟩
  rw [itemsN_ptD, mdel_mput hb]
  have num : ∀ z ∈ zs, 0 ≤ z.2 ∧ z.2 < p := fun z hz => by
    rw [T.val z hz]
    exact ⟨Int.emod_nonneg _ (by omega), Int.emod_lt_of_pos _ (by omega)⟩
  refine lc_accf prD (fun z => decide (z.2 ≠ 0)) prD trivial zs [] ?_ (fun z K1 K2 hz h1 h2 => ?_) ?_
  · have := List.length_filter_le (fun z : List Nat × Int => decide (z.2 ≠ 0)) zs
    rw [List.length_nil]
    omega
  · have h3 := num z hz
    unfold prD
    simp only [z_tp, z_gsc, z_gsn, gN, List.set_cons_zero, List.set_cons_succ, List.length_cons, List.length_nil, true_and]
    simp only [dSim, dwipe]
    by_cases c : z.2 = 0
    · rw [decide_eq_false (by omega), if_neg (by decide)]
      exact h2 (decide_eq_false fun h => h c)
    · rw [decide_eq_true (by omega), if_pos rfl]
      exact ⟨by decide, h1 (decide_eq_true c)⟩
  rw [List.nil_append]
  have sub : (zs.filter fun z => decide (z.2 ≠ 0)).Sublist zs := List.filter_sublist
  refine sort_pr see_lst (fun e he => ?_) (T.nd.sublist (sub.map _)) fun ys pm pw => ?_
  · have hm := sub.subset he
    have h3 := num e hm
    have h4 : (10 : Int) ^ 9 < 2 ^ 250 := by decide
    have h5 : (p : Int) ≤ 10 ^ 9 := by exact_mod_cast hp2
    refine ⟨fine_shb hn hzf hm, ?_, ?_⟩
    · have : (0 : Int) < 2 ^ 250 := by decide
      omega
    · omega
  simp only [dSim]
  exact fin_of (q ys (T.gat pm pw))
def w_gath2 : DTS := s_fill (dRet (dCB fTuple (dCons (dLc (dISeq (dCB fSortK (dCons (dVar 2) dNil))) (gN 3) (dT (dOp dNe (dGetD (dVar 2) (dVar 3)) (dC (.int 0)))) (dTup (dCons (dVar 3) (dCons (dGetD (dVar 2) (dVar 3)) dNil))) [3]) dNil)))
theorem toldL_ok (N : List Str) (hN : N.length = 5) : ∀ ds μ Q, cGath ds μ Q → w_gath2 { nx := fun _ μ' => fin Q .non μ', rt := fin Q } (dstart N ds) μ := by
  intro ds μ Q hc
  obtain ⟨p, n, k, P, d, rfl, hp, hp2, hn, hf, hl, hd, q⟩ := hc
  have hz := sizeLine_eq
  unfold w_gath2
  have e5 : dstart N [.int p, d] = [some (.int p), some d, none, none, none] := by
    unfold dstart
    rw [hN]
    rfl
  rw [e5]
  refine fill_ok hp hl hd fun b zs x y hb T => ?_
  have hzl := T.len
  have hzf := T.fine hf
  have see1 : see (mput μ b (.dt (ptD zs))) (.ref b) = .dt (ptD zs) := see_reft mput_same
  simp only [dSim, dLc, dISeq]
  refine sortK_of see1 T.nd hzf hn fun ys pm pw => ⟨_, .inl see_lst, ?_⟩
  have inn : ∀ l ∈ ys, l ∈ zs.map (·.1) := fun l hl => pm.mem_iff.mp hl
  refine lc_gen ys lotD (fun l => decide (coS P l % p ≠ 0)) (fun l => prD (l, coS P l % p)) rfl ?_ (fun l K hl hK => ?_) (fun l K hl _ hK => ?_) ?_
  · rw [pm.length_eq, List.length_map]
    omega
  · simp only [dSim, dwipe, dGetD]
    refine ⟨_, .inr ⟨_, _, see1, (nkD_lkey _).symm, tkey_depth _, (T.get (inn l hl)).symm⟩, ?_⟩
    simp only [z_ne_int, z_seb]
    rw [← decide_not]
    exact hK
  · simp only [dSim, dwipe, dGetD]
    exact ⟨_, .inr ⟨_, _, see1, (nkD_lkey _).symm, tkey_depth _, (T.get (inn l hl)).symm⟩, by decide, hK⟩
  have e1 : (ys.filter fun l => decide (coS P l % p ≠ 0)).map (fun l => prD (l, coS P l % p)) = ((ys.filter fun l => decide (coS P l % p ≠ 0)).map fun l => (l, coS P l % (p : Int))).map prD := by
    rw [List.map_map]
    rfl
  rw [e1]
  refine fin_sub (Sub.put hb Sub.refl) (q _ ⟨?_, fun l c => ?_⟩)
  · rw [List.pairwise_map]
    exact pw.sublist List.filter_sublist
  · rw [List.mem_map]
    constructor
    · rintro ⟨m, hm, e⟩
      cases e
      exact ⟨rfl, of_decide_eq_true (List.mem_filter.mp hm).2⟩
    · rintro ⟨rfl, h2⟩
      refine ⟨l, List.mem_filter.mpr ⟨pm.mem_iff.mpr ((T.key l).mpr (Classical.byContradiction fun c => h2 (by rw [coS_no c, Int.zero_emod]))), decide_eq_true h2⟩, rfl⟩
/-! ### laid over one another -/
def mrg (n : Nat) (l m : List Nat) : List Nat := (List.range n).filter fun x => decide (x ∈ l) || decide (x ∈ m)
theorem mrg_lot {n : Nat} {l m : List Nat} : Lot n 0 (mrg n l m) := lot_of_pw (List.Pairwise.filter _ List.pairwise_lt_range) fun x hx => ⟨Nat.zero_le _, List.mem_range.mp (List.mem_filter.mp hx).1⟩
theorem mrg_perm {n : Nat} {l m : List Nat} (L : Lot n 0 l) (M : Lot n 0 m) (ap : Apart l m) : (mrg n l m).Perm (l ++ m) := by
  refine (List.perm_ext_iff_of_nodup mrg_lot.nodup (List.nodup_append.mpr ⟨L.nodup, M.nodup, fun a ha b hb e => ap a ha (e ▸ hb)⟩)).mpr fun x => ?_
  unfold mrg
  rw [List.mem_filter, List.mem_range, Bool.or_eq_true, decide_eq_true_eq, decide_eq_true_eq, List.mem_append]
  exact ⟨fun h => h.2, fun h => ⟨h.elim (fun h => (L.mem x h).2) fun h => (M.mem x h).2, h⟩⟩
theorem mrg_len {n : Nat} {l m : List Nat} (L : Lot n 0 l) (M : Lot n 0 m) (ap : Apart l m) : (mrg n l m).length = l.length + m.length := by
  rw [(mrg_perm L M ap).length_eq, List.length_append]
instance (l m : List Nat) : Decidable (Apart l m) := inferInstanceAs (Decidable (∀ x ∈ l, x ∉ m))
def ovr1 (n : Nat) (a : List Nat × Int) (B : Pts) : Pts := (B.filter fun b => decide (Apart a.1 b.1)).map fun b => (mrg n a.1 b.1, x2 a.1 b.1 * a.2 * b.2)
def ovr (n : Nat) (A B : Pts) : Pts := A.flatMap fun a => ovr1 n a B
theorem ovr1_len (n : Nat) (a : List Nat × Int) (B : Pts) : (ovr1 n a B).length ≤ B.length := by
  unfold ovr1
  rw [List.length_map]
  exact List.length_filter_le _ _
theorem ovr_len (n : Nat) (B : Pts) : ∀ A : Pts, (ovr n A B).length ≤ A.length * B.length
  | [] => Nat.zero_le _
  | a :: A => by
    have h1 := ovr_len n B A
    have h2 := ovr1_len n a B
    unfold ovr at h1 ⊢
    rw [List.flatMap_cons, List.length_append, List.length_cons, Nat.succ_mul]
    omega
theorem ovr_fine {n j k : Nat} {A B : Pts} (hA : Fine n j A) (hB : Fine n k B) : Fine n (j + k) (ovr n A B) := fun e he => by
  unfold ovr at he
  obtain ⟨a, ha, h⟩ := List.mem_flatMap.mp he
  unfold ovr1 at h
  obtain ⟨b, hb, rfl⟩ := List.mem_map.mp h
  obtain ⟨hb, hap⟩ := List.mem_filter.mp hb
  obtain ⟨La, la⟩ := hA a ha
  obtain ⟨Lb, lb⟩ := hB b hb
  refine ⟨mrg_lot, ?_⟩
  show (mrg n a.1 b.1).length = _
  rw [mrg_len La Lb (of_decide_eq_true hap), la, lb]
def cOuter : DSp := fun ds μ Q => ∃ (p n j k : Nat) (A B : Pts), ds = [.int p, .tup (A.map prD), .tup (B.map prD)] ∧ 1 ≤ p ∧ p ≤ 10 ^ 9 ∧ n ≤ 500 ∧ Fine n j A ∧ Fine n k B ∧ (∀ e ∈ A, e.2.natAbs ≤ 10 ^ 9) ∧ (∀ e ∈ B, e.2.natAbs ≤ 10 ^ 9) ∧ A.length ≤ 2000 ∧ B.length ≤ 2000 ∧ ∀ xs, Gat p (ovr n A B) xs → Q (.tup (xs.map prD)) μ
def w_over (tc : DT) (cg : DSp) : DTS :=
  (dSeq (dAsg (dLstM dNil) (gN 3))
  (dSeq (dFor (dISeq (dVar 1)) (gTp 2 (gsCons (gN 4) (gsCons (gN 5) gsNil))) (dFor (dISeq (dVar 2)) (gTp 2 (gsCons (gN 6) (gsCons (gN 7) gsNil))) (dSeq (dAsg tc (gTp 2 (gsCons (gN 8) (gsCons (gN 9) gsNil))))
  (dIfS (dT (dOp dNe (dVar 8) (dC (.int 0)))) (dDrop (dMl mAppend (dVar 3) (dCons (dTup (dCons (dVar 9) (dCons (dOp dMul (dOp dMul (dVar 8) (dVar 5)) (dVar 7)) dNil))) dNil))) dNext))))
  (dRet (dCall cg [] (dCons (dVar 0) (dCons (dVar 3) dNil))))))
theorem over_ok {tc : DT} {cg : DSp} (hg : ∀ ds μ Q, cGath ds μ Q → cg ds μ Q)
    (ht : ∀ (n : Nat) (l m : List Nat) (r0 r1 r2 r3 r5 r7 r8 r9 : Option D) (μ : Mu) (K : DQ), n ≤ 500 → Lot n 0 l → Lot n 0 m → (¬ Apart l m → K noneD μ) → (Apart l m → K (layD (x2 l m) (mrg n l m)) μ) → tc [r0, r1, r2, r3, some (lotD l), r5, some (lotD m), r7, r8, r9] μ K)
    (N : List Str) (hN : N.length = 10) : ∀ ds μ Q, cOuter ds μ Q → w_over tc cg { nx := fun _ μ' => fin Q .non μ', rt := fin Q } (dstart N ds) μ := by
  intro ds μ Q hc
  obtain ⟨p, n, j, k, A, B, rfl, hp, hp2, hn, hA, hB, nA, nB, lA, lB, q⟩ := hc
  have hz := sizeLine_eq
  have hAB : A.length * B.length ≤ 2000 * 2000 := Nat.mul_le_mul lA lB
  have hll := ovr_len n B A
  unfold w_over
  refine seq_cut fun R hR => ?_
  simp only [dSim, hN]
  refine ⟨by decide, fun b hb => hR _ _ (seq_cut fun R1 hR1 => ?_)⟩
  simp only [dSim, dFor, dISeq]
  refine ⟨_, .inr rfl, ?_⟩
  refine for_inv (fun i ρ ν => i ≤ A.length ∧ ν = mput μ b (.lst ((ovr n (A.take i) B).map prD)) ∧ ∃ r4 r5 r6 r7 r8 r9 : Option D, ρ = [some (.int p), some (.tup (A.map prD)), some (.tup (B.map prD)), some (.ref b), r4, r5, r6, r7, r8, r9])
    ⟨Nat.zero_le _, rfl, none, none, none, none, none, none, rfl⟩ (fun _ _ _ _ _ => rfl) (fun i d ρ ν N1 hi h hN1 => ?_) fun ρ ν h => ?_
  · obtain ⟨_, rfl, r4, r5, r6, r7, r8, r9, rfl⟩ := h
    rw [List.getElem?_map] at hi
    cases ea : A[i]? with
    | none => rw [ea] at hi; cases hi
    | some a =>
      rw [ea] at hi
      cases hi
      have ham := List.mem_of_getElem? ea
      have hia := (List.getElem?_eq_some_iff.mp ea).1
      have et : A.take (i + 1) = A.take i ++ [a] := by rw [List.take_succ, ea]; rfl
      have eo : ovr n (A.take (i + 1)) B = ovr n (A.take i) B ++ ovr1 n a B := by
        rw [et]
        unfold ovr
        rw [List.flatMap_append, List.flatMap_cons, List.flatMap_nil, List.append_nil]
      have l1 := ovr_len n B (A.take i)
      have l2 : (A.take i).length * B.length ≤ 2000 * 2000 := Nat.le_trans (Nat.mul_le_mul_right _ (by rw [List.length_take]; exact Nat.min_le_right _ _)) hAB
      unfold prD
      simp only [z_tp, z_gsc, z_gsn, gN, List.set_cons_zero, List.set_cons_succ, List.length_cons, List.length_nil, true_and]
      simp only [dSim, dFor, dISeq]
      refine ⟨_, .inr rfl, ?_⟩
      refine for_inv (fun m ρ ν => ν = mput μ b (.lst ((ovr n (A.take i) B ++ ovr1 n a (B.take m)).map prD)) ∧ ∃ r6 r7 r8 r9 : Option D, ρ = [some (.int p), some (.tup (A.map prD)), some (.tup (B.map prD)), some (.ref b), some (lotD a.1), some (.int a.2), r6, r7, r8, r9])
        ⟨by rw [List.take_zero]; unfold ovr1; rw [List.filter_nil, List.map_nil, List.append_nil]; rfl, _, _, _, _, rfl⟩ (fun _ _ _ _ _ => rfl) (fun m d ρ ν N2 hm h hN2 => ?_) fun ρ ν h => ?_
      · obtain ⟨rfl, r6, r7, r8, r9, rfl⟩ := h
        have hm : (B.map prD)[m]? = some d := hm
        rw [List.getElem?_map] at hm
        cases eb : B[m]? with
        | none => rw [eb] at hm; cases hm
        | some c =>
          rw [eb] at hm
          cases hm
          have hcm := List.mem_of_getElem? eb
          have et2 : B.take (m + 1) = B.take m ++ [c] := by rw [List.take_succ, eb]; rfl
          have eo2 : ovr1 n a (B.take (m + 1)) = ovr1 n a (B.take m) ++ if Apart a.1 c.1 then [(mrg n a.1 c.1, x2 a.1 c.1 * a.2 * c.2)] else [] := by
            rw [et2]
            unfold ovr1
            rw [List.filter_append, List.map_append, List.filter_cons]
            by_cases ap : Apart a.1 c.1
            · rw [if_pos ap, if_pos (decide_eq_true ap)]
              rfl
            · rw [if_neg ap, if_neg (by rw [decide_eq_false ap]; decide)]
              rfl
          have l3 := ovr1_len n a (B.take m)
          have l4 : (B.take m).length ≤ B.length := by rw [List.length_take]; exact Nat.min_le_right _ _
          unfold prD
          simp only [z_tp, z_gsc, z_gsn, gN, List.set_cons_zero, List.set_cons_succ, List.length_cons, List.length_nil, true_and]
          refine seq_cut fun R2 hR2 => ?_
          simp only [dSim]
          refine ht n a.1 c.1 _ _ _ _ _ _ _ _ _ _ hn (hA a ham).1 (hB c hcm).1 (fun ap => ?_) fun ap => ?_
          · unfold noneD
            simp only [dSim]
            refine hR2 _ _ ?_
            simp only [dSim, z_ne_int, decide_true, Bool.not_true, Bool.false_eq_true, if_false]
            rw [if_neg ap, List.append_nil] at eo2
            exact hN2 _ _ ⟨by rw [eo2]; rfl, _, _, _, _, rfl⟩
          · unfold layD
            simp only [dSim]
            refine hR2 _ _ ?_
            have x0 : decide (x2 a.1 c.1 = 0) = false := decide_eq_false fun h => by
              rcases x2_cases a.1 c.1 with e | e <;> (rw [h] at e; cases e)
            have b1 : (x2 a.1 c.1).natAbs ≤ 2 ^ 100 := by rcases x2_cases a.1 c.1 with h | h <;> (rw [h]; decide)
            have b2 : a.2.natAbs ≤ 2 ^ 100 := Nat.le_trans (nA a ham) (by decide)
            have b3 : c.2.natAbs ≤ 2 ^ 100 := Nat.le_trans (nB c hcm) (by decide)
            have b4 : (x2 a.1 c.1 * a.2).natAbs ≤ 2 ^ 100 := by
              rw [Int.natAbs_mul]
              rcases x2_cases a.1 c.1 with h | h <;> (rw [h]; simpa using b2)
            have sb : ∀ ds, see (mput μ b (.lst ds)) (.ref b) = .lst ds := fun ds => see_ref mput_same
            have mb : ∀ ds, mput μ b (.lst ds) b = some (.lst ds) := fun ds => mput_same
            simp only [dSim, z_ne_int, x0, Bool.not_false, if_true]
            simp only [z_isL (mb _), z_onL (mb _), z_append]
            refine ⟨mul1 b1 b2, mul1 b4 b3, by decide, by rw [List.length_map, List.length_append]; omega, ?_⟩
            rw [mput_mput]
            rw [if_pos ap] at eo2
            refine hN2 _ _ ⟨?_, _, _, _, _, rfl⟩
            rw [eo2, ← List.append_assoc, List.map_append (l₁ := ovr n (A.take i) B ++ ovr1 n a (B.take m))]
            rfl
      · obtain ⟨rfl, r6, r7, r8, r9, rfl⟩ := h
        refine hN1 _ _ ⟨hia, ?_, _, _, _, _, _, _, rfl⟩
        have e9 : B.take (B.map prD).length = B := by rw [List.length_map, List.take_length]
        have e8 : ovr1 n a (B.take (B.map prD).length) = ovr1 n a B := by rw [e9]
        rw [eo, ← e8]
        rfl
  · obtain ⟨_, rfl, r4, r5, r6, r7, r8, r9, rfl⟩ := h
    refine hR1 _ _ ?_
    rw [List.length_map, List.take_length]
    simp only [dSim]
    refine hg _ _ _ ⟨p, n, j + k, ovr n A B, _, rfl, hp, hp2, by omega, ovr_fine hA hB, by omega, .inl (see_ref mput_same), fun xs hxs => fin_sub (Sub.put hb Sub.refl) (q xs hxs)⟩
def w_outer : DTS := w_over (dCall cLaid [] (dCons (dVar 4) (dCons (dVar 6) dNil))) cGath
theorem outer_ok (N : List Str) (hN : N.length = 10) : ∀ ds μ Q, cOuter ds μ Q → w_outer { nx := fun _ μ' => fin Q .non μ', rt := fin Q } (dstart N ds) μ :=
  over_ok (fun _ _ _ h => h) (fun n l m r0 r1 r2 r3 r5 r7 r8 r9 μ K hn L M h1 h2 => by
    simp only [dSim]
    refine ⟨n, l, m, rfl, by omega, L, M, h1, fun ap w W pm => ?_⟩
    rw [lot_eq_perm W mrg_lot (pm.trans (mrg_perm L M ap).symm)]
    exact h2 ap) N hN
def w_lawOver : DTS := w_over (dCall cLawSorted [] (dCons (dOp dAdd (dVar 4) (dVar 6)) dNil))  cGath
theorem lawOver_ok (N : List Str) (hN : N.length = 10) : ∀ ds μ Q, cOuter ds μ Q → w_lawOver { nx := fun _ μ' => fin Q .non μ', rt := fin Q } (dstart N ds) μ :=
  over_ok (fun _ _ _ h => h) (fun n l m r0 r1 r2 r3 r5 r7 r8 r9 μ K hn L M h1 h2 => by
    have hz := sizeLine_eq
    have hl := L.drop_ok
    have hm := M.drop_ok
    simp only [dSim, List.length_map, iL_len, lot_app]
    refine ⟨by omega, _, n, l ++ m, rfl, .inr rfl, by rw [List.length_append]; omega, fun z hz => (List.mem_append.mp hz).elim (fun h => (L.mem z h).2) fun h => (M.mem z h).2, fun nd => h1 fun ap => nd (List.nodup_append.mpr ⟨L.nodup, M.nodup, fun a ha b hb e => ap a ha (e ▸ hb)⟩), fun nd w W pm => ?_⟩
    have ap : Apart l m := fun a ha hb => (List.nodup_append.mp nd).2.2 a ha a hb rfl
    rw [sig_two L.pw M.pw, lot_eq_perm W mrg_lot (pm.trans (mrg_perm L M ap).symm)]
    exact h2 ap) N hN
/-! ### sums drawn -/
structure Sm (p n g : Nat) (xs : Pts) : Prop where
  fine : Fine n g xs
  num : ∀ e ∈ xs, 0 < e.2 ∧ e.2 < p
  pw : xs.Pairwise fun a b => lexN a.1 b.1 = true
def cSomeSum : DSp := fun ds μ Q => ∃ (a : Addr) (p n g most k : Nat), ds = [.ref a, .int p, .int n, .int g, .int most] ∧ 2 ≤ p ∧ p ≤ 10 ^ 9 ∧ g ≤ n ∧ n ≤ 500 ∧ most ≤ 100 ∧ IsPot k μ a ∧ k < 1000000 ∧ ∀ (xs : Pts) (μ' : Mu), Sm p n g xs → xs.length ≤ most → Keep a μ μ' → IsPot (k + 1 + most * (g + 2)) μ' a → Q (.tup (xs.map prD)) μ'
def w_someSum : DTS :=
  (dSeq (dAsg dNewT (gN 5))
  (dSeq (dFor (dIR1 (dCons (dCall cTake [] (dCons (dVar 0) (dCons (dOp dAdd (dVar 4) (dC (.int 1))) dNil))) dNil)) (gN 6) (sDPutD (dVar 5) (dCall cSomeLot [] (dCons (dVar 0) (dCons (dVar 2) (dCons (dVar 3) dNil)))) (dCall cOf [] (dCons (dVar 0) (dCons (dLst (dCons (dC (.int 1)) (dCons (dOp oSub (dVar 1) (dC (.int 1))) (dCons (dOp dAdd (dC (.int 1)) (dCall cTake [] (dCons (dVar 0) (dCons (dOp oSub (dVar 1) (dC (.int 1))) dNil)))) dNil)))) dNil)))))
  (dRet (dCB fTuple (dCons (dSortItems (dVar 5)) dNil)))))
theorem tset_fine {n k : Nat} {zs : Pts} {l : List Nat} {v : Int} (h : Fine n k zs) (L : Lot n 0 l) (hl : l.length = k) : Fine n k (tset zs l v) := fun e he => by
  rcases tset_mem he with rfl | ⟨he, _⟩
  · exact ⟨L, hl⟩
  · exact h e he
theorem someSum_ok (N : List Str) (hN : N.length = 7) : ∀ ds μ Q, cSomeSum ds μ Q → w_someSum { nx := fun _ μ' => fin Q .non μ', rt := fin Q } (dstart N ds) μ := by
  intro ds μ Q hc
  obtain ⟨a, p, n, g, most, k, rfl, hp, hp2, hg, hn, hm, hpot, hk, q⟩ := hc
  have hz := sizeLine_eq
  have hcnt : most * (g + 2) ≤ 100 * 502 := Nat.mul_le_mul hm (by omega)
  unfold w_someSum
  refine seq_cut fun R hR => ?_
  simp only [dSim, dNewT, hN]
  refine fun b hb => hR _ _ (seq_cut fun R1 hR1 => ?_)
  have ab : a ≠ b := hpot.ne hb
  simp only [dSim, dFor, dIR1, cTake]
  refine ⟨a, most + 1, _, by congr 1, by omega, by omega, hpot.at_ (mput_ne ab), by omega, fun r μ1 r0 r1 k1 p1 => ?_⟩
  obtain ⟨r, rfl⟩ : ∃ j : Nat, r = j := ⟨r.toNat, by omega⟩
  refine ⟨_, rfl, by omega, by omega, ?_⟩
  rw [Int.toNat_natCast]
  have kb : Keep a μ μ1 := fun c m hc e => k1 c m hc (by
    rw [mput_ne fun e2 => by rw [e2, hb] at e; cases e]
    exact e)
  refine for_inv (fun i ρ ν => i ≤ r ∧ ∃ (zs : Pts) (x : Option D), Keep a μ ν ∧ IsPot (k + 1 + i * (g + 2)) ν a ∧ ν b = some (.dt (ptD zs)) ∧ (zs.map (·.1)).Nodup ∧ Fine n g zs ∧ (∀ e ∈ zs, 0 < e.2 ∧ e.2 < p) ∧ zs.length ≤ i ∧ ρ = [some (.ref a), some (.int p), some (.int n), some (.int g), some (.int most), some (.ref b), x])
    ⟨Nat.zero_le _, [], none, kb, p1.mono (by omega), k1 b _ (Ne.symm ab) mput_same, by simp, fun e he => (by cases he), fun e he => (by cases he), Nat.le_refl _, rfl⟩ (fun _ _ _ _ _ => trivial) (fun i d ρ ν N1 hi h hN1 => ?_) fun ρ ν h => ?_
  · obtain ⟨h1, rfl⟩ := rng_at hi
    obtain ⟨_, zs, x, kν, pν, mb, nd, hf, hnum, hl, rfl⟩ := h
    have hcnt2 : i * (g + 2) ≤ 100 * 502 := Nat.mul_le_mul (by omega) (by omega)
    obtain ⟨p', rfl⟩ : ∃ p' : Nat, p = p' + 1 := ⟨p - 1, by omega⟩
    have ep : ((p' + 1 : Nat) : Int) - 1 = (p' : Int) := by omega
    simp only [dSim, sDPutD, cTake, cOf, cSomeLot, ep]
    refine ⟨a, p', _, rfl, by omega, by omega, pν, by omega, fun r1 ν1 r10 r11 k1 p1 => ⟨by decide, a, _, _, _, rfl, .inl rfl, by simp, by simp, p1, by omega, fun d hd ν2 k2 p2 => ⟨a, n, g, _, rfl, hg, by omega, p2, by omega, fun l ν3 L hll k3 p3 => ?_⟩⟩⟩
    obtain ⟨v, rfl, hv⟩ : ∃ v : Int, d = .int v ∧ 0 < v ∧ v < ((p' + 1 : Nat) : Int) := by
      simp only [List.mem_cons, List.not_mem_nil, or_false] at hd
      rcases hd with rfl | rfl | rfl
      · exact ⟨1, rfl, by omega, by omega⟩
      · exact ⟨p', rfl, by omega, by omega⟩
      · exact ⟨1 + r1, rfl, by omega, by omega⟩
    have mb3 : ν3 b = some (.dt (ptD zs)) := k3 _ _ (Ne.symm ab) (k2 _ _ (Ne.symm ab) (k1 _ _ (Ne.symm ab) mb))
    refine .inr ⟨b, ptD zs, _, rfl, mb3, (nkD_lkey _).symm, tkey_NT _, tkey_depth _, ?_, ?_⟩
    · unfold ptD
      rw [List.length_map]
      omega
    · rw [ptD_put]
      obtain ⟨t1, t2, _⟩ := tset_keys (l := l) (v := v) nd
      have em : (i + 1) * (g + 2) = i * (g + 2) + (g + 2) := Nat.succ_mul _ _
      refine hN1 _ _ ⟨h1, _, _, (((kν.trans k1).trans k2).trans k3).new hb, (p3.at_ (mput_ne ab)).mono (by omega), mput_same, t1, tset_fine hf L hll, fun e he => ?_, by omega, rfl⟩
      rcases tset_mem he with rfl | ⟨he, _⟩
      · exact hv
      · exact hnum e he
  · obtain ⟨_, zs, x, kν, pν, mb, nd, hf, hnum, hl, rfl⟩ := h
    rw [rng_len] at pν hl
    have hr : r * (g + 2) ≤ most * (g + 2) := Nat.mul_le_mul_right _ (by omega)
    refine hR1 _ _ ?_
    simp only [dSim, dSortItems]
    refine ⟨_, see_reft mb, ?_⟩
    rw [itemsN_ptD]
    refine sort_pr see_lst (fun e he => ?_) nd fun ys pm pw => ?_
    · have h4 : (10 : Int) ^ 9 < 2 ^ 250 := by decide
      have h5 : (p : Int) ≤ 10 ^ 9 := by exact_mod_cast hp2
      have h6 := hnum e he
      have h7 : (0 : Int) < 2 ^ 250 := by decide
      exact ⟨fine_shb (by omega) hf he, by omega, by omega⟩
    simp only [dSim]
    exact fin_of (q ys ν ⟨fun e he => hf e (pm.mem_iff.mp he), fun e he => hnum e (pm.mem_iff.mp he), pw⟩ (by rw [pm.length_eq]; omega) kν (pν.mono (by omega)))
theorem pl_pts (xs : Pts) : Pl (.tup (xs.map prD)) := plDs_all (n := 59) fun d hd => by
  obtain ⟨e, _, rfl⟩ := List.mem_map.mp hd
  refine plDs_all (n := 58) fun d hd => ?_
  simp only [List.mem_cons, List.not_mem_nil, or_false] at hd
  rcases hd with rfl | rfl
  · exact pl_lotN _
  · rfl
theorem shb_pts {n g m c M : Nat} {xs : Pts} (hn : n ≤ 500) (h : Fine n g xs) (hnum : ∀ e ∈ xs, 0 < e.2 ∧ e.2 < 10 ^ 9) (hg : g ≤ m) (hl : xs.length ≤ c) (hM : c * (2 * (m * 254 + 259) + 5) + 3 ≤ M) : Shb 39 M (.tup (xs.map prD)) := by
  refine ⟨2 * (m * 254 + 259) + 3, fun d hd => ?_, ?_⟩
  · obtain ⟨e, he, rfl⟩ := List.mem_map.mp hd
    refine ⟨m * 254 + 257, fun d hd => ?_, Nat.le_refl _⟩
    simp only [List.mem_cons, List.not_mem_nil, or_false] at hd
    have h1 := (h e he).2
    rcases hd with rfl | rfl
    · exact shb_lot (fine_shb (by omega) h he) (by omega)
    · have h2 := hnum e he
      have h4 : (10 : Int) ^ 9 < 2 ^ 250 := by decide
      have h7 : (0 : Int) < 2 ^ 250 := by decide
      exact ⟨by omega, by omega, by omega⟩
  · rw [List.length_map]
    generalize 2 * (m * 254 + 259) = W at hM ⊢
    have h := Nat.mul_le_mul_right (W + 5) hl
    exact Nat.le_trans (Nat.add_le_add_right h 3) hM
end DL

namespace Law
open PySem PySem.Spec PyProof.Rows L2 DL
abbrev c_sign_of : DSp := cSignOf
abbrev c_laid : DSp := cLaid
abbrev c_gathered : DSp := cGath
abbrev c_outer : DSp := cOuter
abbrev c_law_pot : DSp := cPot
abbrev c_law_take : DSp := cTake
abbrev c_law_pick : DSp := cOf
abbrev c_law_some_lot : DSp := cSomeLot
abbrev c_law_some_sum : DSp := cSomeSum
abbrev c_law_sorted : DSp := cLawSorted
abbrev c_law : DSp := cLaw
abbrev c_law_told : DSp := cGath
abbrev c_law_over : DSp := cOuter
def c_law_right : DSp := fun ds μ Q => ∃ (a : Addr) (k : Nat), ds = [.ref a] ∧ IsPot k μ a ∧ k < 100000 ∧ ∀ μ', Q (.bl true) μ'
end Law

namespace Law
open PySem PySem.Spec PyProof.Rows L2 DL

/-- names: 0 many -/
def N_sign_of : List Str := ["many"]
def w_sign_of : DTS :=
  (dRet (dIf (dT (dOp dEq (dOp oMod (dVar 0) (dC (.int 2))) (dC (.int 0)))) (dC (.int 1)) (dNeg (dC (.int 1)))))

/-- names: 0 p 1 parts 2 found 3 lot 4 number -/
def N_gathered : List Str := ["p", "parts", "found", "lot", "number"]
def w_gathered : DTS :=
  (dSeq (dAsg dNewT (gN 2))
  (dSeq (dFor (dISeq (dVar 1)) (gTp 2 (gsCons (gN 3) (gsCons (gN 4) gsNil))) (sDPutD (dVar 2) (dVar 3) (dOp oMod (dOp dAdd (dGet2 (dVar 2) (dVar 3) (dC (.int 0))) (dVar 4)) (dVar 0))))
  (dRet (dCB fTuple (dCons (dCB fSortX (dCons (dLc (dIItems (dFrzD 2)) (gTp 2 (gsCons (gN 3) (gsCons (gN 4) gsNil))) (dT (dOp oGt (dVar 4) (dC (.int 0)))) (dTup (dCons (dVar 3) (dCons (dVar 4) dNil))) [3, 4]) dNil)) dNil)))))

/-- names: 0 _law_script 1 _law_k 2 _law_cell 3 _law_great -/
def N_law_pot : List Str := ["_law_script", "_law_k", "_law_cell", "_law_great"]
def w_law_pot : DTS :=
  (dSeq (dAsg (dIf (dT (dOp oLt (dVar 1) (dCB fLen (dCons (dVar 0) dNil)))) (dOp dIx (dVar 0) (dVar 1)) (dC (.int 0))) (gN 2))
  (dSeq (dAsg (dIf (dT (dOp oGe (dCB fAbs (dCons (dVar 2) dNil)) (dOp oPow (dC (.int 10)) (dC (.int 18))))) (dOp oMod (dCB fAbs (dCons (dVar 2) dNil)) (dOp oPow (dOp oPow (dC (.int 10)) (dC (.int 60))) (dC (.int 4)))) (dC (.int 0))) (gN 3))
  (dRet (dLstM (dCons (dVar 3) (dCons (dOp oMod (dOp dAdd (dOp dAdd (dOp dMul (dOp oMod (dVar 2) (dC (.int 2305843009213693951))) (dC (.int 1000003))) (dOp dMul (dOp dMul (dC (.int 7919)) (dVar 1)) (dVar 1))) (dC (.int 61))) (dC (.int 2305843009213693921))) (dCons (dC (.int 0)) dNil)))))))

/-- names: 0 _law_pot_here 1 _law_size 2 _law_digit 3 _law_low 4 _law_high 5 _law_mixed 6 _law_last -/
def N_law_take : List Str := ["_law_pot_here", "_law_size", "_law_digit", "_law_low", "_law_high", "_law_mixed", "_law_last"]
def w_law_take : DTS :=
  (dSeq (dIfS (dT (dOp oGt (dOp dIx (dVar 0) (dC (.int 0))) (dC (.int 0)))) (dSeq (dAsg (dOp oMod (dOp dIx (dVar 0) (dC (.int 0))) (dVar 1)) (gN 2))
  (dSeq (dAsg (dOp oFdiv (dOp dIx (dVar 0) (dC (.int 0))) (dVar 1)) (gSb (dVar 0) (dC (.int 0))))
  (dRet (dVar 2)))) dNext)
  (dSeq (dAsg (dOp dAdd (dOp dIx (dVar 0) (dC (.int 2))) (dC (.int 1))) (gSb (dVar 0) (dC (.int 2))))
  (dSeq (dAsg (dOp dAdd (dOp dIx (dVar 0) (dC (.int 1))) (dOp dMul (dC (.int 15485863)) (dOp dIx (dVar 0) (dC (.int 2))))) (gN 3))
  (dSeq (dAsg (dOp dAdd (dOp dAdd (dOp oMod (dOp dIx (dVar 0) (dC (.int 1))) (dC (.int 7919))) (dOp dMul (dC (.int 32452867)) (dOp dIx (dVar 0) (dC (.int 2))))) (dC (.int 17))) (gN 4))
  (dSeq (dAsg (dOp oMod (dOp dMul (dVar 3) (dVar 4)) (dC (.int 2305843009213693951))) (gN 5))
  (dSeq (dAsg (dOp dAdd (dOp dAdd (dOp oMod (dVar 5) (dC (.int 1000003))) (dOp dMul (dC (.int 6700417)) (dOp dIx (dVar 0) (dC (.int 2))))) (dC (.int 3))) (gN 6))
  (dRet (dOp oMod (dOp oFdiv (dOp oMod (dOp dMul (dOp dAdd (dVar 5) (dC (.int 19))) (dVar 6)) (dC (.int 2305843009213693907))) (dC (.int 64))) (dVar 1)))))))))

/-- names: 0 _law_row 1 _law_left 2 _law_turn 3 _law_end 4 _law_at -/
def N_law_sorted : List Str := ["_law_row", "_law_left", "_law_turn", "_law_end", "_law_at"]
def w_law_sorted : DTS :=
  (dSeq (dPar 1 2 (dCons (dCB fListM (dCons (dVar 0) dNil)) (dCons (dC (.int 1)) dNil)))
  (dSeq (dIfS (dT (dOp oLt (dLenSet (dVar 1)) (dCB fLen (dCons (dVar 1) dNil)))) (dRet (dTup (dCons (dC (.int 0)) (dCons (dTup dNil) dNil)))) dNext)
  (dSeq (dFor (dIR3 (dCons (dOp oSub (dCB fLen (dCons (dVar 1) dNil)) (dC (.int 1))) (dCons (dC (.int 0)) (dCons (dNeg (dC (.int 1))) dNil)))) (gN 3) (dFor (dIR1 (dCons (dVar 3) dNil)) (gN 4) (dIfS (dT (dOp oGt (dOp dIx (dVar 1) (dVar 4)) (dOp dIx (dVar 1) (dOp dAdd (dVar 4) (dC (.int 1)))))) (dSeq (dAsg (dTup (dCons (dOp dIx (dVar 1) (dOp dAdd (dVar 4) (dC (.int 1)))) (dCons (dOp dIx (dVar 1) (dVar 4)) dNil))) (gTp 2 (gsCons (gSb (dVar 1) (dVar 4)) (gsCons (gSb (dVar 1) (dOp dAdd (dVar 4) (dC (.int 1)))) gsNil))))
  (dAsg (dOp oSub (dC (.int 0)) (dVar 2)) (gN 2))) dNext)))
  (dRet (dTup (dCons (dVar 2) (dCons (dCB fTuple (dCons (dVar 1) dNil)) dNil)))))))

/-- names: 0 _law_prime 1 _law_parts 2 _law_found 3 _law_lot 4 _law_number -/
def N_law_told : List Str := ["_law_prime", "_law_parts", "_law_found", "_law_lot", "_law_number"]
def w_law_told : DTS :=
  (dSeq (dAsg dNewT (gN 2))
  (dSeq (dFor (dISeq (dVar 1)) (gTp 2 (gsCons (gN 3) (gsCons (gN 4) gsNil))) (sDPutD (dVar 2) (dVar 3) (dOp oMod (dOp dAdd (dGet2 (dVar 2) (dVar 3) (dC (.int 0))) (dVar 4)) (dVar 0))))
  (dRet (dCB fTuple (dCons (dLc (dISeq (dCB fSortK (dCons (dVar 2) dNil))) (gN 3) (dT (dOp dNe (dGetD (dVar 2) (dVar 3)) (dC (.int 0)))) (dTup (dCons (dVar 3) (dCons (dGetD (dVar 2) (dVar 3)) dNil))) [3]) dNil)))))

/-- names: 0 one 1 other 2 hand 3 above 4 less -/
def N_laid : List Str := ["one", "other", "hand", "above", "less"]
def w_laid : DTS :=
  (dSeq (dIfS (dT (dCB fAny (dCons (dLc (dISeq (dVar 0)) (gN 2) dYes (dOp (dIn false) (dVar 2) (dVar 1)) [2]) dNil))) (dRet (dTup (dCons (dC (.int 0)) (dCons (dTup dNil) dNil)))) dNext)
  (dSeq (dAsg (dLc2 (dISeq (dVar 0)) (gN 2) dYes (dISeq (dVar 1)) (gN 4) (dT (dOp oLt (dVar 4) (dVar 2))) (dVar 2) [2, 4] [4]) (gN 3))
  (dRet (dTup (dCons (dCall c_sign_of [] (dCons (dCB fLen (dCons (dVar 3) dNil)) dNil)) (dCons (dCB fTuple (dCons (dCB fSort (dCons (dOp dAdd (dVar 0) (dVar 1)) dNil)) dNil)) dNil))))))

/-- names: 0 _law_pot_here 1 _law_some -/
def N_law_pick : List Str := ["_law_pot_here", "_law_some"]
def w_law_pick : DTS :=
  (dRet (dOp dIx (dVar 1) (dCall c_law_take [] (dCons (dVar 0) (dCons (dCB fLen (dCons (dVar 1) dNil)) dNil)))))

/-- names: 0 _law_pot_here 1 _law_many 2 _law_size 3 _law_left 4 _law_found 5 _law_turn -/
def N_law_some_lot : List Str := ["_law_pot_here", "_law_many", "_law_size", "_law_left", "_law_found", "_law_turn"]
def w_law_some_lot : DTS :=
  (dSeq (dPar 3 4 (dCons (dLstRgM (dRg1 (dVar 1))) (dCons (dLstM dNil) dNil)))
  (dSeq (dFor (dIR1 (dCons (dVar 2) dNil)) (gN 5) (dDrop (dMl mAppend (dVar 4) (dCons (dMl mPopAt (dVar 3) (dCons (dCall c_law_take [] (dCons (dVar 0) (dCons (dCB fLen (dCons (dVar 3) dNil)) dNil))) dNil)) dNil))))
  (dRet (dCB fTuple (dCons (dCB fSort (dCons (dVar 4) dNil)) dNil)))))

/-- names: 0 _law_prime 1 _law_first 2 _law_second 3 _law_found 4 _law_lot 5 _law_number 6 _law_more 7 _law_its 8 _law_turn 9 _law_both -/
def N_law_over : List Str := ["_law_prime", "_law_first", "_law_second", "_law_found", "_law_lot", "_law_number", "_law_more", "_law_its", "_law_turn", "_law_both"]
def w_law_over : DTS :=
  (dSeq (dAsg (dLstM dNil) (gN 3))
  (dSeq (dFor (dISeq (dVar 1)) (gTp 2 (gsCons (gN 4) (gsCons (gN 5) gsNil))) (dFor (dISeq (dVar 2)) (gTp 2 (gsCons (gN 6) (gsCons (gN 7) gsNil))) (dSeq (dAsg (dCall c_law_sorted [] (dCons (dOp dAdd (dVar 4) (dVar 6)) dNil)) (gTp 2 (gsCons (gN 8) (gsCons (gN 9) gsNil))))
  (dIfS (dT (dOp dNe (dVar 8) (dC (.int 0)))) (dDrop (dMl mAppend (dVar 3) (dCons (dTup (dCons (dVar 9) (dCons (dOp dMul (dOp dMul (dVar 8) (dVar 5)) (dVar 7)) dNil))) dNil))) dNext))))
  (dRet (dCall c_law_told [] (dCons (dVar 0) (dCons (dVar 3) dNil))))))

/-- names: 0 p 1 one 2 other 3 found 4 lot 5 number 6 more 7 times_it 8 turn 9 both -/
def N_outer : List Str := ["p", "one", "other", "found", "lot", "number", "more", "times_it", "turn", "both"]
def w_outer : DTS :=
  (dSeq (dAsg (dLstM dNil) (gN 3))
  (dSeq (dFor (dISeq (dVar 1)) (gTp 2 (gsCons (gN 4) (gsCons (gN 5) gsNil))) (dFor (dISeq (dVar 2)) (gTp 2 (gsCons (gN 6) (gsCons (gN 7) gsNil))) (dSeq (dAsg (dCall c_laid [] (dCons (dVar 4) (dCons (dVar 6) dNil))) (gTp 2 (gsCons (gN 8) (gsCons (gN 9) gsNil))))
  (dIfS (dT (dOp dNe (dVar 8) (dC (.int 0)))) (dDrop (dMl mAppend (dVar 3) (dCons (dTup (dCons (dVar 9) (dCons (dOp dMul (dOp dMul (dVar 8) (dVar 5)) (dVar 7)) dNil))) dNil))) dNext))))
  (dRet (dCall c_gathered [] (dCons (dVar 0) (dCons (dVar 3) dNil))))))

/-- names: 0 _law_pot_here 1 _law_prime 2 _law_many 3 _law_grade 4 _law_most 5 _law_found 6 _law_turn -/
def N_law_some_sum : List Str := ["_law_pot_here", "_law_prime", "_law_many", "_law_grade", "_law_most", "_law_found", "_law_turn"]
def w_law_some_sum : DTS :=
  (dSeq (dAsg dNewT (gN 5))
  (dSeq (dFor (dIR1 (dCons (dCall c_law_take [] (dCons (dVar 0) (dCons (dOp dAdd (dVar 4) (dC (.int 1))) dNil))) dNil)) (gN 6) (sDPutD (dVar 5) (dCall c_law_some_lot [] (dCons (dVar 0) (dCons (dVar 2) (dCons (dVar 3) dNil)))) (dCall c_law_pick [] (dCons (dVar 0) (dCons (dLst (dCons (dC (.int 1)) (dCons (dOp oSub (dVar 1) (dC (.int 1))) (dCons (dOp dAdd (dC (.int 1)) (dCall c_law_take [] (dCons (dVar 0) (dCons (dOp oSub (dVar 1) (dC (.int 1))) dNil)))) dNil)))) dNil)))))
  (dRet (dCB fTuple (dCons (dSortItems (dVar 5)) dNil)))))

/-- names: 0 _law_pot_here 1 _law_base 2 _law_many 3 _law_turn 4 _law_first 5 _law_second 6 _law_again 7 _law_kept 8 _law_due -/
def N_law_right : List Str := ["_law_pot_here", "_law_base", "_law_many", "_law_turn", "_law_first", "_law_second", "_law_again", "_law_kept", "_law_due"]
def w_law_right : DTS :=
  (dSeq (dAsg (dCall c_law_pick [] (dCons (dVar 0) (dCons (dLst (dCons (dC (.int 2)) (dCons (dC (.int 3)) (dCons (dC (.int 5)) (dCons (dC (.int 7)) (dCons (dC (.int 97)) (dCons (dC (.int 999999937)) dNil))))))) dNil))) (gN 1))
  (dSeq (dAsg (dOp dAdd (dC (.int 1)) (dCall c_law_pick [] (dCons (dVar 0) (dCons (dLst (dCons (dC (.int 59)) (dCons (dCall c_law_take [] (dCons (dVar 0) (dCons (dC (.int 60)) dNil))) (dCons (dCall c_law_take [] (dCons (dVar 0) (dCons (dC (.int 8)) dNil))) (dCons (dC (.int 7)) dNil))))) dNil)))) (gN 2))
  (dSeq (dFor (dIR1 (dCons (dC (.int 6)) dNil)) (gN 3) (dSeq (dAsg (dLc (dIR1 (dCons (dC (.int 2)) dNil)) (gN 6) dYes (dCall c_law_some_sum [] (dCons (dVar 0) (dCons (dVar 1) (dCons (dVar 2) (dCons (dCall c_law_take [] (dCons (dVar 0) (dCons (dOp dAdd (dCB fMin2 (dCons (dVar 2) (dCons (dC (.int 4)) dNil))) (dC (.int 1))) dNil))) (dCons (dC (.int 7)) dNil)))))) [6]) (gTpL 2 (gsCons (gN 4) (gsCons (gN 5) gsNil))))
  (dSeq (dPar 7 8 (dCons (dCB fRepr (dCons (dTup (dCons (dVar 4) (dCons (dVar 5) dNil))) dNil)) (dCons (dCall c_law_over [] (dCons (dVar 1) (dCons (dVar 4) (dCons (dVar 5) dNil)))) dNil)))
  (dSeq (dIfS (dOr (dT (dOp dNe (dCall c_outer [] (dCons (dVar 1) (dCons (dVar 4) (dCons (dVar 5) dNil)))) (dVar 8))) (dT (dOp dNe (dCallK c_outer (kord .non 0 3 [2, 1, 0]) dNil (dCons (dVar 5) (dCons (dVar 4) (dCons (dVar 1) dNil)))) (dVar 8)))) (dRet (dC (.bl false))) dNext)
  (dIfS (dT (dOp dNeS (dCB fRepr (dCons (dTup (dCons (dVar 4) (dCons (dVar 5) dNil))) dNil)) (dVar 7))) (dRet (dC (.bl false))) dNext)))))
  (dRet (dC (.bl true))))))

/-- names: 0 _law_script 1 _law_k -/
def N_law : List Str := ["_law_script", "_law_k"]
def w_law : DTS :=
  (dRet (dCB fAll (dCons (dLc (dIR1 (dCons (dCB fMax2 (dCons (dC (.int 1)) (dCons (dCB fMin2 (dCons (dCB fLen (dCons (dVar 0) dNil)) (dCons (dC (.int 3)) dNil))) dNil))) dNil)) (gN 1) dYes (dCall c_law_right [] (dCons (dCall c_law_pot [] (dCons (dVar 0) (dCons (dVar 1) dNil))) dNil)) [1]) dNil)))

end Law

namespace Law
open PySem PySem.Spec PyProof.Rows L2 DL
theorem l_sign_of : ∀ ds μ Q, c_sign_of ds μ Q → ds.length = 1 := fun ds μ Q ⟨_, e, _⟩ => by rw [e]; rfl
theorem l_laid : ∀ ds μ Q, c_laid ds μ Q → ds.length = 2 := fun ds μ Q ⟨_, _, _, e, _⟩ => by rw [e]; rfl
theorem l_gathered : ∀ ds μ Q, c_gathered ds μ Q → ds.length = 2 := fun ds μ Q ⟨_, _, _, _, _, e, _⟩ => by rw [e]; rfl
theorem l_outer : ∀ ds μ Q, c_outer ds μ Q → ds.length = 3 := fun ds μ Q ⟨_, _, _, _, _, _, e, _⟩ => by rw [e]; rfl
theorem l_law_pot : ∀ ds μ Q, c_law_pot ds μ Q → ds.length = 2 := fun ds μ Q ⟨_, _, e, _⟩ => by rw [e]; rfl
theorem l_law_take : ∀ ds μ Q, c_law_take ds μ Q → ds.length = 2 := fun ds μ Q ⟨_, _, _, e, _⟩ => by rw [e]; rfl
theorem l_law_pick : ∀ ds μ Q, c_law_pick ds μ Q → ds.length = 2 := fun ds μ Q ⟨_, _, _, _, e, _⟩ => by rw [e]; rfl
theorem l_law_some_lot : ∀ ds μ Q, c_law_some_lot ds μ Q → ds.length = 3 := fun ds μ Q ⟨_, _, _, _, e, _⟩ => by rw [e]; rfl
theorem l_law_some_sum : ∀ ds μ Q, c_law_some_sum ds μ Q → ds.length = 5 := fun ds μ Q ⟨_, _, _, _, _, _, e, _⟩ => by rw [e]; rfl
theorem l_law_sorted : ∀ ds μ Q, c_law_sorted ds μ Q → ds.length = 1 := fun ds μ Q ⟨_, _, _, e, _⟩ => by rw [e]; rfl
theorem l_law : ∀ ds μ Q, c_law ds μ Q → ds.length = 1 := fun ds μ Q ⟨_, e, _⟩ => by rw [e]; rfl
theorem l_law_told : ∀ ds μ Q, c_law_told ds μ Q → ds.length = 2 := fun ds μ Q ⟨_, _, _, _, _, e, _⟩ => by rw [e]; rfl
theorem l_law_over : ∀ ds μ Q, c_law_over ds μ Q → ds.length = 3 := fun ds μ Q ⟨_, _, _, _, _, _, e, _⟩ => by rw [e]; rfl
theorem l_law_right : ∀ ds μ Q, c_law_right ds μ Q → ds.length = 1 := fun ds μ Q ⟨_, _, e, _⟩ => by rw [e]; rfl
abbrev Pf (c : DSp) (w : DTS) (N : List Str) : Prop := ∀ ds μ Q, c ds μ Q → w { nx := fun _ μ' => fin Q .non μ', rt := fin Q } (dstart N ds) μ
theorem p_sign_of : Pf c_sign_of w_sign_of N_sign_of := by unfold w_sign_of; first | exact signOf_ok _ rfl
theorem p_laid : Pf c_laid w_laid N_laid := by unfold w_laid; first | exact laid_ok _ rfl
theorem p_gathered : Pf c_gathered w_gathered N_gathered := by unfold w_gathered; first | exact gath_ok _ rfl | exact toldL_ok _ rfl
theorem p_outer : Pf c_outer w_outer N_outer := by unfold w_outer; first | exact lawOver_ok _ rfl | exact outer_ok _ rfl
theorem p_law_pot : Pf c_law_pot w_law_pot N_law_pot := by unfold w_law_pot; first | exact pot1_ok _ rfl | exact pot2_ok _ rfl | exact pot3_ok _ rfl
theorem p_law_take : Pf c_law_take w_law_take N_law_take := by unfold w_law_take; first | exact take1_ok _ rfl | exact take2_ok _ rfl | exact take3_ok _ rfl
theorem p_law_pick : Pf c_law_pick w_law_pick N_law_pick := by unfold w_law_pick; first | exact of_ok _ rfl
theorem p_law_some_lot : Pf c_law_some_lot w_law_some_lot N_law_some_lot := by unfold w_law_some_lot; first | exact someLot_ok _ rfl
theorem p_law_some_sum : Pf c_law_some_sum w_law_some_sum N_law_some_sum := by unfold w_law_some_sum; first | exact someSum_ok _ rfl
theorem p_law_sorted : Pf c_law_sorted w_law_sorted N_law_sorted := by unfold w_law_sorted; first | exact lawSorted_ok _ rfl
theorem p_law_told : Pf c_law_told w_law_told N_law_told := by unfold w_law_told; first | exact gath_ok _ rfl | exact toldL_ok _ rfl
theorem p_law_over : Pf c_law_over w_law_over N_law_over := by unfold w_law_over; first | exact lawOver_ok _ rfl | exact outer_ok _ rfl
end Law

namespace Law
open PySem PySem.Spec PyProof.Rows L2 DL
--- right
theorem p_law_right : Pf c_law_right w_law_right N_law_right := by
  intro ds μ Q hc
  obtain ⟨a, k, rfl, hp, hk, q⟩ := hc
  have hz := sizeLine_eq
  unfold w_law_right N_law_right
  refine seq_cut fun R hR => ?_
  simp only [dSim, c_law_pick, cOf]
  refine ⟨by decide, a, _, _, _, rfl, .inl rfl, by simp, by simp, hp, by omega, fun d hd μ0 k0 p0 => ?_⟩
  obtain ⟨p, rfl, hp1, hp2⟩ : ∃ p : Nat, d = .int p ∧ 2 ≤ p ∧ p ≤ 999999937 := by
    simp only [List.mem_cons, List.not_mem_nil, or_false] at hd
    rcases hd with rfl | rfl | rfl | rfl | rfl | rfl
    · exact ⟨2, rfl, by omega, by omega⟩
    · exact ⟨3, rfl, by omega, by omega⟩
    · exact ⟨5, rfl, by omega, by omega⟩
    · exact ⟨7, rfl, by omega, by omega⟩
    · exact ⟨97, rfl, by omega, by omega⟩
    · exact ⟨999999937, rfl, by omega, by omega⟩
  refine hR _ _ (seq_cut fun R0 hR0 => ?_)
  simp only [dSim, c_law_take, cTake, c_law_pick, cOf]
  refine ⟨a, 60, _, rfl, by decide, by decide, p0, by omega, fun r1 μ1 r10 r11 k1 p1 => ⟨a, 8, _, rfl, by decide, by decide, p1, by omega, fun r2 μ2 r20 r21 k2 p2 => ⟨by decide, a, _, _, _, rfl, .inl rfl, by simp, by simp, p2, by omega, fun d hd μ3 k3 p3 => ?_⟩⟩⟩
  obtain ⟨n0, rfl, hn0⟩ : ∃ n0 : Nat, d = .int n0 ∧ n0 ≤ 59 := by
    simp only [List.mem_cons, List.not_mem_nil, or_false] at hd
    rcases hd with rfl | rfl | rfl | rfl
    · exact ⟨59, rfl, by omega⟩
    · exact ⟨r1.toNat, by rw [Int.toNat_of_nonneg r10], by omega⟩
    · exact ⟨r2.toNat, by rw [Int.toNat_of_nonneg r20], by omega⟩
    · exact ⟨7, rfl, by omega⟩
  obtain ⟨n, e1, hn1, hn2⟩ : ∃ n : Nat, (1 : Int) + n0 = n ∧ 1 ≤ n ∧ n ≤ 60 := ⟨1 + n0, by omega, by omega, by omega⟩
  simp only [dSim]
  rw [e1]
  refine hR0 _ _ (seq_cut fun R1 hR1 => ?_)
  simp only [dSim, dFor, dIR1]
  refine ⟨_, rfl, by omega, by omega, ?_⟩
  refine for_inv (fun i ρ μ' => IsPot (k + 4 + i * 400) μ' a ∧ ∃ xs : List (Option D), xs.length = 6 ∧ ρ = some (.ref a) :: some (.int p) :: some (.int n) :: xs)
    ⟨p3.mono (by omega), List.replicate 6 none, rfl, rfl⟩ (fun _ _ _ _ _ => trivial) (fun i d ρ μ' N1 hi h hN1 => ?_) fun ρ μ' h => ?_
  · obtain ⟨h1, rfl⟩ := rng_at hi
    have h1 : i < 6 := h1
    obtain ⟨p4, xs, hxs, rfl⟩ := h
    match xs, hxs with
    | [b2, b3, b4, b5, b6, b7], _ =>
      refine seq_cut fun R2 hR2 => ?_
      simp only [dSim, dLc, dIR1]
      refine ⟨_, rfl, by omega, by omega, ?_⟩
      rw [show ((2 : Int)).toNat = 2 from rfl, rng_map]
      refine lc_eff (List.range 2) _ (fun x : Nat × Pts => D.tup (x.2.map prD)) (fun _ x => Sm p n x.1 x.2 ∧ x.2.length ≤ 7 ∧ x.1 ≤ 4) (fun j μ2 => IsPot (k + 4 + i * 400 + j * 60) μ2 a) (p4.mono (by omega)) (fun _ _ _ => trivial) (by rw [List.length_range]; omega) (fun j x μ2 K hj h hK => ?_) fun fl μ2 h1 h2 h3 => ?_
      · have hj2 : j < 2 := by
          have := (List.getElem?_eq_some_iff.mp hj).1
          rwa [List.length_range] at this
        obtain ⟨m4, e4, hm41, hm42⟩ : ∃ m4 : Nat, (if (4 : Int) < (n : Int) then (4 : Int) else (n : Int)) = m4 ∧ m4 ≤ n ∧ m4 ≤ 4 := by
          split
          · exact ⟨4, rfl, by omega, by omega⟩
          · exact ⟨n, rfl, by omega, by omega⟩
        simp only [dSim, dwipe, c_law_some_sum, cSomeSum, c_law_take, cTake]
        rw [e4]
        refine ⟨a, m4 + 1, _, by congr 1, by omega, by omega, h, by omega, fun r5 μ5 r50 r51 k5 p5 => ?_⟩
        obtain ⟨g, rfl⟩ : ∃ g : Nat, r5 = g := ⟨r5.toNat, by omega⟩
        refine ⟨a, p, n, g, 7, _, rfl, hp1, by omega, by omega, by omega, by omega, p5, by omega, fun xs μ6 hS hl k6 p6 => hK (g, xs) μ6 ⟨hS, hl, by omega⟩ (p6.mono (by omega))⟩
      · rw [List.length_range] at h1 h3
        match fl, h1, h2 with
        | [A, B], _, h2 =>
          obtain ⟨sA, lA, gA⟩ := h2 0 0 A rfl rfl
          obtain ⟨sB, lB, gB⟩ := h2 1 1 B rfl rfl
          simp only [dSim, gTpL]
          refine ⟨_, rfl, rfl, ?_⟩
          simp only [dSim]
          refine hR2 _ _ (seq_cut fun R3 hR3 => ?_)
          have hp9 : (p : Int) ≤ 999999937 := by omega
          have nA : ∀ e ∈ A.2, 0 < e.2 ∧ e.2 < 10 ^ 9 := fun e he => by
            have := sA.num e he
            omega
          have nB : ∀ e ∈ B.2, 0 < e.2 ∧ e.2 < 10 ^ 9 := fun e he => by
            have := sB.num e he
            omega
          have shb : ∃ N, Shb 40 N (D.tup [.tup (A.2.map prD), .tup (B.2.map prD)]) ∧ N ≤ sizeLine := by
            refine ⟨100000, ⟨40000, fun d hd => ?_, by simp⟩, by omega⟩
            simp only [List.mem_cons, List.not_mem_nil, or_false] at hd
            rcases hd with rfl | rfl
            · exact shb_pts (by omega) sA.fine nA gA lA (by omega)
            · exact shb_pts (by omega) sB.fine nB gB lB (by omega)
          have call : ∀ (μ' : Mu) (K : DQ), (∀ xs, Gat p (ovr n A.2 B.2) xs → K (.tup (xs.map prD)) μ') → cOuter [.int p, .tup (A.2.map prD), .tup (B.2.map prD)] μ' K := fun μ' K hK =>
            ⟨p, n, A.1, B.1, A.2, B.2, rfl, by omega, by omega, by omega, sA.fine, sB.fine, fun e he => by have := nA e he; omega, fun e he => by have := nB e he; omega, by omega, by omega, hK⟩
          simp only [dSim, c_law_over]
          refine ⟨by decide, shb, call _ _ fun xs hxs => hR3 _ _ (seq_cut fun R4 hR4 => ?_)⟩
          simp only [dSim, c_outer]
          refine call _ _ fun ys hys => ?_
          rw [hys.uniq hxs fun _ => rfl]
          refine ne_self (pl_pts _) ?_
          simp only [dSim, z_seb, Bool.not_true, Bool.false_eq_true, if_false, kord, if_true, and_self, List.getD_cons_zero, List.getD_cons_succ]
          refine call _ _ fun zs hzs => ?_
          rw [hzs.uniq hxs fun _ => rfl]
          refine ne_self (pl_pts _) ?_
          simp only [z_seb, Bool.not_true, Bool.false_eq_true, if_false]
          refine hR4 _ _ ?_
          simp only [dSim]
          refine ⟨by decide, shb, ?_⟩
          simp only [decide_true, Bool.not_true, Bool.false_eq_true, if_false]
          exact hN1 _ _ ⟨h3.mono (by omega), _, rfl, rfl⟩
  · obtain ⟨p1, xs, hxs, rfl⟩ := h
    refine hR1 _ _ ?_
    simp only [dSim]
    exact fin_of (q _)
--- law
theorem p_law : Pf c_law w_law N_law := by
  intro ds μ Q h
  obtain ⟨ns, rfl, hl, q⟩ := h
  have hz := sizeLine_eq
  unfold w_law N_law
  simp only [dSim, dLc, dIR1, List.length_map]
  obtain ⟨m, hm, em⟩ : ∃ m : Nat, m ≤ 3 ∧ (if (if 3 < (ns.length : Int) then 3 else (ns.length : Int)) > 1 then (if 3 < (ns.length : Int) then 3 else (ns.length : Int)) else 1) = (m : Int) := by
    by_cases c : 3 < (ns.length : Int)
    · exact ⟨3, by omega, by rw [if_pos c, if_pos (by decide)]; rfl⟩
    · rw [if_neg c]
      by_cases c2 : (ns.length : Int) > 1
      · exact ⟨ns.length, by omega, by rw [if_pos c2]⟩
      · exact ⟨1, by omega, by rw [if_neg c2]; rfl⟩
  rw [em]
  refine ⟨_, rfl, by omega, by omega, ?_⟩
  rw [Int.toNat_natCast, rng_map]
  refine lc_eff (List.range m) _ (fun x : Bool => D.bl x) (fun _ x => x = true) (fun j μ2 => True) trivial (fun _ _ _ => trivial) (by rw [List.length_range]; omega) (fun j x μ2 K hj h hK => ?_) fun fl μ2 h1 h2 h3 => ?_
  · have hx := List.mem_range.mp (List.mem_of_getElem? hj)
    simp only [dSim, dwipe, c_law_pot, cPot, c_law_right]
    refine ⟨ns, x, rfl, hl, by omega, fun p μ' _ _ hpot => ⟨p, 0, rfl, hpot, by omega, fun μ'' => hK true μ'' rfl trivial⟩⟩
  · refine all_of (bs := fl) (by rw [see_lst]) ?_
    have e : fl.all id = true := by
      rw [List.all_eq_true]
      intro x hx
      rw [List.length_range] at h1
      obtain ⟨i, hi⟩ := List.mem_iff_getElem?.mp hx
      have := (List.getElem?_eq_some_iff.mp hi).1
      exact h2 i _ x (List.getElem?_eq_getElem (by rw [List.length_range]; omega)) hi
    rw [e]
    exact fin_of (q _)
end Law

namespace Law
open PySem PySem.Spec PyProof.Rows L2 DL
def topS (i : Nat) : Stmt := PySem.Challenge.pw_lackcry_k10_outer_by_sorted_rows.main.body.getD i (.Pass ⟨0, 0, 0, 0⟩)
abbrev s_sign_of : Stmt := topS 1
abbrev s_gathered : Stmt := topS 4
abbrev s_law_pot : Stmt := topS 7
abbrev s_law_take : Stmt := topS 8
abbrev s_law_sorted : Stmt := topS 12
abbrev s_law_told : Stmt := topS 13
abbrev s_laid : Stmt := topS 2
abbrev s_law_pick : Stmt := topS 9
abbrev s_law_some_lot : Stmt := topS 10
abbrev s_law_over : Stmt := topS 14
abbrev s_outer : Stmt := topS 5
abbrev s_law_some_sum : Stmt := topS 11
abbrev s_law_right : Stmt := topS 15
abbrev s_law : Stmt := topS 16
structure Df (K : PySem.W.Frag) (mg : Str → Option Value) (x : Str) (st : Stmt) (ps : List Str) where
  f : Addr
  fd : FuncData
  F : Fun K x x st f fd
  b : Binds K fd ps []
  m : mg x = some (.ref f)
structure Txt (K : PySem.W.Frag) (mg : Str → Option Value) where
  d_sign_of : Df K mg "sign_of" s_sign_of ["many"]
  d_gathered : Df K mg "gathered" s_gathered ["p", "parts"]
  d_law_pot : Df K mg "_law_pot" s_law_pot ["_law_script", "_law_k"]
  d_law_take : Df K mg "_law_take" s_law_take ["_law_pot_here", "_law_size"]
  d_law_sorted : Df K mg "_law_sorted" s_law_sorted ["_law_row"]
  d_law_told : Df K mg "_law_told" s_law_told ["_law_prime", "_law_parts"]
  d_laid : Df K mg "laid" s_laid ["one", "other"]
  d_law_pick : Df K mg "_law_pick" s_law_pick ["_law_pot_here", "_law_some"]
  d_law_some_lot : Df K mg "_law_some_lot" s_law_some_lot ["_law_pot_here", "_law_many", "_law_size"]
  d_law_over : Df K mg "_law_over" s_law_over ["_law_prime", "_law_first", "_law_second"]
  d_outer : Df K mg "outer" s_outer ["p", "one", "other"]
  d_law_some_sum : Df K mg "_law_some_sum" s_law_some_sum ["_law_pot_here", "_law_prime", "_law_many", "_law_grade", "_law_most"]
  d_law_right : Df K mg "_law_right" s_law_right ["_law_pot_here"]
  d_law : Df K mg "law" s_law ["_law_script"]
  n_abs : mg "abs" = none
  n_all : mg "all" = none
  n_any : mg "any" = none
  n_len : mg "len" = none
  n_list : mg "list" = none
  n_max : mg "max" = none
  n_min : mg "min" = none
  n_range : mg "range" = none
  n_repr : mg "repr" = none
  n_set : mg "set" = none
  n_sorted : mg "sorted" = none
  n_tuple : mg "tuple" = none
section
variable {P : Program} {w : World} {K : PySem.W.Frag} {mg : Str → Option Value} {base : Heap}
theorem kb_outer_0_other_one_p (T : Txt K mg) : KBinds K T.d_outer.fd ["p", "one", "other"] ["other", "one", "p"] (kord Value.none 0 3 [2, 1, 0]) (kord .non 0 3 [2, 1, 0]) := kb_of T.d_outer.F (by decide) fun kV doc pm an cdv ct us ws h1 h2 => match us, ws, h1, h2 with | [], [b0, b1, b2], _, _ => rfl
theorem sc_sign_of : FnScope ["many"] ["many"] (defScope s_sign_of) := ⟨rfl, rfl, rfl, by decide +kernel, rfl, by decide +kernel, by decide +kernel⟩
set_option maxHeartbeats 8000000 in
theorem ok_sign_of (T : Txt K mg) : FnG P w K mg base 1 T.d_sign_of.f T.d_sign_of.fd ["many"] (spD K c_sign_of) :=
  dfn c_sign_of T.d_sign_of.F sc_sign_of l_sign_of fun cdv A outer s H E hr => ⟨w_sign_of, (ss_one (s_ret (d_if (c_cmp (o_eq hr.units) (d_op o_mod (dv 0) d_int) d_int) d_int (d_neg d_int)))), p_sign_of⟩
theorem sc_gathered : FnScope ["p", "parts", "found", "lot", "number"] ["p", "parts"] (defScope s_gathered) := ⟨rfl, rfl, rfl, by decide +kernel, rfl, by decide +kernel, by decide +kernel⟩
set_option maxHeartbeats 8000000 in
theorem ok_gathered (T : Txt K mg) : FnG P w K mg base 1 T.d_gathered.f T.d_gathered.fd ["p", "parts"] (spD K c_gathered) :=
  dfn c_gathered T.d_gathered.F sc_gathered l_gathered fun cdv A outer s H E hr => ⟨w_gathered, (ss_cons (s_set (i := 2) sc_gathered.nd rfl (by first | exact Or.inl rfl | exact Or.inr rfl) d_newT)
  (ss_cons (s_for PassesOwn.never rfl (i_seq (dv 1)) (g_tup rfl (gs_cons (g_name (i := 3) sc_gathered.nd rfl (by first | exact Or.inl rfl | exact Or.inr rfl)) (gs_cons (g_name (i := 4) sc_gathered.nd rfl (by first | exact Or.inl rfl | exact Or.inr rfl)) gs_nil))) (ss_one (s_dput hr.units (dv 2) (dv 3) (d_op o_mod (d_op o_add (d_get2' hr.units (dv 2) (dv 3) d_int ⟨rfl, rfl, rfl, rfl⟩) (dv 4)) (dv 0)))))
  (ss_one (s_ret (d_callT t_tuple (by rfl) T.n_tuple (by decide +kernel) (a_cons (d_callB (b_sortX hr.units) (by rfl) T.n_sorted (by decide +kernel) (a_cons (d_lc rfl sc_gathered.nd (i_items (dvD 2)) (blkOk_by (own := [("lot", 3), ("number", 4)]) (by kernel_rfl)) (fun _ _ _ _ _ => (gc_tup rfl (gcs_cons (gc_name (i := 3) sc_gathered.nd rfl (by first | exact Or.inl rfl | exact Or.inr rfl) (by decide)) (gcs_cons (gc_name (i := 4) sc_gathered.nd rfl (by first | exact Or.inl rfl | exact Or.inr rfl) (by decide)) gcs_nil)))) (fun _ _ _ _ _ => (cs_one (c_cmp o_gt (dv 4) d_int))) (fun _ _ _ _ _ => (d_tup (a_cons (dv 3) (a_cons (dv 4) a_nil))))) a_nil)) a_nil)))))), p_gathered⟩
theorem sc_law_pot : FnScope ["_law_script", "_law_k", "_law_cell", "_law_great"] ["_law_script", "_law_k"] (defScope s_law_pot) := ⟨rfl, rfl, rfl, by decide +kernel, rfl, by decide +kernel, by decide +kernel⟩
set_option maxHeartbeats 8000000 in
theorem ok_law_pot (T : Txt K mg) : FnG P w K mg base 1 T.d_law_pot.f T.d_law_pot.fd ["_law_script", "_law_k"] (spD K c_law_pot) :=
  dfn c_law_pot T.d_law_pot.F sc_law_pot l_law_pot fun cdv A outer s H E hr => ⟨w_law_pot, (ss_cons (s_set (i := 2) sc_law_pot.nd rfl (by first | exact Or.inl rfl | exact Or.inr rfl) (d_if (c_cmp o_lt (dv 1) (d_callB b_len (by rfl) T.n_len (by decide +kernel) (a_cons (dv 0) a_nil))) (d_ix x_seq (dv 0) (dv 1)) d_int))
  (ss_cons (s_set (i := 3) sc_law_pot.nd rfl (by first | exact Or.inl rfl | exact Or.inr rfl) (d_if (c_cmp o_ge (d_callB b_abs (by rfl) T.n_abs (by decide +kernel) (a_cons (dv 2) a_nil)) (d_op o_pow d_int d_int)) (d_op o_mod (d_callB b_abs (by rfl) T.n_abs (by decide +kernel) (a_cons (dv 2) a_nil)) (d_op o_pow (d_op o_pow d_int d_int) d_int)) d_int))
  (ss_one (s_ret (d_lstM (a_cons (dv 3) (a_cons (d_op o_mod (d_op o_add (d_op o_add (d_op o_mul (d_op o_mod (dv 2) d_int) d_int) (d_op o_mul (d_op o_mul d_int (dv 1)) (dv 1))) d_int) d_int) (a_cons d_int a_nil)))))))), p_law_pot⟩
theorem sc_law_take : FnScope ["_law_pot_here", "_law_size", "_law_digit", "_law_low", "_law_high", "_law_mixed", "_law_last"] ["_law_pot_here", "_law_size"] (defScope s_law_take) := ⟨rfl, rfl, rfl, by decide +kernel, rfl, by decide +kernel, by decide +kernel⟩
set_option maxHeartbeats 8000000 in
theorem ok_law_take (T : Txt K mg) : FnG P w K mg base 1 T.d_law_take.f T.d_law_take.fd ["_law_pot_here", "_law_size"] (spD K c_law_take) :=
  dfn c_law_take T.d_law_take.F sc_law_take l_law_take fun cdv A outer s H E hr => ⟨w_law_take, (ss_cons (s_if (c_cmp o_gt (d_ix x_seq (dv 0) d_int) d_int) (ss_cons (s_set (i := 2) sc_law_take.nd rfl (by first | exact Or.inl rfl | exact Or.inr rfl) (d_op o_mod (d_ix x_seq (dv 0) d_int) (dv 1)))
  (ss_cons (s_asg (d_op o_fdiv (d_ix x_seq (dv 0) d_int) (dv 1)) (g_sub (dv 0) d_int))
  (ss_one (s_ret (dv 2))))) ss_nil)
  (ss_cons (s_asg (d_op o_add (d_ix x_seq (dv 0) d_int) d_int) (g_sub (dv 0) d_int))
  (ss_cons (s_set (i := 3) sc_law_take.nd rfl (by first | exact Or.inl rfl | exact Or.inr rfl) (d_op o_add (d_ix x_seq (dv 0) d_int) (d_op o_mul d_int (d_ix x_seq (dv 0) d_int))))
  (ss_cons (s_set (i := 4) sc_law_take.nd rfl (by first | exact Or.inl rfl | exact Or.inr rfl) (d_op o_add (d_op o_add (d_op o_mod (d_ix x_seq (dv 0) d_int) d_int) (d_op o_mul d_int (d_ix x_seq (dv 0) d_int))) d_int))
  (ss_cons (s_set (i := 5) sc_law_take.nd rfl (by first | exact Or.inl rfl | exact Or.inr rfl) (d_op o_mod (d_op o_mul (dv 3) (dv 4)) d_int))
  (ss_cons (s_set (i := 6) sc_law_take.nd rfl (by first | exact Or.inl rfl | exact Or.inr rfl) (d_op o_add (d_op o_add (d_op o_mod (dv 5) d_int) (d_op o_mul d_int (d_ix x_seq (dv 0) d_int))) d_int))
  (ss_one (s_ret (d_op o_mod (d_op o_fdiv (d_op o_mod (d_op o_mul (d_op o_add (dv 5) d_int) (dv 6)) d_int) d_int) (dv 1)))))))))), p_law_take⟩
theorem sc_law_sorted : FnScope ["_law_row", "_law_left", "_law_turn", "_law_end", "_law_at"] ["_law_row"] (defScope s_law_sorted) := ⟨rfl, rfl, rfl, by decide +kernel, rfl, by decide +kernel, by decide +kernel⟩
set_option maxHeartbeats 8000000 in
theorem ok_law_sorted (T : Txt K mg) : FnG P w K mg base 1 T.d_law_sorted.f T.d_law_sorted.fd ["_law_row"] (spD K c_law_sorted) :=
  dfn c_law_sorted T.d_law_sorted.F sc_law_sorted l_law_sorted fun cdv A outer s H E hr => ⟨w_law_sorted, (ss_cons (s_par (i := 1) (j := 2) rfl sc_law_sorted.nd rfl rfl (by decide) (by rfl) (by rfl) (a_cons (d_callT t_listM (by rfl) T.n_list (by decide +kernel) (a_cons (dv 0) a_nil)) (a_cons d_int a_nil)) (by rfl))
  (ss_cons (s_if (c_cmp o_lt (d_lenSet rfl (by rfl) T.n_len (by rfl) T.n_set (dv 1)) (d_callB b_len (by rfl) T.n_len (by decide +kernel) (a_cons (dv 1) a_nil))) (ss_one (s_ret (d_tup (a_cons d_int (a_cons (d_tup a_nil) a_nil))))) ss_nil)
  (ss_cons (s_for PassesOwn.never rfl (i_range3 (by rfl) T.n_range (a_cons (d_op o_sub (d_callB b_len (by rfl) T.n_len (by decide +kernel) (a_cons (dv 1) a_nil)) d_int) (a_cons d_int (a_cons (d_neg d_int) a_nil)))) (g_name (i := 3) sc_law_sorted.nd rfl (by first | exact Or.inl rfl | exact Or.inr rfl)) (ss_one (s_for PassesOwn.never rfl (i_range1 (by rfl) T.n_range (a_cons (dv 3) a_nil)) (g_name (i := 4) sc_law_sorted.nd rfl (by first | exact Or.inl rfl | exact Or.inr rfl)) (ss_one (s_if (c_cmp o_gt (d_ix x_seq (dv 1) (dv 4)) (d_ix x_seq (dv 1) (d_op o_add (dv 4) d_int))) (ss_cons (s_asg (d_tup (a_cons (d_ix x_seq (dv 1) (d_op o_add (dv 4) d_int)) (a_cons (d_ix x_seq (dv 1) (dv 4)) a_nil))) (g_tup rfl (gs_cons (g_sub (dv 1) (dv 4)) (gs_cons (g_sub (dv 1) (d_op o_add (dv 4) d_int)) gs_nil))))
  (ss_one (s_set (i := 2) sc_law_sorted.nd rfl (by first | exact Or.inl rfl | exact Or.inr rfl) (d_op o_sub d_int (dv 2))))) ss_nil)))))
  (ss_one (s_ret (d_tup (a_cons (dv 2) (a_cons (d_callT t_tuple (by rfl) T.n_tuple (by decide +kernel) (a_cons (dv 1) a_nil)) a_nil)))))))), p_law_sorted⟩
theorem sc_law_told : FnScope ["_law_prime", "_law_parts", "_law_found", "_law_lot", "_law_number"] ["_law_prime", "_law_parts"] (defScope s_law_told) := ⟨rfl, rfl, rfl, by decide +kernel, rfl, by decide +kernel, by decide +kernel⟩
set_option maxHeartbeats 8000000 in
theorem ok_law_told (T : Txt K mg) : FnG P w K mg base 1 T.d_law_told.f T.d_law_told.fd ["_law_prime", "_law_parts"] (spD K c_law_told) :=
  dfn c_law_told T.d_law_told.F sc_law_told l_law_told fun cdv A outer s H E hr => ⟨w_law_told, (ss_cons (s_set (i := 2) sc_law_told.nd rfl (by first | exact Or.inl rfl | exact Or.inr rfl) d_newT)
  (ss_cons (s_for PassesOwn.never rfl (i_seq (dv 1)) (g_tup rfl (gs_cons (g_name (i := 3) sc_law_told.nd rfl (by first | exact Or.inl rfl | exact Or.inr rfl)) (gs_cons (g_name (i := 4) sc_law_told.nd rfl (by first | exact Or.inl rfl | exact Or.inr rfl)) gs_nil))) (ss_one (s_dput hr.units (dv 2) (dv 3) (d_op o_mod (d_op o_add (d_get2' hr.units (dv 2) (dv 3) d_int ⟨rfl, rfl, rfl, rfl⟩) (dv 4)) (dv 0)))))
  (ss_one (s_ret (d_callT t_tuple (by rfl) T.n_tuple (by decide +kernel) (a_cons (d_lc rfl sc_law_told.nd (i_seq (d_callB (b_sortK rfl hr.units) (by rfl) T.n_sorted (by decide +kernel) (a_cons (dv 2) a_nil))) (blkOk_by (own := [("_law_lot", 3)]) (by kernel_rfl)) (fun _ _ _ _ _ => (gc_name (i := 3) sc_law_told.nd rfl (by first | exact Or.inl rfl | exact Or.inr rfl) (by decide))) (fun _ _ _ _ _ => (cs_one (c_cmp (o_ne hr.units) (d_dget hr.units (dv 2) (dv 3) (fun _ _ => rfl)) d_int))) (fun _ _ _ _ _ => (d_tup (a_cons (dv 3) (a_cons (d_dget hr.units (dv 2) (dv 3) (fun _ _ => rfl)) a_nil))))) a_nil)))))), p_law_told⟩
theorem sc_laid : FnScope ["one", "other", "hand", "above", "less"] ["one", "other"] (defScope s_laid) := ⟨rfl, rfl, rfl, by decide +kernel, rfl, by decide +kernel, by decide +kernel⟩
set_option maxHeartbeats 8000000 in
theorem ok_laid (T : Txt K mg) : FnG P w K mg base 2 T.d_laid.f T.d_laid.fd ["one", "other"] (spD K c_laid) :=
  dfn c_laid T.d_laid.F sc_laid l_laid fun cdv A outer s H E hr => ⟨w_laid, (ss_cons (s_if (c_val (d_callB (b_any rfl) (by rfl) T.n_any (by decide +kernel) (a_cons (d_lc rfl sc_laid.nd (i_seq (dv 0)) (blkOk_by (own := [("hand", 2)]) (by kernel_rfl)) (fun _ _ _ _ _ => (gc_name (i := 2) sc_laid.nd rfl (by first | exact Or.inl rfl | exact Or.inr rfl) (by decide))) (fun _ _ _ _ _ => cs_nil) (fun _ _ _ _ _ => (d_cmp o_in (dv 2) (dv 1) (by rfl)))) a_nil))) (ss_one (s_ret (d_tup (a_cons d_int (a_cons (d_tup a_nil) a_nil))))) ss_nil)
  (ss_cons (s_setLc2 (i := 3) rfl sc_laid.nd rfl (by rfl) (sw_true rfl (by rfl) rfl (by decide +kernel)) (vs1 := [4]) (i_seq (dv 0)) (blkOk_by (own := [("hand", 2), ("less", 4)]) (by kernel_rfl)) (by decide) (fun _ _ _ _ _ => (gc_name (i := 2) sc_laid.nd rfl (by first | exact Or.inl rfl | exact Or.inr rfl) (by decide))) (fun _ _ _ _ _ => cs_nil) (fun _ _ _ _ _ => (i_seq (dv 1))) (fun _ _ _ _ _ => (gc_name (i := 4) sc_laid.nd rfl (by first | exact Or.inl rfl | exact Or.inr rfl) (by decide))) (fun _ _ _ _ _ => (cs_one (c_cmp o_lt (dv 4) (dv 2)))) (fun _ _ _ _ _ => (dv 2)))
  (ss_one (s_ret (d_tup (a_cons (d_call (ok_sign_of T) (hr.mono (by decide)) (by rfl) T.d_sign_of.m T.d_sign_of.F.kp T.d_sign_of.b .nil no_dd (a_cons (d_callB b_len (by rfl) T.n_len (by decide +kernel) (a_cons (dv 3) a_nil)) a_nil)) (a_cons (d_callT t_tuple (by rfl) T.n_tuple (by decide +kernel) (a_cons (d_callB b_sort (by rfl) T.n_sorted (by decide +kernel) (a_cons (d_op o_add (dv 0) (dv 1)) a_nil)) a_nil)) a_nil))))))), p_laid⟩
theorem sc_law_pick : FnScope ["_law_pot_here", "_law_some"] ["_law_pot_here", "_law_some"] (defScope s_law_pick) := ⟨rfl, rfl, rfl, by decide +kernel, rfl, by decide +kernel, by decide +kernel⟩
set_option maxHeartbeats 8000000 in
theorem ok_law_pick (T : Txt K mg) : FnG P w K mg base 2 T.d_law_pick.f T.d_law_pick.fd ["_law_pot_here", "_law_some"] (spD K c_law_pick) :=
  dfn c_law_pick T.d_law_pick.F sc_law_pick l_law_pick fun cdv A outer s H E hr => ⟨w_law_pick, (ss_one (s_ret (d_ix x_seq (dv 1) (d_call (ok_law_take T) (hr.mono (by decide)) (by rfl) T.d_law_take.m T.d_law_take.F.kp T.d_law_take.b .nil no_dd (a_cons (dv 0) (a_cons (d_callB b_len (by rfl) T.n_len (by decide +kernel) (a_cons (dv 1) a_nil)) a_nil)))))), p_law_pick⟩
theorem sc_law_some_lot : FnScope ["_law_pot_here", "_law_many", "_law_size", "_law_left", "_law_found", "_law_turn"] ["_law_pot_here", "_law_many", "_law_size"] (defScope s_law_some_lot) := ⟨rfl, rfl, rfl, by decide +kernel, rfl, by decide +kernel, by decide +kernel⟩
set_option maxHeartbeats 8000000 in
theorem ok_law_some_lot (T : Txt K mg) : FnG P w K mg base 2 T.d_law_some_lot.f T.d_law_some_lot.fd ["_law_pot_here", "_law_many", "_law_size"] (spD K c_law_some_lot) :=
  dfn c_law_some_lot T.d_law_some_lot.F sc_law_some_lot l_law_some_lot fun cdv A outer s H E hr => ⟨w_law_some_lot, (ss_cons (s_par (i := 3) (j := 4) rfl sc_law_some_lot.nd rfl rfl (by decide) (by rfl) (by rfl) (a_cons (d_lstRgM rfl (by rfl) T.n_list (r_1 (by rfl) T.n_range (dv 1))) (a_cons (d_lstM a_nil) a_nil)) (by rfl))
  (ss_cons (s_for PassesOwn.never rfl (i_range1 (by rfl) T.n_range (a_cons (dv 2) a_nil)) (g_name (i := 5) sc_law_some_lot.nd rfl (by first | exact Or.inl rfl | exact Or.inr rfl)) (ss_one (s_expr (d_ml PySem.F.slot_list_append PySem.F.type_list_append m_append (dv 4) (a_cons (d_ml PySem.F.slot_list_pop PySem.F.type_list_pop m_popAt (dv 3) (a_cons (d_call (ok_law_take T) (hr.mono (by decide)) (by rfl) T.d_law_take.m T.d_law_take.F.kp T.d_law_take.b .nil no_dd (a_cons (dv 0) (a_cons (d_callB b_len (by rfl) T.n_len (by decide +kernel) (a_cons (dv 3) a_nil)) a_nil))) a_nil)) a_nil)))))
  (ss_one (s_ret (d_callT t_tuple (by rfl) T.n_tuple (by decide +kernel) (a_cons (d_callB b_sort (by rfl) T.n_sorted (by decide +kernel) (a_cons (dv 4) a_nil)) a_nil)))))), p_law_some_lot⟩
theorem sc_law_over : FnScope ["_law_prime", "_law_first", "_law_second", "_law_found", "_law_lot", "_law_number", "_law_more", "_law_its", "_law_turn", "_law_both"] ["_law_prime", "_law_first", "_law_second"] (defScope s_law_over) := ⟨rfl, rfl, rfl, by decide +kernel, rfl, by decide +kernel, by decide +kernel⟩
set_option maxHeartbeats 8000000 in
theorem ok_law_over (T : Txt K mg) : FnG P w K mg base 2 T.d_law_over.f T.d_law_over.fd ["_law_prime", "_law_first", "_law_second"] (spD K c_law_over) :=
  dfn c_law_over T.d_law_over.F sc_law_over l_law_over fun cdv A outer s H E hr => ⟨w_law_over, (ss_cons (s_set (i := 3) sc_law_over.nd rfl (by first | exact Or.inl rfl | exact Or.inr rfl) (d_lstM a_nil))
  (ss_cons (s_for PassesOwn.never rfl (i_seq (dv 1)) (g_tup rfl (gs_cons (g_name (i := 4) sc_law_over.nd rfl (by first | exact Or.inl rfl | exact Or.inr rfl)) (gs_cons (g_name (i := 5) sc_law_over.nd rfl (by first | exact Or.inl rfl | exact Or.inr rfl)) gs_nil))) (ss_one (s_for PassesOwn.never rfl (i_seq (dv 2)) (g_tup rfl (gs_cons (g_name (i := 6) sc_law_over.nd rfl (by first | exact Or.inl rfl | exact Or.inr rfl)) (gs_cons (g_name (i := 7) sc_law_over.nd rfl (by first | exact Or.inl rfl | exact Or.inr rfl)) gs_nil))) (ss_cons (s_asg (d_call (ok_law_sorted T) (hr.mono (by decide)) (by rfl) T.d_law_sorted.m T.d_law_sorted.F.kp T.d_law_sorted.b .nil no_dd (a_cons (d_op o_add (dv 4) (dv 6)) a_nil)) (g_tup rfl (gs_cons (g_name (i := 8) sc_law_over.nd rfl (by first | exact Or.inl rfl | exact Or.inr rfl)) (gs_cons (g_name (i := 9) sc_law_over.nd rfl (by first | exact Or.inl rfl | exact Or.inr rfl)) gs_nil))))
  (ss_one (s_if (c_cmp (o_ne hr.units) (dv 8) d_int) (ss_one (s_expr (d_ml PySem.F.slot_list_append PySem.F.type_list_append m_append (dv 3) (a_cons (d_tup (a_cons (dv 9) (a_cons (d_op o_mul (d_op o_mul (dv 8) (dv 5)) (dv 7)) a_nil))) a_nil)))) ss_nil))))))
  (ss_one (s_ret (d_call (ok_law_told T) (hr.mono (by decide)) (by rfl) T.d_law_told.m T.d_law_told.F.kp T.d_law_told.b .nil no_dd (a_cons (dv 0) (a_cons (dv 3) a_nil))))))), p_law_over⟩
theorem sc_outer : FnScope ["p", "one", "other", "found", "lot", "number", "more", "times_it", "turn", "both"] ["p", "one", "other"] (defScope s_outer) := ⟨rfl, rfl, rfl, by decide +kernel, rfl, by decide +kernel, by decide +kernel⟩
set_option maxHeartbeats 8000000 in
theorem ok_outer (T : Txt K mg) : FnG P w K mg base 3 T.d_outer.f T.d_outer.fd ["p", "one", "other"] (spD K c_outer) :=
  dfn c_outer T.d_outer.F sc_outer l_outer fun cdv A outer s H E hr => ⟨w_outer, (ss_cons (s_set (i := 3) sc_outer.nd rfl (by first | exact Or.inl rfl | exact Or.inr rfl) (d_lstM a_nil))
  (ss_cons (s_for PassesOwn.never rfl (i_seq (dv 1)) (g_tup rfl (gs_cons (g_name (i := 4) sc_outer.nd rfl (by first | exact Or.inl rfl | exact Or.inr rfl)) (gs_cons (g_name (i := 5) sc_outer.nd rfl (by first | exact Or.inl rfl | exact Or.inr rfl)) gs_nil))) (ss_one (s_for PassesOwn.never rfl (i_seq (dv 2)) (g_tup rfl (gs_cons (g_name (i := 6) sc_outer.nd rfl (by first | exact Or.inl rfl | exact Or.inr rfl)) (gs_cons (g_name (i := 7) sc_outer.nd rfl (by first | exact Or.inl rfl | exact Or.inr rfl)) gs_nil))) (ss_cons (s_asg (d_call (ok_laid T) (hr.mono (by decide)) (by rfl) T.d_laid.m T.d_laid.F.kp T.d_laid.b .nil no_dd (a_cons (dv 4) (a_cons (dv 6) a_nil))) (g_tup rfl (gs_cons (g_name (i := 8) sc_outer.nd rfl (by first | exact Or.inl rfl | exact Or.inr rfl)) (gs_cons (g_name (i := 9) sc_outer.nd rfl (by first | exact Or.inl rfl | exact Or.inr rfl)) gs_nil))))
  (ss_one (s_if (c_cmp (o_ne hr.units) (dv 8) d_int) (ss_one (s_expr (d_ml PySem.F.slot_list_append PySem.F.type_list_append m_append (dv 3) (a_cons (d_tup (a_cons (dv 9) (a_cons (d_op o_mul (d_op o_mul (dv 8) (dv 5)) (dv 7)) a_nil))) a_nil)))) ss_nil))))))
  (ss_one (s_ret (d_call (ok_gathered T) (hr.mono (by decide)) (by rfl) T.d_gathered.m T.d_gathered.F.kp T.d_gathered.b .nil no_dd (a_cons (dv 0) (a_cons (dv 3) a_nil))))))), p_outer⟩
theorem sc_law_some_sum : FnScope ["_law_pot_here", "_law_prime", "_law_many", "_law_grade", "_law_most", "_law_found", "_law_turn"] ["_law_pot_here", "_law_prime", "_law_many", "_law_grade", "_law_most"] (defScope s_law_some_sum) := ⟨rfl, rfl, rfl, by decide +kernel, rfl, by decide +kernel, by decide +kernel⟩
set_option maxHeartbeats 8000000 in
theorem ok_law_some_sum (T : Txt K mg) : FnG P w K mg base 3 T.d_law_some_sum.f T.d_law_some_sum.fd ["_law_pot_here", "_law_prime", "_law_many", "_law_grade", "_law_most"] (spD K c_law_some_sum) :=
  dfn c_law_some_sum T.d_law_some_sum.F sc_law_some_sum l_law_some_sum fun cdv A outer s H E hr => ⟨w_law_some_sum, (ss_cons (s_set (i := 5) sc_law_some_sum.nd rfl (by first | exact Or.inl rfl | exact Or.inr rfl) d_newT)
  (ss_cons (s_for PassesOwn.never rfl (i_range1 (by rfl) T.n_range (a_cons (d_call (ok_law_take T) (hr.mono (by decide)) (by rfl) T.d_law_take.m T.d_law_take.F.kp T.d_law_take.b .nil no_dd (a_cons (dv 0) (a_cons (d_op o_add (dv 4) d_int) a_nil))) a_nil)) (g_name (i := 6) sc_law_some_sum.nd rfl (by first | exact Or.inl rfl | exact Or.inr rfl)) (ss_one (s_dput hr.units (dv 5) (d_call (ok_law_some_lot T) (hr.mono (by decide)) (by rfl) T.d_law_some_lot.m T.d_law_some_lot.F.kp T.d_law_some_lot.b .nil no_dd (a_cons (dv 0) (a_cons (dv 2) (a_cons (dv 3) a_nil)))) (d_call (ok_law_pick T) (hr.mono (by decide)) (by rfl) T.d_law_pick.m T.d_law_pick.F.kp T.d_law_pick.b .nil no_dd (a_cons (dv 0) (a_cons (d_lst (a_cons d_int (a_cons (d_op o_sub (dv 1) d_int) (a_cons (d_op o_add d_int (d_call (ok_law_take T) (hr.mono (by decide)) (by rfl) T.d_law_take.m T.d_law_take.F.kp T.d_law_take.b .nil no_dd (a_cons (dv 0) (a_cons (d_op o_sub (dv 1) d_int) a_nil)))) a_nil)))) a_nil))))))
  (ss_one (s_ret (d_callT t_tuple (by rfl) T.n_tuple (by decide +kernel) (a_cons (d_sortItems rfl hr.units (by rfl) T.n_sorted (dv 5)) a_nil)))))), p_law_some_sum⟩
theorem sc_law_right : FnScope ["_law_pot_here", "_law_base", "_law_many", "_law_turn", "_law_first", "_law_second", "_law_again", "_law_kept", "_law_due"] ["_law_pot_here"] (defScope s_law_right) := ⟨rfl, rfl, rfl, by decide +kernel, rfl, by decide +kernel, by decide +kernel⟩
set_option maxHeartbeats 8000000 in
theorem ok_law_right (T : Txt K mg) : FnG P w K mg base 4 T.d_law_right.f T.d_law_right.fd ["_law_pot_here"] (spD K c_law_right) :=
  dfn c_law_right T.d_law_right.F sc_law_right l_law_right fun cdv A outer s H E hr => ⟨w_law_right, (ss_cons (s_set (i := 1) sc_law_right.nd rfl (by first | exact Or.inl rfl | exact Or.inr rfl) (d_call (ok_law_pick T) (hr.mono (by decide)) (by rfl) T.d_law_pick.m T.d_law_pick.F.kp T.d_law_pick.b .nil no_dd (a_cons (dv 0) (a_cons (d_lst (a_cons d_int (a_cons d_int (a_cons d_int (a_cons d_int (a_cons d_int (a_cons d_int a_nil))))))) a_nil))))
  (ss_cons (s_set (i := 2) sc_law_right.nd rfl (by first | exact Or.inl rfl | exact Or.inr rfl) (d_op o_add d_int (d_call (ok_law_pick T) (hr.mono (by decide)) (by rfl) T.d_law_pick.m T.d_law_pick.F.kp T.d_law_pick.b .nil no_dd (a_cons (dv 0) (a_cons (d_lst (a_cons d_int (a_cons (d_call (ok_law_take T) (hr.mono (by decide)) (by rfl) T.d_law_take.m T.d_law_take.F.kp T.d_law_take.b .nil no_dd (a_cons (dv 0) (a_cons d_int a_nil))) (a_cons (d_call (ok_law_take T) (hr.mono (by decide)) (by rfl) T.d_law_take.m T.d_law_take.F.kp T.d_law_take.b .nil no_dd (a_cons (dv 0) (a_cons d_int a_nil))) (a_cons d_int a_nil))))) a_nil)))))
  (ss_cons (s_for PassesOwn.never rfl (i_range1 (by rfl) T.n_range (a_cons d_int a_nil)) (g_name (i := 3) sc_law_right.nd rfl (by first | exact Or.inl rfl | exact Or.inr rfl)) (ss_cons (s_asg (d_lc rfl sc_law_right.nd (i_range1 (by rfl) T.n_range (a_cons d_int a_nil)) (blkOk_by (own := [("_law_again", 6)]) (by kernel_rfl)) (fun _ _ _ _ _ => (gc_name (i := 6) sc_law_right.nd rfl (by first | exact Or.inl rfl | exact Or.inr rfl) (by decide))) (fun _ _ _ _ _ => cs_nil) (fun _ _ _ _ _ => (d_call (ok_law_some_sum T) (hr.mono (by decide)) (by rfl) T.d_law_some_sum.m T.d_law_some_sum.F.kp T.d_law_some_sum.b .nil no_dd (a_cons (dv 0) (a_cons (dv 1) (a_cons (dv 2) (a_cons (d_call (ok_law_take T) (hr.mono (by decide)) (by rfl) T.d_law_take.m T.d_law_take.F.kp T.d_law_take.b .nil no_dd (a_cons (dv 0) (a_cons (d_op o_add (d_callB (b_min2 rfl) (by rfl) T.n_min (by decide +kernel) (a_cons (dv 2) (a_cons d_int a_nil))) d_int) a_nil))) (a_cons d_int a_nil)))))))) (g_tupL rfl (gs_cons (g_name (i := 4) sc_law_right.nd rfl (by first | exact Or.inl rfl | exact Or.inr rfl)) (gs_cons (g_name (i := 5) sc_law_right.nd rfl (by first | exact Or.inl rfl | exact Or.inr rfl)) gs_nil))))
  (ss_cons (s_par (i := 7) (j := 8) rfl sc_law_right.nd rfl rfl (by decide) (by rfl) (by rfl) (a_cons (d_callB (b_repr hr.units hr.gd) (by rfl) T.n_repr (by decide +kernel) (a_cons (d_tup (a_cons (dv 4) (a_cons (dv 5) a_nil))) a_nil)) (a_cons (d_call (ok_law_over T) (hr.mono (by decide)) (by rfl) T.d_law_over.m T.d_law_over.F.kp T.d_law_over.b .nil no_dd (a_cons (dv 1) (a_cons (dv 4) (a_cons (dv 5) a_nil)))) a_nil)) (by rfl))
  (ss_cons (s_if (DW.c (w_or (c_cmp (o_ne hr.units) (d_call (ok_outer T) (hr.mono (by decide)) (by rfl) T.d_outer.m T.d_outer.F.kp T.d_outer.b .nil no_dd (a_cons (dv 1) (a_cons (dv 4) (a_cons (dv 5) a_nil)))) (dv 8)) (w_or1 (c_cmp (o_ne hr.units) (d_callK0 (ok_outer T) (hr.mono (by decide)) (by rfl) T.d_outer.m T.d_outer.F.kp (kb_outer_0_other_one_p T) kord_rp (k_cons (dv 5) (k_cons (dv 4) (k_cons (dv 1) k_nil)))) (dv 8))))) (ss_one (s_ret d_bl)) ss_nil)
  (ss_one (s_if (c_cmp o_neS (d_callB (b_repr hr.units hr.gd) (by rfl) T.n_repr (by decide +kernel) (a_cons (d_tup (a_cons (dv 4) (a_cons (dv 5) a_nil))) a_nil)) (dv 7)) (ss_one (s_ret d_bl)) ss_nil))))))
  (ss_one (s_ret d_bl))))), p_law_right⟩
theorem sc_law : FnScope ["_law_script", "_law_k"] ["_law_script"] (defScope s_law) := ⟨rfl, rfl, rfl, by decide +kernel, rfl, by decide +kernel, by decide +kernel⟩
set_option maxHeartbeats 8000000 in
theorem ok_law (T : Txt K mg) : FnG P w K mg base 5 T.d_law.f T.d_law.fd ["_law_script"] (spD K c_law) :=
  dfn c_law T.d_law.F sc_law l_law fun cdv A outer s H E hr => ⟨w_law, (ss_one (s_ret (d_callB (b_all rfl) (by rfl) T.n_all (by decide +kernel) (a_cons (d_lc rfl sc_law.nd (i_range1 (by rfl) T.n_range (a_cons (d_callB (b_max2 rfl) (by rfl) T.n_max (by decide +kernel) (a_cons d_int (a_cons (d_callB (b_min2 rfl) (by rfl) T.n_min (by decide +kernel) (a_cons (d_callB b_len (by rfl) T.n_len (by decide +kernel) (a_cons (dv 0) a_nil)) (a_cons d_int a_nil))) a_nil))) a_nil)) (blkOk_by (own := [("_law_k", 1)]) (by kernel_rfl)) (fun _ _ _ _ _ => (gc_name (i := 1) sc_law.nd rfl (by first | exact Or.inl rfl | exact Or.inr rfl) (by decide))) (fun _ _ _ _ _ => cs_nil) (fun _ _ _ _ _ => (d_call (ok_law_right T) (hr.mono (by decide)) (by rfl) T.d_law_right.m T.d_law_right.F.kp T.d_law_right.b .nil no_dd (a_cons (d_call (ok_law_pot T) (hr.mono (by decide)) (by rfl) T.d_law_pot.m T.d_law_pot.F.kp T.d_law_pot.b .nil no_dd (a_cons (dv 0) (a_cons (dv 1) a_nil))) a_nil)))) a_nil)))), p_law⟩
end
theorem all_mk {l : PySem.W.OpenLaw} {w : World} {K : PySem.W.Frag} {h : Heap} {mg : Str → Option Value} {fa f0 f1 f2 f3 f4 f5 f6 f7 f8 f9 f10 f11 f12 f13 : Addr} (X : K.In h) (G : h.Ns mainGlobals mg) (hfa : mg "law" = some (.ref fa))
    {od0 an0 od1 an1 od2 an2 od3 an3 od4 an4 od5 an5 od6 an6 od7 an7 od8 an8 od9 an9 od10 an10 od11 an11 od12 an12 od13 an13 : Option Addr} {sl0 sl1 sl2 sl3 sl4 sl5 sl6 sl7 sl8 sl9 sl10 sl11 sl12 sl13 : Array (Option Value)} {oc0 kV0 dc0 pm0 cd0 ct0 oc1 kV1 dc1 pm1 cd1 ct1 oc2 kV2 dc2 pm2 cd2 ct2 oc3 kV3 dc3 pm3 cd3 ct3 oc4 kV4 dc4 pm4 cd4 ct4 oc5 kV5 dc5 pm5 cd5 ct5 oc6 kV6 dc6 pm6 cd6 ct6 oc7 kV7 dc7 pm7 cd7 ct7 oc8 kV8 dc8 pm8 cd8 ct8 oc9 kV9 dc9 pm9 cd9 ct9 oc10 kV10 dc10 pm10 cd10 ct10 oc11 kV11 dc11 pm11 cd11 ct11 oc12 kV12 dc12 pm12 cd12 ct12 oc13 kV13 dc13 pm13 cd13 ct13 : Value}
    (a0 : PySem.W.nsIn K mainGlobals "sign_of" = some (some (.ref f0))) (l0 : K.lookup f0 = some ⟨oc0, od0, .func (PySem.W.fnOf "sign_of" "sign_of" (defArgs s_sign_of) (defBody s_sign_of) (defScope s_sign_of) .none kV0 dc0 pm0 an0 cd0 ct0), sl0⟩) (c0 : PySem.W.codeIn K cd0 "sign_of" = true) (k0 : PySem.W.keepIn K (.ref f0) = true)
    (a1 : PySem.W.nsIn K mainGlobals "gathered" = some (some (.ref f1))) (l1 : K.lookup f1 = some ⟨oc1, od1, .func (PySem.W.fnOf "gathered" "gathered" (defArgs s_gathered) (defBody s_gathered) (defScope s_gathered) .none kV1 dc1 pm1 an1 cd1 ct1), sl1⟩) (c1 : PySem.W.codeIn K cd1 "gathered" = true) (k1 : PySem.W.keepIn K (.ref f1) = true)
    (a2 : PySem.W.nsIn K mainGlobals "_law_pot" = some (some (.ref f2))) (l2 : K.lookup f2 = some ⟨oc2, od2, .func (PySem.W.fnOf "_law_pot" "_law_pot" (defArgs s_law_pot) (defBody s_law_pot) (defScope s_law_pot) .none kV2 dc2 pm2 an2 cd2 ct2), sl2⟩) (c2 : PySem.W.codeIn K cd2 "_law_pot" = true) (k2 : PySem.W.keepIn K (.ref f2) = true)
    (a3 : PySem.W.nsIn K mainGlobals "_law_take" = some (some (.ref f3))) (l3 : K.lookup f3 = some ⟨oc3, od3, .func (PySem.W.fnOf "_law_take" "_law_take" (defArgs s_law_take) (defBody s_law_take) (defScope s_law_take) .none kV3 dc3 pm3 an3 cd3 ct3), sl3⟩) (c3 : PySem.W.codeIn K cd3 "_law_take" = true) (k3 : PySem.W.keepIn K (.ref f3) = true)
    (a4 : PySem.W.nsIn K mainGlobals "_law_sorted" = some (some (.ref f4))) (l4 : K.lookup f4 = some ⟨oc4, od4, .func (PySem.W.fnOf "_law_sorted" "_law_sorted" (defArgs s_law_sorted) (defBody s_law_sorted) (defScope s_law_sorted) .none kV4 dc4 pm4 an4 cd4 ct4), sl4⟩) (c4 : PySem.W.codeIn K cd4 "_law_sorted" = true) (k4 : PySem.W.keepIn K (.ref f4) = true)
    (a5 : PySem.W.nsIn K mainGlobals "_law_told" = some (some (.ref f5))) (l5 : K.lookup f5 = some ⟨oc5, od5, .func (PySem.W.fnOf "_law_told" "_law_told" (defArgs s_law_told) (defBody s_law_told) (defScope s_law_told) .none kV5 dc5 pm5 an5 cd5 ct5), sl5⟩) (c5 : PySem.W.codeIn K cd5 "_law_told" = true) (k5 : PySem.W.keepIn K (.ref f5) = true)
    (a6 : PySem.W.nsIn K mainGlobals "laid" = some (some (.ref f6))) (l6 : K.lookup f6 = some ⟨oc6, od6, .func (PySem.W.fnOf "laid" "laid" (defArgs s_laid) (defBody s_laid) (defScope s_laid) .none kV6 dc6 pm6 an6 cd6 ct6), sl6⟩) (c6 : PySem.W.codeIn K cd6 "laid" = true) (k6 : PySem.W.keepIn K (.ref f6) = true)
    (a7 : PySem.W.nsIn K mainGlobals "_law_pick" = some (some (.ref f7))) (l7 : K.lookup f7 = some ⟨oc7, od7, .func (PySem.W.fnOf "_law_pick" "_law_pick" (defArgs s_law_pick) (defBody s_law_pick) (defScope s_law_pick) .none kV7 dc7 pm7 an7 cd7 ct7), sl7⟩) (c7 : PySem.W.codeIn K cd7 "_law_pick" = true) (k7 : PySem.W.keepIn K (.ref f7) = true)
    (a8 : PySem.W.nsIn K mainGlobals "_law_some_lot" = some (some (.ref f8))) (l8 : K.lookup f8 = some ⟨oc8, od8, .func (PySem.W.fnOf "_law_some_lot" "_law_some_lot" (defArgs s_law_some_lot) (defBody s_law_some_lot) (defScope s_law_some_lot) .none kV8 dc8 pm8 an8 cd8 ct8), sl8⟩) (c8 : PySem.W.codeIn K cd8 "_law_some_lot" = true) (k8 : PySem.W.keepIn K (.ref f8) = true)
    (a9 : PySem.W.nsIn K mainGlobals "_law_over" = some (some (.ref f9))) (l9 : K.lookup f9 = some ⟨oc9, od9, .func (PySem.W.fnOf "_law_over" "_law_over" (defArgs s_law_over) (defBody s_law_over) (defScope s_law_over) .none kV9 dc9 pm9 an9 cd9 ct9), sl9⟩) (c9 : PySem.W.codeIn K cd9 "_law_over" = true) (k9 : PySem.W.keepIn K (.ref f9) = true)
    (a10 : PySem.W.nsIn K mainGlobals "outer" = some (some (.ref f10))) (l10 : K.lookup f10 = some ⟨oc10, od10, .func (PySem.W.fnOf "outer" "outer" (defArgs s_outer) (defBody s_outer) (defScope s_outer) .none kV10 dc10 pm10 an10 cd10 ct10), sl10⟩) (c10 : PySem.W.codeIn K cd10 "outer" = true) (k10 : PySem.W.keepIn K (.ref f10) = true)
    (a11 : PySem.W.nsIn K mainGlobals "_law_some_sum" = some (some (.ref f11))) (l11 : K.lookup f11 = some ⟨oc11, od11, .func (PySem.W.fnOf "_law_some_sum" "_law_some_sum" (defArgs s_law_some_sum) (defBody s_law_some_sum) (defScope s_law_some_sum) .none kV11 dc11 pm11 an11 cd11 ct11), sl11⟩) (c11 : PySem.W.codeIn K cd11 "_law_some_sum" = true) (k11 : PySem.W.keepIn K (.ref f11) = true)
    (a12 : PySem.W.nsIn K mainGlobals "_law_right" = some (some (.ref f12))) (l12 : K.lookup f12 = some ⟨oc12, od12, .func (PySem.W.fnOf "_law_right" "_law_right" (defArgs s_law_right) (defBody s_law_right) (defScope s_law_right) .none kV12 dc12 pm12 an12 cd12 ct12), sl12⟩) (c12 : PySem.W.codeIn K cd12 "_law_right" = true) (k12 : PySem.W.keepIn K (.ref f12) = true)
    (a13 : PySem.W.nsIn K mainGlobals "law" = some (some (.ref f13))) (l13 : K.lookup f13 = some ⟨oc13, od13, .func (PySem.W.fnOf "law" "law" (defArgs s_law) (defBody s_law) (defScope s_law) .none kV13 dc13 pm13 an13 cd13 ct13), sl13⟩) (c13 : PySem.W.codeIn K cd13 "law" = true) (k13 : PySem.W.keepIn K (.ref f13) = true)
    (z_abs : PySem.W.nsIn K mainGlobals "abs" = some none)
    (z_all : PySem.W.nsIn K mainGlobals "all" = some none)
    (z_any : PySem.W.nsIn K mainGlobals "any" = some none)
    (z_len : PySem.W.nsIn K mainGlobals "len" = some none)
    (z_list : PySem.W.nsIn K mainGlobals "list" = some none)
    (z_max : PySem.W.nsIn K mainGlobals "max" = some none)
    (z_min : PySem.W.nsIn K mainGlobals "min" = some none)
    (z_range : PySem.W.nsIn K mainGlobals "range" = some none)
    (z_repr : PySem.W.nsIn K mainGlobals "repr" = some none)
    (z_set : PySem.W.nsIn K mainGlobals "set" = some none)
    (z_sorted : PySem.W.nsIn K mainGlobals "sorted" = some none)
    (z_tuple : PySem.W.nsIn K mainGlobals "tuple" = some none)
    : ∃ fd : FuncData, (∀ (s : Shared) (v : Value), BindsTo s fd ⟨[v], []⟩ [("_law_script", v)]) ∧ ∀ base : Heap, K.In base → base.Ns mainGlobals mg → FnG l.prog w K mg base 5 fa fd ["_law_script"] (spLaw K) := by
  have e := hfa.symm.trans (PySem.W.mg_of X G a13)
  cases e
  have F0 := fun_mk (st := s_sign_of) l0 c0 k0
  have b0 := F0.binds (ps := ["many"]) fun _ _ _ _ _ _ us hl => match us, hl with | [_], _ => rfl
  have F1 := fun_mk (st := s_gathered) l1 c1 k1
  have b1 := F1.binds (ps := ["p", "parts"]) fun _ _ _ _ _ _ us hl => match us, hl with | [_, _], _ => rfl
  have F2 := fun_mk (st := s_law_pot) l2 c2 k2
  have b2 := F2.binds (ps := ["_law_script", "_law_k"]) fun _ _ _ _ _ _ us hl => match us, hl with | [_, _], _ => rfl
  have F3 := fun_mk (st := s_law_take) l3 c3 k3
  have b3 := F3.binds (ps := ["_law_pot_here", "_law_size"]) fun _ _ _ _ _ _ us hl => match us, hl with | [_, _], _ => rfl
  have F4 := fun_mk (st := s_law_sorted) l4 c4 k4
  have b4 := F4.binds (ps := ["_law_row"]) fun _ _ _ _ _ _ us hl => match us, hl with | [_], _ => rfl
  have F5 := fun_mk (st := s_law_told) l5 c5 k5
  have b5 := F5.binds (ps := ["_law_prime", "_law_parts"]) fun _ _ _ _ _ _ us hl => match us, hl with | [_, _], _ => rfl
  have F6 := fun_mk (st := s_laid) l6 c6 k6
  have b6 := F6.binds (ps := ["one", "other"]) fun _ _ _ _ _ _ us hl => match us, hl with | [_, _], _ => rfl
  have F7 := fun_mk (st := s_law_pick) l7 c7 k7
  have b7 := F7.binds (ps := ["_law_pot_here", "_law_some"]) fun _ _ _ _ _ _ us hl => match us, hl with | [_, _], _ => rfl
  have F8 := fun_mk (st := s_law_some_lot) l8 c8 k8
  have b8 := F8.binds (ps := ["_law_pot_here", "_law_many", "_law_size"]) fun _ _ _ _ _ _ us hl => match us, hl with | [_, _, _], _ => rfl
  have F9 := fun_mk (st := s_law_over) l9 c9 k9
  have b9 := F9.binds (ps := ["_law_prime", "_law_first", "_law_second"]) fun _ _ _ _ _ _ us hl => match us, hl with | [_, _, _], _ => rfl
  have F10 := fun_mk (st := s_outer) l10 c10 k10
  have b10 := F10.binds (ps := ["p", "one", "other"]) fun _ _ _ _ _ _ us hl => match us, hl with | [_, _, _], _ => rfl
  have F11 := fun_mk (st := s_law_some_sum) l11 c11 k11
  have b11 := F11.binds (ps := ["_law_pot_here", "_law_prime", "_law_many", "_law_grade", "_law_most"]) fun _ _ _ _ _ _ us hl => match us, hl with | [_, _, _, _, _], _ => rfl
  have F12 := fun_mk (st := s_law_right) l12 c12 k12
  have b12 := F12.binds (ps := ["_law_pot_here"]) fun _ _ _ _ _ _ us hl => match us, hl with | [_], _ => rfl
  have F13 := fun_mk (st := s_law) l13 c13 k13
  have b13 := F13.binds (ps := ["_law_script"]) fun _ _ _ _ _ _ us hl => match us, hl with | [_], _ => rfl
  exact ⟨_, fun s v => .of_eq rfl, fun base _ _ => law_sp (ok_law (T := ⟨⟨_, _, F0, b0, PySem.W.mg_of X G a0⟩, ⟨_, _, F1, b1, PySem.W.mg_of X G a1⟩, ⟨_, _, F2, b2, PySem.W.mg_of X G a2⟩, ⟨_, _, F3, b3, PySem.W.mg_of X G a3⟩, ⟨_, _, F4, b4, PySem.W.mg_of X G a4⟩, ⟨_, _, F5, b5, PySem.W.mg_of X G a5⟩, ⟨_, _, F6, b6, PySem.W.mg_of X G a6⟩, ⟨_, _, F7, b7, PySem.W.mg_of X G a7⟩, ⟨_, _, F8, b8, PySem.W.mg_of X G a8⟩, ⟨_, _, F9, b9, PySem.W.mg_of X G a9⟩, ⟨_, _, F10, b10, PySem.W.mg_of X G a10⟩, ⟨_, _, F11, b11, PySem.W.mg_of X G a11⟩, ⟨_, _, F12, b12, PySem.W.mg_of X G a12⟩, ⟨_, _, F13, b13, PySem.W.mg_of X G a13⟩, PySem.W.mg_none_of X G z_abs, PySem.W.mg_none_of X G z_all, PySem.W.mg_none_of X G z_any, PySem.W.mg_none_of X G z_len, PySem.W.mg_none_of X G z_list, PySem.W.mg_none_of X G z_max, PySem.W.mg_none_of X G z_min, PySem.W.mg_none_of X G z_range, PySem.W.mg_none_of X G z_repr, PySem.W.mg_none_of X G z_set, PySem.W.mg_none_of X G z_sorted, PySem.W.mg_none_of X G z_tuple⟩))⟩
end Law
open PySem PySem.W PyProof.Rows in
set_option maxRecDepth 100000 in
set_option maxHeartbeats 0 in
theorem PySem.Challenge.cw_lackcry_k10_outer_by_sorted_rows_holds : PySem.Challenge.rw_lackcry_k10_outer_by_sorted_rows.Holds := by
  w_on; o_law; k_head; (case hw => w_witness2)
  k_fill
  refine DL.walk_ofG (l := PySem.Challenge.rw_lackcry_k10_outer_by_sorted_rows) (n := 63) (k := 5) (x := "_law_script") (sp := DL.spLaw) rfl (by decide) rfl ⟨⟨rfl, by decide, by decide⟩, rfl⟩ (fun w h Y => PySem.W.kIn_of Y) ?F (fun _ _ a ns hl _ hS => ⟨a, ns, rfl, hS, hl, fun _ => rfl⟩)
  case F =>
    intro w mg fa h KX G hmg
    refine' Law.all_mk KX G hmg ?a0 ?l0 ?c0 ?k0 ?a1 ?l1 ?c1 ?k1 ?a2 ?l2 ?c2 ?k2 ?a3 ?l3 ?c3 ?k3 ?a4 ?l4 ?c4 ?k4 ?a5 ?l5 ?c5 ?k5 ?a6 ?l6 ?c6 ?k6 ?a7 ?l7 ?c7 ?k7 ?a8 ?l8 ?c8 ?k8 ?a9 ?l9 ?c9 ?k9 ?a10 ?l10 ?c10 ?k10 ?a11 ?l11 ?c11 ?k11 ?a12 ?l12 ?c12 ?k12 ?a13 ?l13 ?c13 ?k13 ?z_abs ?z_all ?z_any ?z_len ?z_list ?z_max ?z_min ?z_range ?z_repr ?z_set ?z_sorted ?z_tuple
    (case a0 => k_is)
    (case l0 => k_is)
    (case c0 => k_is)
    (case k0 => k_is)
    (case a1 => k_is)
    (case l1 => k_is)
    (case c1 => k_is)
    (case k1 => k_is)
    (case a2 => k_is)
    (case l2 => k_is)
    (case c2 => k_is)
    (case k2 => k_is)
    (case a3 => k_is)
    (case l3 => k_is)
    (case c3 => k_is)
    (case k3 => k_is)
    (case a4 => k_is)
    (case l4 => k_is)
    (case c4 => k_is)
    (case k4 => k_is)
    (case a5 => k_is)
    (case l5 => k_is)
    (case c5 => k_is)
    (case k5 => k_is)
    (case a6 => k_is)
    (case l6 => k_is)
    (case c6 => k_is)
    (case k6 => k_is)
    (case a7 => k_is)
    (case l7 => k_is)
    (case c7 => k_is)
    (case k7 => k_is)
    (case a8 => k_is)
    (case l8 => k_is)
    (case c8 => k_is)
    (case k8 => k_is)
    (case a9 => k_is)
    (case l9 => k_is)
    (case c9 => k_is)
    (case k9 => k_is)
    (case a10 => k_is)
    (case l10 => k_is)
    (case c10 => k_is)
    (case k10 => k_is)
    (case a11 => k_is)
    (case l11 => k_is)
    (case c11 => k_is)
    (case k11 => k_is)
    (case a12 => k_is)
    (case l12 => k_is)
    (case c12 => k_is)
    (case k12 => k_is)
    (case a13 => k_is)
    (case l13 => k_is)
    (case c13 => k_is)
    (case k13 => k_is)
    (case z_abs => k_is)
    (case z_all => k_is)
    (case z_any => k_is)
    (case z_len => k_is)
    (case z_list => k_is)
    (case z_max => k_is)
    (case z_min => k_is)
    (case z_range => k_is)
    (case z_repr => k_is)
    (case z_set => k_is)
    (case z_sorted => k_is)
    (case z_tuple => k_is)
#print axioms PySem.Challenge.cw_lackcry_k10_outer_by_sorted_rows_holds
